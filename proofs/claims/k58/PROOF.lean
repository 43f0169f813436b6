import PyProof.Rows.All
import Wide.All
import OpenK.AllK
import Wide.FinOn
import HandS.ForMost
import HandS.Evl
import HandS.Flow
import HandS.Style
import HandS.Wide
import HandS.Gcd
import HandS.Zip
import HandS.Walk
import HandS.TupAny
import HandS.TupMul
import HandS.IsInst
import HandS.TupLe
import HandS.Conv
import HandS.DictTup
import HandS.Lambda
import HandS.ExcValue
import HandS.Defaults
import HandS.ExcIs
import HandS.ExcOwn
import HandS.ExcSuper
import HandS.HeadHook1
import HandS.BoundList
import KE.GoesMore
import KE.GoesEnum
import HandS.Deep
import HandS.MakeKwOnly
import HandS.HeadHook4
import KE.GoesZip
import HandS.Head0
import HandS.Head1
import HandS.Head2
import HandS.Head3
import HandS.HeadEnd
import HandS.HeadHook2
import HandS.HeadHook3
import HandS.HeadWalk
import HandS.EndTab
import PySem.Challenge.RW_judgedalike_k58_trials_and_what_they_tel
import HandS.CallLocal
import HandS.Nested
import HandS.More
import HandS.Dict
import HandS.Text
import HandS.Codes
import PyProof.ListStr
import PyProof.StrOps2
import HandS.Strs
import KE.KSortTupG
import HandS.TupSets
import HandS.SetTxt0
import HandS.SetFor
import PyProof.Rows.SortShellAny
import HandS.DictComp
import HandS.WordsDict
set_option Elab.async false
set_option linter.all false
set_option maxRecDepth 100000
set_option maxHeartbeats 4000000
/-! J1: what an expression, a test, a statement makes, told over its own syntax; data in heaps of which some objects may change. -/
namespace J
open PySem PySem.Spec PyProof.Rows L2 Evl

/-! ### the weakest words of a piece of syntax -/
section
variable {X : Cx}
def tW (X : Cx) (e : Expr) : TE := fun σ H Q => ∀ (pins : List (Addr × Obj)) (s : Shared), Inv X pins σ H s → wpAny (model X.prog X.w) X.A (eval e X.env) (EP X pins σ Q) X.xe s
def tT (X : Cx) (e : Expr) : TT := fun σ H Q => ∀ (pins : List (Addr × Obj)) (s : Shared), Inv X pins σ H s → wpAny (model X.prog X.w) X.A (isTrue e X.env (eval e X.env)) (TP X pins σ Q) X.xe s
def tA (X : Cx) (es : List Expr) : TA := fun σ H Q => ∀ (pos : Pos) (pins : List (Addr × Obj)) (s : Shared), Inv X pins σ H s → wpAny (model X.prog X.w) X.A (spliced (backTo pos (starEach es X.env))) (AP X pins σ Q) X.xe s
def tS (X : Cx) (st : Stmt) : TS := fun D σ H => ∀ (pins : List (Addr × Obj)) (s : Shared), Inv X pins σ H s → wpAny (model X.prog X.w) X.A (exec st X.env) (SP X pins D) X.xe s
def tB (X : Cx) (sts : List Stmt) : TS := fun D σ H => ∀ (pins : List (Addr × Obj)) (s : Shared), Inv X pins σ H s → wpAny (model X.prog X.w) X.A (execs sts X.env) (SP X pins D) X.xe s
theorem pe_W {e : Expr} : PE X e (tW X e) := ⟨fun pins s _ _ _ I h => h pins s I⟩
theorem pt_T {e : Expr} : PT X e (tT X e) := ⟨fun pins s _ _ _ I h => h pins s I⟩
theorem pa_A {es : List Expr} : PA X es (tA X es) := ⟨fun pos pins s _ _ _ I h => h pos pins s I⟩
theorem ps_S {st : Stmt} : PS X st (tS X st) := ⟨fun pins s _ _ _ I h => h pins s I⟩
theorem pss_B {sts : List Stmt} : PSs X sts (tB X sts) := ⟨fun pins s _ _ _ I h => h pins s I⟩
variable {e : Expr} {es : List Expr} {st : Stmt} {sts : List Stmt} {σ : L2.St} {H : Hp}
theorem leW {t : TE} {Q : VK} (p : PE X e t) (q : t σ H Q) : tW X e σ H Q := fun pins s I => p.run pins s σ H Q I q
theorem leT {t : TT} {Q : Bool → Hp → Prop} (p : PT X e t) (q : t σ H Q) : tT X e σ H Q := fun pins s I => p.run pins s σ H Q I q
theorem leA {t : TA} {Q : List V → Hp → Prop} (p : PA X es t) (q : t σ H Q) : tA X es σ H Q := fun pos pins s I => p.run pos pins s σ H Q I q
theorem leS {t : TS} {D : Ends} (p : PS X st t) (q : t D σ H) : tS X st D σ H := fun pins s I => p.run pins s σ H D I q
theorem leB {t : TS} {D : Ends} (p : PSs X sts t) (q : t D σ H) : tB X sts D σ H := fun pins s I => p.run pins s σ H D I q
end

/-! ### heaps of which some objects may change -/
def hid (M : List Addr) (H : Hp) : Hp := fun a => if a ∈ M then none else H a
theorem hid_in {M : List Addr} {H : Hp} {a : Addr} (h : a ∈ M) : hid M H a = none := if_pos h
theorem hid_out {M : List Addr} {H : Hp} {a : Addr} (h : a ∉ M) : hid M H a = H a := if_neg h
theorem hid_nil {H : Hp} : hid [] H = H := by funext a; exact if_neg (by simp)
theorem hid_ex {M : List Addr} {H H1 : Hp} (e : Ex H H1) : Ex (hid M H) (hid M H1) := fun a o h => by
  by_cases ha : a ∈ M
  · rw [hid_in ha] at h; cases h
  · rw [hid_out ha] at h ⊢; exact e a o h
theorem hid_le {M : List Addr} {H : Hp} : Ex (hid M H) H := fun a o h => by
  by_cases ha : a ∈ M
  · rw [hid_in ha] at h; cases h
  · rw [hid_out ha] at h; exact h
theorem hid_sub {M M' : List Addr} {H : Hp} (s : ∀ a ∈ M, a ∈ M') : Ex (hid M' H) (hid M H) := fun a o h => by
  by_cases ha : a ∈ M'
  · rw [hid_in ha] at h; cases h
  · rw [hid_out ha] at h; rw [hid_out fun z => ha (s a z)]; exact h
theorem hid_upd {M : List Addr} {H : Hp} {a : Addr} {o : HO} (h : a ∈ M) : hid M (upd H a o) = hid M H := by
  funext b
  by_cases hb : b ∈ M
  · rw [hid_in hb, hid_in hb]
  · rw [hid_out hb, hid_out hb, upd_ne (fun z : b = a => hb (by rw [z]; exact h))]
/-- a new object that may change from now on -/
theorem hid_new {M : List Addr} {H : Hp} {a : Addr} {o : HO} (h : H a = none) : hid (a :: M) (upd H a o) = hid M H := by
  funext b
  by_cases hb : b ∈ M
  · rw [hid_in hb, hid_in (List.mem_cons_of_mem _ hb)]
  · by_cases hba : b = a
    · subst hba
      rw [hid_in List.mem_cons_self, hid_out hb, h]
    · rw [hid_out hb, hid_out (by simp [hba, hb]), upd_ne hba]
/-- all of them stand -/
def Al (M : List Addr) (H : Hp) : Prop := ∀ a ∈ M, H a ≠ none
theorem Al.ex {M : List Addr} {H H1 : Hp} (l : Al M H) (e : Ex H H1) : Al M H1 := fun a ha z => by
  cases h : H a with
  | none => exact l a ha h
  | some o => rw [e a o h] at z; cases z
theorem Al.nil {H : Hp} : Al [] H := fun a ha => nomatch ha
theorem Al.cons {M : List Addr} {H : Hp} {a : Addr} (l : Al M H) (h : H a ≠ none) : Al (a :: M) H := fun b hb => by
  rcases List.mem_cons.mp hb with z | z
  · rw [z]; exact h
  · exact l b z
theorem Al.upd {M : List Addr} {H : Hp} {a : Addr} {o : HO} (l : Al M H) : Al M (upd H a o) := fun b hb z => by
  by_cases h : b = a
  · rw [h, upd_same] at z; cases z
  · rw [upd_ne h] at z; exact l b hb z
theorem Al.out {M : List Addr} {H : Hp} {a : Addr} (l : Al M H) (h : H a = none) : a ∉ M := fun z => l a z h
theorem Al.newEx {M : List Addr} {H : Hp} {a : Addr} {o : HO} (l : Al M H) (h : H a = none) : hid M (L2.upd H a o) a = some o := by
  rw [hid_out (l.out h), upd_same]

/-! ### data -/
abbrev D := PyData
mutual
/-- as HandS's Dp, and an empty dict that does not change -/
inductive Dp (K : PySem.W.Frag) (H : Hp) : V → PyData → Prop
  | non : Dp K H .non .none
  | bl (b : Bool) : Dp K H (.bl b) (.bool b)
  | int (i : Int) : Dp K H (.int i) (.int i)
  | str (x : Str) : Dp K H (.str x) (.str x)
  | lst {a : Addr} {xs : List V} {ds : List PyData} : SqL K H a xs → DpAll K H xs ds → Dp K H (.ref a) (.list ds)
  | tup {a : Addr} {xs : List V} {ds : List PyData} : SqT K H a xs → DpAll K H xs ds → Dp K H (.ref a) (.tuple ds)
  | dct0 {a : Addr} : Rd H a (.dK []) → Dp K H (.ref a) (.dict [])
inductive DpAll (K : PySem.W.Frag) (H : Hp) : List V → List PyData → Prop
  | nil : DpAll K H [] []
  | cons {v : V} {vs : List V} {d : PyData} {ds : List PyData} : Dp K H v d → DpAll K H vs ds → DpAll K H (v :: vs) (d :: ds)
end
theorem rd_ex {H H' : Hp} {a : Addr} {u : HO} (e : Ex H H') (h : Rd H a u) : Rd H' a u := by
  rcases h with h | ⟨o, h⟩
  · exact .inl (e _ _ h)
  · exact .inr ⟨o, e _ _ h⟩
mutual
theorem dpOld {K : PySem.W.Frag} {H : Hp} : ∀ (d : PyData) (v : V), d.canLay0 = true → Dp K H v d → L2.Dp K H v d
  | .none, _, _, h => by cases h; exact .non
  | .bool b, _, _, h => by cases h; exact .bl b
  | .int i, _, _, h => by cases h; exact .int i
  | .str x, _, _, h => by cases h; exact .str x
  | .list ds, _, n, h => by cases h with | lst a b => exact .lst a (dpOldA ds _ (by simpa [PyData.canLay0] using n) b)
  | .tuple ds, _, n, h => by cases h with | tup a b => exact .tup a (dpOldA ds _ (by simpa [PyData.canLay0] using n) b)
  | .dict _, _, n, _ => by simp [PyData.canLay0] at n
theorem dpOldA {K : PySem.W.Frag} {H : Hp} : ∀ (ds : List PyData) (vs : List V), PyData.canLayAll0 ds = true → DpAll K H vs ds → L2.DpAll K H vs ds
  | [], _, _, h => by cases h; exact .nil
  | d :: ds, _, n, h => by
    have n2 : d.canLay0 = true ∧ PyData.canLayAll0 ds = true := by simpa [PyData.canLayAll0] using n
    cases h with | cons a b => exact .cons (dpOld d _ n2.1 a) (dpOldA ds _ n2.2 b)
end
theorem Dp.old {K : PySem.W.Frag} {H : Hp} {d : PyData} {v : V} (h : Dp K H v d) (s : SeqAt.shaped d = true) : L2.Dp K H v d := dpOld d v (SeqAt.canLay_of_shaped s) h
section
variable {K : PySem.W.Frag} {H H' : Hp}
mutual
theorem dpEx (e : Ex H H') : ∀ (d : D) (v : V), Dp K H v d → Dp K H' v d
  | .none, _, h => by cases h; exact .non
  | .bool b, _, h => by cases h; exact .bl b
  | .int i, _, h => by cases h; exact .int i
  | .str x, _, h => by cases h; exact .str x
  | .list ds, _, h => by cases h with | lst a b => exact .lst (ex_l e a) (dpExA e ds _ b)
  | .tuple ds, _, h => by cases h with | tup a b => exact .tup (ex_t e a) (dpExA e ds _ b)
  | .dict _, _, h => by cases h with | dct0 a => exact .dct0 (rd_ex e a)
theorem dpExA (e : Ex H H') : ∀ (ds : List D) (vs : List V), DpAll K H vs ds → DpAll K H' vs ds
  | [], _, h => by cases h; exact .nil
  | d :: ds, _, h => by cases h with | cons a b => exact .cons (dpEx e d _ a) (dpExA e ds _ b)
end
theorem Dp.ex {v : V} {d : D} (h : Dp K H v d) (e : Ex H H') : Dp K H' v d := dpEx e d v h
theorem DpAll.ex {vs : List V} {ds : List D} (h : DpAll K H vs ds) (e : Ex H H') : DpAll K H' vs ds := dpExA e ds vs h
theorem dpLen : ∀ {vs : List V} {ds : List D}, DpAll K H vs ds → vs.length = ds.length
  | _, _, .nil => rfl
  | _, _, .cons _ t => by rw [List.length_cons, List.length_cons, dpLen t]
theorem dpGet : ∀ {vs : List V} {ds : List D} {i : Nat} {d : D}, DpAll K H vs ds → ds[i]? = some d → ∃ v, vs[i]? = some v ∧ Dp K H v d
  | _, _, _, _, .nil, e => by simp at e
  | _, _, 0, _, .cons a _, e => by simp at e; subst e; exact ⟨_, rfl, a⟩
  | _, _, i + 1, d, .cons _ t, e => by
    obtain ⟨v, h1, h2⟩ := dpGet (i := i) (d := d) t (by simpa using e)
    exact ⟨v, by simpa using h1, h2⟩
theorem dpGetV : ∀ {vs : List V} {ds : List D} {i : Nat} {v : V}, DpAll K H vs ds → vs[i]? = some v → ∃ d, ds[i]? = some d ∧ Dp K H v d
  | _, _, _, _, .nil, e => by simp at e
  | _, _, 0, _, .cons a _, e => by simp at e; subst e; exact ⟨_, rfl, a⟩
  | _, _, i + 1, v, .cons _ t, e => by
    obtain ⟨d, h1, h2⟩ := dpGetV (i := i) (v := v) t (by simpa using e)
    exact ⟨d, by simpa using h1, h2⟩
theorem dpApp : ∀ {vs ws : List V} {ds es : List D}, DpAll K H vs ds → DpAll K H ws es → DpAll K H (vs ++ ws) (ds ++ es)
  | _, _, _, _, .nil, s => s
  | _, _, _, _, .cons r t, s => .cons r (dpApp t s)
theorem DpAll.len {vs : List V} {ds : List D} (h : DpAll K H vs ds) : vs.length = ds.length := dpLen h
theorem DpAll.get {vs : List V} {ds : List D} {i : Nat} {d : D} (h : DpAll K H vs ds) (e : ds[i]? = some d) : ∃ v, vs[i]? = some v ∧ Dp K H v d := dpGet h e
theorem DpAll.getV {vs : List V} {ds : List D} {i : Nat} {v : V} (h : DpAll K H vs ds) (e : vs[i]? = some v) : ∃ d, ds[i]? = some d ∧ Dp K H v d := dpGetV h e
theorem DpAll.append {vs ws : List V} {ds es : List D} (h : DpAll K H vs ds) (k : DpAll K H ws es) : DpAll K H (vs ++ ws) (ds ++ es) := dpApp h k
theorem dInt {v : V} {i : Int} (h : Dp K H v (.int i)) : v = .int i := by cases h; rfl
theorem dBl {v : V} {b : Bool} (h : Dp K H v (.bool b)) : v = .bl b := by cases h; rfl
theorem dNon {v : V} (h : Dp K H v .none) : v = .non := by cases h; rfl
theorem dStr {v : V} {x : Str} (h : Dp K H v (.str x)) : v = .str x := by cases h; rfl
theorem dTup {v : V} {ds : List D} (h : Dp K H v (.tuple ds)) : ∃ a xs, v = .ref a ∧ SqT K H a xs ∧ DpAll K H xs ds := by cases h with | tup a b => exact ⟨_, _, rfl, a, b⟩
theorem dLst {v : V} {ds : List D} (h : Dp K H v (.list ds)) : ∃ a xs, v = .ref a ∧ SqL K H a xs ∧ DpAll K H xs ds := by cases h with | lst a b => exact ⟨_, _, rfl, a, b⟩
theorem dInts : ∀ (ns : List Int), DpAll K H (ns.map V.int) (ns.map PyData.int)
  | [] => .nil
  | i :: r => .cons (.int i) (dInts r)
theorem dIntsV : ∀ {ns : List Int} {vs : List V}, DpAll K H vs (ns.map PyData.int) → vs = ns.map V.int
  | [], _, h => by cases h; rfl
  | i :: r, _, h => by cases h with | cons a b => rw [dInt a, dIntsV b]; rfl
theorem dBlsV : ∀ {bs : List Bool} {vs : List V}, DpAll K H vs (bs.map PyData.bool) → vs = bs.map V.bl
  | [], _, h => by cases h; rfl
  | i :: r, _, h => by cases h with | cons a b => rw [dBl a, dBlsV b]; rfl
end

/-! ### what an expression makes -/
/-- e makes the datum d, whatever was laid since H; nothing that H holds changes -/
def Jd (X : Cx) (M : List Addr) (e : Expr) (σ : L2.St) (H : Hp) (d : D) : Prop := Al M H → ∀ H1, Ex H H1 → ∀ Q : VK, (∀ v H2, Ex H1 H2 → Dp X.K (hid M H2) v d → Q v H2) → tW X e σ H1 Q
/-- .. the value v -/
def Jv (X : Cx) (e : Expr) (σ : L2.St) (H : Hp) (v : V) : Prop := ∀ H1, Ex H H1 → ∀ Q : VK, (∀ H2, Ex H1 H2 → Q v H2) → tW X e σ H1 Q
def Jt (X : Cx) (M : List Addr) (e : Expr) (σ : L2.St) (H : Hp) (b : Bool) : Prop := Al M H → ∀ H1, Ex H H1 → ∀ Q : Bool → Hp → Prop, (∀ H2, Ex H1 H2 → Q b H2) → tT X e σ H1 Q
def Ja (X : Cx) (M : List Addr) (es : List Expr) (σ : L2.St) (H : Hp) (ds : List D) : Prop := Al M H → ∀ H1, Ex H H1 → ∀ Q : List V → Hp → Prop, (∀ vs H2, Ex H1 H2 → DpAll X.K (hid M H2) vs ds → Q vs H2) → tA X es σ H1 Q
section
variable {X : Cx} {M : List Addr} {σ : L2.St} {H H' : Hp} {a b c e : Expr} {es : List Expr} {d d' : D} {v : V} {pos : Pos} {i j : Int}
theorem Jd.mono (h : Jd X M e σ H d) (x : Ex H H') : Al M H → Jd X M e σ H' d := fun al _ H1 y => h al H1 (x.trans y)
theorem Jt.mono {k : Bool} (h : Jt X M e σ H k) (x : Ex H H') : Al M H → Jt X M e σ H' k := fun al _ H1 y => h al H1 (x.trans y)
theorem Jv.mono (h : Jv X e σ H v) (x : Ex H H') : Jv X e σ H' v := fun H1 y => h H1 (x.trans y)
theorem Jv.int (h : Jd X M e σ H (.int i)) (al : Al M H) : Jv X e σ H (.int i) := fun H1 x Q q => h al H1 x Q fun v H2 y p => by rw [dInt p]; exact q H2 y
theorem Jv.bl {k : Bool} (h : Jd X M e σ H (.bool k)) (al : Al M H) : Jv X e σ H (.bl k) := fun H1 x Q q => h al H1 x Q fun v H2 y p => by rw [dBl p]; exact q H2 y
theorem Jd.ofV (h : Jv X e σ H v) (p : Dp X.K (hid M H) v d) : Jd X M e σ H d := fun _ H1 x Q q => h H1 x Q fun H2 y => q v H2 y (p.ex (hid_ex (x.trans y)))
theorem Jd.is (h : Jd X M e σ H d) (z : d = d') : Jd X M e σ H d' := z ▸ h
theorem Jt.is {k k' : Bool} (h : Jt X M e σ H k) (z : k = k') : Jt X M e σ H k' := z ▸ h
/-- names, constants -/
theorem jv_var (n : Nat) {x : Str} (h : σ[n]? = some (some v)) (hN : X.N[n]? = some x := by rfl) (hv : Vis X.env.scope x := by first | exact Or.inl rfl | exact Or.inr (Or.inl rfl) | exact Or.inr (Or.inr rfl)) (hd : (x == ("__debug__" : Str)) = false := by decide)
    (hcd : (x == ("__classdict__" : Str)) = false := by decide) : Jv X (.Name x pos) σ H v := fun H1 _ _ q => leW (pe_var hN hv hd hcd) ⟨v, h, q H1 (Ex.refl H1)⟩
theorem jd_var (n : Nat) {x : Str} (h : σ[n]? = some (some v)) (p : Dp X.K (hid M H) v d) (hN : X.N[n]? = some x := by rfl) (hv : Vis X.env.scope x := by first | exact Or.inl rfl | exact Or.inr (Or.inl rfl) | exact Or.inr (Or.inr rfl))
    (hd : (x == ("__debug__" : Str)) = false := by decide) (hcd : (x == ("__classdict__" : Str)) = false := by decide) : Jd X M (.Name x pos) σ H d := Jd.ofV (jv_var n h hN hv hd hcd) p
theorem jd_int {k} : Jd X M (.Constant (.int i) k pos) σ H (.int i) := fun _ H1 _ _ q => leW pe_int (q _ H1 (Ex.refl H1) (.int i))
theorem jd_bl {k : Bool} {n} : Jd X M (.Constant (.bool k) n pos) σ H (.bool k) := fun _ H1 _ _ q => leW pe_bl (q _ H1 (Ex.refl H1) (.bl k))
theorem jd_non {n} : Jd X M (.Constant .none n pos) σ H .none := fun _ H1 _ _ q => leW pe_non (q _ H1 (Ex.refl H1) .non)
theorem jd_str {n} {x : Str} : Jd X M (.Constant (.str x) n pos) σ H (.str x) := fun _ H1 _ _ q => leW pe_str (q _ H1 (Ex.refl H1) (.str x))
theorem jv_glob {x : Str} {u : Value} (hm : X.mg x = some u) (r : RelV v u) (hg : Gl X x := by rfl) (hd : (x == ("__debug__" : Str)) = false := by decide) : Jv X (.Name x pos) σ H v := fun H1 _ _ q => leW (pe_glob hg hm r hd) (q H1 (Ex.refl H1))
theorem jd_glob {x : Str} {u : Value} (hm : X.mg x = some u) (r : RelV v u) (p : Dp X.K (hid M H) v d) (hg : Gl X x := by rfl) (hd : (x == ("__debug__" : Str)) = false := by decide) : Jd X M (.Name x pos) σ H d := Jd.ofV (jv_glob hm r hg hd) p
/-- operators on two ints -/
theorem jd_opI {op : Operator} {C : Int → Int → Prop} {g : Int → Int → Int} (ho : OpR X (binaryOp op) (rI C fun i j => .int (g i j))) (ha : Jd X M a σ H (.int i)) (hb : Jd X M b σ H (.int j)) (hc : C i j) : Jd X M (.BinOp a op b pos) σ H (.int (g i j)) := fun al H1 x Q q =>
  leW (pe_op ho pe_W pe_W) (ha al H1 x _ fun v H2 y p => hb al H2 (x.trans y) _ fun w H3 z r => ⟨i, j, dInt p, dInt r, hc, q _ H3 (y.trans z) (.int _)⟩)
theorem jd_opI0 {op : Operator} {g : Int → Int → Int} (ho : OpR X (binaryOp op) (rI0 fun i j => .int (g i j))) (ha : Jd X M a σ H (.int i)) (hb : Jd X M b σ H (.int j)) : Jd X M (.BinOp a op b pos) σ H (.int (g i j)) := fun al H1 x Q q =>
  leW (pe_op ho pe_W pe_W) (ha al H1 x _ fun v H2 y p => hb al H2 (x.trans y) _ fun w H3 z r => ⟨i, j, dInt p, dInt r, q _ H3 (y.trans z) (.int _)⟩)
theorem jd_add (ha : Jd X M a σ H (.int i)) (hb : Jd X M b σ H (.int j)) : Jd X M (.BinOp a .Add b pos) σ H (.int (i + j)) := jd_opI0 op_add ha hb
theorem jd_sub (ha : Jd X M a σ H (.int i)) (hb : Jd X M b σ H (.int j)) : Jd X M (.BinOp a .Sub b pos) σ H (.int (i - j)) := jd_opI0 op_sub ha hb
theorem jd_mul (ha : Jd X M a σ H (.int i)) (hb : Jd X M b σ H (.int j)) (hc : CMulW i j) : Jd X M (.BinOp a .Mult b pos) σ H (.int (i * j)) := jd_opI op_mulW ha hb hc
theorem jd_div (ha : Jd X M a σ H (.int i)) (hb : Jd X M b σ H (.int j)) (hc : CDivW i j) : Jd X M (.BinOp a .FloorDiv b pos) σ H (.int (i / j)) := jd_opI op_fdivW ha hb hc
theorem jd_mod (ha : Jd X M a σ H (.int i)) (hb : Jd X M b σ H (.int j)) (hc : 0 < j) : Jd X M (.BinOp a .Mod b pos) σ H (.int (i % j)) := jd_opI op_mod ha hb hc
theorem jd_pow (ha : Jd X M a σ H (.int i)) (hb : Jd X M b σ H (.int j)) (hc : CPow i j) : Jd X M (.BinOp a .Pow b pos) σ H (.int (i ^ j.toNat)) := jd_opI op_pow ha hb hc
theorem jd_neg (ha : Jd X M a σ H (.int i)) : Jd X M (.UnaryOp .USub a pos) σ H (.int (-i)) := fun al H1 x Q q => leW (pe_un un_neg pe_W) (ha al H1 x _ fun v H2 y p => ⟨i, dInt p, q _ H2 y (.int _)⟩)
/-- comparisons of two ints, as values and tests -/
theorem jd_cmpI {op : CmpOp} {g : Int → Int → Bool} (ho : OpR X (compareOp op) (rI0 fun i j => .bl (g i j))) (ha : Jd X M a σ H (.int i)) (hb : Jd X M b σ H (.int j)) (hm : behindInMarks op b = false) : Jd X M (.Compare a [op] [b] pos) σ H (.bool (g i j)) := fun al H1 x Q q =>
  leW (pe_cmpR ho pe_W pe_W hm) (ha al H1 x _ fun v H2 y p => hb al H2 (x.trans y) _ fun w H3 z r => ⟨i, j, dInt p, dInt r, q _ H3 (y.trans z) (.bl _)⟩)
theorem jt_cmpI {op : CmpOp} {g : Int → Int → Bool} (ho : OpR X (compareOp op) (rI0 fun i j => .bl (g i j))) (ha : Jd X M a σ H (.int i)) (hb : Jd X M b σ H (.int j)) (hm : behindInMarks op b = false) : Jt X M (.Compare a [op] [b] pos) σ H (g i j) := fun al H1 x Q q =>
  leT (pt_cmpR ho pe_W pe_W hm) (ha al H1 x _ fun v H2 y p => hb al H2 (x.trans y) _ fun w H3 z r => ⟨i, j, dInt p, dInt r, _, rfl, q H3 (y.trans z)⟩)
theorem nm {op : CmpOp} (b : Expr) (h : (op == .In) = false) (h2 : (op == .NotIn) = false) : behindInMarks op b = false := nobehind b (fun z => by subst z; cases h) fun z => by subst z; cases h2
theorem jd_lt (ha : Jd X M a σ H (.int i)) (hb : Jd X M b σ H (.int j)) : Jd X M (.Compare a [.Lt] [b] pos) σ H (.bool (decide (i < j))) := jd_cmpI op_lt ha hb (nm b rfl rfl)
theorem jd_le (ha : Jd X M a σ H (.int i)) (hb : Jd X M b σ H (.int j)) : Jd X M (.Compare a [.LtE] [b] pos) σ H (.bool (decide (i ≤ j))) := jd_cmpI op_le ha hb (nm b rfl rfl)
theorem jd_gt (ha : Jd X M a σ H (.int i)) (hb : Jd X M b σ H (.int j)) : Jd X M (.Compare a [.Gt] [b] pos) σ H (.bool (decide (j < i))) := jd_cmpI op_gt ha hb (nm b rfl rfl)
theorem jd_ge (ha : Jd X M a σ H (.int i)) (hb : Jd X M b σ H (.int j)) : Jd X M (.Compare a [.GtE] [b] pos) σ H (.bool (decide (j ≤ i))) := jd_cmpI op_ge ha hb (nm b rfl rfl)
theorem jt_lt (ha : Jd X M a σ H (.int i)) (hb : Jd X M b σ H (.int j)) : Jt X M (.Compare a [.Lt] [b] pos) σ H (decide (i < j)) := jt_cmpI op_lt ha hb (nm b rfl rfl)
theorem jt_le (ha : Jd X M a σ H (.int i)) (hb : Jd X M b σ H (.int j)) : Jt X M (.Compare a [.LtE] [b] pos) σ H (decide (i ≤ j)) := jt_cmpI op_le ha hb (nm b rfl rfl)
theorem jt_gt (ha : Jd X M a σ H (.int i)) (hb : Jd X M b σ H (.int j)) : Jt X M (.Compare a [.Gt] [b] pos) σ H (decide (j < i)) := jt_cmpI op_gt ha hb (nm b rfl rfl)
theorem jt_ge (ha : Jd X M a σ H (.int i)) (hb : Jd X M b σ H (.int j)) : Jt X M (.Compare a [.GtE] [b] pos) σ H (decide (j ≤ i)) := jt_cmpI op_ge ha hb (nm b rfl rfl)
/-- a <= b <= c -/
theorem jt_chain {op op' : CmpOp} {g g' : Int → Int → Bool} {k : Int} (ho : OpR X (compareOp op) (rI0 fun i j => .bl (g i j))) (ho' : OpR X (compareOp op') (rI0 fun i j => .bl (g' i j))) (ha : Jd X M a σ H (.int i)) (hb : Jd X M b σ H (.int j)) (hc : Jd X M c σ H (.int k)) (hm : lastMarks [op, op'] [b, c] = false) :
    Jt X M (.Compare a [op, op'] [b, c] pos) σ H (g i j && g' j k) := fun al H1 x Q q =>
  leT (pt_chain ho ho' pe_W pe_W pe_W hm) (ha al H1 x _ fun v H2 y p => hb al H2 (x.trans y) _ fun w H3 z r => ⟨i, j, dInt p, dInt r, _, rfl, by
    cases e : g i j with
    | true =>
      rw [e, Bool.true_and] at q
      rw [if_pos rfl]
      exact hc al H3 ((x.trans y).trans z) _ fun u H4 z2 r2 => ⟨j, k, dInt r, dInt r2, _, rfl, q H4 ((y.trans z).trans z2)⟩
    | false =>
      rw [e, Bool.false_and] at q
      rw [if_neg Bool.false_ne_true]
      exact ⟨_, rfl, q H3 (y.trans z)⟩⟩)
theorem jd_chain {op op' : CmpOp} {g g' : Int → Int → Bool} {k : Int} (ho : OpR X (compareOp op) (rI0 fun i j => .bl (g i j))) (ho' : OpR X (compareOp op') (rI0 fun i j => .bl (g' i j))) (ha : Jd X M a σ H (.int i)) (hb : Jd X M b σ H (.int j)) (hc : Jd X M c σ H (.int k)) (hm : lastMarks [op, op'] [b, c] = false) :
    Jd X M (.Compare a [op, op'] [b, c] pos) σ H (.bool (g i j && g' j k)) := fun al H1 x Q q =>
  leW (pe_chain ho ho' pe_W pe_W pe_W hm) (ha al H1 x _ fun v H2 y p => hb al H2 (x.trans y) _ fun w H3 z r => ⟨i, j, dInt p, dInt r, _, rfl, by
    cases e : g i j with
    | true =>
      rw [e, Bool.true_and] at q
      rw [if_pos rfl]
      exact hc al H3 ((x.trans y).trans z) _ fun u H4 z2 r2 => ⟨j, k, dInt r, dInt r2, q _ H4 ((y.trans z).trans z2) (.bl _)⟩
    | false =>
      rw [e, Bool.false_and] at q
      rw [if_neg Bool.false_ne_true]
      exact q _ H3 (y.trans z) (.bl _)⟩)
/-- == and != of data -/
theorem jd_eq (hu : X.A.units + 64 < cLine) (ha : Jd X M a σ H d) (hb : Jd X M b σ H d') (s1 : SeqAt.shaped d = true := by rfl) (s2 : SeqAt.shaped d' = true := by rfl) : Jd X M (.Compare a [.Eq] [b] pos) σ H (.bool (PyData.eqv d d')) := fun al H1 x Q q =>
  leW (pe_cmpR (op_eqD hu) pe_W pe_W (nm b rfl rfl)) (ha al H1 x _ fun v H2 y p => hb al H2 (x.trans y) _ fun w H3 z r => ⟨d, d', ((p.ex (hid_ex z)).ex hid_le).old s1, (r.ex hid_le).old s2, s1, s2, q _ H3 (y.trans z) (.bl _)⟩)
theorem jd_ne (hu : X.A.units + 64 < cLine) (ha : Jd X M a σ H d) (hb : Jd X M b σ H d') (s1 : SeqAt.shaped d = true := by rfl) (s2 : SeqAt.shaped d' = true := by rfl) : Jd X M (.Compare a [.NotEq] [b] pos) σ H (.bool (!PyData.eqv d d')) := fun al H1 x Q q =>
  leW (pe_cmpR (op_neD hu) pe_W pe_W (nm b rfl rfl)) (ha al H1 x _ fun v H2 y p => hb al H2 (x.trans y) _ fun w H3 z r => ⟨d, d', ((p.ex (hid_ex z)).ex hid_le).old s1, (r.ex hid_le).old s2, s1, s2, q _ H3 (y.trans z) (.bl _)⟩)
theorem jt_eq (hu : X.A.units + 64 < cLine) (ha : Jd X M a σ H d) (hb : Jd X M b σ H d') (s1 : SeqAt.shaped d = true := by rfl) (s2 : SeqAt.shaped d' = true := by rfl) : Jt X M (.Compare a [.Eq] [b] pos) σ H (PyData.eqv d d') := fun al H1 x Q q =>
  leT (pt_cmpR (op_eqD hu) pe_W pe_W (nm b rfl rfl)) (ha al H1 x _ fun v H2 y p => hb al H2 (x.trans y) _ fun w H3 z r => ⟨d, d', ((p.ex (hid_ex z)).ex hid_le).old s1, (r.ex hid_le).old s2, s1, s2, _, rfl, q H3 (y.trans z)⟩)
theorem jt_ne (hu : X.A.units + 64 < cLine) (ha : Jd X M a σ H d) (hb : Jd X M b σ H d') (s1 : SeqAt.shaped d = true := by rfl) (s2 : SeqAt.shaped d' = true := by rfl) : Jt X M (.Compare a [.NotEq] [b] pos) σ H (!PyData.eqv d d') := fun al H1 x Q q =>
  leT (pt_cmpR (op_neD hu) pe_W pe_W (nm b rfl rfl)) (ha al H1 x _ fun v H2 y p => hb al H2 (x.trans y) _ fun w H3 z r => ⟨d, d', ((p.ex (hid_ex z)).ex hid_le).old s1, (r.ex hid_le).old s2, s1, s2, _, rfl, q H3 (y.trans z)⟩)
/-- == of ints -/
theorem dec_eqI : decide (V.int i = V.int j) = decide (i = j) := by by_cases h : i = j <;> simp [h]
theorem jd_eqI (ha : Jd X M a σ H (.int i)) (hb : Jd X M b σ H (.int j)) : Jd X M (.Compare a [.Eq] [b] pos) σ H (.bool (decide (i = j))) := fun al H1 x Q q =>
  leW (pe_cmpR op_eq pe_W pe_W (nm b rfl rfl)) (ha al H1 x _ fun v H2 y p => hb al H2 (x.trans y) _ fun w H3 z r => by rw [dInt p, dInt r]; exact ⟨rfl, by rw [dec_eqI]; exact q _ H3 (y.trans z) (.bl _)⟩)
theorem jt_eqI (ha : Jd X M a σ H (.int i)) (hb : Jd X M b σ H (.int j)) : Jt X M (.Compare a [.Eq] [b] pos) σ H (decide (i = j)) := fun al H1 x Q q =>
  leT (pt_cmpR op_eq pe_W pe_W (nm b rfl rfl)) (ha al H1 x _ fun v H2 y p => hb al H2 (x.trans y) _ fun w H3 z r => by rw [dInt p, dInt r]; exact ⟨rfl, _, rfl, by rw [dec_eqI]; exact q H3 (y.trans z)⟩)
theorem jt_neI (ha : Jd X M a σ H (.int i)) (hb : Jd X M b σ H (.int j)) : Jt X M (.Compare a [.NotEq] [b] pos) σ H (!decide (i = j)) := fun al H1 x Q q =>
  leT (pt_cmpR op_ne pe_W pe_W (nm b rfl rfl)) (ha al H1 x _ fun v H2 y p => hb al H2 (x.trans y) _ fun w H3 z r => by rw [dInt p, dInt r]; exact ⟨rfl, _, rfl, by rw [dec_eqI]; exact q H3 (y.trans z)⟩)
theorem jd_neI (ha : Jd X M a σ H (.int i)) (hb : Jd X M b σ H (.int j)) : Jd X M (.Compare a [.NotEq] [b] pos) σ H (.bool (!decide (i = j))) := fun al H1 x Q q =>
  leW (pe_cmpR op_ne pe_W pe_W (nm b rfl rfl)) (ha al H1 x _ fun v H2 y p => hb al H2 (x.trans y) _ fun w H3 z r => by rw [dInt p, dInt r]; exact ⟨rfl, by rw [dec_eqI]; exact q _ H3 (y.trans z) (.bl _)⟩)
/-- is None -/
def isN : D → Bool
  | .none => true
  | _ => false
theorem isN_dec {K : PySem.W.Frag} {v : V} (p : Dp K H v d) : decide (v = .non) = isN d := by
  cases p <;> first | rfl | simp [isN]
theorem jd_isN {n pos'} (ha : Jd X M a σ H d) : Jd X M (.Compare a [.Is] [.Constant .none n pos'] pos) σ H (.bool (isN d)) := fun al H1 x Q q =>
  leW (pe_cmp (pc_isN pe_W)) (ha al H1 x _ fun v H2 y p => by rw [isN_dec p]; exact q _ H2 y (.bl _))
theorem jt_isN {n pos'} (ha : Jd X M a σ H d) : Jt X M (.Compare a [.Is] [.Constant .none n pos'] pos) σ H (isN d) := fun al H1 x Q q =>
  leT (pt_cmp (pc_isN pe_W)) (ha al H1 x _ fun v H2 y p => by rw [isN_dec p]; exact ⟨_, rfl, q H2 y⟩)
theorem jd_notN {n pos'} (ha : Jd X M a σ H d) : Jd X M (.Compare a [.IsNot] [.Constant .none n pos'] pos) σ H (.bool (!isN d)) := fun al H1 x Q q =>
  leW (pe_cmp (pc_notN pe_W)) (ha al H1 x _ fun v H2 y p => by rw [isN_dec p]; exact q _ H2 y (.bl _))
theorem jt_notN {n pos'} (ha : Jd X M a σ H d) : Jt X M (.Compare a [.IsNot] [.Constant .none n pos'] pos) σ H (!isN d) := fun al H1 x Q q =>
  leT (pt_cmp (pc_notN pe_W)) (ha al H1 x _ fun v H2 y p => by rw [isN_dec p]; exact ⟨_, rfl, q H2 y⟩)
/-- is True, is False, of a bool -/
theorem jd_isB {k l : Bool} (ha : Jd X M a σ H (.bool k)) (hb : Jd X M b σ H (.bool l)) : Jd X M (.Compare a [.Is] [b] pos) σ H (.bool (decide (k = l))) := fun al H1 x Q q =>
  leW (pe_cmpR op_isBl pe_W pe_W (nm b rfl rfl)) (ha al H1 x _ fun v H2 y p => hb al H2 (x.trans y) _ fun w H3 z r => ⟨k, l, dBl p, dBl r, q _ H3 (y.trans z) (.bl _)⟩)
/-- a bool as a test -/
theorem jt_val {k : Bool} (ha : Jd X M a σ H (.bool k)) (he : ∀ whole, isTrue a X.env whole = (do let v ← whole; standAt a.pos; holding [v] (truthy v)) := by intro _; rfl) : Jt X M a σ H k := fun al H1 x Q q =>
  leT (pt_val pe_W he) (ha al H1 x _ fun v H2 y p => ⟨k, dBl p, q H2 y⟩)
theorem jt_not {k : Bool} (ha : Jt X M a σ H k) : Jt X M (.UnaryOp .Not a pos) σ H (!k) := fun al H1 x Q q => leT (pt_not pt_T) (ha al H1 x _ fun H2 y => q H2 y)
theorem jt_and {k l : Bool} (ha : Jt X M a σ H k) (hb : k = true → Jt X M b σ H l) : Jt X M (.BoolOp .And [a, b] pos) σ H (k && l) := fun al H1 x Q q =>
  leT (pw_and pt_T (pw_and1 pt_T)).pt (ha al H1 x _ fun H2 y => by
    cases k with
    | true => rw [if_pos rfl]; exact hb rfl al H2 (x.trans y) _ fun H3 z => q H3 (y.trans z)
    | false => rw [if_neg Bool.false_ne_true]; exact q H2 y)
theorem jt_or {k l : Bool} (ha : Jt X M a σ H k) (hb : k = false → Jt X M b σ H l) : Jt X M (.BoolOp .Or [a, b] pos) σ H (k || l) := fun al H1 x Q q =>
  leT (pw_or pt_T (pw_or1 pt_T)).pt (ha al H1 x _ fun H2 y => by
    cases k with
    | false => rw [if_neg Bool.false_ne_true]; exact hb rfl al H2 (x.trans y) _ fun H3 z => q H3 (y.trans z)
    | true => rw [if_pos rfl]; exact q H2 y)
theorem jt_and3 {k l m : Bool} (ha : Jt X M a σ H k) (hb : k = true → Jt X M b σ H l) (hc : k = true → l = true → Jt X M c σ H m) : Jt X M (.BoolOp .And [a, b, c] pos) σ H (k && (l && m)) := fun al H1 x Q q =>
  leT (pw_and pt_T (pw_and pt_T (pw_and1 pt_T))).pt (ha al H1 x _ fun H2 y => by
    cases k with
    | true =>
      rw [if_pos rfl]
      exact hb rfl al H2 (x.trans y) _ fun H3 z => by
        cases l with
        | true => rw [if_pos rfl]; exact hc rfl rfl al H3 ((x.trans y).trans z) _ fun H4 z2 => q H4 ((y.trans z).trans z2)
        | false => rw [if_neg Bool.false_ne_true]; exact q H3 (y.trans z)
    | false => rw [if_neg Bool.false_ne_true]; exact q H2 y)
theorem jt_or3 {k l m : Bool} (ha : Jt X M a σ H k) (hb : k = false → Jt X M b σ H l) (hc : k = false → l = false → Jt X M c σ H m) : Jt X M (.BoolOp .Or [a, b, c] pos) σ H (k || (l || m)) := fun al H1 x Q q =>
  leT (pw_or pt_T (pw_or pt_T (pw_or1 pt_T))).pt (ha al H1 x _ fun H2 y => by
    cases k with
    | false =>
      rw [if_neg Bool.false_ne_true]
      exact hb rfl al H2 (x.trans y) _ fun H3 z => by
        cases l with
        | false => rw [if_neg Bool.false_ne_true]; exact hc rfl rfl al H3 ((x.trans y).trans z) _ fun H4 z2 => q H4 ((y.trans z).trans z2)
        | true => rw [if_pos rfl]; exact q H3 (y.trans z)
    | true => rw [if_pos rfl]; exact q H2 y)
/-- and, or of bools, as values -/
theorem jd_and {k : Bool} (ha : Jd X M a σ H (.bool k)) (hf : k = false → d = .bool false) (hb : k = true → Jd X M b σ H d) : Jd X M (.BoolOp .And [a, b] pos) σ H d := fun al H1 x Q q =>
  leW (pe_and pe_W (pe_one pe_W)) (ha al H1 x _ fun v H2 y p => ⟨k, dBl p, by
    cases k with
    | true => rw [if_pos rfl]; exact hb rfl al H2 (x.trans y) _ fun v H3 z => q v H3 (y.trans z)
    | false => rw [if_neg Bool.false_ne_true]; rw [hf rfl] at q; exact q _ H2 y (.bl _)⟩)
theorem jd_or {k : Bool} (ha : Jd X M a σ H (.bool k)) (hf : k = true → d = .bool true) (hb : k = false → Jd X M b σ H d) : Jd X M (.BoolOp .Or [a, b] pos) σ H d := fun al H1 x Q q =>
  leW (pe_or pe_W (pe_one pe_W)) (ha al H1 x _ fun v H2 y p => ⟨k, dBl p, by
    cases k with
    | false => rw [if_neg Bool.false_ne_true]; exact hb rfl al H2 (x.trans y) _ fun v H3 z => q v H3 (y.trans z)
    | true => rw [if_pos rfl]; rw [hf rfl] at q; exact q _ H2 y (.bl _)⟩)
theorem jd_not {k : Bool} (ha : Jd X M a σ H (.bool k)) : Jd X M (.UnaryOp .Not a pos) σ H (.bool (!k)) := fun al H1 x Q q => leW (pe_not pe_W) (ha al H1 x _ fun v H2 y p => ⟨k, dBl p, q _ H2 y (.bl _)⟩)
/-- a if t else b -/
theorem jd_if {k : Bool} (hc : Jt X M c σ H k) (ha : k = true → Jd X M a σ H d) (hb : k = false → Jd X M b σ H d) : Jd X M (.IfExp c a b pos) σ H d := fun al H1 x Q q =>
  leW (pe_ifExp pt_T pe_W pe_W) (hc al H1 x _ fun H2 y => by
    cases k with
    | true => rw [if_pos rfl]; exact ha rfl al H2 (x.trans y) _ fun v H3 z => q v H3 (y.trans z)
    | false => rw [if_neg Bool.false_ne_true]; exact hb rfl al H2 (x.trans y) _ fun v H3 z => q v H3 (y.trans z))
/-- argument lists, displays -/
theorem ja_nil : Ja X M [] σ H [] := fun _ H1 _ Q q => leA pa_nil (q [] H1 (Ex.refl H1) .nil)
theorem ja_cons {ds : List D} (ha : Jd X M e σ H d) (hr : Ja X M es σ H ds) (hs : starEach (e :: es) X.env = (false, eval e X.env) :: starEach es X.env := by rfl) : Ja X M (e :: es) σ H (d :: ds) := fun al H1 x Q q =>
  leA (pa_cons pe_W pa_A hs) (ha al H1 x _ fun v H2 y p => hr al H2 (x.trans y) _ fun vs H3 z r => q _ H3 (y.trans z) (.cons (p.ex (hid_ex z)) r))
theorem jd_tup {n} {ds : List D} (h : Ja X M es σ H ds) (hz : ds.length ≤ 100000 := by first | (simp only [List.length_cons, List.length_nil]; omega) | omega | decide) : Jd X M (.Tuple es n pos) σ H (.tuple ds) := fun al H1 x Q q =>
  leW (pe_tup pa_A) (h al H1 x _ fun vs H2 y p => ⟨by rw [p.len]; exact sz_of hz, fun a ha => q _ _ (y.trans (Ex.new ha)) (.tup (SqT.of ((al.ex (x.trans y)).newEx ha)) (p.ex (hid_ex (Ex.new ha))))⟩)
theorem jd_lst {ds : List D} (h : Ja X M es σ H ds) (hz : ds.length ≤ 100000 := by first | (simp only [List.length_cons, List.length_nil]; omega) | omega | decide) : Jd X M (.List es pos) σ H (.list ds) := fun al H1 x Q q =>
  leW (pe_lst pa_A) (h al H1 x _ fun vs H2 y p => ⟨by rw [p.len]; exact sz_of hz, fun a ha => q _ _ (y.trans (Ex.new ha)) (.lst (SqL.of ((al.ex (x.trans y)).newEx ha)) (p.ex (hid_ex (Ex.new ha))))⟩)
/-- t[i], xs[i] -/
theorem jd_ixT {ds : List D} {n : Nat} (ha : Jd X M a σ H (.tuple ds)) (hb : Jd X M b σ H (.int i)) (hi : i = (n : Int)) (hn : ds[n]? = some d) (hx : PlainIx b := by exact fun _ _ => rfl) : Jd X M (.Subscript a b pos) σ H d := fun al H1 x Q q =>
  leW (pe_ix ix_tup pe_W pe_W hx) (ha al H1 x _ fun v H2 y p => hb al H2 (x.trans y) _ fun w H3 z r => by
    obtain ⟨t, xs, e1, e2, e3⟩ := dTup p
    obtain ⟨u, e4, e5⟩ := e3.get hn
    exact ⟨t, xs, i, u, e1, dInt r, ex_t z (ex_t hid_le e2), by rw [hi]; exact atI_nat e4, q _ H3 (y.trans z) (e5.ex (hid_ex z))⟩)
theorem jd_ixL {ds : List D} {n : Nat} (ha : Jd X M a σ H (.list ds)) (hb : Jd X M b σ H (.int i)) (hi : i = (n : Int)) (hn : ds[n]? = some d) (hx : PlainIx b := by exact fun _ _ => rfl) : Jd X M (.Subscript a b pos) σ H d := fun al H1 x Q q =>
  leW (pe_ix ix_list pe_W pe_W hx) (ha al H1 x _ fun v H2 y p => hb al H2 (x.trans y) _ fun w H3 z r => by
    obtain ⟨t, xs, e1, e2, e3⟩ := dLst p
    obtain ⟨u, e4, e5⟩ := e3.get hn
    exact ⟨t, xs, i, u, e1, dInt r, ex_l z (ex_l hid_le e2), by rw [hi]; exact atI_nat e4, q _ H3 (y.trans z) (e5.ex (hid_ex z))⟩)
/-- built-ins by name -/
theorem jd_len {ds : List D} {p : Pos} (hm : X.mg "len" = none) (ha : Jd X M a σ H d) (h : d = .tuple ds ∨ d = .list ds) (hg : Gl X "len" := by rfl) (hs : starEach [a] X.env = (false, eval a X.env) :: starEach [] X.env := by rfl) :
    Jd X M (.Call (.Name "len" p) [a] [] pos) σ H (.int ds.length) := fun al H1 x Q q =>
  leW (pe_callB call_len_seq hg hm boot_len (pa_cons pe_W pa_nil hs) (by decide) (by decide) hs) (ha al H1 x _ fun v H2 y p => by
    rcases h with rfl | rfl
    · obtain ⟨t, xs, e1, e2, e3⟩ := dTup p
      exact ⟨t, xs, by rw [e1], .inr (ex_t hid_le e2), by rw [e3.len]; exact q _ H2 y (.int _)⟩
    · obtain ⟨t, xs, e1, e2, e3⟩ := dLst p
      exact ⟨t, xs, by rw [e1], .inl (ex_l hid_le e2), by rw [e3.len]; exact q _ H2 y (.int _)⟩)
theorem jd_B1 {id : String} {x : Str} {p : Pos} {r : List V → Hp → VK → Prop} (hc : CallR X (.builtin id) r) (hm : X.mg x = none) (hv : bootBuiltins x = some (.builtin id)) (ha : Jd X M a σ H d) (h : ∀ v H1 Q, Ex H H1 → Dp X.K (hid M H1) v d → (∀ v' H2, Ex H1 H2 → Dp X.K (hid M H2) v' d' → Q v' H2) → r [v] H1 Q) (hg : Gl X x := by rfl)
    (hn : x ≠ "__name__" := by decide) (hdb : (x == ("__debug__" : Str)) = false := by decide) (hs : starEach [a] X.env = (false, eval a X.env) :: starEach [] X.env := by rfl) : Jd X M (.Call (.Name x p) [a] [] pos) σ H d' := fun al H1 x Q q =>
  leW (pe_callB hc hg hm hv (pa_cons pe_W pa_nil hs) hn hdb hs) (ha al H1 x _ fun v H2 y p => h v H2 Q (x.trans y) p fun v' H3 z => q v' H3 (y.trans z))
theorem jd_Ty1 {T : String} {x : Str} {p : Pos} {r : List V → Hp → VK → Prop} (hc : CallR X (.type T) r) (hm : X.mg x = none) (hv : bootBuiltins x = some (.type T)) (ha : Jd X M a σ H d) (h : ∀ v H1 Q, Ex H H1 → Dp X.K (hid M H1) v d → (∀ v' H2, Ex H1 H2 → Dp X.K (hid M H2) v' d' → Q v' H2) → r [v] H1 Q) (hg : Gl X x := by rfl)
    (hn : x ≠ "__name__" := by decide) (hdb : (x == ("__debug__" : Str)) = false := by decide) (hs : starEach [a] X.env = (false, eval a X.env) :: starEach [] X.env := by rfl) : Jd X M (.Call (.Name x p) [a] [] pos) σ H d' := fun al H1 x Q q =>
  leW (pe_callTy hc hg hm hv (pa_cons pe_W pa_nil hs) hn hdb hs) (ha al H1 x _ fun v H2 y p => h v H2 Q (x.trans y) p fun v' H3 z => q v' H3 (y.trans z))
end
end J

set_option maxHeartbeats 4000000
/-! J2: what stands in the slots and in the objects that may change; statements, loops, comprehensions. -/
namespace J
open PySem PySem.Spec PyProof.Rows L2 Evl

/-- at a: an exception of the class cls that was caught -/
def exV (cls : Value) (d : Option Addr) (a : Addr) : HO := .ext fun h => ∃ oe : Obj, h.get? a = some oe ∧ Zc cls d oe ∧ ∃ vs, oe.data = .fields vs
/-- what a slot, an item, a field holds: a datum that does not change, or just this value -/
inductive Sv where
  | dat (d : D)
  | val (v : V)
  | exc (cls : Value)
  | inv (p : Hp → V → Prop)
def Sv.holds (K : PySem.W.Frag) (G : Hp) : Sv → V → Prop
  | .dat d, v => Dp K G v d
  | .val w, v => v = w
  | .exc cls, v => ∃ a, v = .ref a ∧ G a = some (exV cls none a)
  | .inv p, v => ∀ G', LamX.ExtN G G' → p G' v
theorem Sv.holds.ex {K : PySem.W.Frag} {G G' : Hp} {s : Sv} {v : V} (h : s.holds K G v) (e : Ex G G') : s.holds K G' v := by
  cases s with
  | dat d => exact Dp.ex h e
  | val w => exact h
  | exc cls => obtain ⟨a, h1, h2⟩ := h; exact ⟨a, h1, e _ _ h2⟩
  | inv p => exact fun G2 e2 => h G2 ((LamX.ExtN.of e).trans e2)
theorem paired_ex {K : PySem.W.Frag} {G G' : Hp} (e : Ex G G') : ∀ {xs : List Sv} {vs : List V}, Paired (fun s v => s.holds K G v) xs vs → Paired (fun s v => s.holds K G' v) xs vs
  | _, _, .nil => .nil
  | _, _, .cons a b => .cons (a.ex e) (paired_ex e b)
theorem paired2_ex {κ : Type} {K : PySem.W.Frag} {G G' : Hp} (e : Ex G G') : ∀ {xs : List (κ × Sv)} {vs : List (κ × V)}, Paired (fun (p : κ × Sv) (q : κ × V) => p.1 = q.1 ∧ p.2.holds K G q.2) xs vs → Paired (fun (p : κ × Sv) (q : κ × V) => p.1 = q.1 ∧ p.2.holds K G' q.2) xs vs
  | _, _, .nil => .nil
  | _, _, .cons a b => .cons ⟨a.1, a.2.ex e⟩ (paired2_ex e b)
theorem paired_len {α β : Type} {F : α → β → Prop} : ∀ {xs : List α} {vs : List β}, Paired F xs vs → xs.length = vs.length
  | _, _, .nil => rfl
  | _, _, .cons _ b => by rw [List.length_cons, List.length_cons, paired_len b]
theorem paired_get {α β : Type} {F : α → β → Prop} : ∀ {xs : List α} {vs : List β} {i : Nat} {s : α}, Paired F xs vs → xs[i]? = some s → ∃ v, vs[i]? = some v ∧ F s v
  | _, _, _, _, .nil, e => by simp at e
  | _, _, 0, _, .cons a _, e => by simp at e; subst e; exact ⟨_, rfl, a⟩
  | _, _, i + 1, s, .cons _ t, e => by
    obtain ⟨v, h1, h2⟩ := paired_get (i := i) (s := s) t (by simpa using e)
    exact ⟨v, by simpa using h1, h2⟩
theorem paired_set {α β : Type} {F : α → β → Prop} {a : α} {b : β} (h : F a b) : ∀ {xs : List α} {vs : List β} {i : Nat}, Paired F xs vs → Paired F (xs.set i a) (vs.set i b)
  | _, _, _, .nil => .nil
  | _, _, 0, .cons _ t => .cons h t
  | _, _, i + 1, .cons x t => .cons x (paired_set h t)
theorem paired_app {α β : Type} {F : α → β → Prop} : ∀ {xs ys : List α} {vs ws : List β}, Paired F xs vs → Paired F ys ws → Paired F (xs ++ ys) (vs ++ ws)
  | _, _, _, _, .nil, h => h
  | _, _, _, _, .cons a b, h => .cons a (paired_app b h)

/-- an object that may change -/
inductive Mo where
  | lst (xs : List Sv)
  | dct (kvs : List (Key × Sv))
  | ins (C dx : Addr) (fs : List (Str × Sv))
  | tab (q : Str)
abbrev Mu := List (Addr × Mo)
def Mo.holds (K : PySem.W.Frag) (G H : Hp) (a : Addr) : Mo → Prop
  | .lst xs => ∃ vs, H a = some (.lst vs) ∧ Paired (fun s v => s.holds K G v) xs vs
  | .dct kvs => ∃ vs, H a = some (.dK vs) ∧ Paired (fun (p : Key × Sv) (q : Key × V) => p.1 = q.1 ∧ p.2.holds K G q.2) kvs vs
  | .ins C dx fs => ∃ vs, H a = some (.ins C dx vs) ∧ Paired (fun (p : Str × Sv) (q : Str × V) => p.1 = q.1 ∧ p.2.holds K G q.2) fs vs
  | .tab q => ∃ ps : Array Value, H a = some (.tbl ps) ∧ TriplesOk ps.toList ∧ ∀ (pos : Pos) (cv : Value), codeAmong pos ps.toList = some cv → ∃ c, cv = .ref c ∧ G c = some (LamX.CodeO c q)
theorem Mo.holds.mono {K : PySem.W.Frag} {G G' H H' : Hp} {a : Addr} {m : Mo} (h : m.holds K G H a) (e : Ex G G') (k : H' a = H a) : m.holds K G' H' a := by
  cases m with
  | lst xs => obtain ⟨vs, h1, h2⟩ := h; exact ⟨vs, k.trans h1, paired_ex e h2⟩
  | dct xs => obtain ⟨vs, h1, h2⟩ := h; exact ⟨vs, k.trans h1, paired2_ex e h2⟩
  | ins C dx xs => obtain ⟨vs, h1, h2⟩ := h; exact ⟨vs, k.trans h1, paired2_ex e h2⟩
  | tab q => obtain ⟨ps, h1, h2, h3⟩ := h; exact ⟨ps, k.trans h1, h2, fun pos cv z => let ⟨c, a, b⟩ := h3 pos cv z; ⟨c, a, e _ _ b⟩⟩
theorem Mo.holds.some {K : PySem.W.Frag} {G H : Hp} {a : Addr} {m : Mo} (h : m.holds K G H a) : ∃ o, H a = some o := by
  cases m with
  | lst xs => obtain ⟨vs, h1, _⟩ := h; exact ⟨_, h1⟩
  | dct xs => obtain ⟨vs, h1, _⟩ := h; exact ⟨_, h1⟩
  | ins C dx xs => obtain ⟨vs, h1, _⟩ := h; exact ⟨_, h1⟩
  | tab q => obtain ⟨ps, h1, _⟩ := h; exact ⟨_, h1⟩

abbrev Ro := List (Option Sv)
def adr (M0 : List Addr) (μ : Mu) : List Addr := μ.map (·.1) ++ M0
/-- the state: B, what stood before and stands still; M0, others' objects that may change; the slots, the own objects that may change -/
structure Sy (K : PySem.W.Frag) (B : Hp) (M0 : List Addr) (ρ : Ro) (μ : Mu) (σ : L2.St) (H : Hp) : Prop where
  sl : ∀ (i : Nat) (s : Sv), ρ[i]? = some (some s) → ∃ v, σ[i]? = some (some v) ∧ s.holds K (hid (adr M0 μ) H) v
  ln : ρ.length = σ.length
  ob : ∀ p ∈ μ, p.2.holds K (hid (adr M0 μ) H) H p.1
  al : Al M0 H
  bs : Ex B H
  nb : ∀ p ∈ μ, B p.1 = none
  dj : (μ.map (·.1)).Nodup ∧ ∀ p ∈ μ, p.1 ∉ M0
section
variable {K : PySem.W.Frag} {B B' H H1 : Hp} {M0 : List Addr} {ρ : Ro} {μ : Mu} {σ : L2.St} {d : D} {v : V}
theorem Sy.all (S : Sy K B M0 ρ μ σ H) : Al (adr M0 μ) H := fun a ha z => by
  rcases List.mem_append.mp ha with h | h
  · obtain ⟨p, hp, e⟩ := List.mem_map.mp h
    obtain ⟨o, q⟩ := (S.ob p hp).some
    rw [← e, q] at z; cases z
  · exact S.al a h z
theorem Sy.ex (S : Sy K B M0 ρ μ σ H) (e : Ex H H1) : Sy K B M0 ρ μ σ H1 where
  sl := fun i s h => let ⟨v, a, b⟩ := S.sl i s h; ⟨v, a, b.ex (hid_ex e)⟩
  ln := S.ln
  ob := fun p hp => by
    obtain ⟨o, q⟩ := (S.ob p hp).some
    exact (S.ob p hp).mono (hid_ex e) ((e _ _ q).trans q.symm)
  al := S.al.ex e
  bs := S.bs.trans e
  nb := S.nb
  dj := S.dj
theorem Sy.set (S : Sy K B M0 ρ μ σ H) {s : Sv} (i : Nat) (h : s.holds K (hid (adr M0 μ) H) v) : Sy K B M0 (ρ.set i (some s)) μ (σ.set i (some v)) H where
  sl := fun j t e => by
    by_cases hj : j = i
    · subst hj
      by_cases hl : j < ρ.length
      · rw [List.getElem?_set_self hl] at e
        cases e
        exact ⟨v, List.getElem?_set_self (by rw [← S.ln]; exact hl), h⟩
      · rw [List.getElem?_eq_none (by simpa using hl)] at e; cases e
    · rw [List.getElem?_set_ne (Ne.symm hj)] at e ⊢
      exact S.sl j t e
  ln := by rw [List.length_set, List.length_set]; exact S.ln
  ob := S.ob
  al := S.al
  bs := S.bs
  nb := S.nb
  dj := S.dj
/-- a slot forgotten -/
theorem Sy.weak (S : Sy K B M0 ρ μ σ H) {ρ' : Ro} (hl : ρ'.length = ρ.length) (h : ∀ (i : Nat) (s : Sv), ρ'[i]? = some (some s) → ρ[i]? = some (some s)) : Sy K B M0 ρ' μ σ H :=
  ⟨fun i s e => S.sl i s (h i s e), hl.trans S.ln, S.ob, S.al, S.bs, S.nb, S.dj⟩
theorem Sy.unset (S : Sy K B M0 ρ μ σ H) (i : Nat) : Sy K B M0 (ρ.set i none) μ (σ.set i none) H where
  sl := fun j t e => by
    by_cases hj : j = i
    · subst hj
      by_cases hl : j < ρ.length
      · rw [List.getElem?_set_self hl] at e; cases e
      · rw [List.getElem?_eq_none (by simpa using hl)] at e; cases e
    · rw [List.getElem?_set_ne (Ne.symm hj)] at e ⊢
      exact S.sl j t e
  ln := by rw [List.length_set, List.length_set]; exact S.ln
  ob := S.ob
  al := S.al
  bs := S.bs
  nb := S.nb
  dj := S.dj
def wip (ρ : Ro) : List Nat → Ro
  | [] => ρ
  | v :: vs => (wip ρ vs).set v none
theorem Sy.wipe (S : Sy K B M0 ρ μ σ H) : ∀ vs : List Nat, Sy K B M0 (wip ρ vs) μ (L2.wipe σ vs) H
  | [] => S
  | v :: vs => (Sy.wipe S vs).unset v
/-- what stands now, its own objects left out, is the ground of a loop -/
def grd (μ : Mu) (H : Hp) : Hp := hid (μ.map (·.1)) H
theorem Sy.grdB (S : Sy K B M0 ρ μ σ H) : Ex B (grd μ H) := fun a o e => by
  unfold grd
  rw [hid_out fun z => ?_]
  · exact S.bs a o e
  · obtain ⟨p, hp, q⟩ := List.mem_map.mp z
    rw [← q, S.nb p hp] at e; cases e
theorem Sy.grd (S : Sy K B M0 ρ μ σ H) : Sy K (J.grd μ H) M0 ρ μ σ H :=
  ⟨S.sl, S.ln, S.ob, S.al, hid_le, fun p hp => hid_in (List.mem_map.mpr ⟨p, hp, rfl⟩), S.dj⟩
theorem hid_app {M M' : List Addr} : hid M (hid M' H) = hid (M' ++ M) H := by
  funext a
  unfold hid
  by_cases h1 : a ∈ M' <;> by_cases h2 : a ∈ M <;> simp [h1, h2]
/-- the ground's facts stand -/
theorem Sy.low (S : Sy K B M0 ρ μ σ H) : Ex (hid M0 B) (hid (adr M0 μ) H) := fun a o e => by
  by_cases ha : a ∈ M0
  · rw [hid_in ha] at e; cases e
  · rw [hid_out ha] at e
    rw [hid_out fun z => ?_]
    · exact S.bs a o e
    · rcases List.mem_append.mp z with z | z
      · obtain ⟨p, hp, q⟩ := List.mem_map.mp z
        rw [← q, S.nb p hp] at e; cases e
      · exact ha z
theorem Sy.base (S : Sy K B M0 ρ μ σ H) (e : Ex B' B) : Sy K B' M0 ρ μ σ H := ⟨S.sl, S.ln, S.ob, S.al, e.trans S.bs, fun p hp => by
  cases q : B' p.1 with
  | none => rfl
  | some o => exact absurd ((e _ _ q).symm.trans (S.nb p hp)) (by simp), S.dj⟩
theorem grd_low : hid M0 (J.grd μ H) = hid (adr M0 μ) H := hid_app
/-- start of a def: its arguments are data -/
theorem sy_start {M : List Addr} {vs : List V} {ds : List D} (al : Al M H) (p : DpAll K (hid M H) vs ds) {N : List Str} : Sy K H M (ds.map (fun d => some (Sv.dat d)) ++ List.replicate (N.length - ds.length) none) [] (L2.start N vs) H where
  sl := fun i s e => by
    have l := p.len
    unfold L2.start
    by_cases hi : i < ds.length
    · rw [List.getElem?_append_left (by simpa using hi), List.getElem?_map] at e
      have e2 : ds[i]? = some ds[i] := List.getElem?_eq_getElem hi
      rw [e2] at e
      cases e
      obtain ⟨v, h1, h2⟩ := p.get e2
      refine ⟨v, ?_, h2⟩
      rw [List.getElem?_append_left (by simpa using (by omega : i < vs.length)), List.getElem?_map, h1]; rfl
    · rw [List.getElem?_append_right (by simpa using hi)] at e
      rw [List.getElem?_replicate] at e
      split at e <;> cases e
  ln := by have l := p.len; unfold L2.start; simp [l]
  ob := fun _ h => nomatch h
  al := al
  bs := Ex.refl H
  nb := fun _ h => nomatch h
  dj := ⟨List.nodup_nil, fun _ h => nomatch h⟩
end

/-! ### expressions over such a state -/
section
variable {X : Cx} {B H : Hp} {M0 : List Addr} {ρ : Ro} {μ : Mu} {σ : L2.St} {d : D} {pos : Pos} {e : Expr}
theorem Sy.at (S : Sy X.K B M0 ρ μ σ H) (n : Nat) {x : Str} (h : ρ[n]? = some (some (.dat d)) := by rfl) (hN : X.N[n]? = some x := by rfl) (hv : Vis X.env.scope x := by first | exact Or.inl rfl | exact Or.inr (Or.inl rfl) | exact Or.inr (Or.inr rfl))
    (hd : (x == ("__debug__" : Str)) = false := by decide) (hcd : (x == ("__classdict__" : Str)) = false := by decide) : Jd X (adr M0 μ) (.Name x pos) σ H d := by
  obtain ⟨v, a, b⟩ := S.sl n _ h
  exact jd_var n a b hN hv hd hcd
theorem Sy.atV (S : Sy X.K B M0 ρ μ σ H) (n : Nat) {x : Str} {v : V} (h : ρ[n]? = some (some (.val v)) := by rfl) (hN : X.N[n]? = some x := by rfl) (hv : Vis X.env.scope x := by first | exact Or.inl rfl | exact Or.inr (Or.inl rfl) | exact Or.inr (Or.inr rfl))
    (hd : (x == ("__debug__" : Str)) = false := by decide) (hcd : (x == ("__classdict__" : Str)) = false := by decide) : Jv X (.Name x pos) σ H v := by
  obtain ⟨w, a, b⟩ := S.sl n _ h
  have b : w = v := b
  subst b
  exact jv_var n a hN hv hd hcd
/-- a pure value, with a state behind it -/
theorem Sy.ev (S : Sy X.K B M0 ρ μ σ H) (h : Jd X (adr M0 μ) e σ H d) {Q : VK} (k : ∀ v H', Sy X.K B M0 ρ μ σ H' → Ex H H' → Dp X.K (hid (adr M0 μ) H') v d → Q v H') : tW X e σ H Q :=
  h S.all H (Ex.refl H) Q fun v H' x p => k v H' (S.ex x) x p
theorem Sy.te (S : Sy X.K B M0 ρ μ σ H) {b : Bool} (h : Jt X (adr M0 μ) e σ H b) {Q : Bool → Hp → Prop} (k : ∀ H', Sy X.K B M0 ρ μ σ H' → Ex H H' → Q b H') : tT X e σ H Q :=
  h S.all H (Ex.refl H) Q fun H' x => k H' (S.ex x) x
end

/-! ### statements -/
section
variable {X : Cx} {B H : Hp} {M0 : List Addr} {ρ : Ro} {μ : Mu} {σ : L2.St} {d : D} {pos : Pos} {e : Expr} {rest A C : List Stmt} {D' : Ends}
theorem tB_nil (h : D'.nx σ H) : tB X [] D' σ H := leB pss_nil h
theorem tB_cons {st : Stmt} {t : TS} (p : PS X st t) (h : t { D' with nx := tB X rest D' } σ H) : tB X (st :: rest) D' σ H := leB (pss_cons p pss_B) h
theorem sy_ret (S : Sy X.K B M0 ρ μ σ H) (h : Jd X (adr M0 μ) e σ H d) (k : ∀ v H', Ex B H' → Ex H H' → Dp X.K (hid M0 H') v d → D'.rt v H') : tB X (.Return (some e) pos :: rest) D' σ H :=
  tB_cons (ps_ret pe_W) (S.ev h fun v H' S' x p => k v H' S'.bs x (p.ex (hid_sub fun a ha => List.mem_append_right _ ha)))
theorem sy_set (n : Nat) {x : Str} {p' : Pos} (S : Sy X.K B M0 ρ μ σ H) (h : Jd X (adr M0 μ) e σ H d) (k : ∀ σ' H', Sy X.K B M0 (ρ.set n (some (.dat d))) μ σ' H' → tB X rest D' σ' H') (hN : X.N.Nodup) (hi : X.N[n]? = some x := by rfl)
    (hx : Loc X.env.scope x := by first | exact Or.inl rfl | exact Or.inr rfl) (hs : swapsWith e (some (.Name x p')) pos.line X.env = pure false := by rfl) (hf : X.fn x = true ∨ X.env.scope.names.lookup x = some .local := by first | exact .inl rfl | exact .inr rfl) :
    tB X (.Assign [.Name x p'] e pos :: rest) D' σ H :=
  tB_cons (ps_set hN hi hx pe_W hs hf) (S.ev h fun v H' S' _ p => k _ H' (S'.set n (s := .dat d) p))
theorem sy_if {b : Bool} (S : Sy X.K B M0 ρ μ σ H) (h : Jt X (adr M0 μ) e σ H b) (h1 : b = true → ∀ H', Sy X.K B M0 ρ μ σ H' → tB X A { D' with nx := tB X rest D' } σ H') (h2 : b = false → ∀ H', Sy X.K B M0 ρ μ σ H' → tB X C { D' with nx := tB X rest D' } σ H') :
    tB X (.If e A C pos :: rest) D' σ H := tB_cons (ps_if pt_T pss_B pss_B) (S.te h fun H' S' _ => by
  cases b with
  | true => rw [if_pos rfl]; exact h1 rfl H' S'
  | false => rw [if_neg Bool.false_ne_true]; exact h2 rfl H' S')
/-- if without else -/
theorem sy_when {b : Bool} (S : Sy X.K B M0 ρ μ σ H) (h : Jt X (adr M0 μ) e σ H b) (h1 : b = true → ∀ H', Sy X.K B M0 ρ μ σ H' → tB X A { D' with nx := tB X rest D' } σ H') (h2 : b = false → ∀ H', Sy X.K B M0 ρ μ σ H' → tB X rest D' σ H') :
    tB X (.If e A [] pos :: rest) D' σ H := sy_if S h h1 fun hb H' S' => tB_nil (h2 hb H' S')
end
end J

set_option maxHeartbeats 4000000
/-! J3: what is walked, targets, loops, comprehensions; defs of data and their calls. -/
namespace J
open PySem PySem.Spec PyProof.Rows L2 Evl RZ

/-! ### what is walked -/
def tI (X : Cx) (tg iter : Expr) : TI := fun σ H R => ∀ (pins : List (Addr × Obj)) (s : Shared), Inv X pins σ H s →
  wpAny (model X.prog X.w) X.A (eval iter X.env) (fun v s1 => wpAny (model X.prog X.w) X.A (pyIter v) (PIE X pins σ tg R) X.xe s1) X.xe s
theorem pi_I {X : Cx} {tg iter : Expr} : PI X tg iter (tI X tg iter) := ⟨fun pins s _ _ _ I h => h pins s I⟩
theorem leI {X : Cx} {tg iter : Expr} {t : TI} {σ : L2.St} {H : Hp} {R : It → Hp → Prop} (p : PI X tg iter t) (q : t σ H R) : tI X tg iter σ H R := fun pins s I => p.run pins s σ H R I q
/-- J gives the data ds one after another, while the ground G0 stands -/
def Yl (K : PySem.W.Frag) (G0 : Hp) (J : It) (ds : List D) : Prop :=
  ∃ (G : Hp → Prop) (Y : Nat → Hp → V → Hp → Prop), Walk J ds.length G Y ∧ (∀ H, Ex G0 H → G H) ∧
    ∀ i H x H', i < ds.length → Ex G0 H → Y i H x H' → Ex H H' ∧ ∀ M, Al M H → Ex G0 (hid M H) → ∀ d, ds[i]? = some d → Dp K (hid M H') x d
def Jw (X : Cx) (M : List Addr) (tg iter : Expr) (σ : L2.St) (H : Hp) (ds : List D) : Prop :=
  Al M H → ∀ H1, Ex H H1 → ∀ R : It → Hp → Prop, (∀ J H2, Ex H1 H2 → Yl X.K (hid M H2) J ds → R J H2) → tI X tg iter σ H1 R
section
variable {X : Cx} {M : List Addr} {tg a b : Expr} {σ : L2.St} {H : Hp} {ds es : List D} {p pos : Pos}
theorem yl_at {K : PySem.W.Frag} {G0 : Hp} {xs : List V} (h : DpAll K G0 xs ds) : ∀ i H x H', i < ds.length → Ex G0 H → YAt xs i H x H' → Ex H H' ∧ ∀ M, Al M H → Ex G0 (hid M H) → ∀ d, ds[i]? = some d → Dp K (hid M H') x d := fun i H x H' _ _ y => by
  obtain ⟨rfl, e⟩ := y
  refine ⟨Ex.refl _, fun M _ g d hd => ?_⟩
  obtain ⟨v, h1, h2⟩ := h.get hd
  rw [e] at h1
  cases h1
  exact h2.ex g
theorem jw_tup (h : Jd X M a σ H (.tuple ds)) : Jw X M tg a σ H ds := fun al H1 x R k => leI (pi_tup pe_W) (h al H1 x _ fun v H2 y q => by
  obtain ⟨t, xs, e1, e2, e3⟩ := dTup q
  refine ⟨t, e1, ⟨xs, ex_t hid_le e2⟩, k _ H2 y ⟨_, _, by rw [← e3.len]; exact walk_tup, fun H3 g => ex_t g e2, yl_at e3⟩⟩)
theorem jw_lst (h : Jd X M a σ H (.list ds)) : Jw X M tg a σ H ds := fun al H1 x R k => leI (pi_list pe_W) (h al H1 x _ fun v H2 y q => by
  obtain ⟨t, xs, e1, e2, e3⟩ := dLst q
  refine ⟨t, e1, ⟨xs, ex_l hid_le e2⟩, k _ H2 y ⟨_, _, by rw [← e3.len]; exact walk_list, fun H3 g => ex_l g e2, yl_at e3⟩⟩)
/-- lo, lo + 1, .. -/
def rgD (lo : Int) (n : Nat) : List D := (List.range n).map fun i : Nat => PyData.int (lo + (i : Int))
theorem rgD_len {lo : Int} {n : Nat} : (rgD lo n).length = n := by simp [rgD]
theorem rgD_get {lo : Int} {n i : Nat} {d : D} (h : (rgD lo n)[i]? = some d) : i < n ∧ d = .int (lo + (i : Int)) := by
  unfold rgD at h
  rw [List.getElem?_map] at h
  by_cases hi : i < n
  · rw [List.getElem?_range hi] at h
    exact ⟨hi, (Option.some.inj h).symm⟩
  · rw [List.getElem?_eq_none (by simpa using hi)] at h; cases h
theorem yl_rng {K : PySem.W.Frag} {G0 : Hp} {lo : Int} {n : Nat} : Yl K G0 (Itr lo n) (rgD lo n) := ⟨_, _, by rw [rgD_len]; exact walk_range, fun _ _ => trivial, fun i H x H' _ _ y => by
  obtain ⟨rfl, e⟩ := y
  refine ⟨Ex.refl _, fun M _ _ d hd => ?_⟩
  obtain ⟨_, e2⟩ := rgD_get hd
  rw [e, e2]
  exact .int _⟩
theorem jw_rng1 {n : Int} (hm : X.mg "range" = none) (h : Jd X M a σ H (.int n)) (hn : -(2 ^ 62) ≤ n ∧ n < 2 ^ 62) (hg : Gl X "range" := by rfl) (hs : starEach [a] X.env = [(false, eval a X.env)] := by rfl) : Jw X M tg (.Call (.Name "range" p) [a] [] pos) σ H (rgD 0 n.toNat) := fun al H1 x R k =>
  leI (pi_range1 hg hm (pa_cons pe_W pa_nil hs) hs) (h al H1 x _ fun v H2 y q => ⟨n, by rw [dInt q], hn.1, hn.2, k _ H2 y yl_rng⟩)
theorem jw_rng2 {lo n : Int} (hm : X.mg "range" = none) (h : Jd X M a σ H (.int lo)) (h2 : Jd X M b σ H (.int n)) (hn : (-(2 ^ 62) ≤ lo ∧ lo < 2 ^ 62) ∧ -(2 ^ 62) ≤ n ∧ n < 2 ^ 62) (hg : Gl X "range" := by rfl)
    (hs : starEach [a, b] X.env = [(false, eval a X.env), (false, eval b X.env)] := by rfl) (hs2 : starEach [b] X.env = [(false, eval b X.env)] := by rfl) : Jw X M tg (.Call (.Name "range" p) [a, b] [] pos) σ H (rgD lo (n - lo).toNat) := fun al H1 x R k =>
  leI (pi_range2 hg hm (pa_cons pe_W (pa_cons pe_W pa_nil hs2) (by rw [hs, hs2])) hs hs2) (h al H1 x _ fun v H2 y q => h2 al H2 (x.trans y) _ fun w H3 z r => ⟨lo, n, by rw [dInt q, dInt r], ⟨hn.1.1, hn.1.2, hn.2.1, hn.2.2⟩, k _ H3 (y.trans z) yl_rng⟩)
/-- zip -/
def zipD : List D → List D → List D
  | d :: ds, e :: es => .tuple [d, e] :: zipD ds es
  | _, _ => []
theorem zipD_len : ∀ {ds es : List D}, (zipD ds es).length = min ds.length es.length
  | [], _ => by simp [zipD]
  | _ :: _, [] => by simp [zipD]
  | d :: ds, e :: es => by simp only [zipD, List.length_cons, zipD_len (ds := ds) (es := es)]; omega
theorem zipD_get : ∀ {ds es : List D} {i : Nat} {d : D}, (zipD ds es)[i]? = some d → ∃ a b, ds[i]? = some a ∧ es[i]? = some b ∧ d = .tuple [a, b]
  | [], _, _, _, h => by simp [zipD] at h
  | _ :: _, [], _, _, h => by simp [zipD] at h
  | d :: ds, e :: es, 0, z, h => by simp [zipD] at h; exact ⟨d, e, rfl, rfl, h.symm⟩
  | d :: ds, e :: es, i + 1, z, h => by
    obtain ⟨a, b, h1, h2, h3⟩ := zipD_get (ds := ds) (es := es) (i := i) (d := z) (by simpa [zipD] using h)
    exact ⟨a, b, by simpa using h1, by simpa using h2, h3⟩
theorem zipD_at {ds es : List D} {i : Nat} {a b : D} : ∀ {ds es : List D} {i : Nat}, ds[i]? = some a → es[i]? = some b → (zipD ds es)[i]? = some (.tuple [a, b])
  | [], _, _, h, _ => by simp at h
  | _ :: _, [], _, _, h => by simp at h
  | d :: ds, e :: es, 0, h, h2 => by simp at h h2; simp [zipD, h, h2]
  | d :: ds, e :: es, i + 1, h, h2 => by simpa [zipD] using zipD_at (ds := ds) (es := es) (i := i) (by simpa using h) (by simpa using h2)
theorem yl_pair {K : PySem.W.Frag} {G0 : Hp} {f g : Nat → Option V} {ds es : List D} (hf : ∀ (i : Nat) (d : D), ds[i]? = some d → ∃ v, f i = some v ∧ Dp K G0 v d) (hg : ∀ (i : Nat) (d : D), es[i]? = some d → ∃ v, g i = some v ∧ Dp K G0 v d) :
    ∀ i H x H', i < (zipD ds es).length → Ex G0 H → YPair f g i H x H' → Ex H H' ∧ ∀ M, Al M H → Ex G0 (hid M H) → ∀ d, (zipD ds es)[i]? = some d → Dp K (hid M H') x d := fun i H x H' _ _ y => by
  obtain ⟨T, u, w, e1, e2, e3, e4, e5⟩ := y
  subst e1 e3
  refine ⟨Ex.new e2, fun M al g0 d hd => ?_⟩
  obtain ⟨a, b, h1, h2, h3⟩ := zipD_get hd
  obtain ⟨v1, q1, q2⟩ := hf i a h1
  obtain ⟨v2, q3, q4⟩ := hg i b h2
  rw [e4] at q1
  rw [e5] at q3
  cases q1
  cases q3
  rw [h3]
  have up := hid_ex (M := M) (Ex.new (o := .tup [u, w]) e2)
  exact .tup (SqT.of (al.newEx e2)) (.cons ((q2.ex g0).ex up) (.cons ((q4.ex g0).ex up) .nil))
theorem walk_zipT {K : PySem.W.Frag} {a b : Addr} {xs ys : List V} {n : Nat} (hn : n = min xs.length ys.length) : Walk (ItzT K a b) n (fun H => SqT K H a xs ∧ SqT K H b ys) (YPair (fun i => xs[i]?) (fun i => ys[i]?)) := by
  subst hn
  refine ⟨fun i _ hi q => ?_, fun _ q => ⟨xs, ys, q.1, q.2, by omega⟩, fun i H v H' _ q y => ?_⟩
  · have h1 : i < xs.length := by omega
    have h2 : i < ys.length := by omega
    exact ⟨xs, ys, xs[i], ys[i], q.1, q.2, by simp [h1], by simp [h2]⟩
  · obtain ⟨T, x, z, h1, h2, h3, h4, h5⟩ := y
    exact ⟨T, x, z, h1, h2, h3, h4 xs q.1, h5 ys q.2⟩
theorem jw_zipT {elts : List Expr} {kk : Nat} {tpos : Pos} (hm : X.mg "zip" = none) (h : Jd X M a σ H (.tuple ds)) (h2 : Jd X M b σ H (.tuple es)) (hg : Gl X "zip" := by rfl) (hs : starEach [a, b] X.env = (false, eval a X.env) :: starEach [b] X.env := by rfl)
    (hs2 : starEach [b] X.env = (false, eval b X.env) :: starEach [] X.env := by rfl) (hpl : (backTo pos (starEach [b] X.env)).any (·.1) = false := by rfl) : Jw X M (.Tuple elts kk tpos) (.Call (.Name "zip" p) [a, b] [] pos) σ H (zipD ds es) := fun al H1 x R k =>
  leI (pi_zipA hg hm (pa_cons pe_W (pa_cons pe_W pa_nil hs2) hs) hs hpl) (h al H1 x _ fun v H2 y q => h2 al H2 (x.trans y) _ fun w H3 z r => by
    obtain ⟨t, xs, e1, e2, e3⟩ := dTup q
    obtain ⟨u, ys, f1, f2, f3⟩ := dTup r
    have e2' := ex_t (hid_ex (M := M) z) e2
    have e3' := e3.ex (hid_ex (M := M) z)
    refine ⟨t, u, xs, ys, by rw [e1, f1], .inr ⟨ex_t hid_le e2', ex_t hid_le f2, k _ H3 (y.trans z) ⟨_, _, walk_zipT (by rw [zipD_len, e3.len, f3.len]), fun H4 g => ⟨ex_t g e2', ex_t g f2⟩, yl_pair (fun i d hd => e3'.get hd) (fun i d hd => f3.get hd)⟩⟩⟩)
theorem jw_zipL {elts : List Expr} {kk : Nat} {tpos : Pos} (hm : X.mg "zip" = none) (h : Jd X M a σ H (.list ds)) (h2 : Jd X M b σ H (.list es)) (hg : Gl X "zip" := by rfl) (hs : starEach [a, b] X.env = (false, eval a X.env) :: starEach [b] X.env := by rfl)
    (hs2 : starEach [b] X.env = (false, eval b X.env) :: starEach [] X.env := by rfl) (hpl : (backTo pos (starEach [b] X.env)).any (·.1) = false := by rfl) : Jw X M (.Tuple elts kk tpos) (.Call (.Name "zip" p) [a, b] [] pos) σ H (zipD ds es) := fun al H1 x R k =>
  leI (pi_zipA hg hm (pa_cons pe_W (pa_cons pe_W pa_nil hs2) hs) hs hpl) (h al H1 x _ fun v H2 y q => h2 al H2 (x.trans y) _ fun w H3 z r => by
    obtain ⟨t, xs, e1, e2, e3⟩ := dLst q
    obtain ⟨u, ys, f1, f2, f3⟩ := dLst r
    have e2' := ex_l (hid_ex (M := M) z) e2
    have e3' := e3.ex (hid_ex (M := M) z)
    refine ⟨t, u, xs, ys, by rw [e1, f1], .inl ⟨ex_l hid_le e2', ex_l hid_le f2, k _ H3 (y.trans z) ⟨_, _, walk_zip (by rw [zipD_len, e3.len, f3.len]), fun H4 g => ⟨ex_l g e2', ex_l g f2⟩, yl_pair (fun i d hd => e3'.get hd) (fun i d hd => f3.get hd)⟩⟩⟩)
theorem jw_enumL {elts : List Expr} {kk : Nat} {tpos : Pos} (hm : X.mg "enumerate" = none) (h : Jd X M a σ H (.list ds)) (hg : Gl X "enumerate" := by rfl) (hs : starEach [a] X.env = [(false, eval a X.env)] := by rfl) :
    Jw X M (.Tuple elts kk tpos) (.Call (.Name "enumerate" p) [a] [] pos) σ H (zipD (rgD 0 ds.length) ds) := fun al H1 x R k =>
  leI (pi_enum hg hm (pa_cons pe_W pa_nil hs) hs) (h al H1 x _ fun v H2 y q => by
    obtain ⟨t, xs, e1, e2, e3⟩ := dLst q
    refine ⟨t, xs, by rw [e1], ex_l hid_le e2, k _ H2 y ⟨_, _, ?_, fun H4 g => ex_l g e2, yl_pair (f := fun i => some (.int (i : Nat))) (fun i d hd => ?_) (fun i d hd => e3.get hd)⟩⟩
    · have e : (zipD (rgD 0 ds.length) ds).length = xs.length := by rw [zipD_len, rgD_len, e3.len]; omega
      rw [e]
      exact walk_enum
    · obtain ⟨_, e4⟩ := rgD_get hd
      rw [e4, Int.zero_add]
      exact ⟨_, rfl, .int _⟩)
end

/-! ### targets -/
def tG (X : Cx) (tg : Expr) : TG := fun v σ H Q => ∀ (pins : List (Addr × Obj)) (s : Shared) (u : Value), Inv X pins σ H s → RelV v u →
  wpAny (model X.prog X.w) X.A (assign tg X.env u) (fun _ s' => ∃ σ' H', Inv X pins σ' H' s' ∧ Q σ' H') X.xe s
theorem pg_G {X : Cx} {tg : Expr} : PG X tg (tG X tg) := ⟨fun pins s _ _ _ u _ I r h => h pins s u I r⟩
theorem leG {X : Cx} {tg : Expr} {t : TG} {v : V} {σ : L2.St} {H : Hp} {Q : L2.St → Hp → Prop} (p : PG X tg t) (q : t v σ H Q) : tG X tg v σ H Q := fun pins s u I r => p.run pins s σ H v u Q I r q
def tGs (X : Cx) (ts : List Expr) : TGs := fun vs σ H Q => ∀ (pins : List (Addr × Obj)) (s : Shared) (us : List Value), Inv X pins σ H s → Vals vs us →
  wpAny (model X.prog X.w) X.A (assignInOrder ((assignEach ts X.env).map (·.2)) us) (fun _ s' => ∃ σ' H', Inv X pins σ' H' s' ∧ Q σ' H') X.xe s
theorem pgs_G {X : Cx} {ts : List Expr} : PGs X ts (tGs X ts) := ⟨fun pins s _ _ _ us _ I r h => h pins s us I r⟩
theorem leGs {X : Cx} {ts : List Expr} {t : TGs} {vs : List V} {σ : L2.St} {H : Hp} {Q : L2.St → Hp → Prop} (p : PGs X ts t) (q : t vs σ H Q) : tGs X ts vs σ H Q := fun pins s us I r => p.run pins s σ H vs us Q I r q
/-- storing the datum d at the target turns ρ into ρ2; the slots js alone are written -/
def Jg (X : Cx) (tg : Expr) (js : List Nat) (d : D) (ρ ρ2 : Ro) : Prop := ∀ (B : Hp) (M0 : List Addr) (μ : Mu) (σ : L2.St) (H : Hp) (v : V), Sy X.K B M0 ρ μ σ H → Dp X.K (hid (adr M0 μ) H) v d →
  ∀ Q : L2.St → Hp → Prop, (∀ σ2, Sy X.K B M0 ρ2 μ σ2 H → σ2.length = σ.length → (∀ i, i ∉ js → σ2[i]? = σ[i]?) → Q σ2 H) → tG X tg v σ H Q
def Jgs (X : Cx) (ts : List Expr) (js : List Nat) (ds : List D) (ρ ρ2 : Ro) : Prop := ∀ (B : Hp) (M0 : List Addr) (μ : Mu) (σ : L2.St) (H : Hp) (vs : List V), Sy X.K B M0 ρ μ σ H → DpAll X.K (hid (adr M0 μ) H) vs ds →
  ∀ Q : L2.St → Hp → Prop, (∀ σ2, Sy X.K B M0 ρ2 μ σ2 H → σ2.length = σ.length → (∀ i, i ∉ js → σ2[i]? = σ[i]?) → Q σ2 H) → tGs X ts vs σ H Q
section
variable {X : Cx} {ρ ρ1 ρ2 : Ro} {d : D} {ds : List D} {pos : Pos} {js ks : List Nat}
theorem jg_name (j : Nat) {x : Str} (hN : X.N.Nodup) (hi : X.N[j]? = some x := by rfl) (hx : Loc X.env.scope x := by first | exact Or.inl rfl | exact Or.inr rfl) (hf : X.fn x = true ∨ X.env.scope.names.lookup x = some .local := by first | exact .inl rfl | exact .inr rfl) :
    Jg X (.Name x pos) [j] d ρ (ρ.set j (some (.dat d))) := fun B M0 μ σ H v S p Q k =>
  leG (pg_name hN hi hx hf) (k _ (S.set j (s := .dat d) p) (by simp) fun i hi => by rw [List.getElem?_set_ne (by intro z; exact hi (by simp [z]))])
theorem jgs_nil : Jgs X [] [] [] ρ ρ := fun B M0 μ σ H vs S p Q k => leGs pgs_nil (by cases p; exact ⟨rfl, k σ S rfl fun _ _ => rfl⟩)
theorem jgs_cons {e : Expr} {es : List Expr} (h1 : Jg X e js d ρ ρ1) (h2 : Jgs X es ks ds ρ1 ρ2) (hs : (assignEach (e :: es) X.env).map (·.2) = assign e X.env :: (assignEach es X.env).map (·.2) := by rfl) : Jgs X (e :: es) (js ++ ks) (d :: ds) ρ ρ2 := fun B M0 μ σ H vs S p Q k =>
  leGs (pgs_cons pg_G pgs_G hs) (by
    cases p with
    | cons a b => exact ⟨_, _, rfl, h1 B M0 μ σ H _ S a _ fun σ1 S1 l1 o1 => h2 B M0 μ σ1 H _ S1 b Q fun σ2 S2 l2 o2 => k σ2 S2 (l2.trans l1) fun i hi => (o2 i fun z => hi (List.mem_append_right _ z)).trans (o1 i fun z => hi (List.mem_append_left _ z))⟩)
theorem jg_tup {es : List Expr} {n : Nat} (hc : X.calm = true) (h : Jgs X es js ds ρ ρ2) (hn : (assignEach es X.env).length = ds.length := by rfl) (hst : (assignEach es X.env).findIdx? (·.1) = none := by rfl) : Jg X (.Tuple es n pos) js (.tuple ds) ρ ρ2 := fun B M0 μ σ H v S p Q k =>
  leG (pg_tup hc pgs_G rfl hst) (by
    obtain ⟨a, xs, e1, e2, e3⟩ := dTup p
    exact ⟨a, xs, e1, ex_t hid_le e2, by rw [e3.len, hn], h B M0 μ σ H xs S e3 Q k⟩)
end

/-! ### for -/
section
variable {X : Cx} {B H : Hp} {M0 : List Addr} {ρ : Ro} {μ : Mu} {σ : L2.St} {ds : List D} {pos : Pos} {tg iter : Expr} {body rest : List Stmt} {D' : Ends} {js : List Nat}
theorem sy_for (S : Sy X.K B M0 ρ μ σ H) (hw : Jw X (adr M0 μ) tg iter σ H ds) (f : D → Ro → Ro) (hg : ∀ d ρ', d ∈ ds → Jg X tg js d ρ' (f d ρ')) (I : Nat → Ro → Mu → Prop) (h0 : I 0 ρ μ)
    (hs : ∀ i d ρ' μ' σ' H' B', ds[i]? = some d → I i ρ' μ' → Ex B B' → Sy X.K B' M0 (f d ρ') μ' σ' H' →
      tB X body ⟨fun σ2 H2 => ∃ ρ2 μ2, I (i + 1) ρ2 μ2 ∧ Sy X.K B' M0 ρ2 μ2 σ2 H2, D'.rt, tB X rest D', fun σ2 H2 => ∃ ρ2 μ2, I (i + 1) ρ2 μ2 ∧ Sy X.K B' M0 ρ2 μ2 σ2 H2⟩ σ' H')
    (hd : ∀ ρ' μ' σ' H', I ds.length ρ' μ' → Sy X.K B M0 ρ' μ' σ' H' → tB X rest D' σ' H')
    (hp : PassesOwn (model X.prog X.w) X.A X.env X.xe) (hc : X.calm = true) (hfs : ∀ x, foldedSetIterable iter X.env x = pure x := by intro _; rfl) : tB X (.For tg iter body [] pos :: rest) D' σ H :=
  tB_cons (ps_for hp hc pi_I pg_G pss_B hfs) (hw S.all H (Ex.refl H) _ fun J H2 x2 yl => by
    have S2 := S.ex x2
    obtain ⟨G, Y, w, hG, hY⟩ := yl
    have low : hid M0 (grd μ H2) = hid (adr M0 μ) H2 := grd_low
    refine for_it w (fun i σ' H' => ∃ ρ' μ', I i ρ' μ' ∧ Sy X.K (grd μ H2) M0 ρ' μ' σ' H') ⟨ρ, μ, h0, S2.grd⟩ (fun i σ' H' hi ⟨ρ', μ', _, S'⟩ => hG H' ?_) (fun i x σ' H' H3 hi ⟨ρ', μ', hI, S'⟩ y => ?_) fun σ' H' ⟨ρ', μ', hI, S'⟩ => hd ρ' μ' σ' H' hI (S'.base S2.grdB)
    · rw [← low]; exact S'.low.trans hid_le
    · have g0 : Ex (hid (adr M0 μ) H2) (hid (adr M0 μ') H') := by rw [← low]; exact S'.low
      obtain ⟨x3, dx⟩ := hY i H' x H3 hi (g0.trans hid_le) y
      have hdi : ds[i]? = some ds[i] := List.getElem?_eq_getElem hi
      have p := dx (adr M0 μ') S'.all g0 ds[i] hdi
      have S3 := S'.ex x3
      exact hg ds[i] ρ' (List.getElem_mem hi) _ _ _ _ _ _ S3 p _ fun σ4 S4 _ _ => hs i ds[i] ρ' μ' σ4 H3 (grd μ H2) hdi hI S2.grdB S4)
end

/-! ### comprehensions -/
def Blk (X : Cx) (scope : Scope) (X' : Cx) : Prop := ∃ (s : Shared) (H : Hp) (C : Addr) (cl : List (Str × Addr)) (fp : List Addr), X' = X.blk s H scope (compEnvC scope cl C X.env) fp
def tWb (X : Cx) (scope : Scope) (e : Expr) : TE := fun σ H Q => ∀ X', Blk X scope X' → tW X' e σ H Q
def tGb (X : Cx) (scope : Scope) (tg : Expr) : TG := fun v σ H Q => ∀ X', Blk X scope X' → tG X' tg v σ H Q
def tTs (X : Cx) (ifs : List Expr) : TT := fun σ H Q => ∀ (pins : List (Addr × Obj)) (s : Shared), Inv X pins σ H s →
  wpAny (model X.prog X.w) X.A (forIn ifs true fun c r => if r = true then do let ok ← isTrue c X.env (eval c X.env); pure (ForInStep.yield ok) else pure (ForInStep.yield r)) (TP X pins σ Q) X.xe s
theorem pts_T {X : Cx} {ifs : List Expr} : PTs X ifs (tTs X ifs) := ⟨fun pins s _ _ _ I h => h pins s I⟩
def tTsb (X : Cx) (scope : Scope) (ifs : List Expr) : TT := fun σ H Q => ∀ X', Blk X scope X' → tTs X' ifs σ H Q
def Jts (X : Cx) (M : List Addr) (ifs : List Expr) (σ : L2.St) (H : Hp) (b : Bool) : Prop := Al M H → ∀ H1, Ex H H1 → ∀ Q : Bool → Hp → Prop, (∀ H2, Ex H1 H2 → Q b H2) → tTs X ifs σ H1 Q
theorem jts_nil {X : Cx} {M : List Addr} {σ : L2.St} {H : Hp} : Jts X M [] σ H true := fun _ H1 _ Q k pins s I => pts_nil.run pins s σ H1 Q I (k H1 (Ex.refl H1))
theorem jts_one {X : Cx} {M : List Addr} {σ : L2.St} {H : Hp} {c : Expr} {b : Bool} (h : Jt X M c σ H b) : Jts X M [c] σ H b := fun al H1 x Q k pins s I => (pts_one pt_T).run pins s σ H1 Q I (h al H1 x Q k)
theorem wipe_eq {σ σ2 : L2.St} {vs : List Nat} (hl : σ2.length = σ.length) (h : ∀ i, i ∉ vs → σ2[i]? = σ[i]?) : L2.wipe σ2 vs = L2.wipe σ vs := by
  have key : ∀ (τ : L2.St) (i : Nat), i ∈ vs → (L2.wipe τ vs)[i]? = if i < τ.length then some none else none := fun τ i hi => by
    by_cases hlt : i < τ.length
    · rw [if_pos hlt]
      have hlt2 : i < (L2.wipe τ vs).length := by rw [wipe_length]; exact hlt
      rw [List.getElem?_eq_getElem hlt2]
      congr 1
      cases q : (L2.wipe τ vs)[i] with
      | none => rfl
      | some x =>
        have q2 : (L2.wipe τ vs)[i]? = some (some x) := by rw [List.getElem?_eq_getElem hlt2, q]
        exact absurd hi (wipe_some q2).2
    · rw [if_neg hlt, List.getElem?_eq_none (by rw [wipe_length]; omega)]
  refine List.ext_getElem? fun i => ?_
  by_cases hi : i ∈ vs
  · rw [key _ i hi, key _ i hi, hl]
  · rw [wipe_out hi, wipe_out hi, h i hi]
/-- e makes a new list of these data -/
def Jn (X : Cx) (M : List Addr) (e : Expr) (σ : L2.St) (H : Hp) (ds : List D) : Prop := Al M H → ∀ H1, Ex H H1 → ∀ Q : VK, (∀ a vs H2, Ex H1 H2 → H1 a = none → H2 a = some (.lst vs) → DpAll X.K (hid (a :: M) H2) vs ds → Q (.ref a) H2) → tW X e σ H1 Q
theorem Jn.jd {X : Cx} {M : List Addr} {e : Expr} {σ : L2.St} {H : Hp} {ds : List D} (h : Jn X M e σ H ds) : Jd X M e σ H (.list ds) := fun al H1 x Q q => h al H1 x Q fun a vs H2 y hn ha p => by
  have hM : a ∉ M := (al.ex x).out hn
  exact q _ H2 y (.lst (SqL.of (by rw [hid_out hM]; exact ha)) (p.ex (hid_sub fun b hb => List.mem_cons_of_mem _ hb)))
section
variable {X : Cx} {B H : Hp} {M0 : List Addr} {ρ : Ro} {μ : Mu} {σ : L2.St} {ds : List D} {pos : Pos} {tg iter elt : Expr} {ifs : List Expr} {scope : Scope} {own : List (Str × Nat)} {js : List Nat}
theorem fm_snoc {out : List (Option D)} {i : Nat} {o : Option D} (h : out[i]? = some o) : (out.take (i + 1)).filterMap id = (out.take i).filterMap id ++ o.toList := by
  rw [List.take_add_one, h, List.filterMap_append]
  cases o <;> rfl
theorem fm_len {out : List (Option D)} : (out.filterMap id).length ≤ out.length := List.length_filterMap_le _ _
/-- [elt for tg in iter if ..]: out tells of each turn whether it gives, and what -/
theorem lcN_tree (S : Sy X.K B M0 ρ μ σ H) (hw : Jw X (adr M0 μ) tg iter σ H ds) (out : List (Option D)) (hl : out.length = ds.length) (hz : ds.length ≤ 90000) (f : D → Ro → Ro) (hjs : ∀ j ∈ js, j ∈ own.map (·.2))
    (hg : ∀ X' d, Blk X scope X' → d ∈ ds → Jg X' tg js d (wip ρ (own.map (·.2))) (f d (wip ρ (own.map (·.2)))))
    (ht : ∀ (i : Nat) (d : D) (o : Option D) X' B' M' σ' H', ds[i]? = some d → out[i]? = some o → Blk X scope X' → Sy X'.K B' M' (f d (wip ρ (own.map (·.2)))) μ σ' H' → Jts X' (adr M' μ) ifs σ' H' o.isSome)
    (he : ∀ (i : Nat) (d x : D) X' B' M' σ' H', ds[i]? = some d → out[i]? = some (some x) → Blk X scope X' → Sy X'.K B' M' (f d (wip ρ (own.map (·.2)))) μ σ' H' → Jd X' (adr M' μ) elt σ' H' x)
    {H1 : Hp} (al : Al (adr M0 μ) H) (x1 : Ex H H1) {Q : VK} (k : ∀ a vs H2, Ex H1 H2 → H1 a = none → H2 a = some (.lst vs) → DpAll X.K (hid (a :: adr M0 μ) H2) vs (out.filterMap id) → Q (.ref a) H2) :
    tLc (tI X tg iter) (tGb X scope tg) (tTsb X scope ifs) (tWb X scope elt) (own.map (·.2)) σ H1 Q := by
  have S1 := S.ex x1
  refine hw al H1 x1 _ fun J H2 x2 yl Dl hD => ?_
  have S2 := S1.ex x2
  obtain ⟨G, Y, w, hG, hY⟩ := yl
  have nD : Dl ∉ μ.map (·.1) := fun z => by
    obtain ⟨p, hp, e⟩ := List.mem_map.mp z
    obtain ⟨o, q⟩ := (S2.ob p hp).some
    rw [e, hD] at q; cases q
  have nM : Dl ∉ M0 := S2.al.out hD
  -- between two turns: all of H2 stands, the list holds what the turns gave
  let Pv : Nat → Hp → Prop := fun i H' => Ex H2 H' ∧ ∃ acc, H' Dl = some (.lst acc) ∧ DpAll X.K (hid (Dl :: adr M0 μ) H') acc ((out.take i).filterMap id)
  have st : ∀ H', Ex H2 H' → H' Dl ≠ none → Sy X.K H2 (Dl :: M0) ρ [] σ H2 → True := fun _ _ _ _ => trivial
  have mk : ∀ {H'}, Ex H2 H' → H' Dl ≠ none → Sy X.K B (Dl :: M0) ρ μ σ H' := fun {H'} e hn => by
    have ee : Ex (hid (adr M0 μ) H2) (hid (adr (Dl :: M0) μ) H') := fun a o q => by
      by_cases ha : a ∈ adr M0 μ
      · rw [hid_in ha] at q; cases q
      · rw [hid_out ha] at q
        rw [hid_out fun z => ?_]
        · exact e a o q
        · rcases List.mem_append.mp z with z | z
          · exact ha (List.mem_append_left _ z)
          · rcases List.mem_cons.mp z with z | z
            · rw [z, hD] at q; cases q
            · exact ha (List.mem_append_right _ z)
    exact ⟨fun i s h => let ⟨v, a, b⟩ := S2.sl i s h; ⟨v, a, b.ex ee⟩, S2.ln, fun p hp => by
      obtain ⟨o, q⟩ := (S2.ob p hp).some
      exact (S2.ob p hp).mono ee ((e _ _ q).trans q.symm), (S2.al.ex e).cons hn, S2.bs.trans e, S2.nb, S2.dj.1, fun p hp z => by
      rcases List.mem_cons.mp z with z | z
      · exact nD (List.mem_map.mpr ⟨p, hp, z⟩)
      · exact S2.dj.2 p hp z⟩
  have lowD : ∀ {H'}, Ex H2 H' → Ex (hid (adr M0 μ) H2) (hid (adr (Dl :: M0) μ) H') := fun {H'} e a o q => by
    by_cases ha : a ∈ adr M0 μ
    · rw [hid_in ha] at q; cases q
    · rw [hid_out ha] at q
      rw [hid_out fun z => ?_]
      · exact e a o q
      · rcases List.mem_append.mp z with z | z
        · exact ha (List.mem_append_left _ z)
        · rcases List.mem_cons.mp z with z | z
          · rw [z, hD] at q; cases q
          · exact ha (List.mem_append_right _ z)
  have sameM : ∀ {H' : Hp}, Ex (hid (adr (Dl :: M0) μ) H') (hid (Dl :: adr M0 μ) H') := fun {H'} => hid_sub fun a ha => by
    rcases List.mem_cons.mp ha with z | z
    · exact List.mem_append_right _ (by rw [z]; exact List.mem_cons_self)
    · rcases List.mem_append.mp z with z | z
      · exact List.mem_append_left _ z
      · exact List.mem_append_right _ (List.mem_cons_of_mem _ z)
  refine lc_it w (fun i H' => Pv i H') ⟨Ex.new hD, [], upd_same, .nil⟩ (fun i H' hi p => hG H' (hid_le.trans p.1)) (fun i x H' H3 hi p y => ?_) (fun H' p => ?_)
  · obtain ⟨pe, acc, pa, pd⟩ := p
    obtain ⟨x3, dx⟩ := hY i H' x H3 hi (hid_le.trans pe) y
    have nD' : H' Dl ≠ none := by rw [pa]; simp
    have S' := mk pe nD'
    have S3 := S'.ex x3
    have hdi : ds[i]? = some ds[i] := List.getElem?_eq_getElem hi
    have hoi : ∃ o, out[i]? = some o := ⟨out[i]'(by omega), List.getElem?_eq_getElem (by omega)⟩
    obtain ⟨o, hoi⟩ := hoi
    have q := dx (adr (Dl :: M0) μ) S'.all (lowD pe) ds[i] hdi
    have S3w := S3.wipe (own.map (·.2))
    intro X' hX
    have eK : X'.K = X.K := by obtain ⟨_, _, _, _, _, rfl⟩ := hX; rfl
    have S3w' : Sy X'.K B (Dl :: M0) (wip ρ (own.map (·.2))) μ (L2.wipe σ (own.map (·.2))) H3 := by rw [eK]; exact S3w
    have q' : Dp X'.K (hid (adr (Dl :: M0) μ) H3) x ds[i] := by rw [eK]; exact q
    refine hg X' ds[i] hX (List.getElem_mem hi) _ _ _ _ _ _ S3w' q' _ fun σ4 S4 l4 o4 => ⟨?_, ?_⟩
    · rw [wipe_eq (vs := own.map (·.2)) l4 fun j hj => o4 j fun z => hj (hjs j z)]
      exact wipe_eq (wipe_length _ _) fun j hj => wipe_out hj
    · intro X2 hX2
      have eK2 : X2.K = X'.K := by obtain ⟨_, _, _, _, _, rfl⟩ := hX2; exact eK.symm
      have S4' : Sy X2.K B (Dl :: M0) (f ds[i] (wip ρ (own.map (·.2)))) μ σ4 H3 := by rw [eK2]; exact S4
      refine ht i ds[i] o X2 B _ σ4 H3 hdi hoi hX2 S4' S4'.all H3 (Ex.refl H3) _ fun H5 x5 => ?_
      have S5 := S4'.ex x5
      have a5 : H5 Dl = some (.lst acc) := x5 _ _ (x3 _ _ pa)
      have up5 : Ex (hid (Dl :: adr M0 μ) H') (hid (Dl :: adr M0 μ) H5) := hid_ex (x3.trans x5)
      cases o with
      | none =>
        show Pv (i + 1) H5
        exact ⟨(pe.trans x3).trans x5, acc, a5, by rw [fm_snoc hoi]; simpa using pd.ex up5⟩
      | some z =>
        intro X3 hX3
        have eK3 : X3.K = X2.K := by obtain ⟨_, _, _, _, _, rfl⟩ := hX3; exact eK.symm.trans eK2.symm
        have S5' : Sy X3.K B (Dl :: M0) (f ds[i] (wip ρ (own.map (·.2)))) μ σ4 H5 := by rw [eK3]; exact S5
        refine he i ds[i] z X3 B _ σ4 H5 hdi hoi hX3 S5' S5'.all H5 (Ex.refl H5) _ fun v H6 x6 pv => ?_
        refine ⟨acc, x6 _ _ a5, ?_, ?_⟩
        · have := pd.len
          have h2 := fm_len (out := out.take i)
          have h3 : (out.take i).length ≤ out.length := by rw [List.length_take]; omega
          exact sz_lt (by omega)
        · have a6 := x6 _ _ a5
          refine ⟨?_, acc ++ [v], upd_same, ?_⟩
          · exact Ex.mut (((pe.trans x3).trans x5).trans x6) hD
          · rw [hid_upd List.mem_cons_self, fm_snoc hoi]
            have pv' : Dp X.K (hid (adr (Dl :: M0) μ) H6) v z := by
              have e : X3.K = X.K := (eK3.trans eK2).trans eK
              rw [← e]; exact pv
            exact (pd.ex (up5.trans (hid_ex x6))).append (.cons (pv'.ex sameM) .nil)
  · obtain ⟨pe, acc, pa, pd⟩ := p
    have e : out.take ds.length = out := by rw [← hl, List.take_length]
    rw [e] at pd
    refine k Dl acc H' (x2.trans pe) ?_ pa pd
    cases q : H1 Dl with
    | none => rfl
    | some o => rw [x2 _ _ q] at hD; cases hD
theorem sy_lcN (S : Sy X.K B M0 ρ μ σ H) (hw : Jw X (adr M0 μ) tg iter σ H ds) (out : List (Option D)) (hl : out.length = ds.length) (hz : ds.length ≤ 90000) (f : D → Ro → Ro) (hjs : ∀ j ∈ js, j ∈ own.map (·.2))
    (hg : ∀ X' d, Blk X scope X' → d ∈ ds → Jg X' tg js d (wip ρ (own.map (·.2))) (f d (wip ρ (own.map (·.2)))))
    (ht : ∀ (i : Nat) (d : D) (o : Option D) X' B' M' σ' H', ds[i]? = some d → out[i]? = some o → Blk X scope X' → Sy X'.K B' M' (f d (wip ρ (own.map (·.2)))) μ σ' H' → Jts X' (adr M' μ) ifs σ' H' o.isSome)
    (he : ∀ (i : Nat) (d x : D) X' B' M' σ' H', ds[i]? = some d → out[i]? = some (some x) → Blk X scope X' → Sy X'.K B' M' (f d (wip ρ (own.map (·.2)))) μ σ' H' → Jd X' (adr M' μ) elt σ' H' x)
    (ok : BlkOk X.N X.env.scope scope own) (hc : X.calm = true) (hN : X.N.Nodup) (hs : ∀ x, foldedSetIterable iter X.env x = pure x := by intro _; rfl) :
    Jn X (adr M0 μ) (.ListComp elt [⟨tg, iter, ifs, 0⟩] scope pos) σ H (out.filterMap id) := fun al H1 x1 Q k =>
  leW (pe_lc (own := own) (g := tGb X scope tg) (tt := tTsb X scope ifs) (te := tWb X scope elt) hc hN pi_I ok (fun s H C cl fp => ⟨fun pins s' σ' H' v u Q' I r h => h _ ⟨s, H, C, cl, fp, rfl⟩ pins s' u I r⟩)
    (fun s H C cl fp => ⟨fun pins s' σ' H' Q' I h => h _ ⟨s, H, C, cl, fp, rfl⟩ pins s' I⟩) (fun s H C cl fp => ⟨fun pins s' σ' H' Q' I h => h _ ⟨s, H, C, cl, fp, rfl⟩ pins s' I⟩) hs) (lcN_tree S hw out hl hz f hjs hg ht he al x1 k)
/-- name = a comprehension: the tree of it is to be read -/
theorem tB_setLc (n : Nat) {y : Str} {py spos : Pos} {rest : List Stmt} {D' : Ends} (h : tLc (tI X tg iter) (tGb X scope tg) (tTsb X scope ifs) (tWb X scope elt) (own.map (·.2)) σ H fun v H' => tB X rest D' (σ.set n (some v)) H') (ok : BlkOk X.N X.env.scope scope own) (hc : X.calm = true) (hN : X.N.Nodup)
    (hy : X.N[n]? = some y := by rfl) (hyl : X.env.scope.names.lookup y = some .local := by rfl) (hsw : swapsWith (.ListComp elt [⟨tg, iter, ifs, 0⟩] scope pos) (some (.Name y py)) spos.line X.env = pure true := by rfl) (hs : ∀ x, foldedSetIterable iter X.env x = pure x := by intro _; rfl) :
    tB X (.Assign [.Name y py] (.ListComp elt [⟨tg, iter, ifs, 0⟩] scope pos) spos :: rest) D' σ H :=
  tB_cons (ps_setLc (own := own) (g := tGb X scope tg) (tt := tTsb X scope ifs) (te := tWb X scope elt) hc hN hy hyl hsw pi_I ok (fun s H C cl fp => ⟨fun pins s' σ' H' v u Q' I r h => h _ ⟨s, H, C, cl, fp, rfl⟩ pins s' u I r⟩)
    (fun s H C cl fp => ⟨fun pins s' σ' H' Q' I h => h _ ⟨s, H, C, cl, fp, rfl⟩ pins s' I⟩) (fun s H C cl fp => ⟨fun pins s' σ' H' Q' I h => h _ ⟨s, H, C, cl, fp, rfl⟩ pins s' I⟩) hs) h
theorem sy_lc (S : Sy X.K B M0 ρ μ σ H) (hw : Jw X (adr M0 μ) tg iter σ H ds) (out : List (Option D)) (hl : out.length = ds.length) (hz : ds.length ≤ 90000) (f : D → Ro → Ro) (hjs : ∀ j ∈ js, j ∈ own.map (·.2))
    (hg : ∀ X' d, Blk X scope X' → d ∈ ds → Jg X' tg js d (wip ρ (own.map (·.2))) (f d (wip ρ (own.map (·.2)))))
    (ht : ∀ (i : Nat) (d : D) (o : Option D) X' B' M' σ' H', ds[i]? = some d → out[i]? = some o → Blk X scope X' → Sy X'.K B' M' (f d (wip ρ (own.map (·.2)))) μ σ' H' → Jts X' (adr M' μ) ifs σ' H' o.isSome)
    (he : ∀ (i : Nat) (d x : D) X' B' M' σ' H', ds[i]? = some d → out[i]? = some (some x) → Blk X scope X' → Sy X'.K B' M' (f d (wip ρ (own.map (·.2)))) μ σ' H' → Jd X' (adr M' μ) elt σ' H' x)
    (ok : BlkOk X.N X.env.scope scope own) (hc : X.calm = true) (hN : X.N.Nodup) (hs : ∀ x, foldedSetIterable iter X.env x = pure x := by intro _; rfl) :
    Jd X (adr M0 μ) (.ListComp elt [⟨tg, iter, ifs, 0⟩] scope pos) σ H (.list (out.filterMap id)) := (sy_lcN S hw out hl hz f hjs hg ht he ok hc hN hs).jd
end
end J

set_option maxHeartbeats 4000000
/-! J4: defs of data, their calls; further statements. -/
namespace J
open PySem PySem.Spec PyProof.Rows L2 Evl RZ

/-- a def of the module: where it stands, its promise -/
structure Fd (CX : CXT) (P : Program) (w : World) (K : PySem.W.Frag) (mg : Str → Option Value) (base : Heap) (k : Nat) (x : Str) (ps : List Str) (sp : Sp) : Prop where
  ex : ∃ f fd, mg x = some (.ref f) ∧ PySem.W.keepIn K (.ref f) = true ∧ Binds K fd ps [] ∧ FnOk P w K mg base CX k f fd ps sp
/-- a def from data to a datum: R says which -/
def spD (K : PySem.W.Frag) (n : Nat) (R : List D → D → Prop) : Sp := fun vs H Q _ => ∃ (M : List Addr) (ds : List D) (d : D), ds.length = n ∧ Al M H ∧ DpAll K (hid M H) vs ds ∧ R ds d ∧ ∀ v H2, Ex H H2 → Dp K (hid M H2) v d → Q v H2
section
variable {P : Program} {w : World} {K : PySem.W.Frag} {mg : Str → Option Value} {base : Heap} {x : Str} {st : Stmt} {f : Addr} {fd : FuncData} {N ps : List Str} {k n : Nat}
/-- the context of such a def's body -/
abbrev bodyX (P : Program) (w : World) (K : PySem.W.Frag) (mg : Str → Option Value) (base : Heap) (N : List Str) (x : Str) (st : Stmt) (f : Addr) (cdv : Value) (A : Around) (outer : List Env) (s : Shared) (H : Hp) (E : XK) : Cx :=
  (cxOf CX0 P w K mg base N x (defScope st) f cdv A outer s H E).nox
theorem fd_mk {sp : Sp} {CX : CXT} (F : FunD K x x (defArgs st) (defBody st) (defScope st) [] [] f fd) (hm : mg x = some (.ref f)) (ok : FnOk P w K mg base CX k f fd ps sp)
    (hb : ∀ (kV doc pm : Value) (an : Option Addr) (cdv ct : Value) (us : List Value), us.length = ps.length → bindArgs (PySem.W.fnOf x x (defArgs st) (defBody st) (defScope st) .none kV doc pm an cdv ct) ⟨us, []⟩ = pure (ps.zip us)) : Fd CX P w K mg base k x ps sp :=
  ⟨⟨f, fd, hm, F.kp, F.bindsN hb, ok⟩⟩
theorem ok_D {q : Str} {R : List D → D → Prop} (F : FunD K x q (defArgs st) (defBody st) (defScope st) [] [] f fd) (S : FnScope N ps (defScope st)) (hn : ps.length = n)
    (body : ∀ (cdv : Value) (A : Around) (outer : List Env) (s : Shared) (H : Hp) (E : XK) (M : List Addr) (vs : List V) (ds : List D) (d : D) (D' : Ends), Room k (bodyX P w K mg base N q st f cdv A outer s H E).A → ds.length = n → R ds d →
      Sy K H M (ds.map (fun d => some (Sv.dat d)) ++ List.replicate (N.length - ds.length) none) [] (L2.start N vs) H → (∀ v H', Ex H H' → Dp K (hid M H') v d → D'.rt v H') → (d = .none → ∀ σ' H', Ex H H' → D'.nx σ' H') →
      tB (bodyX P w K mg base N q st f cdv A outer s H E) (defBody st) D' (L2.start N vs) H) : FnOk P w K mg base CX0 (k + 1) f fd ps (spD K n R) := by
  refine F.ok S (fun vs H Q E h => ?_) (fun cdv A outer s H vs Q E hr h => ?_)
  · obtain ⟨M, ds, d, h1, h2, h3, _⟩ := h
    rw [h3.len, h1, hn]
  · obtain ⟨M, ds, d, h1, al, h3, h4, h5⟩ := h
    refine ⟨_, PSs.nox pss_B, body cdv A outer s H E M vs ds d _ hr h1 h4 (sy_start al h3) (fun v H' x p => h5 v H' x p) fun e σ' H' x => h5 .non H' x (by rw [e]; exact .non)⟩
end
section
variable {X : Cx} {M : List Addr} {σ : L2.St} {H : Hp} {d : D} {ds : List D} {k n : Nat} {x : Str} {ps : List Str} {R : List D → D → Prop} {e : Expr} {es : List Expr} {p pos : Pos}
theorem jd_call (F : Fd CX0 X.prog X.w X.K X.mg X.base k x ps (spD X.K n R)) (hr : Room k X.A) (ha : Ja X M (e :: es) σ H ds) (hl : ds.length = n) (hR : R ds d) (hg : Gl X x := by rfl) (hdb : (x == ("__debug__" : Str)) = false := by decide)
    (he : starEach (e :: es) X.env = (false, eval e X.env) :: starEach es X.env := by rfl) (hpl : (backTo pos (starEach es X.env)).any (·.1) = false := by rfl) : Jd X M (.Call (.Name x p) (e :: es) [] pos) σ H d := fun al H1 y Q q => by
  obtain ⟨f, fd, hm, hk, hb, ok⟩ := F.ex
  refine leW (pe_call (E := E0) ok hr hg hm hk hb .nil pass0 pa_A hdb he hpl) (ha al H1 y _ fun vs H2 z r => ?_)
  show spD X.K n R (vs ++ []) H2 Q E0
  rw [List.append_nil]
  exact ⟨M, ds, d, hl, (al.ex y).ex z, r, hR, fun v H3 u t => q v H3 (z.trans u) t⟩
end
/-! ### a, b = x, y and so on -/
section
variable {X : Cx} {B H : Hp} {M0 : List Addr} {ρ : Ro} {μ : Mu} {σ : L2.St} {d d2 : D} {pos : Pos} {e a b : Expr} {rest A C body : List Stmt} {D' : Ends} {ds : List D}
theorem sy_par (i j : Nat) {x y : Str} {px py pt : Pos} {kt k2 pt2} (S : Sy X.K B M0 ρ μ σ H) (h : Jd X (adr M0 μ) a σ H d) (h2 : Jd X (adr M0 μ) b σ H d2) (k : ∀ σ' H', Sy X.K B M0 ((ρ.set i (some (.dat d))).set j (some (.dat d2))) μ σ' H' → tB X rest D' σ' H')
    (hc : X.calm = true) (hN : X.N.Nodup) (hij : i ≠ j) (hw : swappedStores [.Tuple [.Name x px, .Name y py] kt pt] (.Tuple [a, b] k2 pt2) X.env = pure (some [x, y])) (hi : X.N[i]? = some x := by rfl) (hj : X.N[j]? = some y := by rfl)
    (hx : X.env.scope.names.lookup x = some .local := by rfl) (hy : X.env.scope.names.lookup y = some .local := by rfl) (hs : swapsWithSole [.Tuple [.Name x px, .Name y py] kt pt] (.Tuple [a, b] k2 pt2) pos.line X.env = pure false := by rfl)
    (hs1 : starEach [a, b] X.env = (false, eval a X.env) :: starEach [b] X.env := by rfl) (hs2 : starEach [b] X.env = (false, eval b X.env) :: starEach [] X.env := by rfl) :
    tB X (.Assign [.Tuple [.Name x px, .Name y py] kt pt] (.Tuple [a, b] k2 pt2) pos :: rest) D' σ H :=
  tB_cons (ps_par hc hN hi hj hij hx hy (pa_cons pe_W (pa_cons pe_W pa_nil hs2) hs1) hw hs) (S.ev h fun v H1 S1 x1 p1 => S1.ev (h2.mono x1 S.all) fun v2 H2 S2 x2 p2 =>
    ⟨v, v2, rfl, k _ H2 ((S2.set i (s := .dat d) (p1.ex (hid_ex x2))).set j (s := .dat d2) p2)⟩)
/-- a target of any form -/
theorem sy_asg {tg : Expr} {js : List Nat} {ρ2 : Ro} (S : Sy X.K B M0 ρ μ σ H) (h : Jd X (adr M0 μ) e σ H d) (hg : Jg X tg js d ρ ρ2) (k : ∀ σ' H', Sy X.K B M0 ρ2 μ σ' H' → tB X rest D' σ' H')
    (hs : swapsWithSole [tg] e pos.line X.env = pure false := by rfl) (hw : swappedStores [tg] e X.env = pure none := by rfl) (h1 : (assignEach [tg] X.env).map (·.2) = [assign tg X.env] := by rfl) : tB X (.Assign [tg] e pos :: rest) D' σ H :=
  tB_cons (ps_asg pe_W pg_G hs hw h1) (S.ev h fun v H1 S1 x1 p1 => hg _ _ _ _ _ _ S1 p1 _ fun σ2 S2 _ _ => k σ2 H1 S2)
/-- while: I tells the state by a number that falls -/
theorem sy_while {c : Expr} (S : Sy X.K B M0 ρ μ σ H) (I : Nat → Ro → Mu → Prop) (m0 : Nat) (h0 : I m0 ρ μ)
    (hs : ∀ m ρ' μ' σ' H', I m ρ' μ' → Sy X.K B M0 ρ' μ' σ' H' → ∃ b, Jt X (adr M0 μ') c σ' H' b ∧
      (b = true → ∀ H2, Sy X.K B M0 ρ' μ' σ' H2 → tB X body ⟨fun σ2 H2 => ∃ m2 ρ2 μ2, m2 < m ∧ I m2 ρ2 μ2 ∧ Sy X.K B M0 ρ2 μ2 σ2 H2, D'.rt, tB X rest D', fun σ2 H2 => ∃ m2 ρ2 μ2, m2 < m ∧ I m2 ρ2 μ2 ∧ Sy X.K B M0 ρ2 μ2 σ2 H2⟩ σ' H2) ∧
      (b = false → ∀ H2, Sy X.K B M0 ρ' μ' σ' H2 → tB X rest D' σ' H2))
    (hp : PassesOwn (model X.prog X.w) X.A X.env X.xe) : tB X (.While c body [] pos :: rest) D' σ H :=
  tB_cons (ps_while hp pt_T pss_B) ⟨fun m σ' H' => ∃ ρ' μ', I m ρ' μ' ∧ Sy X.K B M0 ρ' μ' σ' H', ⟨m0, ρ, μ, h0, S⟩, fun m σ' H' ⟨ρ', μ', hI, S'⟩ => by
    obtain ⟨b, hb, h1, h2⟩ := hs m ρ' μ' σ' H' hI S'
    refine S'.te hb fun H2 S2 _ => ?_
    cases b with
    | true =>
      rw [if_pos rfl]
      exact ⟨fun σ2 H2 => ∃ m2 ρ2 μ2, m2 < m ∧ I m2 ρ2 μ2 ∧ Sy X.K B M0 ρ2 μ2 σ2 H2, fun σ3 H3 ⟨m2, ρ2, μ2, hm, hI2, S3⟩ => ⟨m2, hm, ρ2, μ2, hI2, S3⟩, h1 rfl H2 S2⟩
    | false => rw [if_neg Bool.false_ne_true]; exact h2 rfl H2 S2⟩
end
/-! ### further values -/
section
variable {X : Cx} {M : List Addr} {σ : L2.St} {H : Hp} {a b e : Expr} {d d' : D} {ds es : List D} {p pos : Pos} {i j : Int}
theorem jd_gcd {x : Str} (hm : X.mg x = some (.builtin "math.gcd")) (ha : Jd X M a σ H (.int i)) (hb : Jd X M b σ H (.int j)) (hg : Gl X x := by rfl) (hdb : (x == ("__debug__" : Str)) = false := by decide) (hs : starEach [a, b] X.env = (false, eval a X.env) :: starEach [b] X.env := by rfl)
    (hs2 : starEach [b] X.env = (false, eval b X.env) :: starEach [] X.env := by rfl) (hpl : (backTo pos (starEach [b] X.env)).any (·.1) = false := by rfl) : Jd X M (.Call (.Name x p) [a, b] [] pos) σ H (.int ((Nat.gcd i.natAbs j.natAbs : Nat) : Int)) := fun al H1 y Q q =>
  leW (pe_callBfun cr_gcd hg hm (pa_cons pe_W (pa_cons pe_W pa_nil hs2) hs) hdb hs hpl) (ha al H1 y _ fun v H2 z r => hb al H2 (y.trans z) _ fun w H3 u t => ⟨i, j, by rw [dInt r, dInt t], q _ H3 (z.trans u) (.int _)⟩)
theorem jd_int1 (hm : X.mg "int" = none) (ha : Jd X M a σ H (.int i)) (hg : Gl X "int" := by rfl) (hs : starEach [a] X.env = (false, eval a X.env) :: starEach [] X.env := by rfl) : Jd X M (.Call (.Name "int" p) [a] [] pos) σ H (.int i) :=
  jd_Ty1 call_int1 hm boot_int ha (fun v H1 Q _ r q => .inl ⟨i, by rw [dInt r], q _ H1 (Ex.refl _) (.int _)⟩) hg (by decide) (by decide) hs
theorem jd_abs (hm : X.mg "abs" = none) (ha : Jd X M a σ H (.int i)) (hg : Gl X "abs" := by rfl) (hs : starEach [a] X.env = (false, eval a X.env) :: starEach [] X.env := by rfl) : Jd X M (.Call (.Name "abs" p) [a] [] pos) σ H (.int ((i.natAbs : Nat) : Int)) :=
  jd_B1 call_abs hm (by decide +kernel) ha (fun v H1 Q _ r q => ⟨i, by rw [dInt r], by
    have e : (if i < 0 then -i else i) = ((i.natAbs : Nat) : Int) := by split <;> omega
    rw [e]
    exact q _ H1 (Ex.refl _) (.int _)⟩) hg (by decide) (by decide) hs
theorem jd_all {bs : List Bool} (hc : X.calm = true) (hm : X.mg "all" = none) (ha : Jd X M a σ H (.list (bs.map PyData.bool))) (hg : Gl X "all" := by rfl) (hs : starEach [a] X.env = (false, eval a X.env) :: starEach [] X.env := by rfl) :
    Jd X M (.Call (.Name "all" p) [a] [] pos) σ H (.bool (bs.all id)) :=
  jd_B1 (cr_all hc) hm (by decide +kernel) ha (fun v H1 Q _ r q => by
    obtain ⟨t, xs, e1, e2, e3⟩ := dLst r
    exact ⟨t, bs, by rw [e1], by rw [← dBlsV e3]; exact ex_l hid_le e2, q _ H1 (Ex.refl _) (.bl _)⟩) hg (by decide) (by decide) hs
theorem jd_sum {ns : List Int} (hc : X.calm = true) (hm : X.mg "sum" = none) (ha : Jd X M a σ H (.list (ns.map PyData.int))) (hg : Gl X "sum" := by rfl) (hs : starEach [a] X.env = (false, eval a X.env) :: starEach [] X.env := by rfl) :
    Jd X M (.Call (.Name "sum" p) [a] [] pos) σ H (.int ns.sum) :=
  jd_B1 (cr_sum hc) hm (by decide +kernel) ha (fun v H1 Q _ r q => by
    obtain ⟨t, xs, e1, e2, e3⟩ := dLst r
    exact ⟨t, ns, by rw [e1], by rw [← dIntsV e3]; exact ex_l hid_le e2, q _ H1 (Ex.refl _) (.int _)⟩) hg (by decide) (by decide) hs
theorem jd_tupOf (hm : X.mg "tuple" = none) (ha : Jd X M a σ H (.list ds)) (hg : Gl X "tuple" := by rfl) (hs : starEach [a] X.env = (false, eval a X.env) :: starEach [] X.env := by rfl) : Jd X M (.Call (.Name "tuple" p) [a] [] pos) σ H (.tuple ds) := fun al => by
  refine jd_Ty1 call_tuple_of hm boot_tuple ha (fun v H1 Q y r q => ?_) hg (by decide) (by decide) hs al
  obtain ⟨t, xs, e1, e2, e3⟩ := dLst r
  exact ⟨t, xs, by rw [e1], .inl ⟨ex_l hid_le e2, fun l hl => q _ _ (Ex.new hl) (.tup (SqT.of ((al.ex y).newEx hl)) (e3.ex (hid_ex (Ex.new hl))))⟩⟩
theorem jd_lstOf (hm : X.mg "list" = none) (ha : Jd X M a σ H d) (h : d = .list ds ∨ d = .tuple ds) (hg : Gl X "list" := by rfl) (hs : starEach [a] X.env = (false, eval a X.env) :: starEach [] X.env := by rfl) : Jd X M (.Call (.Name "list" p) [a] [] pos) σ H (.list ds) := fun al => by
  refine jd_Ty1 call_list_of hm (by decide +kernel) ha (fun v H1 Q y r q => ?_) hg (by decide) (by decide) hs al
  rcases h with rfl | rfl
  · obtain ⟨t, xs, e1, e2, e3⟩ := dLst r
    exact ⟨t, xs, by rw [e1], .inl (ex_l hid_le e2), fun l hl => q _ _ (Ex.new hl) (.lst (SqL.of ((al.ex y).newEx hl)) (e3.ex (hid_ex (Ex.new hl))))⟩
  · obtain ⟨t, xs, e1, e2, e3⟩ := dTup r
    exact ⟨t, xs, by rw [e1], .inr (ex_t hid_le e2), fun l hl => q _ _ (Ex.new hl) (.lst (SqL.of ((al.ex y).newEx hl)) (e3.ex (hid_ex (Ex.new hl))))⟩
theorem jd_min2 (hc : X.calm = true) (hm : X.mg "min" = none) (ha : Jd X M a σ H (.int i)) (hb : Jd X M b σ H (.int j)) (hg : Gl X "min" := by rfl) (hs : starEach [a, b] X.env = (false, eval a X.env) :: starEach [b] X.env := by rfl)
    (hs2 : starEach [b] X.env = (false, eval b X.env) :: starEach [] X.env := by rfl) (hpl : (backTo pos (starEach [b] X.env)).any (·.1) = false := by rfl) : Jd X M (.Call (.Name "min" p) [a, b] [] pos) σ H (.int (if j < i then j else i)) := fun al H1 y Q q =>
  leW (pe_callB (call_min2 hc) hg hm (by decide +kernel) (pa_cons pe_W (pa_cons pe_W pa_nil hs2) hs) (by decide) (by decide) hs hpl) (ha al H1 y _ fun v H2 z r => hb al H2 (y.trans z) _ fun w H3 u t => ⟨i, j, by rw [dInt r, dInt t], q _ H3 (z.trans u) (.int _)⟩)
/-- isinstance(e, T), T a built-in class -/
def tyD : D → String
  | .none => "NoneType"
  | .bool _ => "bool"
  | .int _ => "int"
  | .str _ => "str"
  | .list _ => "list"
  | .tuple _ => "tuple"
  | .dict _ => "dict"
/-- the answers for data -/
def dIsI : D → Bool
  | .int _ => true
  | .bool _ => true
  | _ => false
def dIsB : D → Bool
  | .bool _ => true
  | _ => false
def dIsS : D → Bool
  | .str _ => true
  | _ => false
def dIsL : D → Bool
  | .list _ => true
  | _ => false
def dIsT : D → Bool
  | .tuple _ => true
  | _ => false
def dIsD : D → Bool
  | .dict _ => true
  | _ => false
theorem kit_int : ∀ d : D, kitB (tyD d) "int" = some (dIsI d)
  | .none => (by decide +kernel : kitB "NoneType" "int" = some false)
  | .bool _ => (by decide +kernel : kitB "bool" "int" = some true)
  | .int _ => (by decide +kernel : kitB "int" "int" = some true)
  | .str _ => (by decide +kernel : kitB "str" "int" = some false)
  | .list _ => (by decide +kernel : kitB "list" "int" = some false)
  | .tuple _ => (by decide +kernel : kitB "tuple" "int" = some false)
  | .dict _ => (by decide +kernel : kitB "dict" "int" = some false)
theorem kit_bool : ∀ d : D, kitB (tyD d) "bool" = some (dIsB d)
  | .none => (by decide +kernel : kitB "NoneType" "bool" = some false)
  | .bool _ => (by decide +kernel : kitB "bool" "bool" = some true)
  | .int _ => (by decide +kernel : kitB "int" "bool" = some false)
  | .str _ => (by decide +kernel : kitB "str" "bool" = some false)
  | .list _ => (by decide +kernel : kitB "list" "bool" = some false)
  | .tuple _ => (by decide +kernel : kitB "tuple" "bool" = some false)
  | .dict _ => (by decide +kernel : kitB "dict" "bool" = some false)
theorem kit_str : ∀ d : D, kitB (tyD d) "str" = some (dIsS d)
  | .none => (by decide +kernel : kitB "NoneType" "str" = some false)
  | .bool _ => (by decide +kernel : kitB "bool" "str" = some false)
  | .int _ => (by decide +kernel : kitB "int" "str" = some false)
  | .str _ => (by decide +kernel : kitB "str" "str" = some true)
  | .list _ => (by decide +kernel : kitB "list" "str" = some false)
  | .tuple _ => (by decide +kernel : kitB "tuple" "str" = some false)
  | .dict _ => (by decide +kernel : kitB "dict" "str" = some false)
theorem kit_list : ∀ d : D, kitB (tyD d) "list" = some (dIsL d)
  | .none => (by decide +kernel : kitB "NoneType" "list" = some false)
  | .bool _ => (by decide +kernel : kitB "bool" "list" = some false)
  | .int _ => (by decide +kernel : kitB "int" "list" = some false)
  | .str _ => (by decide +kernel : kitB "str" "list" = some false)
  | .list _ => (by decide +kernel : kitB "list" "list" = some true)
  | .tuple _ => (by decide +kernel : kitB "tuple" "list" = some false)
  | .dict _ => (by decide +kernel : kitB "dict" "list" = some false)
theorem kit_tuple : ∀ d : D, kitB (tyD d) "tuple" = some (dIsT d)
  | .none => (by decide +kernel : kitB "NoneType" "tuple" = some false)
  | .bool _ => (by decide +kernel : kitB "bool" "tuple" = some false)
  | .int _ => (by decide +kernel : kitB "int" "tuple" = some false)
  | .str _ => (by decide +kernel : kitB "str" "tuple" = some false)
  | .list _ => (by decide +kernel : kitB "list" "tuple" = some false)
  | .tuple _ => (by decide +kernel : kitB "tuple" "tuple" = some true)
  | .dict _ => (by decide +kernel : kitB "dict" "tuple" = some false)
theorem kit_dict : ∀ d : D, kitB (tyD d) "dict" = some (dIsD d)
  | .none => (by decide +kernel : kitB "NoneType" "dict" = some false)
  | .bool _ => (by decide +kernel : kitB "bool" "dict" = some false)
  | .int _ => (by decide +kernel : kitB "int" "dict" = some false)
  | .str _ => (by decide +kernel : kitB "str" "dict" = some false)
  | .list _ => (by decide +kernel : kitB "list" "dict" = some false)
  | .tuple _ => (by decide +kernel : kitB "tuple" "dict" = some false)
  | .dict _ => (by decide +kernel : kitB "dict" "dict" = some true)
theorem tyX_of {K : PySem.W.Frag} {G : Hp} {v : V} (r : Dp K G v d) : TyX K G v (.type (tyD d)) := by
  cases r with
  | non => exact .base .non
  | bl b => exact .base (.bl b)
  | int i => exact .base (.int i)
  | str x => exact .base (.str x)
  | lst a b =>
    rcases a with (a | ⟨o, a⟩) | ⟨o, its, n, h1, h2, h3, h4, _⟩
    · exact .base (.lst a)
    · exact .base (.frz a)
    · exact .kList h1 h2
  | tup a b =>
    rcases a with (a | ⟨o, a⟩) | ⟨o, its, n, h1, h2, h4, _⟩
    · exact .base (.tup a)
    · exact .fTuple a
    · exact .kTuple h1 h2
  | dct0 a =>
    rcases a with a | ⟨o, a⟩
    · exact .base (.dK a)
    · exact .fDict a
theorem jd_isi {T : Str} {t : String} {k : Bool} {p2 : Pos} (hm : X.mg "isinstance" = none) (hT : X.mg T = none) (hv : bootBuiltins T = some (.type t)) (ha : Jd X M a σ H d) (hk : kitB (tyD d) t = some k) (hg : Gl X "isinstance" := by rfl) (hgT : Gl X T := by rfl) (hn : T ≠ "__name__" := by decide) (hd : (T == ("__debug__" : Str)) = false := by decide)
    (hs : starEach [a, .Name T p2] X.env = (false, eval a X.env) :: starEach [.Name T p2] X.env := by rfl) (hs2 : starEach [.Name T p2] X.env = (false, eval (.Name T p2) X.env) :: starEach [] X.env := by rfl) (hpl : (backTo pos (starEach [.Name T p2] X.env)).any (·.1) = false := by rfl) :
    Jd X M (.Call (.Name "isinstance" p) [a, .Name T p2] [] pos) σ H (.bool k) := fun al H1 y Q q =>
  leW (pe_callB call_isi hg hm (by decide +kernel) (pa_cons pe_W (pa_cons (pe_bltn (v := .ty t) hgT hT hv rfl hn hd) pa_nil hs2) hs) (by decide) (by decide) hs hpl) (ha al H1 y _ fun v H2 z r =>
    ⟨v, .ty t, .type (tyD d), .type t, k, rfl, .ty t, tyX_of (r.ex hid_le), kit_ty hk, q _ H2 z (.bl _)⟩)
end
end J

set_option maxHeartbeats 4000000
/-! J5: defs that may raise. -/
namespace J
open PySem PySem.Spec PyProof.Rows L2 Evl RZ
/-- from data to a datum (R), or an exception of some class comes out (Fl) -/
def spX (K : PySem.W.Frag) (n : Nat) (R : List D → D → Prop) (Fl : List D → Value → Prop) : Sp := fun vs H Q E => ∃ (M : List Addr) (ds : List D), ds.length = n ∧ Al M H ∧ DpAll K (hid M H) vs ds ∧
  ((∃ d, R ds d ∧ ∀ v H2, Ex H H2 → Dp K (hid M H2) v d → Q v H2) ∨ ∃ cls, Fl ds cls ∧ ∀ H2, Ex H H2 → E cls none H2)
abbrev bodyE (P : Program) (w : World) (K : PySem.W.Frag) (mg : Str → Option Value) (base : Heap) (N : List Str) (x : Str) (st : Stmt) (f : Addr) (cdv : Value) (A : Around) (outer : List Env) (s : Shared) (H : Hp) (E : XK) : Cx :=
  cxOf (CX P w) P w K mg base N x (defScope st) f cdv A outer s H E
section
variable {P : Program} {w : World} {K : PySem.W.Frag} {mg : Str → Option Value} {base : Heap} {x : Str} {st : Stmt} {f : Addr} {fd : FuncData} {N ps : List Str} {k n : Nat}
theorem bodyE_tk {cdv : Value} {A : Around} {outer : List Env} {s : Shared} {H : Hp} {E : XK} : Takes (bodyE P w K mg base N x st f cdv A outer s H E) (fun cls d _ H => E cls d H) := takes_of rfl rfl rfl rfl
theorem bodyE_pa {cdv : Value} {A : Around} {outer : List Env} {s : Shared} {H : Hp} {E : XK} : PassesOwn (model (bodyE P w K mg base N x st f cdv A outer s H E).prog (bodyE P w K mg base N x st f cdv A outer s H E).w) (bodyE P w K mg base N x st f cdv A outer s H E).A (bodyE P w K mg base N x st f cdv A outer s H E).env (bodyE P w K mg base N x st f cdv A outer s H E).xe := passes_of rfl
theorem ok_X {q : Str} {R : List D → D → Prop} {Fl : List D → Value → Prop} (F : FunD K x q (defArgs st) (defBody st) (defScope st) [] [] f fd) (S : FnScope N ps (defScope st)) (hn : ps.length = n)
    (body : ∀ (cdv : Value) (A : Around) (outer : List Env) (s : Shared) (H : Hp) (E : XK) (M : List Addr) (vs : List V) (ds : List D) (D' : Ends), Room k (bodyE P w K mg base N q st f cdv A outer s H E).A → ds.length = n →
      Sy K H M (ds.map (fun d => some (Sv.dat d)) ++ List.replicate (N.length - ds.length) none) [] (L2.start N vs) H →
      ((∃ d, R ds d ∧ (∀ v H', Ex H H' → Dp K (hid M H') v d → D'.rt v H') ∧ (d = .none → ∀ σ' H', Ex H H' → D'.nx σ' H')) ∨ ∃ cls, Fl ds cls ∧ ∀ H', Ex H H' → E cls none H') →
      tB (bodyE P w K mg base N q st f cdv A outer s H E) (defBody st) D' (L2.start N vs) H) : FnOk P w K mg base (CX P w) (k + 1) f fd ps (spX K n R Fl) := by
  refine F.ok S (fun vs H Q E h => ?_) (fun cdv A outer s H vs Q E hr h => ?_)
  · obtain ⟨M, ds, h1, h2, h3, _⟩ := h
    rw [h3.len, h1, hn]
  · obtain ⟨M, ds, h1, al, h3, h4⟩ := h
    refine ⟨_, pss_B, body cdv A outer s H E M vs ds _ hr h1 (sy_start al h3) ?_⟩
    rcases h4 with ⟨d, h5, h6⟩ | h4
    · exact .inl ⟨d, h5, fun v H' x p => h6 v H' x p, fun e σ' H' x => h6 .non H' x (by rw [e]; exact .non)⟩
    · exact .inr h4
end
theorem passE0 {X : Cx} : Passes (CX X.prog X.w) X E0 := fun _ _ _ _ _ _ _ c => by
  obtain ⟨_, _, _, _, _, _, _, _, _, _, _, _, h⟩ := c
  exact h.elim
section
variable {X : Cx} {M : List Addr} {σ : L2.St} {H : Hp} {d : D} {ds : List D} {k n : Nat} {x : Str} {ps : List Str} {R : List D → D → Prop} {Fl : List D → Value → Prop} {e : Expr} {es : List Expr} {p pos : Pos}
theorem jd_callX (F : Fd (CX X.prog X.w) X.prog X.w X.K X.mg X.base k x ps (spX X.K n R Fl)) (hr : Room k X.A) (ha : Ja X M (e :: es) σ H ds) (hl : ds.length = n) (hR : R ds d) (hg : Gl X x := by rfl) (hdb : (x == ("__debug__" : Str)) = false := by decide)
    (he : starEach (e :: es) X.env = (false, eval e X.env) :: starEach es X.env := by rfl) (hpl : (backTo pos (starEach es X.env)).any (·.1) = false := by rfl) : Jd X M (.Call (.Name x p) (e :: es) [] pos) σ H d := fun al H1 y Q q => by
  obtain ⟨f, fd, hm, hk, hb, ok⟩ := F.ex
  refine leW (pe_call (E := E0) ok hr hg hm hk hb .nil passE0 pa_A hdb he hpl) (ha al H1 y _ fun vs H2 z r => ?_)
  show spX X.K n R Fl (vs ++ []) H2 Q E0
  rw [List.append_nil]
  exact ⟨M, ds, hl, (al.ex y).ex z, r, .inl ⟨d, hR, fun v H3 u t => q v H3 (z.trans u) t⟩⟩
/-- .. it raises -/
theorem jx_call {E : XK} {cls : Value} {Q : VK} (F : Fd (CX X.prog X.w) X.prog X.w X.K X.mg X.base k x ps (spX X.K n R Fl)) (hr : Room k X.A) (tk : Takes X (fun cls d _ H => E cls d H)) (al : Al M H) (ha : Ja X M (e :: es) σ H ds) (hl : ds.length = n) (hF : Fl ds cls) (kE : ∀ H', Ex H H' → E cls none H')
    (hg : Gl X x := by rfl) (hdb : (x == ("__debug__" : Str)) = false := by decide) (he : starEach (e :: es) X.env = (false, eval e X.env) :: starEach es X.env := by rfl) (hpl : (backTo pos (starEach es X.env)).any (·.1) = false := by rfl) : tW X (.Call (.Name x p) (e :: es) [] pos) σ H Q := by
  obtain ⟨f, fd, hm, hk, hb, ok⟩ := F.ex
  refine leW (pe_call (E := E) ok hr hg hm hk hb .nil (passes_call tk fun _ _ _ _ h => h) pa_A hdb he hpl) (ha al H (Ex.refl H) _ fun vs H2 z r => ?_)
  show spX X.K n R Fl (vs ++ []) H2 Q E
  rw [List.append_nil]
  exact ⟨M, ds, hl, al.ex z, r, .inr ⟨cls, hF, fun H3 u => kE H3 (z.trans u)⟩⟩
end
section
variable {X : Cx} {B H : Hp} {M0 : List Addr} {ρ : Ro} {μ : Mu} {σ : L2.St} {d : D} {pos pos' : Pos} {e : Expr} {rest : List Stmt} {D' : Ends}
/-- an expression as a statement -/
theorem sy_expr (S : Sy X.K B M0 ρ μ σ H) (h : Jd X (adr M0 μ) e σ H d) (k : ∀ H', Sy X.K B M0 ρ μ σ H' → tB X rest D' σ H') (hs : swapsWith e none pos.line X.env = pure false := by rfl) : tB X (.Expr e pos :: rest) D' σ H :=
  tB_cons (ps_expr pe_W hs) (S.ev h fun v H' S' x p => k H' S')
theorem tB_exprX (h : tW X e σ H (fun _ H' => tB X rest D' σ H')) (hs : swapsWith e none pos.line X.env = pure false := by rfl) : tB X (.Expr e pos :: rest) D' σ H := tB_cons (ps_expr pe_W hs) h
theorem tB_raise {E : XK} {x m : Str} {j : Nat} {p p2 : Pos} {C : Addr} {newId initId : String} {bmB : List Value} {Bx : String} (Fx : ExcBaseFacts Bx newId initId bmB) (q : PySem.W.excIn X.K C bmB newId = true) (gC : X.mg x = some (.ref C)) (kC : PySem.W.keepIn X.K (.ref C) = true)
    (r : Raises X (.ref C)) (tk : Takes X (fun cls d _ H => E cls d H)) (h : E (.ref C) none H) (hc : X.calm = true := by rfl) (hg : Gl X x := by rfl) (hdb : (x == ("__debug__" : Str)) = false := by decide) : tB X (.Raise (some (.Call (.Name x p) [.Constant (.str m) j p2] [] pos)) none pos' :: rest) D' σ H :=
  tB_cons (ps_raise hc tk (pmk_own Fx q gC kC r hg hdb)) h
/-- .. of one's own class below ValueError -/
theorem tB_raiseV {E : XK} {x m : Str} {j : Nat} {p p2 : Pos} {C : Addr} (gx : PySem.W.excIn X.K C He.veBase "ValueError.__new__" = true ∧ PySem.W.keepIn X.K (.ref C) = true ∧ PySem.W.subIn X.K (.ref C) (.type "BaseException") = some true ∧ PySem.W.typeIn X.K (.ref C) = some (.type "type")) (gC : X.mg x = some (.ref C))
    (tk : Takes X (fun cls d _ H => E cls d H)) (h : E (.ref C) none H) (hc : X.calm = true := by rfl) (hg : Gl X x := by rfl) (hdb : (x == ("__debug__" : Str)) = false := by decide) : tB X (.Raise (some (.Call (.Name x p) [.Constant (.str m) j p2] [] pos)) none pos' :: rest) D' σ H :=
  tB_raise PySem.F.excBase_ValueError gx.1 gC gx.2.1 (raises_own gx.2.2.1 gx.2.2.2) tk h hc hg hdb
end
end J

set_option maxHeartbeats 4000000
/-! J6: objects that change. -/
namespace J
open PySem PySem.Spec PyProof.Rows L2 Evl RZ
section
variable {K : PySem.W.Frag} {B B' H H1 H2 : Hp} {M0 : List Addr} {ρ : Ro} {μ : Mu} {σ : L2.St} {d : D} {v : V}
theorem adr_set {i : Nat} {a : Addr} {m m' : Mo} (h : μ[i]? = some (a, m)) : adr M0 (μ.set i (a, m')) = adr M0 μ := by
  have hm : (μ.map (·.1))[i]? = some a := by rw [List.getElem?_map, h]; rfl
  unfold adr
  rw [List.map_set]
  congr 1
  refine List.ext_getElem? fun j => ?_
  by_cases hj : i = j
  · subst hj
    rw [hm, List.getElem?_set_self (List.getElem?_eq_some_iff.mp hm).1]
  · rw [List.getElem?_set_ne hj]
theorem Sy.own (S : Sy K B M0 ρ μ σ H) {i : Nat} {a : Addr} {m : Mo} (h : μ[i]? = some (a, m)) : m.holds K (hid (adr M0 μ) H) H a := S.ob _ (List.mem_of_getElem? h)
theorem Sy.inA {i : Nat} {a : Addr} {m : Mo} (h : μ[i]? = some (a, m)) : a ∈ adr M0 μ := List.mem_append_left _ (List.mem_map.mpr ⟨_, List.mem_of_getElem? h, rfl⟩)
theorem Sy.apart (S : Sy K B M0 ρ μ σ H) {i j : Nat} {a b : Addr} {m n : Mo} (h : μ[i]? = some (a, m)) (h2 : μ[j]? = some (b, n)) (hij : i ≠ j) : b ≠ a := fun e => by
  have h3 : (μ.map (·.1))[i]? = some a := by rw [List.getElem?_map, h]; rfl
  have h4 : (μ.map (·.1))[j]? = some a := by rw [List.getElem?_map, h2, ← e]; rfl
  exact hij ((List.getElem?_inj (List.getElem?_eq_some_iff.mp h3).1 S.dj.1).mp (h3.trans h4.symm))
/-- one of them changes -/
theorem Sy.upd (S : Sy K B M0 ρ μ σ H) {i : Nat} {a : Addr} {m : Mo} {o : HO} (m' : Mo) (h : μ[i]? = some (a, m)) (ho : m'.holds K (hid (adr M0 μ) H) (L2.upd H a o) a) : Sy K B M0 ρ (μ.set i (a, m')) σ (L2.upd H a o) := by
  have e : adr M0 (μ.set i (a, m')) = adr M0 μ := adr_set h
  have e2 : hid (adr M0 μ) (L2.upd H a o) = hid (adr M0 μ) H := hid_upd (Sy.inA h)
  have hi : i < μ.length := (List.getElem?_eq_some_iff.mp h).1
  have hmap : (μ.set i (a, m')).map (·.1) = μ.map (·.1) := List.append_cancel_right (show _ ++ M0 = _ ++ M0 from e)
  have mem : ∀ p ∈ μ.set i (a, m'), ∃ q ∈ μ, p.1 = q.1 := fun p hp => by
    have : p.1 ∈ (μ.set i (a, m')).map (·.1) := List.mem_map.mpr ⟨p, hp, rfl⟩
    rw [hmap] at this
    obtain ⟨q, hq, e⟩ := List.mem_map.mp this
    exact ⟨q, hq, e.symm⟩
  refine ⟨fun j s hj => ?_, S.ln, fun p hp => ?_, S.al.upd, fun b u hb => ?_, fun p hp => ?_, ?_⟩
  · rw [e, e2]; exact S.sl j s hj
  · rw [e, e2]
    obtain ⟨j, hj⟩ := List.mem_iff_getElem?.mp hp
    by_cases hji : j = i
    · subst hji
      rw [List.getElem?_set_self hi] at hj
      cases hj
      exact ho
    · rw [List.getElem?_set_ne (Ne.symm hji)] at hj
      refine (S.ob p (List.mem_of_getElem? hj)).mono (Ex.refl _) (upd_ne ?_)
      exact S.apart h (b := p.1) (n := p.2) hj (Ne.symm hji)
  · rw [upd_ne fun z => ?_]
    · exact S.bs b u hb
    · rw [z, S.nb _ (List.mem_of_getElem? h)] at hb; cases hb
  · obtain ⟨q, hq, z⟩ := mem p hp
    rw [z]; exact S.nb q hq
  · rw [hmap]
    refine ⟨S.dj.1, fun p hp => ?_⟩
    obtain ⟨q, hq, z⟩ := mem p hp
    rw [z]; exact S.dj.2 q hq
/-- a new one -/
theorem Sy.newN (S : Sy K B M0 ρ μ σ H1) {a : Addr} (m : Mo) (x : Ex H1 H2) (hn : H1 a = none) (ho : m.holds K (hid (a :: adr M0 μ) H2) H2 a) : Sy K B M0 ρ ((a, m) :: μ) σ H2 := by
  have hM : a ∉ adr M0 μ := S.all.out hn
  have up : Ex (hid (adr M0 μ) H1) (hid (a :: adr M0 μ) H2) := fun b o h => by
    by_cases hb : b ∈ adr M0 μ
    · rw [hid_in hb] at h; cases h
    · rw [hid_out hb] at h
      rw [hid_out fun z => ?_]
      · exact x _ _ h
      · rcases List.mem_cons.mp z with z | z
        · rw [z, hn] at h; cases h
        · exact hb z
  refine ⟨fun j s hj => let ⟨v, h1, h2⟩ := S.sl j s hj; ⟨v, h1, h2.ex up⟩, S.ln, fun p hp => ?_, S.al.ex x, S.bs.trans x, fun p hp => ?_, ?_⟩
  · rcases List.mem_cons.mp hp with rfl | hp
    · exact ho
    · obtain ⟨o, q⟩ := (S.ob p hp).some
      exact (S.ob p hp).mono up ((x _ _ q).trans q.symm)
  · rcases List.mem_cons.mp hp with rfl | hp
    · cases q : B a with
      | none => rfl
      | some o => exact absurd ((S.bs _ _ q).symm.trans hn) (by simp)
    · exact S.nb p hp
  · refine ⟨List.nodup_cons.mpr ⟨fun z => hM (List.mem_append_left _ z), S.dj.1⟩, fun p hp => ?_⟩
    rcases List.mem_cons.mp hp with rfl | hp
    · exact fun z => hM (List.mem_append_right _ z)
    · exact S.dj.2 p hp
/-- told in another sequence -/
theorem Sy.perm {μ' : Mu} (S : Sy K B M0 ρ μ σ H) (p : μ'.Perm μ) : Sy K B M0 ρ μ' σ H := by
  have e : hid (adr M0 μ') H = hid (adr M0 μ) H := by
    have : ∀ a, a ∈ adr M0 μ' ↔ a ∈ adr M0 μ := fun a => by
      unfold adr
      rw [List.mem_append, List.mem_append, (p.map (·.1)).mem_iff]
    funext a
    unfold hid
    by_cases h : a ∈ adr M0 μ
    · rw [if_pos h, if_pos ((this a).mpr h)]
    · rw [if_neg h, if_neg fun z => h ((this a).mp z)]
  exact ⟨by rw [e]; exact S.sl, S.ln, fun q hq => by rw [e]; exact S.ob q (p.mem_iff.mp hq), S.al, S.bs, fun q hq => S.nb q (p.mem_iff.mp hq), (p.map (·.1)).nodup_iff.mpr S.dj.1, fun q hq => S.dj.2 q (p.mem_iff.mp hq)⟩
/-- one is not ours any more -/
theorem Sy.drop1 {a : Addr} {m : Mo} (S : Sy K B M0 ρ ((a, m) :: μ) σ H) : Sy K B (M0) ρ μ σ H := by
  have sub : ∀ b ∈ adr M0 μ, b ∈ adr M0 ((a, m) :: μ) := fun b hb => List.mem_cons_of_mem _ hb
  exact ⟨fun i s h => let ⟨v, x, y⟩ := S.sl i s h; ⟨v, x, y.ex (hid_sub sub)⟩, S.ln, fun p hp => (S.ob p (List.mem_cons_of_mem _ hp)).mono (hid_sub sub) rfl, S.al, S.bs, fun p hp => S.nb p (List.mem_cons_of_mem _ hp), (List.nodup_cons.mp S.dj.1).2, fun p hp => S.dj.2 p (List.mem_cons_of_mem _ hp)⟩

/-! ### data in which no list stands, when a list is hidden -/
mutual
def noL : D → Bool
  | .list _ => false
  | .tuple ds => noLs ds
  | .dict _ => false
  | _ => true
def noLs : List D → Bool
  | [] => true
  | d :: ds => noL d && noLs ds
end
theorem sqT_hid {G : Hp} {M M' : List Addr} {a t : Addr} {xs vs : List V} (ha : H a = some (.lst vs)) (hM : ∀ b ∈ M, b = a ∨ b ∈ M') (h : SqT K (hid M' H) t xs) : SqT K (hid M H) t xs := by
  rcases h with (h | ⟨o, h⟩) | h
  · refine .inl (.inl ?_)
    by_cases ht : t ∈ M'
    · rw [hid_in ht] at h; cases h
    · rw [hid_out ht] at h
      rw [hid_out fun z => ?_]
      · exact h
      · rcases hM t z with z | z
        · rw [z, ha] at h; cases h
        · exact ht z
  · refine .inl (.inr ⟨o, ?_⟩)
    by_cases ht : t ∈ M'
    · rw [hid_in ht] at h; cases h
    · rw [hid_out ht] at h
      rw [hid_out fun z => ?_]
      · exact h
      · rcases hM t z with z | z
        · rw [z, ha] at h; cases h
        · exact ht z
  · exact .inr h
mutual
theorem dp_hid {M M' : List Addr} {a : Addr} {vs : List V} (ha : H a = some (.lst vs)) (hM : ∀ b ∈ M, b = a ∨ b ∈ M') : ∀ (d : D) (v : V), noL d = true → Dp K (hid M' H) v d → Dp K (hid M H) v d
  | .none, _, _, h => by cases h; exact .non
  | .bool b, _, _, h => by cases h; exact .bl b
  | .int i, _, _, h => by cases h; exact .int i
  | .str x, _, _, h => by cases h; exact .str x
  | .list ds, _, n, _ => by simp [noL] at n
  | .tuple ds, _, n, h => by cases h with | tup x y => exact .tup (sqT_hid (G := H) ha hM x) (dp_hidA ha hM ds _ (by simpa [noL] using n) y)
  | .dict _, _, n, _ => by simp [noL] at n
theorem dp_hidA {M M' : List Addr} {a : Addr} {vs : List V} (ha : H a = some (.lst vs)) (hM : ∀ b ∈ M, b = a ∨ b ∈ M') : ∀ (ds : List D) (ws : List V), noLs ds = true → DpAll K (hid M' H) ws ds → DpAll K (hid M H) ws ds
  | [], _, _, h => by cases h; exact .nil
  | d :: ds, _, n, h => by
    have n2 : noL d = true ∧ noLs ds = true := by simpa [noLs] using n
    cases h with | cons x y => exact .cons (dp_hid ha hM d _ n2.1 x) (dp_hidA ha hM ds _ n2.2 y)
end
/-- one's own list, looked at as a datum -/
theorem Sy.frz (S : Sy K B M0 ρ μ σ H) (n i : Nat) {a : Addr} {ds : List D} (hn : ρ[n]? = some (some (.val (.ref a)))) (hi : μ[i]? = some (a, .lst (ds.map .dat))) : Sy K B M0 (ρ.set n (some (.dat (.list ds)))) (μ.eraseIdx i) σ H := by
  have sub : ∀ b ∈ adr M0 (μ.eraseIdx i), b ∈ adr M0 μ := fun b hb => by
    rcases List.mem_append.mp hb with z | z
    · obtain ⟨p, hp, e⟩ := List.mem_map.mp z
      exact List.mem_append_left _ (List.mem_map.mpr ⟨p, List.mem_of_mem_eraseIdx hp, e⟩)
    · exact List.mem_append_right _ z
  have up := hid_sub (H := H) sub
  have hl : n < ρ.length := (List.getElem?_eq_some_iff.mp hn).1
  have nin : a ∉ adr M0 (μ.eraseIdx i) := fun z => by
    rcases List.mem_append.mp z with z | z
    · obtain ⟨p, hp, e⟩ := List.mem_map.mp z
      obtain ⟨j, hj, hp2⟩ := List.mem_eraseIdx_iff_getElem?.mp hp
      exact S.apart hi (b := p.1) (n := p.2) hp2 (Ne.symm hj) e
    · exact S.dj.2 _ (List.mem_of_getElem? hi) z
  obtain ⟨vs, h1, h2⟩ := S.own hi
  refine ⟨fun j s hj => ?_, by rw [List.length_set]; exact S.ln, fun p hp => (S.ob p (List.mem_of_mem_eraseIdx hp)).mono up rfl, S.al, S.bs, fun p hp => S.nb p (List.mem_of_mem_eraseIdx hp), ?_, fun p hp => S.dj.2 p (List.mem_of_mem_eraseIdx hp)⟩
  · by_cases hjn : j = n
    · subst hjn
      rw [List.getElem?_set_self hl] at hj
      cases hj
      obtain ⟨v, q1, q2⟩ := S.sl _ _ hn
      have q2 : v = .ref a := q2
      refine ⟨v, q1, ?_⟩
      rw [q2]
      have all : ∀ {ds : List D} {vs : List V}, Paired (fun s v => Sv.holds K (hid (adr M0 μ) H) s v) (ds.map .dat) vs → DpAll K (hid (adr M0 (μ.eraseIdx i)) H) vs ds := fun {ds} => by
        induction ds with
        | nil => intro vs h; cases h; exact .nil
        | cons d ds ih => intro vs h; cases h with | cons x y => exact .cons (Dp.ex x up) (ih y)
      exact .lst (SqL.of (by rw [hid_out nin]; exact h1)) (all h2)
    · rw [List.getElem?_set_ne (Ne.symm hjn)] at hj
      obtain ⟨v, q1, q2⟩ := S.sl _ _ hj
      exact ⟨v, q1, q2.ex up⟩
  · refine List.Nodup.sublist ((List.eraseIdx_sublist _ _).map _) S.dj.1
end
section
variable {X : Cx} {B H : Hp} {M0 : List Addr} {ρ : Ro} {μ : Mu} {σ : L2.St} {d : D} {pos : Pos} {e : Expr}
theorem Jd.thaw {a : Addr} {m : Mo} {vs : List V} {i : Nat} (h : Jd X (adr M0 (μ.eraseIdx i)) e σ H d) (hi : μ[i]? = some (a, m)) (ha : H a = some (.lst vs)) (hd : noL d = true) : Jd X (adr M0 μ) e σ H d := fun al H1 x Q q => by
  have hM : ∀ b ∈ adr M0 μ, b = a ∨ b ∈ adr M0 (μ.eraseIdx i) := fun b hb => by
    rcases List.mem_append.mp hb with z | z
    · obtain ⟨p, hp, e⟩ := List.mem_map.mp z
      obtain ⟨j, hj⟩ := List.mem_iff_getElem?.mp hp
      by_cases hji : j = i
      · subst hji
        rw [hi] at hj
        cases hj
        exact .inl e.symm
      · exact .inr (List.mem_append_left _ (List.mem_map.mpr ⟨p, List.mem_eraseIdx_iff_getElem?.mpr ⟨j, hji, hj⟩, e⟩))
    · exact .inr (List.mem_append_right _ z)
  have sub : ∀ b ∈ adr M0 (μ.eraseIdx i), b ∈ adr M0 μ := fun b hb => by
    rcases List.mem_append.mp hb with z | z
    · obtain ⟨p, hp, e⟩ := List.mem_map.mp z
      exact List.mem_append_left _ (List.mem_map.mpr ⟨p, List.mem_of_mem_eraseIdx hp, e⟩)
    · exact List.mem_append_right _ z
  exact h (fun b hb => al b (sub b hb)) H1 x Q fun v H2 y p => q v H2 y (dp_hid (y _ _ (x _ _ ha)) hM d v hd p)
theorem Jt.thaw {i : Nat} {b : Bool} (h : Jt X (adr M0 (μ.eraseIdx i)) e σ H b) : Jt X (adr M0 μ) e σ H b := fun al H1 x Q q => by
  have sub : ∀ b ∈ adr M0 (μ.eraseIdx i), b ∈ adr M0 μ := fun b hb => by
    rcases List.mem_append.mp hb with z | z
    · obtain ⟨p, hp, e⟩ := List.mem_map.mp z
      exact List.mem_append_left _ (List.mem_map.mpr ⟨p, List.mem_of_mem_eraseIdx hp, e⟩)
    · exact List.mem_append_right _ z
  exact h (fun b hb => al b (sub b hb)) H1 x Q q
end
end J

set_option maxHeartbeats 4000000
/-! J7: values that need not be data; frames; promises of defs that change objects. -/
namespace J
open PySem PySem.Spec PyProof.Rows L2 Evl RZ
def Js (X : Cx) (M : List Addr) (e : Expr) (σ : L2.St) (H : Hp) (s : Sv) : Prop := Al M H → ∀ H1, Ex H H1 → ∀ Q : VK, (∀ v H2, Ex H1 H2 → s.holds X.K (hid M H2) v → Q v H2) → tW X e σ H1 Q
def Jsa (X : Cx) (M : List Addr) (es : List Expr) (σ : L2.St) (H : Hp) (ss : List Sv) : Prop := Al M H → ∀ H1, Ex H H1 → ∀ Q : List V → Hp → Prop, (∀ vs H2, Ex H1 H2 → Paired (fun s v => Sv.holds X.K (hid M H2) s v) ss vs → Q vs H2) → tA X es σ H1 Q
section
variable {X : Cx} {M : List Addr} {σ : L2.St} {H : Hp} {e a b : Expr} {es : List Expr} {d : D} {v : V} {s : Sv} {ss : List Sv} {pos : Pos}
theorem Jd.js (h : Jd X M e σ H d) : Js X M e σ H (.dat d) := h
theorem Jv.js (h : Jv X e σ H v) : Js X M e σ H (.val v) := fun _ H1 x Q q => h H1 x Q fun H2 y => q v H2 y rfl
theorem jsa_nil : Jsa X M [] σ H [] := fun _ H1 _ Q q => leA pa_nil (q [] H1 (Ex.refl H1) .nil)
theorem jsa_cons (ha : Js X M e σ H s) (hr : Jsa X M es σ H ss) (hs : starEach (e :: es) X.env = (false, eval e X.env) :: starEach es X.env := by rfl) : Jsa X M (e :: es) σ H (s :: ss) := fun al H1 x Q q =>
  leA (pa_cons pe_W pa_A hs) (ha al H1 x _ fun v H2 y p => hr al H2 (x.trans y) _ fun vs H3 z r => q _ H3 (y.trans z) (.cons (p.ex (hid_ex z)) r))
end
section
variable {K : PySem.W.Frag} {B B' H H1 H2 H' : Hp} {M0 : List Addr} {ρ ρ' : Ro} {μ μ1 μ2 μ1' : Mu} {σ σ' : L2.St} {d : D} {v : V}
theorem adr_app : adr (adr M0 μ2) μ1 = adr M0 (μ1 ++ μ2) := by unfold adr; rw [List.map_append, List.append_assoc]
/-- some of the objects, the others stand by -/
theorem Sy.split (S : Sy K B M0 ρ (μ1 ++ μ2) σ H) : Sy K (J.grd μ1 H) (adr M0 μ2) ρ μ1 σ H := by
  have e : adr (adr M0 μ2) μ1 = adr M0 (μ1 ++ μ2) := adr_app
  have nd := S.dj.1
  rw [List.map_append] at nd
  refine ⟨by rw [e]; exact S.sl, S.ln, fun p hp => by rw [e]; exact S.ob p (List.mem_append_left _ hp), fun a ha => S.all a (by rw [← e]; exact List.mem_append_right _ ha), hid_le, fun p hp => hid_in (List.mem_map.mpr ⟨p, hp, rfl⟩), (List.nodup_append.mp nd).1, fun p hp z => ?_⟩
  rcases List.mem_append.mp z with z | z
  · exact (List.nodup_append.mp nd).2.2 _ (List.mem_map.mpr ⟨p, hp, rfl⟩) _ z rfl
  · exact S.dj.2 p (List.mem_append_left _ hp) z
theorem Sy.up2 (S' : Sy K (J.grd μ1 H) (adr M0 μ2) ρ' μ1' σ' H') : Ex (hid (adr M0 (μ1 ++ μ2)) H) (hid (adr M0 (μ1' ++ μ2)) H') := by
  have h := S'.low
  rw [adr_app] at h
  have e : hid (adr M0 μ2) (J.grd μ1 H) = hid (adr M0 (μ1 ++ μ2)) H := by
    unfold J.grd
    rw [hid_app]
    unfold adr
    rw [List.map_append, List.append_assoc]
  rw [e] at h
  exact h
theorem Sy.joinX (S : Sy K B M0 ρ (μ1 ++ μ2) σ H) (S' : Sy K (J.grd μ1 H) (adr M0 μ2) ρ' μ1' σ' H') : Sy K B M0 ρ' (μ1' ++ μ2) σ' H' := by
  have e : adr (adr M0 μ2) μ1' = adr M0 (μ1' ++ μ2) := adr_app
  have up := S'.up2
  have nd := S.dj.1
  rw [List.map_append] at nd
  have gB : Ex B (J.grd μ1 H) := fun a o h => by
    have hn : a ∉ μ1.map (·.1) := fun z => by
      obtain ⟨p, hp, q⟩ := List.mem_map.mp z
      rw [← q, S.nb p (List.mem_append_left _ hp)] at h; cases h
    show hid (μ1.map (·.1)) H a = some o
    rw [hid_out hn]
    exact S.bs a o h
  refine ⟨by rw [← e]; exact S'.sl, S'.ln, fun p hp => ?_, fun a ha => S'.al a (List.mem_append_right _ ha), gB.trans S'.bs, fun p hp => ?_, ?_, fun p hp => ?_⟩
  · rcases List.mem_append.mp hp with hp | hp
    · rw [← e]; exact S'.ob p hp
    · obtain ⟨o, q⟩ := (S.ob p (List.mem_append_right _ hp)).some
      have hn : p.1 ∉ μ1.map (·.1) := fun z => (List.nodup_append.mp nd).2.2 _ z _ (List.mem_map.mpr ⟨p, hp, rfl⟩) rfl
      exact (S.ob p (List.mem_append_right _ hp)).mono up ((S'.bs _ _ (show hid (μ1.map (·.1)) H p.1 = some o by rw [hid_out hn]; exact q)).trans q.symm)
  · rcases List.mem_append.mp hp with hp | hp
    · cases q : B p.1 with
      | none => rfl
      | some o => exact absurd ((gB _ _ q).symm.trans (S'.nb p hp)) (by simp)
    · exact S.nb p (List.mem_append_right _ hp)
  · rw [List.map_append]
    refine List.nodup_append.mpr ⟨S'.dj.1, (List.nodup_append.mp nd).2.1, fun x hx y hy z => ?_⟩
    obtain ⟨p, hp, rfl⟩ := List.mem_map.mp hx
    exact S'.dj.2 p hp (List.mem_append_left _ (z ▸ hy))
  · rcases List.mem_append.mp hp with hp | hp
    · exact fun z => S'.dj.2 p hp (List.mem_append_right _ z)
    · exact S.dj.2 p (List.mem_append_right _ hp)
theorem Sy.keep (S : Sy K B M0 ρ (μ1 ++ μ2) σ H) (S' : Sy K (J.grd μ1 H) (adr M0 μ2) ρ' μ1' σ' H') : Sy K B M0 ρ (μ1' ++ μ2) σ H' := by
  have J := S.joinX S'
  exact ⟨fun i s h => let ⟨v, x, y⟩ := S.sl i s h; ⟨v, x, y.ex S'.up2⟩, S.ln, J.ob, J.al, J.bs, J.nb, J.dj⟩
/-- other slots over the same objects -/
theorem Sy.reslot (S : Sy K B M0 ρ μ σ H) (hl : ρ'.length = σ'.length) (h : ∀ (i : Nat) (s : Sv), ρ'[i]? = some (some s) → ∃ v, σ'[i]? = some (some v) ∧ s.holds K (hid (adr M0 μ) H) v) : Sy K B M0 ρ' μ σ' H :=
  ⟨h, hl, S.ob, S.al, S.bs, S.nb, S.dj⟩
theorem Sy.args {ss : List Sv} {vs : List V} (S : Sy K B M0 ρ μ σ H) (p : Paired (fun s v => Sv.holds K (hid (adr M0 μ) H) s v) ss vs) : Sy K B M0 (ss.map some) μ (vs.map some) H :=
  S.reslot (by rw [List.length_map, List.length_map, paired_len p]) fun i s h => by
    rw [List.getElem?_map] at h
    obtain ⟨t, h1, h2⟩ := Option.map_eq_some_iff.mp h
    cases h2
    obtain ⟨v, h3, h4⟩ := paired_get p h1
    exact ⟨v, by rw [List.getElem?_map, h3]; rfl, h4⟩
theorem Sy.one {s : Sv} (S : Sy K B M0 ρ μ σ H) (p : s.holds K (hid (adr M0 μ) H) v) : Sy K B M0 [some s] μ [some v] H := Sy.args (ss := [s]) (vs := [v]) S (.cons p .nil)
theorem Sy.the {s : Sv} (S : Sy K B M0 [some s] μ [some v] H) : s.holds K (hid (adr M0 μ) H) v := by
  obtain ⟨w, h1, h2⟩ := S.sl 0 s rfl
  cases h1
  exact h2
end

/-! ### promises -/
/-- objects may change: Pre, what is asked; R, what comes of it; Fl, which exceptions may come out -/
def spM (K : PySem.W.Frag) (n : Nat) (Pre : List Sv → Mu → Prop) (R : List Sv → Mu → Sv → Mu → Prop) (Fl : List Sv → Mu → Value → Prop) : Sp := fun vs H Q E => ∃ (B : Hp) (M0 : List Addr) (ss : List Sv) (μ : Mu), ss.length = n ∧ Pre ss μ ∧ Sy K B M0 (ss.map some) μ (vs.map some) H ∧
  (∀ v s μ' H', R ss μ s μ' → Sy K B M0 [some s] μ' [some v] H' → Q v H') ∧ ∀ cls H', Fl ss μ cls → Ex B H' → E cls none H'
def noF : List Sv → Mu → Value → Prop := fun _ _ _ => False
section
variable {P : Program} {w : World} {K : PySem.W.Frag} {mg : Str → Option Value} {base : Heap} {x : Str} {st : Stmt} {f : Addr} {fd : FuncData} {N ps : List Str} {k n : Nat} {Pre : List Sv → Mu → Prop} {R : List Sv → Mu → Sv → Mu → Prop} {Fl : List Sv → Mu → Value → Prop}
theorem pad {B H : Hp} {M0 : List Addr} {μ : Mu} {ss : List Sv} {vs : List V} (S : Sy K B M0 (ss.map some) μ (vs.map some) H) : Sy K B M0 (ss.map some ++ List.replicate (N.length - ss.length) none) μ (L2.start N vs) H := by
  have hl : ss.length = vs.length := by have := S.ln; simpa using this
  refine S.reslot (by unfold L2.start; simp [hl]) fun i s h => ?_
  by_cases hi : i < ss.length
  · rw [List.getElem?_append_left (by simpa using hi)] at h
    obtain ⟨v, h1, h2⟩ := S.sl i s h
    refine ⟨v, ?_, h2⟩
    unfold L2.start
    rw [List.getElem?_append_left (by simpa using (by omega : i < vs.length)), h1]
  · rw [List.getElem?_append_right (by simpa using hi), List.getElem?_replicate] at h
    split at h <;> cases h
theorem ok_M {q : Str} (F : FunD K x q (defArgs st) (defBody st) (defScope st) [] [] f fd) (S : FnScope N ps (defScope st)) (hn : ps.length = n)
    (body : ∀ (cdv : Value) (A : Around) (outer : List Env) (s : Shared) (H : Hp) (E : XK) (B : Hp) (M0 : List Addr) (vs : List V) (ss : List Sv) (μ : Mu) (D' : Ends), Room k (bodyX P w K mg base N q st f cdv A outer s H E).A → ss.length = n → Pre ss μ →
      Sy K B M0 (ss.map some ++ List.replicate (N.length - ss.length) none) μ (L2.start N vs) H → (∀ v s μ' H', R ss μ s μ' → Sy K B M0 [some s] μ' [some v] H' → D'.rt v H') → (∀ μ' σ' ρ' H', R ss μ (.dat .none) μ' → Sy K B M0 ρ' μ' σ' H' → D'.nx σ' H') →
      tB (bodyX P w K mg base N q st f cdv A outer s H E) (defBody st) D' (L2.start N vs) H) : FnOk P w K mg base CX0 (k + 1) f fd ps (spM K n Pre R Fl) := by
  refine F.ok S (fun vs H Q E h => ?_) (fun cdv A outer s H vs Q E hr h => ?_)
  · obtain ⟨B, M0, ss, μ, h1, _, h3, _⟩ := h
    have := h3.ln
    rw [List.length_map, List.length_map] at this
    omega
  · obtain ⟨B, M0, ss, μ, h1, h2, h3, h4, _⟩ := h
    exact ⟨_, PSs.nox pss_B, body cdv A outer s H E B M0 vs ss μ _ hr h1 h2 (pad h3) h4 fun μ' σ' ρ' H' hR S' => h4 .non _ _ H' hR (S'.one .non)⟩
theorem ok_MX {q : Str} (F : FunD K x q (defArgs st) (defBody st) (defScope st) [] [] f fd) (S : FnScope N ps (defScope st)) (hn : ps.length = n)
    (body : ∀ (cdv : Value) (A : Around) (outer : List Env) (s : Shared) (H : Hp) (E : XK) (B : Hp) (M0 : List Addr) (vs : List V) (ss : List Sv) (μ : Mu) (D' : Ends), Room k (bodyE P w K mg base N q st f cdv A outer s H E).A → ss.length = n → Pre ss μ →
      Sy K B M0 (ss.map some ++ List.replicate (N.length - ss.length) none) μ (L2.start N vs) H → (∀ v s μ' H', R ss μ s μ' → Sy K B M0 [some s] μ' [some v] H' → D'.rt v H') → (∀ μ' σ' ρ' H', R ss μ (.dat .none) μ' → Sy K B M0 ρ' μ' σ' H' → D'.nx σ' H') → (∀ cls H', Fl ss μ cls → Ex B H' → E cls none H') →
      tB (bodyE P w K mg base N q st f cdv A outer s H E) (defBody st) D' (L2.start N vs) H) : FnOk P w K mg base (CX P w) (k + 1) f fd ps (spM K n Pre R Fl) := by
  refine F.ok S (fun vs H Q E h => ?_) (fun cdv A outer s H vs Q E hr h => ?_)
  · obtain ⟨B, M0, ss, μ, h1, _, h3, _⟩ := h
    have := h3.ln
    rw [List.length_map, List.length_map] at this
    omega
  · obtain ⟨B, M0, ss, μ, h1, h2, h3, h4, h5⟩ := h
    exact ⟨_, pss_B, body cdv A outer s H E B M0 vs ss μ _ hr h1 h2 (pad h3) h4 (fun μ' σ' ρ' H' hR S' => h4 .non _ _ H' hR (S'.one .non)) h5⟩
end
section
variable {X : Cx} {B H : Hp} {M0 : List Addr} {ρ : Ro} {μ μ1 μ2 : Mu} {σ : L2.St} {d : D} {pos p : Pos} {e : Expr} {es : List Expr} {k n : Nat} {x : Str} {ps : List Str} {Pre : List Sv → Mu → Prop} {R : List Sv → Mu → Sv → Mu → Prop} {Fl : List Sv → Mu → Value → Prop} {ss : List Sv} {vs : List V}
/-- a callee's promise, of some of the objects -/
theorem callM (S : Sy X.K B M0 ρ (μ1 ++ μ2) σ H) (hv : Paired (fun s v => Sv.holds X.K (hid (adr M0 (μ1 ++ μ2)) H) s v) ss vs) (hn : ss.length = n) (hp : Pre ss μ1) {Q : VK} {E : XK}
    (k : ∀ v s μ1' H', R ss μ1 s μ1' → Sy X.K B M0 ρ (μ1' ++ μ2) σ H' → s.holds X.K (hid (adr M0 (μ1' ++ μ2)) H') v → Q v H') (kE : ∀ cls H', Fl ss μ1 cls → Ex (J.grd μ1 H) H' → E cls none H') : spM X.K n Pre R Fl vs H Q E := by
  refine ⟨J.grd μ1 H, adr M0 μ2, ss, μ1, hn, hp, ?_, fun v s μ' H' hR S' => ?_, fun cls H' hF x => kE cls H' hF x⟩
  · have := S.args hv
    exact this.split
  · have h := S'.the
    rw [adr_app] at h
    exact k v s μ' H' hR (S.keep S') h
theorem jm_callE {Q : VK} (F : Fd CX0 X.prog X.w X.K X.mg X.base k x ps (spM X.K n Pre R Fl)) (hr : Room k X.A) (ha : tA X (e :: es) σ H fun vs H2 => spM X.K n Pre R Fl vs H2 Q E0) (hg : Gl X x := by rfl) (hdb : (x == ("__debug__" : Str)) = false := by decide)
    (he : starEach (e :: es) X.env = (false, eval e X.env) :: starEach es X.env := by rfl) (hpl : (backTo pos (starEach es X.env)).any (·.1) = false := by rfl) : tW X (.Call (.Name x p) (e :: es) [] pos) σ H Q := by
  obtain ⟨f, fd, hm, hk, hb, ok⟩ := F.ex
  refine leW (pe_call (E := E0) ok hr hg hm hk hb .nil pass0 pa_A hdb he hpl) ?_
  have e : (fun vs H2 => spM X.K n Pre R Fl vs H2 Q E0) = fun vs H1 => spM X.K n Pre R Fl (vs ++ []) H1 Q E0 := by funext vs H2; rw [List.append_nil]
  rw [e] at ha
  exact ha
theorem jm_call {Q : VK} (S : Sy X.K B M0 ρ (μ1 ++ μ2) σ H) (F : Fd CX0 X.prog X.w X.K X.mg X.base k x ps (spM X.K n Pre R noF)) (hr : Room k X.A) (ha : Jsa X (adr M0 (μ1 ++ μ2)) (e :: es) σ H ss) (hn : ss.length = n) (hp : Pre ss μ1)
    (kk : ∀ v s μ1' H', R ss μ1 s μ1' → Sy X.K B M0 ρ (μ1' ++ μ2) σ H' → s.holds X.K (hid (adr M0 (μ1' ++ μ2)) H') v → Q v H') (hg : Gl X x := by rfl) (hdb : (x == ("__debug__" : Str)) = false := by decide)
    (he : starEach (e :: es) X.env = (false, eval e X.env) :: starEach es X.env := by rfl) (hpl : (backTo pos (starEach es X.env)).any (·.1) = false := by rfl) : tW X (.Call (.Name x p) (e :: es) [] pos) σ H Q :=
  jm_callE F hr (ha S.all H (Ex.refl H) _ fun vs H2 x2 pv => callM (S.ex x2) pv hn hp kk fun _ _ h => h.elim) hg hdb he hpl
end
end J

set_option maxHeartbeats 4000000
/-! J8: what is done with objects that change. -/
namespace J
open PySem PySem.Spec PyProof.Rows L2 Evl RZ
theorem tW_mono {X : Cx} {e : Expr} {σ : L2.St} {H : Hp} {Q Q' : VK} (h : tW X e σ H Q) (m : ∀ v H', Q v H' → Q' v H') : tW X e σ H Q' := fun pins s I => thn (h pins s I) fun _ _ ⟨v, H', I', r, q⟩ => ⟨v, H', I', r, m v H' q⟩
theorem tA_mono {X : Cx} {es : List Expr} {σ : L2.St} {H : Hp} {Q Q' : List V → Hp → Prop} (h : tA X es σ H Q) (m : ∀ v H', Q v H' → Q' v H') : tA X es σ H Q' := fun pos pins s I => thn (h pos pins s I) fun _ _ ⟨v, H', I', r, q⟩ => ⟨v, H', I', r, m v H' q⟩
/-! ### lookups -/
def lkS {κ : Type} [DecidableEq κ] (kvs : List (κ × Sv)) (k : κ) : Option Sv := (kvs.find? fun kv => decide (kv.1 = k)).map (·.2)
def putS {κ : Type} [DecidableEq κ] (kvs : List (κ × Sv)) (k : κ) (s : Sv) : List (κ × Sv) :=
  if (kvs.any fun kv => decide (kv.1 = k)) = true then kvs.map (fun kv => if kv.1 = k then (kv.1, s) else kv) else kvs ++ [(k, s)]
def putFS (f : Str) (s : Sv) : List (Str × Sv) → List (Str × Sv)
  | [] => [(f, s)]
  | (g, x) :: r => if g = f then (g, s) :: r else (g, x) :: putFS f s r
section
variable {K : PySem.W.Frag} {G : Hp}
abbrev PrK {κ : Type} (K : PySem.W.Frag) (G : Hp) : κ × Sv → κ × V → Prop := fun p q => p.1 = q.1 ∧ p.2.holds K G q.2
theorem prk_find {κ : Type} [DecidableEq κ] {k : κ} {s : Sv} : ∀ {kvs : List (κ × Sv)} {vs : List (κ × V)}, Paired (PrK K G) kvs vs → lkS kvs k = some s → ∃ v, (vs.find? fun kv => decide (kv.1 = k)).map (·.2) = some v ∧ s.holds K G v
  | _, _, .nil, h => by simp [lkS] at h
  | (g, x) :: r, (g2, y) :: r2, .cons a t, h => by
    obtain ⟨e, hx⟩ := a
    have e : g = g2 := e
    subst e
    by_cases hg : g = k
    · simp only [lkS, List.find?_cons, hg, decide_true, Option.map_some, Option.some.injEq] at h
      refine ⟨y, by simp [List.find?_cons, hg], ?_⟩
      rw [← h]; exact hx
    · obtain ⟨v, h1, h2⟩ := prk_find (k := k) (s := s) t (by simpa [lkS, List.find?_cons, hg] using h)
      exact ⟨v, by simpa [List.find?_cons, hg] using h1, h2⟩
theorem prk_look {s : Sv} {f : Str} : ∀ {kvs : List (Str × Sv)} {vs : List (Str × V)}, Paired (PrK K G) kvs vs → kvs.lookup f = some s → ∃ v, vs.lookup f = some v ∧ s.holds K G v
  | _, _, .nil, h => by simp at h
  | (g, x) :: r, (g2, y) :: r2, .cons a t, h => by
    obtain ⟨e, hx⟩ := a
    have e : g = g2 := e
    subst e
    cases hg : (f == g) with
    | true =>
      simp only [List.lookup, hg, Option.some.injEq] at h
      refine ⟨y, by simp [List.lookup, hg], ?_⟩
      rw [← h]; exact hx
    | false =>
      obtain ⟨v, h1, h2⟩ := prk_look (f := f) (s := s) t (by simpa [List.lookup, hg] using h)
      exact ⟨v, by simpa [List.lookup, hg] using h1, h2⟩
theorem prk_any {κ : Type} [DecidableEq κ] {k : κ} : ∀ {kvs : List (κ × Sv)} {vs : List (κ × V)}, Paired (PrK K G) kvs vs → (kvs.any fun kv => decide (kv.1 = k)) = vs.any fun kv => decide (kv.1 = k)
  | _, _, .nil => rfl
  | (g, x) :: r, (g2, y) :: r2, .cons a t => by
    have e : g = g2 := a.1
    subst e
    rw [List.any_cons, List.any_cons, prk_any t]
theorem prk_map {κ : Type} [DecidableEq κ] {k : κ} {s : Sv} {v : V} (h : s.holds K G v) : ∀ {kvs : List (κ × Sv)} {vs : List (κ × V)}, Paired (PrK K G) kvs vs → Paired (PrK K G) (kvs.map (fun kv => if kv.1 = k then (kv.1, s) else kv)) (vs.map (fun kv => if kv.1 = k then (kv.1, v) else kv))
  | _, _, .nil => .nil
  | (g, x) :: r, (g2, y) :: r2, .cons a t => by
    have e : g = g2 := a.1
    subst e
    refine .cons ?_ (prk_map h t)
    by_cases hg : g = k
    · show PrK K G (if g = k then (g, s) else (g, x)) (if g = k then (g, v) else (g, y))
      rw [if_pos hg, if_pos hg]; exact ⟨rfl, h⟩
    · show PrK K G (if g = k then (g, s) else (g, x)) (if g = k then (g, v) else (g, y))
      rw [if_neg hg, if_neg hg]; exact a
theorem prk_put {κ : Type} [DecidableEq κ] {k : κ} {s : Sv} {v : V} (h : s.holds K G v) {kvs : List (κ × Sv)} {vs : List (κ × V)} (p : Paired (PrK K G) kvs vs) : Paired (PrK K G) (putS kvs k s) (putK vs k v) := by
  unfold putS putK
  rw [prk_any p]
  split
  · exact prk_map h p
  · exact paired_app p (.cons ⟨rfl, h⟩ .nil)
theorem prk_putF {f : Str} {s : Sv} {v : V} (h : s.holds K G v) : ∀ {kvs : List (Str × Sv)} {vs : List (Str × V)}, Paired (PrK K G) kvs vs → Paired (PrK K G) (putFS f s kvs) (putF f v vs)
  | _, _, .nil => .cons ⟨rfl, h⟩ .nil
  | (g, x) :: r, (g2, y) :: r2, .cons a t => by
    have e : g = g2 := a.1
    subst e
    show Paired (PrK K G) (if g = f then (g, s) :: r else (g, x) :: putFS f s r) (if g = f then (g, v) :: r2 else (g, y) :: putF f v r2)
    by_cases hg : g = f
    · rw [if_pos hg, if_pos hg]; exact .cons ⟨rfl, h⟩ t
    · rw [if_neg hg, if_neg hg]; exact .cons a (prk_putF h t)
theorem paired_snoc {α β : Type} {F : α → β → Prop} : ∀ {xs : List α} {x : α} {vs : List β}, Paired F (xs ++ [x]) vs → ∃ ws w, vs = ws ++ [w] ∧ Paired F xs ws ∧ F x w
  | [], x, _, .cons a .nil => ⟨[], _, rfl, .nil, a⟩
  | y :: ys, x, _, .cons a t => by
    obtain ⟨ws, w, e, p, q⟩ := paired_snoc t
    exact ⟨_ :: ws, w, by rw [e]; rfl, .cons a p, q⟩
theorem paired_dat : ∀ {ds : List D} {vs : List V}, DpAll K G vs ds → Paired (fun s v => Sv.holds K G s v) (ds.map .dat) vs
  | [], _, h => by cases h; exact .nil
  | d :: ds, _, h => by cases h with | cons a b => exact .cons a (paired_dat b)
end
section
variable {X : Cx} {B H : Hp} {M0 : List Addr} {ρ : Ro} {μ μ' : Mu} {σ : L2.St} {d : D} {v : V} {pos pos' apos p : Pos} {e o b : Expr} {es : List Expr} {s : Sv} {ss : List Sv} {a C dx : Addr} {i : Nat} {fs : List (Str × Sv)} {kvs : List (Key × Sv)} {rest : List Stmt} {D' : Ends} {ds : List D}
theorem Sy.evS (S : Sy X.K B M0 ρ μ σ H) (h : Js X (adr M0 μ) e σ H s) {Q : VK} (k : ∀ v H', Sy X.K B M0 ρ μ σ H' → Ex H H' → s.holds X.K (hid (adr M0 μ) H') v → Q v H') : tW X e σ H Q :=
  h S.all H (Ex.refl H) Q fun v H' x p => k v H' (S.ex x) x p
theorem Sy.evV (S : Sy X.K B M0 ρ μ σ H) (h : Jv X e σ H v) {Q : VK} (k : ∀ H', Sy X.K B M0 ρ μ σ H' → Ex H H' → Q v H') : tW X e σ H Q :=
  h H (Ex.refl H) Q fun H' x => k H' (S.ex x) x
/-- x = e, e any -/
theorem sy_setE (n : Nat) {x : Str} {p' : Pos} (h : tW X e σ H fun v H' => tB X rest D' (σ.set n (some v)) H') (hN : X.N.Nodup) (hi : X.N[n]? = some x := by rfl)
    (hx : Loc X.env.scope x := by first | exact Or.inl rfl | exact Or.inr rfl) (hs : swapsWith e (some (.Name x p')) pos.line X.env = pure false := by rfl) (hf : X.fn x = true ∨ X.env.scope.names.lookup x = some .local := by first | exact .inl rfl | exact .inr rfl) :
    tB X (.Assign [.Name x p'] e pos :: rest) D' σ H := tB_cons (ps_set hN hi hx pe_W hs hf) h
theorem sy_retE (h : tW X e σ H D'.rt) : tB X (.Return (some e) pos :: rest) D' σ H := tB_cons (ps_ret pe_W) h
/-- x = a new list -/
theorem Sy.evN (S : Sy X.K B M0 ρ μ σ H) (h : Jn X (adr M0 μ) e σ H ds) {Q : VK} (k : ∀ a H', Sy X.K B M0 ρ ((a, .lst (ds.map .dat)) :: μ) σ H' → Q (.ref a) H') : tW X e σ H Q :=
  h S.all H (Ex.refl H) Q fun a vs H2 y hn ha p => k a H2 (S.newN (.lst (ds.map .dat)) y hn ⟨vs, ha, paired_dat p⟩)
/-- fields -/
theorem js_fld {f : Str} (S : Sy X.K B M0 ρ μ σ H) (he : Jv X e σ H (.ref a)) (hi : μ[i]? = some (a, .ins C dx fs)) (hf : fs.lookup f = some s) (c : Cls X.K C) (hn : NoAttr X.K C f) (hb : attributeBase e f X.env (eval e X.env) = eval e X.env := by rfl) : Js X (adr M0 μ) (.Attribute e f pos) σ H s := fun al H1 x Q q => by
  obtain ⟨vs, h1, h2⟩ := S.own hi
  obtain ⟨v, h3, h4⟩ := prk_look h2 hf
  exact leW (pe_fld pe_W hb) (he H1 x _ fun H2 y => ⟨a, C, dx, vs, v, rfl, (x.trans y) _ _ h1, c, hn, h3, q v H2 y (h4.ex (hid_ex (x.trans y)))⟩)
theorem sy_fldset {f : Str} (S : Sy X.K B M0 ρ μ σ H) (hv : Js X (adr M0 μ) e σ H s) (ho : Jv X o σ H (.ref a)) (hi : μ[i]? = some (a, .ins C dx fs)) (c : Cls X.K C) (hn : NoAttr X.K C f) (hl : fs.length < 1000) (k : ∀ H', Sy X.K B M0 ρ (μ.set i (a, .ins C dx (putFS f s fs))) σ H' → tB X rest D' σ H')
    (hs : swapsWith e (some (.Attribute o f pos')) pos.line X.env = pure false := by rfl) : tB X (.Assign [.Attribute o f pos'] e pos :: rest) D' σ H :=
  tB_cons (ps_fld pe_W pe_W hs) (S.evS hv fun v H1 S1 x1 p1 => S1.evV (ho.mono x1) fun H2 S2 x2 => by
    obtain ⟨vs, h1, h2⟩ := S2.own hi
    exact ⟨a, C, dx, vs, rfl, h1, c, hn, by rw [← paired_len h2]; exact hl, k _ (S2.upd _ hi ⟨_, upd_same, prk_putF (p1.ex (hid_ex x2)) h2⟩)⟩)
/-- d[x], x a text -/
theorem js_dget {x : Str} {j : Nat} {p2 : Pos} (hu : X.A.units + 1 < cLine) (S : Sy X.K B M0 ρ μ σ H) (he : Jv X e σ H (.ref a)) (hi : μ[i]? = some (a, .dct kvs)) (hf : lkS kvs (.inr x) = some s) (hs : NoSl (.Constant (.str x) j p2) := by intro _ _; rfl) : Js X (adr M0 μ) (.Subscript e (.Constant (.str x) j p2) pos) σ H s := fun al H1 y Q q => by
  obtain ⟨vs, h1, h2⟩ := S.own hi
  obtain ⟨v, h3, h4⟩ := prk_find h2 hf
  exact leW (pe_dget hu pe_W pe_str hs) (he H1 y _ fun H2 z => ⟨a, v, rfl, .inl ⟨vs, .inr x, .inl ((y.trans z) _ _ h1), rfl, h3.symm⟩, q v H2 z (h4.ex (hid_ex (y.trans z)))⟩)
theorem sy_dput {x : Str} {j : Nat} {p2 : Pos} (hu : X.A.units + 1 < cLine) (S : Sy X.K B M0 ρ μ σ H) (hv : Js X (adr M0 μ) e σ H s) (ho : Jv X o σ H (.ref a)) (hi : μ[i]? = some (a, .dct kvs)) (hl : kvs.length < 1000) (k : ∀ H', Sy X.K B M0 ρ (μ.set i (a, .dct (putS kvs (.inr x) s))) σ H' → tB X rest D' σ H')
    (hs : swapsWith e (some (.Subscript o (.Constant (.str x) j p2) pos')) pos.line X.env = pure false := by rfl) : tB X (.Assign [.Subscript o (.Constant (.str x) j p2) pos'] e pos :: rest) D' σ H :=
  tB_cons (ps_dput hu pe_W pe_str pe_W hs) (S.evS hv fun v H1 S1 x1 p1 => S1.evV (ho.mono x1) fun H2 S2 x2 => by
    obtain ⟨vs, h1, h2⟩ := S2.own hi
    exact ⟨a, _, rfl, .inl ⟨vs, .inr x, h1, rfl, by rw [← paired_len h2]; exact sz_lt (by omega), rfl⟩, k _ (S2.upd _ hi ⟨_, upd_same, prk_put (p1.ex (hid_ex x2)) h2⟩)⟩)
/-- .. the value made with effects: what is left is the store -/
theorem sy_dputE {x : Str} {j : Nat} {p2 : Pos} (hu : X.A.units + 1 < cLine) (h : tW X e σ H fun v H1 => ∃ (B : Hp) (M0 : List Addr) (ρ : Ro) (μ : Mu) (s : Sv) (i : Nat) (a : Addr) (kvs : List (Key × Sv)), Sy X.K B M0 ρ μ σ H1 ∧ s.holds X.K (hid (adr M0 μ) H1) v ∧ Jv X o σ H1 (.ref a) ∧ μ[i]? = some (a, .dct kvs) ∧ kvs.length < 1000 ∧
      ∀ H', Sy X.K B M0 ρ (μ.set i (a, .dct (putS kvs (.inr x) s))) σ H' → tB X rest D' σ H')
    (hs : swapsWith e (some (.Subscript o (.Constant (.str x) j p2) pos')) pos.line X.env = pure false := by rfl) : tB X (.Assign [.Subscript o (.Constant (.str x) j p2) pos'] e pos :: rest) D' σ H := by
  refine tB_cons (ps_dput hu pe_W pe_str pe_W hs) (tW_mono h ?_)
  rintro v H1 ⟨B, M0, ρ, μ, s, i, a, kvs, S1, p1, ho, hi, hl, k⟩
  refine S1.evV ho fun H2 S2 x2 => ?_
  obtain ⟨vs, h1, h2⟩ := S2.own hi
  exact ⟨a, _, rfl, .inl ⟨vs, .inr x, h1, rfl, by rw [← paired_len h2]; exact sz_lt (by omega), rfl⟩, k _ (S2.upd _ hi ⟨_, upd_same, prk_put (p1.ex (hid_ex x2)) h2⟩)⟩
/-- lists -/
theorem jm_pop {xs : List Sv} (S : Sy X.K B M0 ρ μ σ H) (ho : Jv X o σ H (.ref a)) (hi : μ[i]? = some (a, .lst (xs ++ [s]))) {Q : VK} (k : ∀ v H', Sy X.K B M0 ρ (μ.set i (a, .lst xs)) σ H' → s.holds X.K (hid (adr M0 (μ.set i (a, .lst xs))) H') v → Q v H')
    (hbase : attributeBase o "pop" X.env (eval o X.env) = eval o X.env := by rfl) (hline : (apos.endLine == pos.line) = true := by rfl) : tW X (.Call (.Attribute o "pop" apos) [] [] pos) σ H Q :=
  leW (pe_bm0 PySem.F.plainAttrs_list PySem.F.slot_list_pop PySem.F.type_list_pop mt_pop pe_W hbase hline) (S.evV ho fun H2 S2 x2 => by
    obtain ⟨vs, h1, h2⟩ := S2.own hi
    obtain ⟨ws, w, rfl, h3, h4⟩ := paired_snoc h2
    refine ⟨.inl ⟨rfl, _, .inl (.inl h1)⟩, a, ws ++ [w], w, rfl, rfl, h1, by simp, ?_⟩
    rw [List.dropLast_concat]
    refine k w _ (S2.upd _ hi ⟨ws, upd_same, h3⟩) ?_
    rw [adr_set hi, hid_upd (Sy.inA hi)]
    exact h4)
theorem jm_pop0 {xs : List Sv} {j : Nat} {p2 : Pos} (S : Sy X.K B M0 ρ μ σ H) (ho : Js X (adr M0 μ) o σ H (.val (.ref a))) (hi : μ[i]? = some (a, .lst (s :: xs))) (hl : xs.length < 1000000) {Q : VK} (k : ∀ v H', Sy X.K B M0 ρ (μ.set i (a, .lst xs)) σ H' → s.holds X.K (hid (adr M0 (μ.set i (a, .lst xs))) H') v → Q v H')
    (hbase : attributeBase o "pop" X.env (eval o X.env) = eval o X.env := by rfl)
    (hfew : ((backTo pos (starEach [.Constant (.int 0) j p2] X.env)).all (fun x => !x.1) && (backToKw pos (keywordEach [] X.env)).all (fun x => x.1.isSome)
      && decide (([.Constant (.int 0) j p2] : List Expr).length + ([] : List Keyword).length + (if ([] : List Keyword).isEmpty then 0 else 1) < 30)) = true := by rfl)
    (hline : (apos.endLine == pos.line) = true := by rfl) (hs : starEach [.Constant (.int 0) j p2] X.env = (false, eval (.Constant (.int 0) j p2) X.env) :: starEach [] X.env := by rfl) (hplain : (backTo pos (starEach [] X.env)).any (·.1) = false := by rfl) : tW X (.Call (.Attribute o "pop" apos) [.Constant (.int 0) j p2] [] pos) σ H Q :=
  leW (pe_bm PySem.F.plainAttrs_list PySem.F.slot_list_pop PySem.F.type_list_pop mt_popAt pe_W (pa_cons pe_int pa_nil hs) hbase hfew hline hs hplain) (S.evS ho fun u H2 S2 x2 pu => by
    have pu : u = .ref a := pu
    subst pu
    obtain ⟨vs, h1, h2⟩ := S2.own hi
    cases h2 with
    | @cons x w ys ws q1 q2 =>
      refine ⟨.inl ⟨rfl, _, .inl (.inl h1)⟩, a, w :: ws, 0, 0, w, rfl, rfl, h1, by decide, by decide, ?_, rfl, ?_⟩
      · have := paired_len q2
        unfold seqIndex?
        simp
      · show Q w (upd H2 a (.lst ((w :: ws).eraseIdx 0)))
        refine k w _ (S2.upd _ hi ⟨ws, upd_same, q2⟩) ?_
        rw [adr_set hi, hid_upd (Sy.inA hi)]
        exact q1)
end
end J

set_option maxHeartbeats 4000000
/-! J9: more of what is done with objects that change: stores, displays, instances, comprehensions with effects. -/
namespace J
open PySem PySem.Spec PyProof.Rows L2 Evl RZ
section
variable {X : Cx} {B H : Hp} {M0 : List Addr} {ρ : Ro} {μ μ' : Mu} {σ : L2.St} {d : D} {v : V} {pos pos' apos p : Pos} {e o b : Expr} {es : List Expr} {s : Sv} {ss : List Sv} {a C dx : Addr} {i : Nat} {fs : List (Str × Sv)} {kvs : List (Key × Sv)} {rest : List Stmt} {D' : Ends} {ds : List D}
/-- xs[n] = e -/
theorem sy_setIx {xs : List Sv} {n : Nat} {z : Int} (S : Sy X.K B M0 ρ μ σ H) (hv : Js X (adr M0 μ) e σ H s) (ho : Jv X o σ H (.ref a)) (hx : Jd X (adr M0 μ) b σ H (.int z)) (hi : μ[i]? = some (a, .lst xs)) (hz : z = (n : Int)) (hn : n < xs.length) (k : ∀ H', Sy X.K B M0 ρ (μ.set i (a, .lst (xs.set n s))) σ H' → tB X rest D' σ H')
    (ha : ∀ v, assign (.Subscript o b pos') X.env v = (do
      let ov ← holding [v] (eval o X.env)
      let iv ← holding [v, ov] (eval b X.env)
      standAt pos'
      holding [v, ov, iv] (setItem ov iv v)
      release [v, ov, iv] []) := by intro _; rfl)
    (hs : swapsWithSole [.Subscript o b pos'] e pos.line X.env = pure false := by rfl) (hw : swappedStores [.Subscript o b pos'] e X.env = pure none := by rfl) (h1 : (assignEach [.Subscript o b pos'] X.env).map (·.2) = [assign (.Subscript o b pos') X.env] := by rfl) : tB X (.Assign [.Subscript o b pos'] e pos :: rest) D' σ H :=
  tB_cons (ps_asg pe_W (pg_sub pe_W pe_W set_list ha) hs hw h1) (S.evS hv fun v H1 S1 x1 p1 => S1.evV (ho.mono x1) fun H2 S2 x2 => S2.ev (hx.mono (x1.trans x2) S.all) fun w H3 S3 x3 p3 => by
    obtain ⟨vs, h1, h2⟩ := S3.own hi
    have hl := paired_len h2
    refine ⟨a, vs, z, n, rfl, dInt p3, h1, ?_, k _ (S3.upd _ hi ⟨_, upd_same, paired_set (p1.ex (hid_ex (x2.trans x3))) h2⟩)⟩
    unfold ixN
    rw [hz, if_pos (Int.natCast_nonneg n), if_pos (by omega)]
    rfl)
/-- [e] as a new list; [e] * n -/
theorem jn_lst {M : List Addr} (h : Ja X M es σ H ds) (hz : ds.length ≤ 100000 := by first | (simp only [List.length_cons, List.length_nil]; omega) | omega | decide) : Jn X M (.List es pos) σ H ds := fun al H1 x Q q =>
  leW (pe_lst pa_A) (h al H1 x _ fun vs H2 y p => ⟨by rw [p.len]; exact sz_of hz, fun a ha => q a vs _ (y.trans (Ex.new ha)) (by
    cases z : H1 a with
    | none => rfl
    | some o => rw [y _ _ z] at ha; cases ha) upd_same (by rw [hid_new ha]; exact p)⟩)
theorem flat1 {α : Type} (n : Nat) (x : α) : (List.replicate n [x]).flatten = List.replicate n x := by
  induction n with
  | zero => rfl
  | succ n ih => rw [List.replicate_succ, List.flatten_cons, ih]; rfl
theorem jn_rep {M : List Addr} {z : Int} {d : D} (h : Ja X M es σ H [d]) (hb : Jd X M b σ H (.int z)) (h0 : 0 ≤ z) (hz : z ≤ 90000) : Jn X M (.BinOp (.List es pos') .Mult b pos) σ H (List.replicate z.toNat d) := fun al H1 x Q q =>
  leW (pe_op op_rep (pe_lst pa_A) pe_W) (h al H1 x _ fun vs H2 y p => by
    obtain ⟨v, rfl⟩ : ∃ v, vs = [v] := by
      have := p.len
      match vs, this with
      | [v], _ => exact ⟨v, rfl⟩
    refine ⟨sz_of (by simp), fun a ha => hb al _ ((x.trans y).trans (Ex.new ha)) _ fun w H3 u r => ?_⟩
    cases p with
    | cons pv pn =>
      obtain rfl := dInt r
      refine ⟨a, z, [v], rfl, rfl, u _ _ upd_same, by omega, by omega, sz_of (by simp; omega), fun c hc => ?_⟩
      rw [flat1]
      have e13 : Ex H2 H3 := (Ex.new ha).trans u
      refine q c _ _ ((y.trans e13).trans (Ex.new hc)) ?_ upd_same ?_
      · cases z' : H1 c with
        | none => rfl
        | some o => rw [e13 _ _ (y _ _ z')] at hc; cases hc
      · rw [hid_new hc]
        have pv3 : Dp X.K (hid M H3) v d := pv.ex (hid_ex e13)
        induction z.toNat with
        | zero => exact .nil
        | succ n ih => rw [List.replicate_succ, List.replicate_succ]; exact .cons pv3 ih)
/-- xs.append(e), xs.extend(a new list), as statements -/
theorem sy_app {xs : List Sv} (S : Sy X.K B M0 ρ μ σ H) (ho : Jv X o σ H (.ref a)) (hv : Js X (adr M0 μ) e σ H s) (hi : μ[i]? = some (a, .lst xs)) (hz : xs.length ≤ 90000) (k : ∀ H', Sy X.K B M0 ρ (μ.set i (a, .lst (xs ++ [s]))) σ H' → tB X rest D' σ H')
    (hsw : swapsWith (.Call (.Attribute o "append" apos) [e] [] pos) none pos'.line X.env = pure false := by rfl)
    (hbase : attributeBase o "append" X.env (eval o X.env) = eval o X.env := by rfl)
    (hfew : ((backTo pos (starEach [e] X.env)).all (fun x => !x.1) && (backToKw pos (keywordEach [] X.env)).all (fun x => x.1.isSome)
      && decide (([e] : List Expr).length + ([] : List Keyword).length + (if ([] : List Keyword).isEmpty then 0 else 1) < 30)) = true := by rfl)
    (hline : (apos.endLine == pos.line) = true := by rfl) (hs : starEach [e] X.env = (false, eval e X.env) :: starEach [] X.env := by rfl) (hplain : (backTo pos (starEach [] X.env)).any (·.1) = false := by rfl) : tB X (.Expr (.Call (.Attribute o "append" apos) [e] [] pos) pos' :: rest) D' σ H :=
  tB_exprX (leW (pe_bm PySem.F.plainAttrs_list PySem.F.slot_list_append PySem.F.type_list_append mt_append pe_W (pa_cons pe_W pa_nil hs) hbase hfew hline hs hplain) (S.evV ho fun H1 S1 x1 => by
    obtain ⟨vs, h1, h2⟩ := S1.own hi
    refine ⟨.inl ⟨rfl, _, .inl (.inl h1)⟩, ?_⟩
    refine hv S.all H1 x1 _ fun v H2 x2 p2 => ?_
    have S2 := S1.ex x2
    obtain ⟨vs, h1, h2⟩ := S2.own hi
    have hl := paired_len h2
    exact ⟨a, vs, v, rfl, rfl, h1, sz_lt (by omega), k _ (S2.upd _ hi ⟨_, upd_same, paired_app h2 (.cons p2 .nil)⟩)⟩)) hsw
theorem sy_ext {xs : List Sv} (S : Sy X.K B M0 ρ μ σ H) (ho : Jv X o σ H (.ref a)) (hv : Jn X (adr M0 μ) e σ H ds) (hi : μ[i]? = some (a, .lst xs)) (hz : xs.length + ds.length ≤ 90000) (k : ∀ H', Sy X.K B M0 ρ (μ.set i (a, .lst (xs ++ ds.map .dat))) σ H' → tB X rest D' σ H')
    (hsw : swapsWith (.Call (.Attribute o "extend" apos) [e] [] pos) none pos'.line X.env = pure false := by rfl)
    (hbase : attributeBase o "extend" X.env (eval o X.env) = eval o X.env := by rfl)
    (hfew : ((backTo pos (starEach [e] X.env)).all (fun x => !x.1) && (backToKw pos (keywordEach [] X.env)).all (fun x => x.1.isSome)
      && decide (([e] : List Expr).length + ([] : List Keyword).length + (if ([] : List Keyword).isEmpty then 0 else 1) < 30)) = true := by rfl)
    (hline : (apos.endLine == pos.line) = true := by rfl) (hs : starEach [e] X.env = (false, eval e X.env) :: starEach [] X.env := by rfl) (hplain : (backTo pos (starEach [] X.env)).any (·.1) = false := by rfl) : tB X (.Expr (.Call (.Attribute o "extend" apos) [e] [] pos) pos' :: rest) D' σ H :=
  tB_exprX (leW (pe_bm PySem.F.plainAttrs_list PySem.F.slot_list_extend PySem.F.type_list_extend mt_extend pe_W (pa_cons pe_W pa_nil hs) hbase hfew hline hs hplain) (S.evV ho fun H1 S1 x1 => by
    obtain ⟨vs, h1, h2⟩ := S1.own hi
    refine ⟨.inl ⟨rfl, _, .inl (.inl h1)⟩, ?_⟩
    refine hv S.all H1 x1 _ fun c ws H2 x2 hn hc pw => ?_
    have S2 := S1.ex x2
    obtain ⟨vs, h1, h2⟩ := S2.own hi
    have hl := paired_len h2
    have hl2 := pw.len
    refine ⟨a, c, vs, ws, rfl, rfl, h1, hc, sz_of (by omega), k _ (S2.upd _ hi ⟨_, upd_same, paired_app h2 (paired_dat (pw.ex (hid_sub fun b hb => List.mem_cons_of_mem _ hb)))⟩)⟩)) hsw
end
theorem prk_lookN {K : PySem.W.Frag} {G : Hp} {f : Str} : ∀ {kvs : List (Str × Sv)} {vs : List (Str × V)}, Paired (PrK K G) kvs vs → kvs.lookup f = none → vs.lookup f = none
  | _, _, .nil, _ => rfl
  | (g, x) :: r, (g2, y) :: r2, .cons a t, h => by
    have e : g = g2 := a.1
    subst e
    cases hg : (f == g) with
    | true => simp [List.lookup, hg] at h
    | false =>
      have := prk_lookN (f := f) t (by simpa [List.lookup, hg] using h)
      simpa [List.lookup, hg] using this
/-! ### dict displays -/
def Jps (X : Cx) (M : List Addr) (trs : List (TE × TE)) (σ : L2.St) (H : Hp) (kvs : List (Key × Sv)) : Prop := Al M H → ∀ H1, Ex H H1 → ∀ Q : List (V × V) → Hp → Prop,
  (∀ vs H2, Ex H1 H2 → Paired (PrK X.K (hid M H2)) kvs vs → Q (vs.map fun kv => (kV kv.1, kv.2)) H2) → tPairs trs σ H1 Q
theorem prk_ex {K : PySem.W.Frag} {G G' : Hp} (e : Ex G G') {kvs : List (Key × Sv)} {vs : List (Key × V)} (h : Paired (PrK K G) kvs vs) : Paired (PrK K G') kvs vs := paired2_ex e h
section
variable {X : Cx} {B H : Hp} {M M0 : List Addr} {ρ : Ro} {μ : Mu} {σ : L2.St} {pos : Pos} {e : Expr} {s : Sv} {kvs : List (Key × Sv)} {trs : List (TE × TE)}
theorem jps_nil : Jps X M [] σ H [] := fun _ H1 _ Q q => q [] H1 (Ex.refl H1) .nil
theorem jps_cons {x : Str} (h : Js X M e σ H s) (r : Jps X M trs σ H kvs) : Jps X M ((tC (.str x), tW X e) :: trs) σ H ((.inr x, s) :: kvs) := fun al H1 y Q q =>
  h al H1 y _ fun v H2 z p => r al H2 (y.trans z) _ fun vs H3 u t => q ((.inr x, v) :: vs) H3 (z.trans u) (.cons ⟨rfl, p.ex (hid_ex u)⟩ t)
end
def mergeS (kvs more : List (Key × Sv)) : List (Key × Sv) := more.foldl (fun acc kv => putS acc kv.1 kv.2) kvs
theorem prk_merge {K : PySem.W.Frag} {G : Hp} : ∀ {more : List (Key × Sv)} {mv : List (Key × V)} {kvs : List (Key × Sv)} {vs : List (Key × V)}, Paired (PrK K G) more mv → Paired (PrK K G) kvs vs → Paired (PrK K G) (mergeS kvs more) (mergeK vs mv)
  | _, _, _, _, .nil, h => h
  | (k, s) :: r, (k2, v) :: r2, _, _, .cons a t, h => by
    have e : k = k2 := a.1
    subst e
    have := prk_merge t (prk_put (k := k) a.2 h)
    exact this
theorem jm_dict {X : Cx} {B H : Hp} {M0 : List Addr} {ρ : Ro} {μ : Mu} {σ : L2.St} {pos : Pos} {kvs : List (Key × Sv)} {trs : List (TE × TE)} {keys : List (Option Expr)} {values : List Expr} (S : Sy X.K B M0 ρ μ σ H) (hp : PPs X pos keys values trs) (h : ∀ p H', Sy X.K B M0 ρ ((p, .dct []) :: μ) σ H' → Jps X (adr M0 ((p, .dct []) :: μ)) trs σ H' kvs) {Q : VK}
    (k : ∀ a H', Sy X.K B M0 ρ ((a, .dct (mergeS [] kvs)) :: μ) σ H' → Q (.ref a) H') (hall : keys.all (·.isSome) = true := by rfl) (hl : keys.length = values.length := by rfl) (h0 : keys ≠ [] := by intro h; cases h) (h15 : keys.length ≤ 15 := by decide) (hkl : kvs.length ≤ 15 := by simp) : tW X (.Dict keys values pos) σ H Q :=
  leW (pe_disp hp hall hl h0 h15) fun p hn => by
    have S1 := S.newN (.dct []) (Ex.new hn) hn ⟨[], upd_same, .nil⟩
    refine h p _ S1 S1.all _ (Ex.refl _) _ fun vs H2 x2 pv => ?_
    have hp2 : H2 p = some (.dK []) := x2 _ _ upd_same
    have S2 := S1.ex x2
    refine ⟨hp2, vs, rfl, by rw [← paired_len pv]; exact hkl, k p _ ?_⟩
    exact S2.upd (i := 0) (.dct (mergeS [] kvs)) (o := .dK (mergeK [] vs)) rfl ⟨_, upd_same, prk_merge pv .nil⟩
/-! ### instances -/
section
variable {X : Cx} {CX : CXT} {B H : Hp} {M0 : List Addr} {ρ : Ro} {μ : Mu} {σ : L2.St} {pos p apos : Pos} {e o : Expr} {es : List Expr} {s : Sv} {ss : List Sv} {C f a dx : Addr} {fd : FuncData} {ps : List Str} {k n : Nat} {x m : Str} {E : XK} {Pre : List Sv → Mu → Prop} {R : List Sv → Mu → Sv → Mu → Prop} {Fl : List Sv → Mu → Value → Prop} {fs : List (Str × Sv)}
theorem make_core (S : Sy X.K B M0 ρ μ σ H) {vs : List V} (pv : Paired (fun s v => Sv.holds X.K (hid (adr M0 μ) H) s v) ss vs) (hn : (ss.length + 1) = n) (hp : ∀ x0 dx, Pre (.val (.ref x0) :: ss) [(x0, .ins C dx [])]) {Q : VK} (hR : ∀ ss' μ' s μ'', R ss' μ' s μ'' → s = .dat .none)
    (kk : ∀ x0 dx μ' H', R (.val (.ref x0) :: ss) [(x0, .ins C dx [])] (.dat .none) μ' → Sy X.K B M0 ρ (μ' ++ μ) σ H' → Q (.ref x0) H') (kE : ∀ x0 dx cls H', Fl (.val (.ref x0) :: ss) [(x0, .ins C dx [])] cls → Ex H H' → E cls none H') (x0 dx : Addr) (h1 : H x0 = none) (h2 : H dx = none) (h3 : dx ≠ x0) :
    spM X.K n Pre R Fl (.ref x0 :: vs) (upd (upd H dx (.own x0)) x0 (.ins C dx [])) (fun v H2 => v = .non ∧ Q (.ref x0) H2) E := by
  have hn1 : upd H dx (.own x0) x0 = none := by rw [upd_ne (Ne.symm h3)]; exact h1
  have x1 : Ex H (upd (upd H dx (.own x0)) x0 (.ins C dx [])) := (Ex.new h2).trans (Ex.new hn1)
  have S1 := S.newN (.ins C dx []) x1 h1 ⟨[], upd_same, .nil⟩
  have hM : x0 ∉ adr M0 μ := S.all.out h1
  have up : Ex (hid (adr M0 μ) H) (hid (adr M0 ((x0, .ins C dx []) :: μ)) (upd (upd H dx (.own x0)) x0 (.ins C dx []))) := fun b o h => by
    by_cases hb : b ∈ adr M0 μ
    · rw [hid_in hb] at h; cases h
    · rw [hid_out hb] at h
      rw [hid_out fun z => ?_]
      · exact x1 _ _ h
      · rcases List.mem_cons.mp (show b ∈ x0 :: adr M0 μ from z) with z | z
        · rw [z, h1] at h; cases h
        · exact hb z
  have pv1 : ∀ {ss : List Sv} {vs : List V}, Paired (fun s v => Sv.holds X.K (hid (adr M0 μ) H) s v) ss vs → Paired (fun s v => Sv.holds X.K (hid (adr M0 ((x0, .ins C dx []) :: μ)) (upd (upd H dx (.own x0)) x0 (.ins C dx []))) s v) ss vs := fun h => paired_ex up h
  refine callM (μ1 := [(x0, .ins C dx [])]) (μ2 := μ) S1 (ss := .val (.ref x0) :: ss) (.cons rfl (pv1 pv)) hn (hp x0 dx) (fun v s μ' H' r S' h => ?_) (fun cls H' hF x => kE x0 dx cls H' hF (fun b o hb => x b o ?_))
  · have e := hR _ _ _ _ r
    subst e
    exact ⟨dNon h, kk x0 dx μ' H' r S'⟩
  · show hid [x0] _ b = some o
    rw [hid_out (by intro z; rw [List.mem_singleton.mp z, h1] at hb; cases hb)]
    exact x1 _ _ hb
theorem jm_make (S : Sy X.K B M0 ρ μ σ H) (M : Mk X.K C f) (F : FnOk X.prog X.w X.K X.mg X.base CX k f fd ps (spM X.K n Pre R Fl)) (hb : Binds X.K fd ps []) (hr : Room (k + 1) X.A) (hm : X.mg x = some (.ref C)) (hx : Passes CX X E)
    (ha : Jsa X (adr M0 μ) (e :: es) σ H ss) (hn : (ss.length + 1) = n) (hp : ∀ x0 dx, Pre (.val (.ref x0) :: ss) [(x0, .ins C dx [])]) {Q : VK} (hR : ∀ ss' μ' s μ'', R ss' μ' s μ'' → s = .dat .none)
    (kk : ∀ x0 dx μ' H', R (.val (.ref x0) :: ss) [(x0, .ins C dx [])] (.dat .none) μ' → Sy X.K B M0 ρ (μ' ++ μ) σ H' → Q (.ref x0) H') (kE : ∀ x0 dx cls H', Fl (.val (.ref x0) :: ss) [(x0, .ins C dx [])] cls → Ex H H' → E cls none H') (hg : Gl X x := by rfl)
    (hdb : (x == ("__debug__" : Str)) = false := by decide) (he : starEach (e :: es) X.env = (false, eval e X.env) :: starEach es X.env := by rfl) (hpl : (backTo pos (starEach es X.env)).any (·.1) = false := by rfl) : tW X (.Call (.Name x p) (e :: es) [] pos) σ H Q :=
  leW (pe_make M F hr hg hm hb .nil hx pa_A hdb he hpl) (ha S.all H (Ex.refl H) _ fun vs H2 x2 pv x0 dx h1 h2 h3 => by
    rw [List.append_nil]
    exact make_core (S.ex x2) pv hn hp hR kk (fun x0 dx cls H' hF x => kE x0 dx cls H' hF (x2.trans x)) x0 dx h1 h2 h3)
/-- a method without arguments -/
theorem jm_meth0 {pl : Sem Bool} {μ1 μ2 : Mu} (S : Sy X.K B M0 ρ (μ1 ++ μ2) σ H) (ho : Jv X o σ H (.ref a)) {i : Nat} (hi : μ1[i]? = some (a, .ins C dx fs)) (hf : fs.lookup m = none) (c : Cls X.K C) (hm : Meth X.K C m f) (F : FnOk X.prog X.w X.K X.mg X.base CX k f fd ps (spM X.K 1 Pre R Fl)) (hb : Binds X.K fd ps []) (hr : Room k X.A) (hx : Passes CX X E)
    (hp : Pre [.val (.ref a)] μ1) {Q : VK} (kk : ∀ v s μ1' H', R [.val (.ref a)] μ1 s μ1' → Sy X.K B M0 ρ (μ1' ++ μ2) σ H' → s.holds X.K (hid (adr M0 (μ1' ++ μ2)) H') v → Q v H') (kE : ∀ cls H', Fl [.val (.ref a)] μ1 cls → Ex B H' → E cls none H')
    (ht : eval (.Call (.Attribute o m apos) [] [] pos) X.env = (do
      let ov ← eval o X.env
      standAt apos.atName
      let (f, first) ← holding [ov] (getMethod ov m pl)
      callWith pos f first (backTo pos (starEach [] X.env)) (backToKw pos (keywordEach [] X.env))) := by rfl) : tW X (.Call (.Attribute o m apos) [] [] pos) σ H Q :=
  leW (pe_meth0 pe_W c hm F hr hb .nil hx ht) (S.evV ho fun H1 S1 x1 => by
    obtain ⟨hil, _⟩ := List.getElem?_eq_some_iff.mp hi
    have hi2 : (μ1 ++ μ2)[i]? = some (a, .ins C dx fs) := by rw [List.getElem?_append_left hil]; exact hi
    obtain ⟨vs, h1, h2⟩ := S1.own hi2
    refine ⟨a, dx, vs, rfl, h1, ?_, ?_⟩
    · exact prk_lookN h2 hf
    · exact callM S1 (ss := [.val (.ref a)]) (.cons rfl .nil) rfl hp kk (fun cls H' hF x => kE cls H' hF (fun b o hb => x b o (by
        have hn : b ∉ μ1.map (·.1) := fun z => by
          obtain ⟨p, hp, q⟩ := List.mem_map.mp z
          rw [← q, S.nb p (List.mem_append_left _ hp)] at hb; cases hb
        show hid (μ1.map (·.1)) H1 b = some o
        rw [hid_out hn]
        exact S1.bs b o hb))))
end
end J

set_option maxHeartbeats 4000000
/-! J10: enumerate of a tuple; a tuple times n. -/
namespace J
open PySem PySem.Spec PyProof.Rows L2 Evl RZ
open Sem (wp)
open AutoSeq1 (wpAny_loadPart')
theorem meets_enumerate_newT (l : Addr) (items : Array Value) (n : Nat) (dct : Option Addr) (sl : Array (Option Value)) :
    Meets (Builtin.«enumerate.__new__» ⟨[.type "enumerate", .ref l], []⟩) (fun _ R s => s.heap.get? l = some { cls := .type "tuple", dict := dct, data := .seq items n, slots := sl } ∧
      R (.ok (.ret (.ref (s.heap.push { cls := .type "tuple_iterator", data := .fields #[.ref l, .int 0 0] }).objs.size)))
        { s with heap := (s.heap.push { cls := .type "tuple_iterator", data := .fields #[.ref l, .int 0 0] }).push { cls := .type "enumerate", data := .fields #[.none, .bool false, .ref s.heap.objs.size, rawInt 0, .none, .none] } }) :=
  .of_wp fun prog w A R s h => by
    obtain ⟨hp, g, d, tk, os⟩ := s; obtain ⟨hl, h⟩ := h
    have hsub := sub_enumerate
    have hL : Heap.IsTuple (Shared.heap ⟨hp, g, d, tk, os⟩) l items := ⟨_, hl, rfl, n, rfl⟩
    wp_walk using wpAny_loadPart' hl
    refine wpAny_stack_any fun st => wpAny_pure ?_
    split
    · rename_i c _ _ _ _ _
      cases (c == Value.type "enumerate")
      · wp_walk using wpAny_loadPart' hl, wpAny_pyIter_tuple hL
        exact ⟨_, rfl, h⟩
      · wp_walk using wpAny_loadPart' hl, wpAny_pyIter_tuple hL
        exact ⟨_, rfl, h⟩
    · wp_walk using wpAny_loadPart' hl, wpAny_pyIter_tuple hL
      exact ⟨_, rfl, h⟩
theorem call_enumerate_tup {prog : Program} {w : World} {A : Around} {E : Value → Shared → Prop} {s : Shared} {l : Addr} {items : Array Value} {Q : Value → Shared → Prop} (hL : s.heap.IsTuple l items)
    (h : ∀ h', IsEnum h' (s.heap.objs.size + 1) s.heap.objs.size 0 .none → h'.IsTupleIter s.heap.objs.size l 0 → h'.objs.size = s.heap.objs.size + 2 →
      (∀ b o, s.heap.get? b = some o → h'.get? b = some o) → Q (.ref (s.heap.objs.size + 1)) { s with heap := h' }) :
    wpAny (model prog w) A (call (.type "enumerate") [.ref l]) Q E s := by
  obtain ⟨⟨c, dct, dt, sl⟩, hl, hc, n, hd⟩ := hL
  replace hc : c = .type "tuple" := hc
  replace hd : dt = .seq items n := hd
  subst hc hd
  refine callType_new F.called_enumerate (by decide) (F.typeCall_enumerate_1 _) (F.newCall_enumerate_1 _) (fun obj => F.args_object_init_2 obj _) F.entry_enumerate_new
    (meets_enumerate_newT l items n dct sl) ⟨hl, ?_⟩
  have hz : (s.heap.push { cls := .type "tuple_iterator", data := .fields #[.ref l, .int 0 0] }).objs.size = s.heap.objs.size + 1 := Heap.size_push ..
  show _ ∧ _
  rw [hz]
  have he : IsEnum ((s.heap.push { cls := .type "tuple_iterator", data := .fields #[.ref l, .int 0 0] }).push
      { cls := .type "enumerate", data := .fields #[.none, .bool false, .ref s.heap.objs.size, rawInt 0, .none, .none] }) (s.heap.objs.size + 1) s.heap.objs.size 0 .none := by
    have := Heap.get?_push_size (s.heap.push { cls := .type "tuple_iterator", data := .fields #[.ref l, .int 0 0] })
      (o := { cls := .type "enumerate", data := .fields #[.none, .bool false, .ref s.heap.objs.size, rawInt 0, .none, .none] }) rfl
    rw [hz] at this; exact this
  refine ⟨⟨_, he, rfl⟩, h _ he ⟨_, Heap.get?_push_of_some _ (Heap.get?_push_size _ rfl), rfl, rfl⟩ (by rw [Heap.size_push, hz]) fun b o x => Heap.get?_push_of_some _ (Heap.get?_push_of_some _ x)⟩
/-- the tuple at a, each item in a new pair -/
def IteT (K : PySem.W.Frag) (a : Addr) : It :=
  ⟨fun i H => ∃ (xs : List V) (x : V), SqT K H a xs ∧ xs[i]? = some x, fun i H v H' => ∃ T x, v = .ref T ∧ H T = none ∧ H' = upd H T (.tup [.int (i : Nat), x]) ∧ ∀ xs, SqT K H a xs → xs[i]? = some x, fun i H => ∃ xs : List V, SqT K H a xs ∧ xs.length = i⟩
theorem isTuple_of {h : Heap} {a : Addr} {its : Array Value} (p : IsTup h a its) : h.IsTuple a its := by
  obtain ⟨⟨cls, dd, data, sl⟩, ho, hc, n, hd⟩ := p
  exact ⟨_, ho, hc, n, hd⟩
theorem turn_enumT {P : Program} {w : World} {K : PySem.W.Frag} {elts : List Expr} {kk : Nat} {tpos : Pos} (a e it : Addr) (hai : a ≠ it) (hea : e ≠ a) :
    Turn P w K (.Tuple elts kk tpos) (IteT K a) [e, it] e (fun i h => (∃ old, IsEnum h e it ((i : Nat) : Int) old) ∧ h.IsTupleIter it a i ∧ e ≠ it) where
  mem := by simp
  obj := fun i h st b hb => by
    obtain ⟨⟨old, he⟩, ⟨o, ho, hc, hd⟩, _⟩ := st
    have e' : b = e ∨ b = it := by simpa using hb
    rcases e' with z | z
    · rw [z]; exact ⟨_, he, fun v q => nomatch q⟩
    · rw [z]; exact ⟨o, ho, fun v q => by rw [hd] at q; cases q⟩
  keep := fun i h h' st k => let ⟨⟨old, he⟩, hi, hne⟩ := st; ⟨⟨old, k e (by simp) _ he⟩, hi.at fun o q => k it (by simp) o q, hne⟩
  item := by
    intro X hP hw hK hc i pins s σ H E I hf st hg
    subst hP hw hK
    obtain ⟨⟨old, he⟩, hit, hne⟩ := st
    obtain ⟨xs, x, hq, hx⟩ := hg
    obtain ⟨its, rv, p, hz⟩ := I.tuple hq
    obtain ⟨u, hu, ru⟩ := rv.get hx
    have hel : e < s.heap.objs.size := Heap.lt_size he
    have hil : it < s.heap.objs.size := by obtain ⟨_, q, _⟩ := hit; exact Heap.lt_size q
    have hlt : i < its.toArray.size := by rw [List.size_toArray]; exact (List.getElem?_eq_some_iff.mp hu).1
    refine wpAny_pyNext_enum_itemD (Draws.tuple (A := X.A.in1) (I.ok.hd hc) it a hai its.toArray) he ⟨hit, isTuple_of p⟩ hlt hne (by simp [hne, hea]) fun y h' tk hy ho hst hT hsz hk => ?_
    obtain rfl : y = u := by
      have hu2 : its.toArray[i]? = some u := by simpa using hu
      rw [hu2] at hy
      exact (Option.some.inj hy).symm
    obtain ⟨hit', _⟩ := hst
    refine ⟨_, rfl, wpAny_letOwnedTupleGo_enum (s := { s with heap := h', toks := tk + 1 }) ho fun h'' he' sb => ?_⟩
    have hT2 : h''.get? s.heap.objs.size = some { cls := .type "tuple", data := .seq #[.int i tk, y] } := (sb.2 _ (Nat.ne_of_gt hel)).trans hT
    have new : ObjOk X.prog X.w (upd H s.heap.objs.size (.tup [.int (i : Nat), x])) h'' s.heap.objs.size (.tup [.int (i : Nat), x]) :=
      ⟨by show 2 ≤ sizeLine; decide, [.int i tk, y], .cons ⟨_, rfl⟩ (.cons ru .nil), ⟨_, hT2, rfl, _, rfl⟩⟩
    have I1 : Inv X pins σ (upd H s.heap.objs.size (.tup [.int (i : Nat), x])) { s with heap := h'', toks := tk + 1 } :=
      I.turnedNew (ch := [e, it]) (fun b ob hb q => (sb.2 b (fun z => hb (by simp [z]))).trans (hk b ob (fun z => hb (by simp [z])) (fun z => hb (by simp [z])) q)) hf (Nat.le_refl _) new
    refine ⟨.ref s.heap.objs.size, _, I1, rfl, ⟨_, x, rfl, I.hok.fresh (Nat.le_refl _), rfl, fun ys hy => by rw [I.tuple_inj hy hq]; exact hx⟩, ⟨⟨y, ?_⟩, hit'.at fun o q => (sb.2 it (Ne.symm hne)).trans q, hne⟩, fun b hb => ?_⟩
    · have e1 : ((i + 1 : Nat) : Int) = (i : Int) + 1 := by omega
      rw [e1]; exact he'
    · have hb' : b < s.heap.objs.size := by
        have e' : b = e ∨ b = it := by simpa using hb
        rcases e' with z | z
        · rw [z]; exact hel
        · rw [z]; exact hil
      rw [upd_ne (Nat.ne_of_lt hb')]
      exact (hf b hb).1
  done := by
    intro X hP hw hK hc i pins s σ H E I hf st hg
    subst hP hw hK
    obtain ⟨⟨old, he⟩, hit, hne⟩ := st
    obtain ⟨xs, hq, hx⟩ := hg
    obtain ⟨its, rv, p, hz⟩ := I.tuple hq
    obtain ⟨f0, f1, f2, f3, f4, f5⟩ := hf it (by simp)
    have hl := rv.length
    have e1 : its.toArray.size = i := by rw [List.size_toArray]; omega
    have hit2 : s.heap.IsTupleIter it a its.toArray.size := by rw [e1]; exact hit
    exact wpAny_pyNext_enum_endD (Draws.tuple (A := X.A.in1) (I.ok.hd hc) it a hai its.toArray) he ⟨hit2, isTuple_of p⟩ fun h' eb => ⟨rfl, I.turned (t' := s.toks) (fun b o hb q => eb b o hb q) f0 f1 f3 f4 f5⟩
  self := fun A i s Q E st h => let ⟨⟨_, he⟩, _⟩ := st; wpAny_pyIter_enum he h
def iEnumT (K : PySem.W.Frag) (ta : TA) : TI := fun σ H R => ta σ H fun vs H1 => ∃ a xs, vs = [.ref a] ∧ SqT K H1 a xs ∧ R (IteT K a) H1
theorem pi_enumT {X : Cx} {e : Expr} {ta : TA} {p pos tpos : Pos} {elts : List Expr} {kk : Nat} (hg : Gl X "enumerate") (hm : X.mg "enumerate" = none) (ha : PA X [e] ta) (hs : starEach [e] X.env = [(false, eval e X.env)] := by rfl) :
    PI X (.Tuple elts kk tpos) (.Call (.Name "enumerate" p) [e] [] pos) (iEnumT X.K ta) := by
  refine ⟨fun pins s σ H R I h => ?_⟩
  refine Call_ (ld_blt I hg hm boot_enumerate (PyProof.Rows.callWith_type1 (thn (ha.run pos pins s σ H _ I h) fun us s1 ⟨vs, H1, I1, r1, q1⟩ => ?_) hs rfl))
  obtain ⟨a, xs, ex, hq, q⟩ := q1
  subst ex
  cases r1 with
  | cons r rr =>
    cases rr
    cases r
    obtain ⟨its, rv, p', hz⟩ := I1.tuple hq
    have hal : a < s1.heap.objs.size := by obtain ⟨o, ho, _⟩ := p'; exact Heap.lt_size ho
    refine call_enumerate_tup (isTuple_of p') fun h' he hit hsz hk => wpAny_pyIter_enum he ?_
    have I2 : Inv X pins σ H1 { s1 with heap := h' } := I1.kept (t' := s1.toks) hk
    refine ⟨s1.heap.objs.size + 1, [s1.heap.objs.size + 1, s1.heap.objs.size], _, _, H1, rfl, I2, turn_enumT a (s1.heap.objs.size + 1) s1.heap.objs.size (Nat.ne_of_lt hal) (Nat.ne_of_gt (Nat.lt_succ_of_lt hal)), ⟨⟨.none, he⟩, hit, Nat.succ_ne_self _⟩, fun b hb => ?_, q⟩
    have e' : b = s1.heap.objs.size + 1 ∨ b = s1.heap.objs.size := by simpa using hb
    have hle : s1.heap.objs.size ≤ b := by
      rcases e' with z | z
      · rw [z]; exact Nat.le_add_right _ _
      · rw [z]; exact Nat.le_refl _
    exact I1.fpOk hle (I1.hok.fresh hle)
theorem walk_enumT {K : PySem.W.Frag} {a : Addr} {xs : List V} : Walk (IteT K a) xs.length (fun H => SqT K H a xs) (YPair (fun i => some (.int (i : Nat))) (fun i => xs[i]?)) := by
  refine ⟨fun i _ hi q => ⟨xs, xs[i], q, by simp [hi]⟩, fun _ q => ⟨xs, q, rfl⟩, fun i H v H' _ q y => ?_⟩
  obtain ⟨T, x, h1, h2, h3, h4⟩ := y
  exact ⟨T, .int (i : Nat), x, h1, h2, h3, rfl, h4 xs q⟩
section
variable {X : Cx} {M : List Addr} {σ : L2.St} {H : Hp} {a b e : Expr} {d d' : D} {ds es : List D} {p pos : Pos} {i j : Int}
theorem jw_enumT {elts : List Expr} {kk : Nat} {tpos : Pos} (hm : X.mg "enumerate" = none) (h : Jd X M a σ H (.tuple ds)) (hg : Gl X "enumerate" := by rfl) (hs : starEach [a] X.env = [(false, eval a X.env)] := by rfl) :
    Jw X M (.Tuple elts kk tpos) (.Call (.Name "enumerate" p) [a] [] pos) σ H (zipD (rgD 0 ds.length) ds) := fun al H1 x R k =>
  leI (pi_enumT hg hm (pa_cons pe_W pa_nil hs) hs) (h al H1 x _ fun v H2 y q => by
    obtain ⟨t, xs, e1, e2, e3⟩ := dTup q
    refine ⟨t, xs, by rw [e1], ex_t hid_le e2, k _ H2 y ⟨_, _, ?_, fun H4 g => ex_t g e2, yl_pair (f := fun i => some (.int (i : Nat))) (fun i d hd => ?_) (fun i d hd => e3.get hd)⟩⟩
    · have e : (zipD (rgD 0 ds.length) ds).length = xs.length := by rw [zipD_len, rgD_len, e3.len]; omega
      rw [e]
      exact walk_enumT
    · obtain ⟨_, e4⟩ := rgD_get hd
      rw [e4, Int.zero_add]
      exact ⟨_, rfl, .int _⟩)
end
/-! ### a tuple times 1 -/
theorem tuple_mul1 (l : Addr) (items : Array Value) (n : Nat) (u : Tok) :
    Meets (Builtin.«tuple.__mul__» ⟨[.ref l, .int 1 u], []⟩) (fun _ R s => ∃ dd sl, s.heap.get? l = some { cls := .type "tuple", dict := dd, data := .seq items n, slots := sl } ∧ R (.ok (.ret (.ref l))) s) :=
  .of_wp fun prog w A R s h => by
    obtain ⟨hp, g, d, tk, os⟩ := s
    obtain ⟨dd, sl, hl, h⟩ := h
    have f1 := AutoSeq1.idx_int
    have c1 : (items.isEmpty || (1 : Int) == 1) = true := by simp
    wp_walk using wpAny_loadPart' hl
    repeat (first
      | (refine wpAny_ite_false (decide_eq_false (by decide)) ?_; wp_walk using wpAny_loadPart' hl)
      | (refine wpAny_ite_true (decide_eq_true c1) ?_; wp_walk using wpAny_loadPart' hl))
    exact ⟨_, rfl, h⟩
def rRep1 (K : PySem.W.Frag) : R2 := fun x y H Q => ∃ l xs, x = .ref l ∧ y = .int 1 ∧ SqT K H l xs ∧ Q (.ref l) H
theorem op_rep1 {X : Cx} : OpR X (binaryOp .Mult) (rRep1 X.K) := by
  intro pins s σ H x y v u Q I rx ry h
  obtain ⟨l, xs, rfl, rfl, hT, q⟩ := h
  cases rx
  obtain ⟨t, rfl⟩ := ry
  obtain ⟨its, r, ⟨⟨cls, dd, data, sl⟩, ho, hc, n, hd⟩, hs⟩ := I.tuple hT
  simp only at hc hd
  subst hc hd
  refine wpAny_binaryOp_repeat_ref (T := "tuple") (U := "int") (by decide) ⟨_, ho, rfl⟩ (fun s' => typeIs_int s' 1 t) noFill_tuple_mul F.fills_int_mul F.slot_int_rmul repeat_tuple F.slot_int_index.lookup
    (call_meets F.slot_int_rmul (typeIs_int s 1 t) F.entry_int_rmul (F.args_int_rmul_2 _ _) (int_rmul_tuple 1 t l its.toArray n dd sl)
      ⟨ho, rfl, ⟨_, ho, rfl⟩, call_meets F.slot_tuple_mul ⟨_, ho, rfl⟩ F.entry_tuple_mul (F.args_tuple_mul_2 _ _) (tuple_mul1 l its.toArray n t) ⟨dd, sl, ho, ?_⟩⟩)
  exact ⟨.ref l, H, I, rfl, q⟩
theorem flatR {α : Type} (n : Nat) (x : α) : (List.replicate n [x]).flatten = List.replicate n x := flat1 n x
theorem dpRep {K : PySem.W.Frag} {G : Hp} {v : V} {d : D} (h : Dp K G v d) : ∀ n : Nat, DpAll K G (List.replicate n v) (List.replicate n d)
  | 0 => .nil
  | n + 1 => by rw [List.replicate_succ, List.replicate_succ]; exact .cons h (dpRep h n)
/-- (d,) * n, n at least 1 -/
theorem jd_repT {X : Cx} {M : List Addr} {σ : L2.St} {H : Hp} {a b : Expr} {d : D} {pos : Pos} {n : Int} (ha : Jd X M a σ H (.tuple [d])) (hb : Jd X M b σ H (.int n)) (h1 : 1 ≤ n) (h2 : n ≤ 1000) : Jd X M (.BinOp a .Mult b pos) σ H (.tuple (List.replicate n.toNat d)) := fun al H1 x Q q => by
  by_cases hn : n = 1
  · subst hn
    exact leW (pe_op op_rep1 pe_W pe_W) (ha al H1 x _ fun v H2 y p => hb al H2 (x.trans y) _ fun w H3 z r => by
      obtain ⟨t, xs, e1, e2, e3⟩ := dTup p
      exact ⟨t, xs, e1, dInt r, ex_t z (ex_t hid_le e2), e1 ▸ q _ H3 (y.trans z) (p.ex (hid_ex z))⟩)
  · exact leW (pe_op op_repT pe_W pe_W) (ha al H1 x _ fun v H2 y p => hb al H2 (x.trans y) _ fun w H3 z r => by
      obtain ⟨t, xs, e1, e2, e3⟩ := dTup p
      obtain ⟨v1, rfl⟩ : ∃ v, xs = [v] := by
        have := e3.len
        match xs, this with
        | [v], _ => exact ⟨v, rfl⟩
      refine ⟨t, n, [v1], e1, dInt r, ex_t z (ex_t hid_le e2), by simp, by omega, h2, by simp, fun c hc => ?_⟩
      rw [flat1]
      refine q _ _ ((y.trans z).trans (Ex.new hc)) (.tup (SqT.of ((al.ex ((x.trans y).trans z)).newEx hc)) ?_)
      cases e3 with
      | cons e3 _ =>
        exact dpRep (e3.ex ((hid_ex z).trans (hid_ex (M := M) (Ex.new (o := .tup (List.replicate n.toNat v1)) hc)))) _)
end J

set_option maxHeartbeats 4000000
/-! J11: comprehensions whose turns change objects. -/
namespace J
open PySem PySem.Spec PyProof.Rows L2 Evl RZ
section
variable {X : Cx} {B H : Hp} {M0 : List Addr} {ρ : Ro} {μ : Mu} {σ : L2.St} {ds : List D} {pos : Pos} {tg iter elt : Expr} {scope : Scope} {own : List (Str × Nat)} {js : List Nat}
/-- [elt for tg in iter]: I tells what was given, and the objects; the new list stands first in the end -/
theorem lcE_core {Jt2 : It} {H2 : Hp} (S2 : Sy X.K B M0 ρ μ σ H2) (yl : Yl X.K (hid (adr M0 μ) H2) Jt2 ds) (f : D → Ro → Ro) (hjs : ∀ j ∈ js, j ∈ own.map (·.2)) (I : Nat → List D → Mu → Prop) (h0 : I 0 [] μ) (hlen : ∀ i acc μ', I i acc μ' → acc.length ≤ 90000)
    (hg : ∀ X' d, Blk X scope X' → d ∈ ds → Jg X' tg js d (wip ρ (own.map (·.2))) (f d (wip ρ (own.map (·.2)))))
    (he : ∀ (i : Nat) (d : D) (acc : List D) (μ' : Mu) X' B' M' σ' H' (Q : VK), ds[i]? = some d → I i acc μ' → Blk X scope X' → Sy X'.K B' M' (f d (wip ρ (own.map (·.2)))) μ' σ' H' →
      (∀ v x μ'' H'', I (i + 1) (acc ++ [x]) μ'' → Sy X'.K B' M' (f d (wip ρ (own.map (·.2)))) μ'' σ' H'' → Dp X'.K (hid (adr M' μ'') H'') v x → Q v H'') → tW X' elt σ' H' Q)
    {Q : VK} (k : ∀ a acc μ' H', I ds.length acc μ' → Sy X.K B M0 ρ ((a, .lst (acc.map .dat)) :: μ') σ H' → Q (.ref a) H') :
    tLc (fun _ _ R => R Jt2 H2) (tGb X scope tg) (tTsb X scope []) (tWb X scope elt) (own.map (·.2)) σ H Q := by
  intro Dl hD
  obtain ⟨G, Y, w, hG, hY⟩ := yl
  let Pv : Nat → Hp → Prop := fun i H' => ∃ acc μ', I i acc μ' ∧ Sy X.K (J.grd μ H2) M0 ρ (μ' ++ [(Dl, .lst (acc.map .dat))]) σ H'
  have low : hid M0 (J.grd μ H2) = hid (adr M0 μ) H2 := grd_low
  have S0 : Sy X.K (J.grd μ H2) M0 ρ (μ ++ [(Dl, .lst ([] : List Sv))]) σ (L2.upd H2 Dl (.lst [])) := (S2.grd.newN (.lst []) (Ex.new hD) hD ⟨[], upd_same, .nil⟩).perm (List.perm_append_comm (l₁ := μ) (l₂ := [_]))
  refine lc_it w Pv ⟨[], μ, h0, S0⟩ (fun i H' hi p => hG H' ?_) (fun i x H' H3 hi p y => ?_) (fun H' p => ?_)
  · obtain ⟨acc, μ', _, S'⟩ := p
    rw [← low]; exact S'.low.trans hid_le
  · obtain ⟨acc, μ', hI, S'⟩ := p
    have g0 : Ex (hid (adr M0 μ) H2) (hid (adr M0 (μ' ++ [(Dl, .lst (acc.map .dat))])) H') := by rw [← low]; exact S'.low
    obtain ⟨x3, dx⟩ := hY i H' x H3 hi (g0.trans hid_le) y
    have hdi : ds[i]? = some ds[i] := List.getElem?_eq_getElem hi
    have q := dx _ S'.all g0 ds[i] hdi
    have S3 := S'.ex x3
    have S3w := (S3.wipe (own.map (·.2))).split
    rw [← adr_app] at q
    intro X' hX
    have eK : X'.K = X.K := by obtain ⟨_, _, _, _, _, rfl⟩ := hX; rfl
    refine hg X' ds[i] hX (List.getElem_mem hi) _ _ _ _ _ _ (by rw [eK]; exact S3w) (by rw [eK]; exact q) _ fun σ4 S4 l4 o4 => ⟨?_, ?_⟩
    · rw [wipe_eq (vs := own.map (·.2)) l4 fun j hj => o4 j fun z => hj (hjs j z)]
      exact wipe_eq (wipe_length _ _) fun j hj => wipe_out hj
    · intro X2 hX2
      have eK2 : X2.K = X'.K := by obtain ⟨_, _, _, _, _, rfl⟩ := hX2; exact eK.symm
      refine jts_nil (M := adr (adr M0 [(Dl, .lst (acc.map .dat))]) μ') S4.all H3 (Ex.refl H3) _ fun H5 x5 => ?_
      have S5 := S4.ex x5
      have S35 := S3.ex x5
      rw [if_pos rfl]
      intro X3 hX3
      have eK3 : X3.K = X2.K := by obtain ⟨_, _, _, _, _, rfl⟩ := hX3; exact eK.symm.trans eK2.symm
      have eKK : X3.K = X.K := (eK3.trans eK2).trans eK
      have S5' : Sy X3.K (J.grd μ' H5) (adr M0 [(Dl, .lst (acc.map .dat))]) (f ds[i] (wip ρ (own.map (·.2)))) μ' σ4 H5 := by
        rw [eK3, eK2]
        have := S5.grd
        exact this
      refine he i ds[i] acc μ' X3 _ _ σ4 H5 _ hdi hI hX3 S5' fun v z μ'' H6 hI6 S6 pv => ?_
      have S6' : Sy X.K (J.grd μ' H5) (adr M0 [(Dl, .lst (acc.map .dat))]) (f ds[i] (wip ρ (own.map (·.2)))) μ'' σ4 H6 := by rw [← eKK]; exact S6
      have S7 := S35.keep S6'
      have hil : (μ'' ++ [(Dl, Mo.lst (acc.map .dat))])[μ''.length]? = some (Dl, .lst (acc.map .dat)) := by simp
      obtain ⟨vs, a1, a2⟩ := S7.own hil
      have hl1 := paired_len a2
      rw [List.length_map] at hl1
      refine ⟨vs, a1, sz_lt (by have := hlen _ _ _ hI; omega), acc ++ [z], μ'', hI6, ?_⟩
      have pv' : Dp X.K (hid (adr M0 (μ'' ++ [(Dl, .lst (acc.map .dat))])) H6) v z := by rw [← adr_app, ← eKK]; exact pv
      have S8 := S7.upd (.lst ((acc ++ [z]).map .dat)) (o := .lst (vs ++ [v])) hil ⟨vs ++ [v], upd_same, by rw [List.map_append]; exact paired_app a2 (.cons pv' .nil)⟩
      have e : (μ'' ++ [(Dl, Mo.lst (acc.map .dat))]).set μ''.length (Dl, .lst ((acc ++ [z]).map .dat)) = μ'' ++ [(Dl, .lst ((acc ++ [z]).map .dat))] := by simp
      rw [e] at S8
      exact S8
  · obtain ⟨acc, μ', hI, S'⟩ := p
    exact k Dl acc μ' H' hI ((S'.base S2.grdB).perm (List.perm_append_comm (l₁ := [_]) (l₂ := μ')))
theorem lcE_tree (S : Sy X.K B M0 ρ μ σ H) (hw : Jw X (adr M0 μ) tg iter σ H ds) (f : D → Ro → Ro) (hjs : ∀ j ∈ js, j ∈ own.map (·.2)) (I : Nat → List D → Mu → Prop) (h0 : I 0 [] μ) (hlen : ∀ i acc μ', I i acc μ' → acc.length ≤ 90000)
    (hg : ∀ X' d, Blk X scope X' → d ∈ ds → Jg X' tg js d (wip ρ (own.map (·.2))) (f d (wip ρ (own.map (·.2)))))
    (he : ∀ (i : Nat) (d : D) (acc : List D) (μ' : Mu) X' B' M' σ' H' (Q : VK), ds[i]? = some d → I i acc μ' → Blk X scope X' → Sy X'.K B' M' (f d (wip ρ (own.map (·.2)))) μ' σ' H' →
      (∀ v x μ'' H'', I (i + 1) (acc ++ [x]) μ'' → Sy X'.K B' M' (f d (wip ρ (own.map (·.2)))) μ'' σ' H'' → Dp X'.K (hid (adr M' μ'') H'') v x → Q v H'') → tW X' elt σ' H' Q)
    {Q : VK} (k : ∀ a acc μ' H', I ds.length acc μ' → Sy X.K B M0 ρ ((a, .lst (acc.map .dat)) :: μ') σ H' → Q (.ref a) H') :
    tLc (tI X tg iter) (tGb X scope tg) (tTsb X scope []) (tWb X scope elt) (own.map (·.2)) σ H Q := by
  exact hw S.all H (Ex.refl H) _ fun Jt2 H2 x2 yl => lcE_core (H := H) (S.ex x2) yl f hjs I h0 hlen hg he k
theorem sy_lcE (S : Sy X.K B M0 ρ μ σ H) (hw : Jw X (adr M0 μ) tg iter σ H ds) (f : D → Ro → Ro) (hjs : ∀ j ∈ js, j ∈ own.map (·.2)) (I : Nat → List D → Mu → Prop) (h0 : I 0 [] μ) (hlen : ∀ i acc μ', I i acc μ' → acc.length ≤ 90000)
    (hg : ∀ X' d, Blk X scope X' → d ∈ ds → Jg X' tg js d (wip ρ (own.map (·.2))) (f d (wip ρ (own.map (·.2)))))
    (he : ∀ (i : Nat) (d : D) (acc : List D) (μ' : Mu) X' B' M' σ' H' (Q : VK), ds[i]? = some d → I i acc μ' → Blk X scope X' → Sy X'.K B' M' (f d (wip ρ (own.map (·.2)))) μ' σ' H' →
      (∀ v x μ'' H'', I (i + 1) (acc ++ [x]) μ'' → Sy X'.K B' M' (f d (wip ρ (own.map (·.2)))) μ'' σ' H'' → Dp X'.K (hid (adr M' μ'') H'') v x → Q v H'') → tW X' elt σ' H' Q)
    (ok : BlkOk X.N X.env.scope scope own) (hc : X.calm = true) (hN : X.N.Nodup) {Q : VK} (k : ∀ a acc μ' H', I ds.length acc μ' → Sy X.K B M0 ρ ((a, .lst (acc.map .dat)) :: μ') σ H' → Q (.ref a) H') (hs : ∀ x, foldedSetIterable iter X.env x = pure x := by intro _; rfl) :
    tW X (.ListComp elt [⟨tg, iter, [], 0⟩] scope pos) σ H Q :=
  leW (pe_lc (own := own) (g := tGb X scope tg) (tt := tTsb X scope []) (te := tWb X scope elt) hc hN pi_I ok (fun s H C cl fp => ⟨fun pins s' σ' H' v u Q' I r h => h _ ⟨s, H, C, cl, fp, rfl⟩ pins s' u I r⟩)
    (fun s H C cl fp => ⟨fun pins s' σ' H' Q' I h => h _ ⟨s, H, C, cl, fp, rfl⟩ pins s' I⟩) (fun s H C cl fp => ⟨fun pins s' σ' H' Q' I h => h _ ⟨s, H, C, cl, fp, rfl⟩ pins s' I⟩) hs) (lcE_tree S hw f hjs I h0 hlen hg he k)
/-- a comprehension without effects, the new list is one's own -/
theorem lcN_own {ifs : List Expr} (S : Sy X.K B M0 ρ μ σ H) (hw : Jw X (adr M0 μ) tg iter σ H ds) (out : List (Option D)) (hl : out.length = ds.length) (hz : ds.length ≤ 90000) (f : D → Ro → Ro) (hjs : ∀ j ∈ js, j ∈ own.map (·.2))
    (hg : ∀ X' d, Blk X scope X' → d ∈ ds → Jg X' tg js d (wip ρ (own.map (·.2))) (f d (wip ρ (own.map (·.2)))))
    (ht : ∀ (i : Nat) (d : D) (o : Option D) X' B' M' σ' H', ds[i]? = some d → out[i]? = some o → Blk X scope X' → Sy X'.K B' M' (f d (wip ρ (own.map (·.2)))) μ σ' H' → Jts X' (adr M' μ) ifs σ' H' o.isSome)
    (he : ∀ (i : Nat) (d x : D) X' B' M' σ' H', ds[i]? = some d → out[i]? = some (some x) → Blk X scope X' → Sy X'.K B' M' (f d (wip ρ (own.map (·.2)))) μ σ' H' → Jd X' (adr M' μ) elt σ' H' x)
    {Q : VK} (k : ∀ a H', Sy X.K B M0 ρ ((a, .lst ((out.filterMap id).map .dat)) :: μ) σ H' → Q (.ref a) H') : tLc (tI X tg iter) (tGb X scope tg) (tTsb X scope ifs) (tWb X scope elt) (own.map (·.2)) σ H Q :=
  lcN_tree S hw out hl hz f hjs hg ht he S.all (Ex.refl H) fun a vs H2 x hn ha p => k a H2 (S.newN (.lst ((out.filterMap id).map .dat)) x hn ⟨vs, ha, paired_dat p⟩)
end
end J

set_option maxHeartbeats 4000000
/-! J12: an exception that was caught is kept as a value. -/
namespace J
open PySem PySem.Spec PyProof.Rows L2 Evl RZ
section
variable {X : Cx} {pins : List (Addr × Obj)} {σ : L2.St} {H : Hp} {s : Shared}
theorem Inv.addX {a : Addr} {o : HO} (I : Inv X pins σ H s) (hn : H a = none) (h0 : X.s_0.heap.get? a = none) (nL : a ≠ X.env.locals) (nc : ∀ x c, X.env.cells.lookup x = some c → c ≠ a) (np : ∀ p ∈ X.pn ++ pins, p.1 ≠ a) (new : ObjOk X.prog X.w (L2.upd H a o) s.heap a o) : Inv X pins σ (L2.upd H a o) s where
  ok := I.ok
  os := I.os
  bare := I.bare
  base := ⟨I.base.keep, I.base.slot, fun b u q n hx => by rw [upd_ne (fun z => by rw [z, h0] at q; cases q)]; exact I.base.free b u q n hx, I.base.there,
    fun b xs q => by rw [upd_ne (ne_of_none (I.base.tups b xs q) hn)]; exact I.base.tups b xs q, fun b u xs q => by rw [upd_ne (ne_of_none (I.base.frzs b u xs q) hn)]; exact I.base.frzs b u xs q,
    fun b ps q => by obtain ⟨m, e⟩ := I.base.tbls b ps q; exact ⟨m, by rw [upd_ne (ne_of_none e hn)]; exact e⟩⟩
  loc := I.loc
  cell := I.cell
  free := by rw [upd_ne (Ne.symm nL)]; exact I.free
  freeC := fun x c e => by rw [upd_ne (nc x c e)]; exact I.freeC x c e
  pin := fun p hp => by
    obtain ⟨h1, h2, h3⟩ := I.pin p hp
    exact ⟨h1, by rw [upd_ne (np p hp)]; exact h2, h3⟩
  hok := I.hok.laidN (fun _ _ q => q) hn new
  len := I.len
end
/-- what the clause 'except x as n' wishes of an exception of the body, where the suite keeps it -/
def wAsV (K : PySem.W.Frag) (c : Value) (i : Nat) (ts : Addr → Value → Option Addr → TS) (Wout : WX) (D : Ends) : WX := fun cls d σ H =>
  ∃ b, PySem.W.exmOne K cls c = some b ∧ (b = true → ∀ a, H a = none → ts a cls d { nx := fun σ' H' => H' a = none → D.nx (σ'.set i none) (L2.upd H' a (exV cls d a)), rt := fun _ _ => False, bk := fun _ _ => False, ct := fun _ _ => False } (σ.set i (some (.ref a))) H) ∧
    (b = false → Wout cls d σ H)
section
variable {X : Cx} {x n : Str} {c : Value} {i : Nat} {body suite : List Stmt} {b₀ : Stmt} {np pos pos' : Pos} {tb : WX → TS} {ts : Addr → Value → Option Addr → TS} {Wout : WX}
theorem ps_try_asV (hex : X.ex = []) (hs : X.stack = X.env :: X.outer) (hf : X.env.frame = some X.env.locals) (hN : X.N.Nodup) (hi : X.N[i]? = some n) (hln : X.env.kindOf n = some .local) (hc : Names X x c) (tk : Takes X Wout)
    (hb : ∀ (W : WX) (pn : List (Addr × Obj)) (xe : Value → Shared → Prop), Takes (X.tr pn xe) W → PassesOwn (model X.prog X.w) X.A X.env xe → PSs (X.tr pn xe) body (tb W))
    (hsu : ∀ (a : Addr) (oe : Obj) (cls : Value) (d : Option Addr) (pn : List (Addr × Obj)), Zc cls d oe → (∃ vs, oe.data = .fields vs) → PSs (X.suite a ((a, oe) :: pn)) (b₀ :: suite) (ts a cls d)) :
    PS X (.Try body [.ExceptHandler (some (.Name x np)) (some n) (b₀ :: suite) pos'] [] [] pos) (fun D σ H => tb (wAsV X.K c i ts Wout D) D σ H) := by
  refine ⟨fun pins s σ H D I h => ?_⟩
  have ok := I.ok
  have hfr : X.A.frames = some (X.env :: X.outer) := by rw [ok.frames, hs]
  have hloc : Loc X.env.scope n := .inl hln
  refine wpAny_Try_except ?_
  refine wpAny_mono ((hb (wAsV X.K c i ts Wout D) (X.pn ++ pins) (fun e s₁ => wpAny (model X.prog X.w) X.A (noteFrame e X.env) (fun _ s₂ => wpAny (model X.prog X.w) X.A (setFlight e none) (fun _ s₃ =>
    wpAny (model X.prog X.w) X.A (handleBy e X.env [.ExceptHandler (some (.Name x np)) (some n) (b₀ :: suite) pos']) (SP X pins D) X.xe s₃) X.xe s₂) X.xe s₁) (fun u s' xx => ?_) PassesOwn.looking).run [] s σ H D (I.toTry _) h) (fun f s1 hsp => ?_) (fun e s1 he => he)
  · obtain ⟨a, B, sI, pins', σ', H', cls, d, rfl, J', nb, up, sky, na, os, ag, b, hb1, hyes, hno⟩ := xx
    have J : Inv X pins σ' H' sI := J'.ofTry ok
    have sky' : Sky B (X.env :: X.outer) a (Zc cls d) X.env.locals s'.heap := by rw [← hs]; exact sky
    show wpAny (model X.prog X.w) X.A (noteFrame (.ref a) X.env) _ _ _
    refine Sky.land Zc.steady hfr hf sky' fun h3 fl3 up3 => ?_
    have J3 : Inv X pins σ' H' { s' with heap := h3 } := J.landed nb fl3.1 (up.trans up3) os ag
    obtain ⟨oe3, vs3, he3, hz3, hd3⟩ := fl3.there
    have notFr : ∀ {h : Heap} {o : Obj} {vs : Array Value}, h.FunFrames B (X.env :: X.outer) → h.get? a = some o → o.data = .fields vs → a ∉ frs (X.env :: X.outer) := fun {h o vs} ff e dd hm => by
      obtain ⟨_, o', e', hnf⟩ := ff.mem hm
      rw [e] at e'; cases e'
      exact hnf _ dd
    have nfr := notFr fl3.2.2.1 he3 hd3
    have nL : a ≠ X.env.locals := fun z => nfr (List.mem_filterMap.mpr ⟨X.env, List.mem_cons_self, by rw [hf, z]⟩)
    have nF : a ∉ X.fs := fun hm => by
      obtain ⟨e, he, q⟩ := List.mem_filterMap.mp hm
      exact nfr (List.mem_filterMap.mpr ⟨e, List.mem_cons_of_mem _ he, q⟩)
    -- a is new
    have hB0 : B.get? a = none := fl3.2.1
    have hI0 : sI.heap.get? a = none := by
      cases q : sI.heap.get? a with
      | none => rfl
      | some o =>
        have := nb a o q (by rw [hs]; exact nfr)
        rw [hB0] at this; cases this
    have h00 : X.s_0.heap.get? a = none := by
      cases q : X.s_0.heap.get? a with
      | none => rfl
      | some o =>
        by_cases hx : a ∈ X.ex
        · rw [hex] at hx; cases hx
        · obtain ⟨o', e⟩ := J.base.there a o q hx
          rw [hI0] at e; cases e
    have npn : ∀ p ∈ X.pn ++ pins, p.1 ≠ a := fun p hp z => by
      have := (J.pin p hp).1
      rw [z, hI0] at this; cases this
    have ncl : ∀ y c, X.env.cells.lookup y = some c → c ≠ a := fun y c e z => by
      obtain ⟨w', o, e1, _⟩ := J.cell y c e
      rw [z, hI0] at e1; cases e1
    have S3 := J3.suite he3 hd3 na nL nF
    refine wpAny_handleBy_cons (codeAny_handlers_test ?_) (by intro q; cases q)
    have LT : PySem.W.Looks (model X.prog X.w) h3 (typeOf (.ref a)) cls := fun A Q E s k q => wpAny_typeOf_ref (k _ _ he3) (by rw [hz3.1]; exact q)
    have LM := PySem.W.exm_one (M := model X.prog X.w) (J3.kIn) LT hb1
    have test : ∀ {Q : Value → Shared → Prop} {E : Value → Shared → Prop}, Q c { s' with heap := h3 } → wpAny (model X.prog X.w) (X.A.mark (some (.ref a))) (eval (.Name x np) X.env) Q E { s' with heap := h3 } := fun {Q E} q => by
      obtain ⟨hg, hdbg, hm | ⟨hm, hv, hnn⟩⟩ := hc
      · exact ld_glob (X := X.suite a ((a, oe3) :: (X.pn ++ pins))) S3 hg hm q hdbg
      · exact ld_blt (X := X.suite a ((a, oe3) :: (X.pn ++ pins))) S3 hg hm hv q hnn hdbg
    refine test (LM.here ?_)
    cases b with
    | true =>
      refine codeAny_handlers_suite_as ?_
      refine HandSPX.lands_againZ fl3 fun h4 fl4 up4 => ?_
      have J4 : Inv X pins σ' H' { s' with heap := h4 } := J.landed nb fl4.1 ((up.trans up3).trans up4) os ag
      obtain ⟨oe4, vs4, he4, hz4, hd4⟩ := fl4.there
      have S4 := J4.suite he4 hd4 na nL nF
      refine store_ok (X := X.suite a ((a, oe4) :: (X.pn ++ pins))) (v := .ref a) S4 hN hi hloc rfl (fun s5 S5 => ?_) (.inr hln)
      refine wpAny_mono ((hsu a oe4 cls d (X.pn ++ pins) hz4 ⟨_, hd4⟩).run [] s5 _ H' _ S5 (hyes rfl a na)) (fun f s6 hsp => ?_) (fun _ _ z => False.elim z)
      cases f with
      | next =>
        obtain ⟨σ6, H6, S6, q6⟩ := hsp
        refine gone_ok (X := X.suite a ((a, oe4) :: (X.pn ++ pins))) S6 hN hi hln fun s7 S7 => ?_
        obtain ⟨p1, p2, _⟩ := S7.pin (a, oe4) (List.mem_append_left _ List.mem_cons_self)
        have J7 := S7.unsuite ok
        exact ⟨_, _, Inv.addX (a := a) (o := exV cls d a) J7 p2 h00 nL ncl npn ⟨⟨oe4, p1, hz4, _, hd4⟩, ⟨oe4, p1⟩, fun h1 h2 ⟨o, e, z, v⟩ k => ⟨o, k o e, z, v⟩⟩, q6 p2⟩
      | brk =>
        obtain ⟨σ6, H6, S6, q6⟩ := hsp
        exact q6.elim
      | cont =>
        obtain ⟨σ6, H6, S6, q6⟩ := hsp
        exact q6.elim
      | ret u =>
        obtain ⟨v6, σ6, H6, S6, r6, q6⟩ := hsp
        exact q6.elim
    | false =>
      show wpAny _ X.A (handleBy (.ref a) X.env []) _ _ _
      refine wpAny_handleBy_nil ?_
      obtain ⟨k1, k2, k3, oe, vs, T, oT, ts', he, hz, hd, h1, hr⟩ := id fl3
      unfold PySem.passOn
      refine wpAny_bind (wpAny_field he hd h1 ?_)
      rw [if_neg (show ¬ ((Value.ref T == Value.none) = true) from by simp)]
      have fin : wpAny (model X.prog X.w) X.A (setFlight (.ref a) X.env.frame) (fun _ s4 => wpAny (model X.prog X.w) X.A (throw (.ref a) : Sem Flow) (SP X pins D) X.xe s4) X.xe { s' with heap := h3 } := by
        rw [hf]
        refine HandSPX.setFlight_upZ fl3 fun h4 hh4 up4 => wpAny_throw (tk _ _ ?_)
        exact ⟨a, B, sI, pins, σ', H', cls, d, rfl, J, nb, (up.trans up3).trans up4, .inr (.inr (by rw [hs]; exact hh4)), na, os, ag, hno rfl⟩
      first
        | exact wpAny_bind (wpAny_pure (wpAny_bind fin))
        | exact wpAny_bind fin
  · cases f with
    | next =>
      obtain ⟨σ', H', J', q⟩ := hsp
      exact wpAny_execs_nil ⟨σ', H', J'.ofTry ok, q⟩
    | brk =>
      obtain ⟨σ', H', J', q⟩ := hsp
      exact ⟨σ', H', J'.ofTry ok, q⟩
    | cont =>
      obtain ⟨σ', H', J', q⟩ := hsp
      exact ⟨σ', H', J'.ofTry ok, q⟩
    | ret u =>
      obtain ⟨v, σ', H', J', r, q⟩ := hsp
      exact ⟨v, σ', H', J'.ofTry ok, r, q⟩
end
end J

set_option maxHeartbeats 4000000
/-! J13: caught(lambda: e), where caught keeps the exception. -/
namespace J
open PySem PySem.Spec PyProof.Rows L2 Evl RZ LamX
/-! ### data outlive a new code object in a table -/
section
variable {K : PySem.W.Frag} {H H' : Hp}
theorem rdN {a : Addr} {u : HO} (e : ExtN H H') (hu : ∀ ps, u ≠ .tbl ps) (h : Rd H a u) : Rd H' a u := by
  rcases h with h | ⟨o, h⟩
  · exact .inl (e a u h hu)
  · exact .inr ⟨o, e a _ h fun ps z => by cases z⟩
theorem sqLN {a : Addr} {xs : List V} (e : ExtN H H') (h : SqL K H a xs) : SqL K H' a xs := by
  rcases h with h | h
  · exact .inl (rdN e (fun ps z => by cases z) h)
  · exact .inr h
theorem sqTN {a : Addr} {xs : List V} (e : ExtN H H') (h : SqT K H a xs) : SqT K H' a xs := by
  rcases h with h | h
  · exact .inl (rdN e (fun ps z => by cases z) h)
  · exact .inr h
mutual
theorem dpN (e : ExtN H H') : ∀ (d : D) (v : V), Dp K H v d → Dp K H' v d
  | .none, _, h => by cases h; exact .non
  | .bool b, _, h => by cases h; exact .bl b
  | .int i, _, h => by cases h; exact .int i
  | .str x, _, h => by cases h; exact .str x
  | .list ds, _, h => by cases h with | lst a b => exact .lst (sqLN e a) (dpNA e ds _ b)
  | .tuple ds, _, h => by cases h with | tup a b => exact .tup (sqTN e a) (dpNA e ds _ b)
  | .dict _, _, h => by cases h with | dct0 a => exact .dct0 (rdN e (by intro _ z; cases z) a)
theorem dpNA (e : ExtN H H') : ∀ (ds : List D) (vs : List V), DpAll K H vs ds → DpAll K H' vs ds
  | [], _, h => by cases h; exact .nil
  | d :: ds, _, h => by cases h with | cons a b => exact .cons (dpN e d _ a) (dpNA e ds _ b)
end
theorem svN {s : Sv} {v : V} (e : ExtN H H') (h : s.holds K H v) : s.holds K H' v := by
  cases s with
  | dat d => exact dpN e d v h
  | val w => exact h
  | exc cls => obtain ⟨a, h1, h2⟩ := h; exact ⟨a, h1, e _ _ h2 fun ps z => by cases z⟩
  | inv p => exact fun G2 e2 => h G2 (e.trans e2)
theorem pairedN (e : ExtN H H') : ∀ {xs : List Sv} {vs : List V}, Paired (fun s v => s.holds K H v) xs vs → Paired (fun s v => s.holds K H' v) xs vs
  | _, _, .nil => .nil
  | _, _, .cons a b => .cons (svN e a) (pairedN e b)
theorem paired2N {κ : Type} (e : ExtN H H') : ∀ {xs : List (κ × Sv)} {vs : List (κ × V)}, Paired (fun (p : κ × Sv) (q : κ × V) => p.1 = q.1 ∧ p.2.holds K H q.2) xs vs → Paired (fun (p : κ × Sv) (q : κ × V) => p.1 = q.1 ∧ p.2.holds K H' q.2) xs vs
  | _, _, .nil => .nil
  | _, _, .cons a b => .cons ⟨a.1, svN e a.2⟩ (paired2N e b)
def noTab : Mo → Prop
  | .tab _ => False
  | _ => True
theorem moN {G G' : Hp} {a : Addr} {m : Mo} (e : ExtN G G') (e2 : ExtN H H') (h : m.holds K G H a) (n : noTab m) : m.holds K G' H' a := by
  cases m with
  | lst xs => obtain ⟨vs, h1, h2⟩ := h; exact ⟨vs, e2 _ _ h1 (fun ps z => by cases z), pairedN e h2⟩
  | dct xs => obtain ⟨vs, h1, h2⟩ := h; exact ⟨vs, e2 _ _ h1 (fun ps z => by cases z), paired2N e h2⟩
  | ins C dx xs => obtain ⟨vs, h1, h2⟩ := h; exact ⟨vs, e2 _ _ h1 (fun ps z => by cases z), paired2N e h2⟩
  | tab q => exact n.elim
theorem hidN {M : List Addr} (e : ExtN H H') : ExtN (hid M H) (hid M H') := fun a o h n => by
  by_cases ha : a ∈ M
  · rw [hid_in ha] at h; cases h
  · rw [hid_out ha] at h ⊢; exact e a o h n
/-- the state behind the making of a lambda -/
theorem Sy.tabbed {ρ : Ro} {μ : Mu} {σ : L2.St} {P : Addr} {q : Str} (S : Sy K (fun _ => none) [] ρ ((P, .tab q) :: μ) σ H) (hm : ∀ p ∈ μ, noTab p.2) (e : ExtN H H') (T : Tabs [(P, q)] H') : Sy K (fun _ => none) [] ρ ((P, .tab q) :: μ) σ H' := by
  have up := hidN (M := adr [] ((P, .tab q) :: μ)) e
  refine ⟨fun i s h => let ⟨v, a, b⟩ := S.sl i s h; ⟨v, a, svN up b⟩, S.ln, fun p hp => ?_, Al.nil, (fun _ _ z => by cases z), fun _ _ => rfl, S.dj⟩
  rcases List.mem_cons.mp hp with rfl | hp
  · obtain ⟨ps, h1, h2, h3⟩ := T (P, q) List.mem_cons_self
    refine ⟨ps, h1, h2, fun pos cv z => ?_⟩
    obtain ⟨c, c1, c2⟩ := h3 pos cv z
    refine ⟨c, c1, ?_⟩
    rw [hid_out fun hc => ?_]
    · exact c2
    · rcases List.mem_append.mp hc with hc | hc
      · obtain ⟨p, hp, rfl⟩ := List.mem_map.mp hc
        rcases List.mem_cons.mp hp with rfl | hp
        · rw [show H' P = _ from h1] at c2; cases c2
        · have := moN (K := K) up e (S.ob p (List.mem_cons_of_mem _ hp)) (hm p hp)
          revert this
          cases p.2 with
          | lst xs => rintro ⟨vs, h1, _⟩; rw [h1] at c2; cases c2
          | dct xs => rintro ⟨vs, h1, _⟩; rw [h1] at c2; cases c2
          | ins C dx xs => rintro ⟨vs, h1, _⟩; rw [h1] at c2; cases c2
          | tab q => rintro ⟨vs, h1, _⟩; rw [h1] at c2; cases c2
      · cases hc
  · exact moN up e (S.ob p (List.mem_cons_of_mem _ hp)) (hm p hp)
theorem Sy.tabs {ρ : Ro} {μ : Mu} {σ : L2.St} {P : Addr} {q : Str} {B : Hp} {M0 : List Addr} (S : Sy K B M0 ρ ((P, .tab q) :: μ) σ H) : Tabs [(P, q)] H := fun p hp => by
  obtain rfl := List.mem_singleton.mp hp
  obtain ⟨ps, h1, h2, h3⟩ := S.ob (P, .tab q) List.mem_cons_self
  refine ⟨ps, h1, h2, fun pos cv z => ?_⟩
  obtain ⟨c, c1, c2⟩ := h3 pos cv z
  exact ⟨c, c1, hid_le _ _ c2⟩
end
/-! ### found = None; try: a() / except e as n: found = n; return found -/
def TCaught (K : PySem.W.Frag) (CS : Addr) : (XK → Hp → VK → Prop) → Hp → VK → Prop := fun tl H Q =>
  tl (fun cls d H' => ∃ b, PySem.W.exmOne K cls (.ref CS) = some b ∧ (b = true → ∀ a, H' a = none → Q (.ref a) (L2.upd H' a (exV cls d a))) ∧ (b = false → False)) H fun _ H' => ∃ v, (some (some V.non) : Option (Option V)) = some (some v) ∧ Q v H'
theorem pss_len {X : Cx} {sts : List Stmt} {t : TS} (p : PSs X sts t) : PSs X sts (fun D σ H => σ.length = X.N.length → t D σ H) := ⟨fun pins s σ H D I h => p.run pins s σ H D I (h I.len)⟩
section
variable {X : Cx}
theorem caught_gives {x a e n f q : Str} {sg : Scope} {g CS : Addr} {cdg : Value} {j : Nat} {p0 p1 p2 p3 p4 p5 p6 p7 p8 p9 p10 p11 p12 p13 : Pos} (hnd : ([a, f, n] : List Str).Nodup) (hge : sg.names.lookup e = some .globalImplicit) (hme : X.mg e = some (.ref CS)) (hde : (e == ("__debug__" : Str)) = false)
    (hlf : sg.names.lookup f = some .local) (hln : sg.names.lookup n = some .local) (hdf : (f == ("__debug__" : Str)) = false) (hcf : (f == ("__classdict__" : Str)) = false) (hdn : (n == ("__debug__" : Str)) = false) (hcn : (n == ("__classdict__" : Str)) = false) :
    GivesTo X [a, f, n] x sg g cdg [.Assign [.Name f p0] (.Constant .none j p1) p2, .Try [.Expr (.Call (.Name a p3) [] [] p4) p5] [.ExceptHandler (some (.Name e p6)) (some n) [.Assign [.Name f p7] (.Name n p8) p9] p10] [] [] p11, .Return (some (.Name f p12)) p13] a q (TCaught X.K CS) := by
  intro fa c' s H Q tl act hc h
  have hgl : Gl (cxOf C8.CX0 X.prog X.w X.K X.mg X.base [a, f, n] x sg g cdg X.A X.stack s H C8.E0).nox e := hge
  have hN : (cxOf C8.CX0 X.prog X.w X.K X.mg X.base [a, f, n] x sg g cdg X.A X.stack s H C8.E0).nox.N.Nodup := hnd
  have vf : Vis sg f := .inl hlf
  have vn : Vis sg n := .inl hln
  refine ⟨_, pss_cons (ps_set (X := (cxOf C8.CX0 X.prog X.w X.K X.mg X.base [a, f, n] x sg g cdg X.A X.stack s H C8.E0).nox) (i := 1) hN rfl (.inl hlf) pe_non (by rfl) (.inr hlf))
    (pss_cons (ps_try_asV (X := (cxOf C8.CX0 X.prog X.w X.K X.mg X.base [a, f, n] x sg g cdg X.A X.stack s H C8.E0).nox) (c := .ref CS) (i := 2)
      (tb := fun W D σ H => ∃ Ech : XK, (∀ cls d σ' H', Ech cls d H' → W cls d σ' H') ∧ σ[0]? = some (some (.ref fa)) ∧ H c' = some (CodeO c' q) ∧ tl Ech H fun _ H' => D.nx σ H')
      rfl rfl rfl hN rfl hln ⟨hgl, hde, .inl hme⟩ takes0 (fun W pn xe tk _ => ?_) (ts := fun ad cls d D σ H => σ.length = 3 → tAsg (tVar 2) (gName 1) D σ H) (fun ad oe cls d pn _ _ => pss_len (X := (cxOf C8.CX0 X.prog X.w X.K X.mg X.base [a, f, n] x sg g cdg X.A X.stack s H C8.E0).nox.suite ad ((ad, oe) :: pn)) (pss_one (ps_set (X := (cxOf C8.CX0 X.prog X.w X.K X.mg X.base [a, f, n] x sg g cdg X.A X.stack s H C8.E0).nox.suite ad ((ad, oe) :: pn)) (i := 1) hN rfl (.inl hlf) (pe_var (i := 2) rfl vn hdn hcn) (by rfl) (.inr hlf)))))
      (pss_one (ps_ret (pe_var (i := 1) rfl vf hdf hcf)))), ?_⟩
  · refine ⟨fun pins s' σ H' D I h' => ?_⟩
    obtain ⟨Ech, hW, h1, h2, h3⟩ := h'
    have hp := act W pn xe Ech p3 p4 tk hW
    have hq := pss_one (ps_expr (pos := p5) hp (by rfl))
    exact hq.run pins s' σ H' D I ⟨h1, h2, h3⟩
  · refine ⟨_, fun cls d σ' H' hE => ?_, ?_, hc, h⟩
    · obtain ⟨b, e1, e2, e3⟩ := hE
      refine ⟨b, e1, fun hb ad hn hlen => ?_, fun hb => (e3 hb).elim⟩
      have hlen : (σ'.set 2 (some (V.ref ad))).length = 3 := hlen
      have hl : σ'.length = 3 := by rw [List.length_set] at hlen; exact hlen
      match σ', hl with
      | [s0, s1, s2], _ => exact ⟨.ref ad, rfl, fun hn => ⟨.ref ad, rfl, e2 hb ad hn⟩⟩
    · rfl
/-- what the lambda's body is to be -/
def tLm (X : Cx) (scope : Scope) (body : Expr) (k : Nat) : XK → TE := fun E σ H Q => ∀ (A : Around) (outer : List Env) (s : Shared) (H0 : Hp) (f c' : Addr), Room k (A.deeper (lamEnv X scope s.heap.objs.size f c')) → tW (lamCx X A outer s H0 E scope f c') body σ H Q
theorem jm_caught {k : Nat} {x a e n f : Str} {CS g c P : Addr} {st : Stmt} {fd : FuncData} {params : Arguments} {body : Expr} {scope : Scope} {p lpos pos : Pos} {j : Nat} {p0 p1 p2 p3 p4 p5 p6 p7 p8 p9 p10 p11 p12 p13 : Pos} {ρ : Ro} {μ : Mu} {σ : L2.St} {H : Hp} {Q : VK}
    (S : Sy X.K (fun _ => none) [] ρ ((P, .tab (X.env.qual ++ "<lambda>")) :: μ) σ H) (hmu : ∀ p ∈ μ, noTab p.2)
    (F : FunD X.K x x (defArgs st) [.Assign [.Name f p0] (.Constant .none j p1) p2, .Try [.Expr (.Call (.Name a p3) [] [] p4) p5] [.ExceptHandler (some (.Name e p6)) (some n) [.Assign [.Name f p7] (.Name n p8) p9] p10] [] [] p11, .Return (some (.Name f p12)) p13] (defScope st) [] [] g fd) (hm : X.mg x = some (.ref g))
    (hbi : ∀ (kV doc pm : Value) (an : Option Addr) (cdv ct : Value) (us : List Value), us.length = [a].length → bindArgs (PySem.W.fnOf x x (defArgs st) [.Assign [.Name f p0] (.Constant .none j p1) p2, .Try [.Expr (.Call (.Name a p3) [] [] p4) p5] [.ExceptHandler (some (.Name e p6)) (some n) [.Assign [.Name f p7] (.Name n p8) p9] p10] [] [] p11, .Return (some (.Name f p12)) p13] (defScope st) .none kV doc pm an cdv ct) ⟨us, []⟩ = pure ([a].zip us))
    (Sg : FnScope [a, f, n] [a] (defScope st)) (hva : Vis (defScope st) a) (hge : (defScope st).names.lookup e = some .globalImplicit) (hme : X.mg e = some (.ref CS)) (hde : (e == ("__debug__" : Str)) = false)
    (hlf : (defScope st).names.lookup f = some .local) (hln : (defScope st).names.lookup n = some .local) (hdf : (f == ("__debug__" : Str)) = false) (hcf : (f == ("__classdict__" : Str)) = false) (hdn : (n == ("__debug__" : Str)) = false) (hcn : (n == ("__classdict__" : Str)) = false)
    (TB : TabB X.base X.mg c P) (hcode : X.env.code = .ref c) (hr : Room (k + 2) X.A) (L : LamS X.env.scope scope)
    (hbody : ∀ (A : Around) (outer : List Env) (s : Shared) (H0 : Hp) (f' c' : Addr) (H1 : Hp) (E : XK), Room k (A.deeper (lamEnv X scope s.heap.objs.size f' c')) → Sy X.K (fun _ => none) [] ρ ((P, .tab (X.env.qual ++ "<lambda>")) :: μ) σ H1 →
      (∀ cls H', PySem.W.exmOne X.K cls (.ref CS) = some true → Sy X.K (fun _ => none) [] ρ ((P, .tab (X.env.qual ++ "<lambda>")) :: μ) σ H' → E cls none H') → tW (lamCx X A outer s H0 E scope f' c') body σ H1 (fun _ H' => Q .non H'))
    (hQ : ∀ cls v H', PySem.W.exmOne X.K cls (.ref CS) = some true → Sy X.K (fun _ => none) [] ρ ((P, .tab (X.env.qual ++ "<lambda>")) :: μ) σ H' → (Sv.exc cls).holds X.K (hid (adr [] ((P, .tab (X.env.qual ++ "<lambda>")) :: μ)) H') v → Q v H')
    (hg : Gl X x := by rfl) (hdef : defaultsOf params X.env = ([], []) := by rfl) (hbind : ∀ (q : Str) (cl : List (Str × Addr)) (pm cv ctv : Value), bindArgs (PySem.W.kla_fn "<lambda>" q params body scope cl pm cv ctv) ⟨[], []⟩ = pure [] := by intros; rfl)
    (hdb : (x == ("__debug__" : Str)) = false := by decide) (hd : (a == ("__debug__" : Str)) = false := by decide) (hcd : (a == ("__classdict__" : Str)) = false := by decide) : tW X (.Call (.Name x p) [.Lambda params body scope lpos] [] pos) σ H Q := by
  have hb := F.bindsN (ps := [a]) hbi
  obtain ⟨oc, od, dV, kV, doc, pm, an, cdv, ct, osl, efd, lk, hcg, _, _⟩ := F.ex
  subst efd
  refine leW (pe_lamcall (T := [(P, X.env.qual ++ "<lambda>")]) (TT := TCaught X.K CS) (t := tLm X scope body k) hg hm F.kp lk hcg hb Sg rfl hva
    (caught_gives Sg.nd hge hme hde hlf hln hdf hcf hdn hcn) TB hcode List.mem_cons_self (fun p hp _ => by rw [List.mem_singleton.mp hp]) hr L hdef hbind (fun A outer s H0 E f' c' hr' => ⟨fun pins s' σ' H' Q' I h => h A outer s H0 f' c' hr' pins s' I⟩) hdb hd hcd) ⟨S.tabs, fun H1 eN T1 => ?_⟩
  have S1 := S.tabbed hmu eN T1
  intro A outer s H0 f' c' hr'
  refine tW_mono (hbody A outer s H0 f' c' H1 _ hr' S1 fun cls H' he S' => ?_) fun v H' q => ⟨.non, rfl, q⟩
  refine ⟨true, he, fun _ ad ha => hQ cls (.ref ad) _ he (S'.ex (Ex.new ha)) ⟨ad, rfl, ?_⟩, fun z => by cases z⟩
  rw [hid_out (S'.all.out ha)]
  exact upd_same
end
end J

set_option maxHeartbeats 4000000
/-! J14: further rules. -/
namespace J
open PySem PySem.Spec PyProof.Rows L2 Evl RZ
section
variable {X : Cx} {B H : Hp} {M M0 : List Addr} {ρ ρ2 : Ro} {μ : Mu} {σ : L2.St} {pos p p2 : Pos} {a b c e lo hi : Expr} {d : D} {ds es : List D} {s : Sv} {rest : List Stmt} {D' : Ends} {i j : Int} {js : List Nat} {k l m : Bool}
/-- a test that chooses -/
theorem pt_ifExp {tc ta tb : TT} (hc : PT X c tc) (ha : PT X a ta) (hb : PT X b tb) : PT X (.IfExp c a b pos) (fun σ H Q => tc σ H fun k H1 => if k = true then ta σ H1 Q else tb σ H1 Q) := by
  refine ⟨fun pins s σ H Q I h => ?_⟩
  have e : isTrue (.IfExp c a b pos) X.env (eval (.IfExp c a b pos) X.env) = (do if ← isTrue c X.env (eval c X.env) then isTrue a X.env (eval a X.env) else isTrue b X.env (eval b X.env)) := rfl
  rw [e]
  refine wpAny_bind (thn (hc.run pins s σ H _ I h) fun k s1 ⟨H1, I1, q1⟩ => ?_)
  cases k with
  | true => exact ha.run pins s1 σ H1 Q I1 q1
  | false => exact hb.run pins s1 σ H1 Q I1 q1
theorem jt_if (hc : Jt X M c σ H k) (ha : k = true → Jt X M a σ H l) (hb : k = false → Jt X M b σ H l) : Jt X M (.IfExp c a b pos) σ H l := fun al H1 x Q q => leT (pt_ifExp pt_T pt_T pt_T) (hc al H1 x _ fun H2 y => by
  cases k with
  | true => rw [if_pos rfl]; exact ha rfl al H2 (x.trans y) Q fun H3 z => q H3 (y.trans z)
  | false => rw [if_neg Bool.false_ne_true]; exact hb rfl al H2 (x.trans y) Q fun H3 z => q H3 (y.trans z))
/-- a target of any form, the value made with effects -/
theorem sy_asgE {tg : Expr} (h : tW X e σ H fun v H1 => tG X tg v σ H1 fun σ2 H2 => tB X rest D' σ2 H2)
    (hs : swapsWithSole [tg] e pos.line X.env = pure false := by rfl) (hw : swappedStores [tg] e X.env = pure none := by rfl) (h1 : (assignEach [tg] X.env).map (·.2) = [assign tg X.env] := by rfl) : tB X (.Assign [tg] e pos :: rest) D' σ H :=
  tB_cons (ps_asg pe_W pg_G hs hw h1) h
/-- a product with a small factor -/
theorem jd_mulS (ha : Jd X M a σ H (.int i)) (hb : Jd X M b σ H (.int j)) (hc : CMul i j) : Jd X M (.BinOp a .Mult b pos) σ H (.int (i * j)) := jd_opI op_mul ha hb hc
/-- x not in a list of data -/
theorem jt_notIn (hu : X.A.units + 65 < cLine) (ha : Jd X M a σ H d) (hb : Jd X M b σ H (.list ds)) (hm : behindInMarks .NotIn b = false) (s1 : SeqAt.shaped d = true := by rfl) (s2 : SeqAt.shaped (.list ds) = true := by rfl) : Jt X M (.Compare a [.NotIn] [b] pos) σ H (!ds.any fun z => PyData.eqv z d) := fun al H1 x Q q =>
  leT (pt_cmpR (op_notInD hu) pe_W pe_W hm) (ha al H1 x _ fun v H2 y p => hb al H2 (x.trans y) _ fun w H3 z r => ⟨d, ds, ((p.ex (hid_ex z)).ex hid_le).old s1, (r.ex hid_le).old s2, s1, s2, _, rfl, q H3 (y.trans z)⟩)
/-- tuples: t + u, t[:n], t[n:] -/
theorem jd_cat (ha : Jd X M a σ H (.tuple ds)) (hb : Jd X M b σ H (.tuple es)) (hz : ds.length + es.length ≤ 90000) : Jd X M (.BinOp a .Add b pos) σ H (.tuple (ds ++ es)) := fun al H1 x Q q =>
  leW (pe_op op_catA pe_W pe_W) (ha al H1 x _ fun v H2 y p => hb al H2 (x.trans y) _ fun w H3 z r => by
    obtain ⟨t, xs, e1, e2, e3⟩ := dTup p
    obtain ⟨u, ys, f1, f2, f3⟩ := dTup r
    have e2' := ex_t (hid_ex (M := M) z) e2
    have e3' := e3.ex (hid_ex (M := M) z)
    refine ⟨t, u, xs, ys, e1, f1, ex_t hid_le e2', ex_t hid_le f2, sz_of (by rw [e3.len, f3.len]; omega), fun h0 => ?_, fun _ h0 => ?_, fun _ _ c hc => ?_⟩
    · subst h0
      cases e3
      exact q _ H3 (y.trans z) (f1 ▸ r)
    · subst h0
      cases f3
      rw [List.append_nil] at q
      exact q _ H3 (y.trans z) (.tup e2' e3')
    · have up := hid_ex (M := M) (Ex.new (o := .tup (xs ++ ys)) hc)
      exact q _ _ ((y.trans z).trans (Ex.new hc)) (.tup (SqT.of ((al.ex ((x.trans y).trans z)).newEx hc)) ((e3'.ex up).append (f3.ex up))))
theorem dpTake {K : PySem.W.Frag} {G : Hp} : ∀ {vs : List V} {ds : List D} (n : Nat), DpAll K G vs ds → DpAll K G (vs.take n) (ds.take n)
  | _, _, 0, h => by simpa using DpAll.nil
  | _, _, n + 1, .nil => by simpa using DpAll.nil
  | _, _, n + 1, .cons a t => by rw [List.take_succ_cons, List.take_succ_cons]; exact .cons a (dpTake n t)
theorem dpDrop {K : PySem.W.Frag} {G : Hp} : ∀ {vs : List V} {ds : List D} (n : Nat), DpAll K G vs ds → DpAll K G (vs.drop n) (ds.drop n)
  | _, _, 0, h => by simpa using h
  | _, _, n + 1, .nil => by simpa using DpAll.nil
  | _, _, n + 1, .cons a t => by rw [List.drop_succ_cons, List.drop_succ_cons]; exact dpDrop n t
theorem sIx_le {n d k : Nat} (h : k ≤ n) : HT.sIx n d (some (k : Int)) = k := by rw [HT.sIx_nat]; omega
theorem jd_slTo {n : Nat} (ha : Jd X M a σ H (.tuple ds)) (hb : Jd X M b σ H (.int i)) (hi : i = (n : Int)) (hn : n ≤ ds.length) : Jd X M (.Subscript a (.Slice none (some b) none p2) pos) σ H (.tuple (ds.take n)) := fun al H1 x Q q =>
  leW (pe_slice sl_tupA pe_W po_none (po_some pe_W)) (ha al H1 x _ fun v H2 y p => hb al H2 (x.trans y) _ fun w H3 z r => by
    obtain ⟨t, xs, e1, e2, e3⟩ := dTup p
    have e2' := ex_t (hid_ex (M := M) z) e2
    have e3' := e3.ex (hid_ex (M := M) z)
    have hl := e3.len
    refine ⟨i, dInt r, t, xs, e1, ex_t hid_le e2', fun h0 => ?_, fun _ c hc => ?_⟩
    · rw [hi, HT.sIx_none, sIx_le (by omega)] at h0
      have : ds.take n = ds := by rw [List.take_of_length_le]; omega
      rw [this] at q
      exact q _ H3 (y.trans z) (.tup e2' e3')
    · have up := hid_ex (M := M) (Ex.new (o := .tup (L2.cutV xs none (some i))) hc)
      refine q _ _ ((y.trans z).trans (Ex.new hc)) (.tup (SqT.of ((al.ex ((x.trans y).trans z)).newEx hc)) ?_)
      have e : L2.cutV xs none (some i) = xs.take n := by
        unfold L2.cutV
        rw [hi, HT.sIx_none, sIx_le (by omega), List.drop_zero, Nat.sub_zero]
      rw [e] at up ⊢
      exact dpTake n (e3'.ex up))
theorem jd_slFrom {n : Nat} (ha : Jd X M a σ H (.tuple ds)) (hb : Jd X M b σ H (.int i)) (hi : i = (n : Int)) (hn : n ≤ ds.length) : Jd X M (.Subscript a (.Slice (some b) none none p2) pos) σ H (.tuple (ds.drop n)) := fun al H1 x Q q =>
  leW (pe_slice sl_tupA pe_W (po_some pe_W) po_none) (ha al H1 x _ fun v H2 y p => hb al H2 (x.trans y) _ fun w H3 z r => by
    obtain ⟨t, xs, e1, e2, e3⟩ := dTup p
    have e2' := ex_t (hid_ex (M := M) z) e2
    have e3' := e3.ex (hid_ex (M := M) z)
    have hl := e3.len
    refine ⟨i, dInt r, t, xs, e1, ex_t hid_le e2', fun h0 => ?_, fun _ c hc => ?_⟩
    · rw [hi, sIx_le (by omega)] at h0
      have : ds.drop n = ds := by rw [h0.1, List.drop_zero]
      rw [this] at q
      exact q _ H3 (y.trans z) (.tup e2' e3')
    · have up := hid_ex (M := M) (Ex.new (o := .tup (L2.cutV xs (some i) none)) hc)
      refine q _ _ ((y.trans z).trans (Ex.new hc)) (.tup (SqT.of ((al.ex ((x.trans y).trans z)).newEx hc)) ?_)
      have e : L2.cutV xs (some i) none = xs.drop n := by
        unfold L2.cutV
        rw [hi, HT.sIx_none, sIx_le (by omega), List.take_of_length_le]
        rw [List.length_drop]; omega
      rw [e] at up ⊢
      exact dpDrop n (e3'.ex up))
end
/-! ### isinstance of a caught exception, and of a datum, with one's own class -/
def rIsV (K : PySem.W.Frag) (D : Addr) : List V → Hp → VK → Prop := fun xs H Q => ∃ (a : Addr) (c : V) (cv : Value) (b : Bool), xs = [.ref a, c] ∧ H a = some (exV (.ref D) none a) ∧ (∀ u, RelV c u → u = cv) ∧ PySem.W.kitOne K (.ref D) cv = some b ∧ Q (.bl b) H
theorem call_isV {X : Cx} {D : Addr} (C : ExcC X.K D) : CallR X (.builtin "isinstance") (rIsV X.K D) := by
  intro pins s σ H xs us Q I r h
  obtain ⟨a, c, cv, b, rfl, ha, hcv, e, q⟩ := h
  cases r with
  | cons rx rr =>
    cases rr with
    | cons rt rr =>
      cases rr
      cases rx
      have ec := hcv _ rt
      subst ec
      obtain ⟨⟨oe, hget, hz, hf⟩, _⟩ := I.hok a _ ha
      obtain ⟨vs, hv⟩ := hf
      have J : PySem.W.InstAt s.heap a oe D none := by
        obtain ⟨oc, od, oda, osl⟩ := oe
        obtain ⟨h1, h2⟩ := hz
        dsimp only at h1 h2 hv
        subst h1 h2 hv
        exact ⟨hget, rfl, rfl, trivial⟩
      exact PySem.W.kia_one (PySem.W.handS_kitx_exc C.hg C.hk C.hs C.hd C.ha C.hn C.ht C.hm) I.kIn J e (fun z => nomatch z) fun tk => ⟨.bl b, H, I.kept (t' := tk) fun _ _ z => z, rfl, q⟩
/-- isinstance(e, T), e with effects, T a class of one's own: what e made is told -/
theorem jm_isE {X : Cx} {σ : L2.St} {H : Hp} {a : Expr} {T : Str} {p p2 pos : Pos} {C : Addr} {Q : VK} {r : List V → Hp → VK → Prop} (hc : CallR X (.builtin "isinstance") r) (hm : X.mg "isinstance" = none) (hT : X.mg T = some (.ref C)) (h : tW X a σ H fun v H1 => r [v, .ref C] H1 Q) (hg : Gl X "isinstance" := by rfl) (hgT : Gl X T := by rfl)
    (hd : (T == ("__debug__" : Str)) = false := by decide) (hs : starEach [a, .Name T p2] X.env = (false, eval a X.env) :: starEach [.Name T p2] X.env := by rfl) (hs2 : starEach [.Name T p2] X.env = (false, eval (.Name T p2) X.env) :: starEach [] X.env := by rfl) (hpl : (backTo pos (starEach [.Name T p2] X.env)).any (·.1) = false := by rfl) :
    tW X (.Call (.Name "isinstance" p) [a, .Name T p2] [] pos) σ H Q :=
  leW (pe_callB hc hg hm (by decide +kernel) (pa_cons pe_W (pa_cons (pe_glob (v := .ref C) hgT hT rfl hd) pa_nil hs2) hs) (by decide) (by decide) hs hpl) h
end J

set_option maxHeartbeats 4000000
/-! J15: lcm. -/
namespace J
open PySem PySem.Spec PyProof.Rows L2 Evl RZ
def rLcm : List V → Hp → VK → Prop := fun vs H Q => ∃ a b : Nat, vs = [.int (a : Int), .int (b : Int)] ∧ 0 < a ∧ 0 < b ∧ a < 2 ^ 60 ∧ b < 2 ^ 60 ∧ Q (.int ((Nat.lcm a b : Nat) : Int)) H
theorem cr_lcm {X : Cx} : CallR X (.builtin "math.lcm") rLcm := by
  intro pins s σ H vs us Q I r h
  obtain ⟨a, b, rfl, a0, b0, ha, hb, q⟩ := h
  obtain ⟨t, u, rfl⟩ := Vals.int2 r
  have hle : Nat.lcm a b < 2 ^ 120 := by
    have h1 : Nat.lcm a b ≤ a * b := Nat.le_of_dvd (Nat.mul_pos a0 b0) (Nat.lcm_dvd (Nat.dvd_mul_right a b) (Nat.dvd_mul_left b a))
    have h2 : a * b < 2 ^ 60 * 2 ^ 60 := Nat.mul_lt_mul'' ha hb
    rw [← Nat.pow_add] at h2
    omega
  refine PySem.W.mg_lcm_v (c := ((Nat.lcm a b : Nat) : Int)) (by rw [Int.natAbs_natCast]; omega) (by rw [Int.natAbs_natCast]; omega) (by rw [Int.natAbs_natCast, Int.natAbs_natCast]; simp [Nat.lcm]) ?_ ⟨.int _, H, I.tok _, ⟨_, rfl⟩, q⟩
  rw [Int.natAbs_natCast]
  exact Nat.lt_trans (PySem.Flt.log2_lt_of (by decide) hle) (by decide)
theorem jd_lcm {X : Cx} {M : List Addr} {σ : L2.St} {H : Hp} {a b : Expr} {m n : Nat} {p pos : Pos} {x : Str} (hm : X.mg x = some (.builtin "math.lcm")) (ha : Jd X M a σ H (.int m)) (hb : Jd X M b σ H (.int n)) (h1 : 0 < m ∧ m < 2 ^ 60) (h2 : 0 < n ∧ n < 2 ^ 60) (hg : Gl X x := by rfl) (hdb : (x == ("__debug__" : Str)) = false := by decide) (hs : starEach [a, b] X.env = (false, eval a X.env) :: starEach [b] X.env := by rfl)
    (hs2 : starEach [b] X.env = (false, eval b X.env) :: starEach [] X.env := by rfl) (hpl : (backTo pos (starEach [b] X.env)).any (·.1) = false := by rfl) : Jd X M (.Call (.Name x p) [a, b] [] pos) σ H (.int ((Nat.lcm m n : Nat) : Int)) := fun al H1 y Q q =>
  leW (pe_callBfun cr_lcm hg hm (pa_cons pe_W (pa_cons pe_W pa_nil hs2) hs) hdb hs hpl) (ha al H1 y _ fun v H2 z r => hb al H2 (y.trans z) _ fun w H3 u t => ⟨m, n, by rw [dInt r, dInt t], h1.1, h2.1, h1.2, h2.2, q _ H3 (z.trans u) (.int _)⟩)
end J

set_option maxHeartbeats 4000000
/-! J16: own lists looked at; which data may be compared. -/
namespace J
open PySem PySem.Spec PyProof.Rows L2 Evl RZ
theorem lay_all {xs : List D} : PyData.canLayAll0 xs = true ↔ ∀ x ∈ xs, x.canLay0 = true := by
  induction xs with
  | nil => simp [PyData.canLayAll0]
  | cons a t ih => simp [PyData.canLayAll0, ih]
theorem dep_all {xs : List D} {n : Nat} : PyData.depthAll xs ≤ n ↔ ∀ x ∈ xs, x.depth ≤ n := by
  induction xs with
  | nil => simp [PyData.depthAll]
  | cons a t ih =>
    simp only [PyData.depthAll, List.mem_cons, forall_eq_or_imp, ← ih]
    omega
/-- data that may be compared, of at most n steps -/
def Lay (n : Nat) (d : D) : Prop := d.canLay0 = true ∧ d.depth ≤ n
theorem Lay.shaped {n : Nat} {d : D} (h : Lay n d) (hn : n ≤ 64) : SeqAt.shaped d = true := by
  unfold SeqAt.shaped
  rw [h.1, decide_eq_true (Nat.le_trans h.2 hn)]
  rfl
theorem lay_lst {n : Nat} {xs : List D} : Lay (n + 1) (.list xs) ↔ ∀ x ∈ xs, Lay n x := by
  unfold Lay
  simp only [PyData.canLay0, PyData.depth, lay_all, Nat.add_le_add_iff_right, dep_all]
  exact ⟨fun h x hx => ⟨h.1 x hx, h.2 x hx⟩, fun h => ⟨fun x hx => (h x hx).1, fun x hx => (h x hx).2⟩⟩
theorem lay_tup {n : Nat} {xs : List D} : Lay (n + 1) (.tuple xs) ↔ ∀ x ∈ xs, Lay n x := by
  unfold Lay
  simp only [PyData.canLay0, PyData.depth, lay_all, Nat.add_le_add_iff_right, dep_all]
  exact ⟨fun h x hx => ⟨h.1 x hx, h.2 x hx⟩, fun h => ⟨fun x hx => (h x hx).1, fun x hx => (h x hx).2⟩⟩
theorem lay_int {n : Nat} {i : Int} : Lay n (.int i) := ⟨rfl, Nat.zero_le _⟩
theorem lay_non {n : Nat} : Lay n .none := ⟨rfl, Nat.zero_le _⟩
theorem lay_bl {n : Nat} {b : Bool} : Lay n (.bool b) := ⟨rfl, Nat.zero_le _⟩
theorem Lay.mono {n m : Nat} {d : D} (h : Lay n d) (k : n ≤ m) : Lay m d := ⟨h.1, Nat.le_trans h.2 k⟩
theorem eqv_nil {xs : List D} : PyData.eqv (.list xs) (.list []) = xs.isEmpty := by
  cases xs <;> rfl
section
variable {X : Cx} {B H : Hp} {M0 : List Addr} {ρ : Ro} {μ : Mu} {σ : L2.St} {d : D} {pos : Pos} {e o b : Expr} {ds : List D} {a : Addr} {i : Nat}
theorem dats_all {K : PySem.W.Frag} {G G' : Hp} (up : Ex G G') : ∀ {ds : List D} {vs : List V}, Paired (fun s v => Sv.holds K G s v) (ds.map .dat) vs → DpAll K G' vs ds
  | [], _, h => by cases h; exact .nil
  | d :: ds, _, h => by cases h with | cons x y => exact .cons (Dp.ex x up) (dats_all up y)
theorem erase_sub {i : Nat} : ∀ b ∈ adr M0 (μ.eraseIdx i), b ∈ adr M0 μ := fun b hb => by
  rcases List.mem_append.mp hb with z | z
  · obtain ⟨p, hp, e⟩ := List.mem_map.mp z
    exact List.mem_append_left _ (List.mem_map.mpr ⟨p, List.mem_of_mem_eraseIdx hp, e⟩)
  · exact List.mem_append_right _ z
theorem Sy.notE (S : Sy X.K B M0 ρ μ σ H) {m : Mo} (hi : μ[i]? = some (a, m)) : a ∉ adr M0 (μ.eraseIdx i) := fun z => by
  rcases List.mem_append.mp z with z | z
  · obtain ⟨p, hp, e⟩ := List.mem_map.mp z
    obtain ⟨j, hj, hp2⟩ := List.mem_eraseIdx_iff_getElem?.mp hp
    exact S.apart hi (b := p.1) (n := p.2) hp2 (Ne.symm hj) e
  · exact S.dj.2 _ (List.mem_of_getElem? hi) z
/-- what is one's own list, as a datum, where it does not change meanwhile -/
theorem Sy.frzE (S : Sy X.K B M0 ρ μ σ H) (h : Js X (adr M0 μ) e σ H (.val (.ref a))) (hi : μ[i]? = some (a, .lst (ds.map .dat))) : Jd X (adr M0 (μ.eraseIdx i)) e σ H (.list ds) := fun _ H1 x Q q =>
  h S.all H1 x Q fun v H2 y p => by
    have p : v = .ref a := p
    subst p
    have S2 := S.ex (x.trans y)
    obtain ⟨vs, h1, h2⟩ := S2.own hi
    refine q _ H2 y (.lst (SqL.of ?_) (dats_all (hid_sub erase_sub) h2))
    rw [hid_out (S.notE hi)]
    exact h1
/-- .. a value without lists that is made of it -/
theorem Sy.lookL (S : Sy X.K B M0 ρ μ σ H) {xs : List Sv} (hi : μ[i]? = some (a, .lst xs)) (h : Jd X (adr M0 (μ.eraseIdx i)) e σ H d) (hd : noL d = true) : Jd X (adr M0 μ) e σ H d := by
  obtain ⟨vs, h1, _⟩ := S.own hi
  exact h.thaw hi h1 hd
/-- n-th of one's own list -/
theorem js_ixM {xs : List Sv} {n : Nat} {z : Int} {s : Sv} (S : Sy X.K B M0 ρ μ σ H) (ho : Js X (adr M0 μ) o σ H (.val (.ref a))) (hb : Jd X (adr M0 μ) b σ H (.int z)) (hi : μ[i]? = some (a, .lst xs)) (hz : z = (n : Int)) (hn : xs[n]? = some s) (hx : PlainIx b := by exact fun _ _ => rfl) : Js X (adr M0 μ) (.Subscript o b pos) σ H s := fun al H1 x Q q =>
  leW (pe_ix ix_list pe_W pe_W hx) (ho al H1 x _ fun v H2 y p => hb al H2 (x.trans y) _ fun w H3 z' r => by
    have p : v = .ref a := p
    subst p
    have S3 := S.ex ((x.trans y).trans z')
    obtain ⟨vs, h1, h2⟩ := S3.own hi
    obtain ⟨u, h3, h4⟩ := paired_get h2 hn
    exact ⟨a, vs, z, u, rfl, dInt r, .inl (.inl h1), by rw [hz]; exact atI_nat h3, q u H3 (y.trans z') h4⟩)
end
/-- a call that gets all of one's own objects -/
theorem jm_call1 {X : Cx} {B H : Hp} {M0 : List Addr} {ρ : Ro} {μ : Mu} {σ : L2.St} {pos p : Pos} {e : Expr} {es : List Expr} {k n : Nat} {x : Str} {ps : List Str} {Pre : List Sv → Mu → Prop} {R : List Sv → Mu → Sv → Mu → Prop} {ss : List Sv} {Q : VK} (S : Sy X.K B M0 ρ μ σ H) (F : Fd CX0 X.prog X.w X.K X.mg X.base k x ps (spM X.K n Pre R noF)) (hr : Room k X.A) (ha : Jsa X (adr M0 μ) (e :: es) σ H ss) (hn : ss.length = n) (hp : Pre ss μ)
    (kk : ∀ v s μ1' H', R ss μ s μ1' → Sy X.K B M0 ρ μ1' σ H' → s.holds X.K (hid (adr M0 μ1') H') v → Q v H') (hg : Gl X x := by rfl) (hdb : (x == ("__debug__" : Str)) = false := by decide)
    (he : starEach (e :: es) X.env = (false, eval e X.env) :: starEach es X.env := by rfl) (hpl : (backTo pos (starEach es X.env)).any (·.1) = false := by rfl) : tW X (.Call (.Name x p) (e :: es) [] pos) σ H Q := by
  have e1 : μ ++ [] = μ := List.append_nil μ
  refine jm_call (μ1 := μ) (μ2 := []) (by rw [e1]; exact S) F hr (by rw [e1]; exact ha) hn hp (fun v s μ1' H' hR S' hv => ?_) hg hdb he hpl
  rw [List.append_nil] at S' hv
  exact kk v s μ1' H' hR S' hv
theorem callM1 {X : Cx} {B H : Hp} {M0 : List Addr} {ρ : Ro} {μ : Mu} {σ : L2.St} {n : Nat} {Pre : List Sv → Mu → Prop} {R : List Sv → Mu → Sv → Mu → Prop} {ss : List Sv} {vs : List V} {Q : VK} (S : Sy X.K B M0 ρ μ σ H) (hv : Paired (fun s v => Sv.holds X.K (hid (adr M0 μ) H) s v) ss vs) (hn : ss.length = n) (hp : Pre ss μ)
    (k : ∀ v s μ1' H', R ss μ s μ1' → Sy X.K B M0 ρ μ1' σ H' → s.holds X.K (hid (adr M0 μ1') H') v → Q v H') : spM X.K n Pre R noF vs H Q E0 := by
  have e1 : μ ++ [] = μ := List.append_nil μ
  refine callM (μ1 := μ) (μ2 := []) (E := E0) (by rw [e1]; exact S) (by rw [e1]; exact hv) hn hp (fun v s μ1' H' hR S' hv => ?_) fun _ _ h => h.elim
  rw [List.append_nil] at S' hv
  exact k v s μ1' H' hR S' hv
/-- a comprehension: the tree of it is to be read -/
theorem tW_lc {X : Cx} {σ : L2.St} {H : Hp} {pos : Pos} {tg iter elt : Expr} {ifs : List Expr} {scope : Scope} {own : List (Str × Nat)} {Q : VK} (h : tLc (tI X tg iter) (tGb X scope tg) (tTsb X scope ifs) (tWb X scope elt) (own.map (·.2)) σ H Q) (ok : BlkOk X.N X.env.scope scope own) (hc : X.calm = true) (hN : X.N.Nodup)
    (hs : ∀ x, foldedSetIterable iter X.env x = pure x := by intro _; rfl) : tW X (.ListComp elt [⟨tg, iter, ifs, 0⟩] scope pos) σ H Q :=
  leW (pe_lc (own := own) (g := tGb X scope tg) (tt := tTsb X scope ifs) (te := tWb X scope elt) hc hN pi_I ok (fun s H C cl fp => ⟨fun pins s' σ' H' v u Q' I r h => h _ ⟨s, H, C, cl, fp, rfl⟩ pins s' u I r⟩)
    (fun s H C cl fp => ⟨fun pins s' σ' H' Q' I h => h _ ⟨s, H, C, cl, fp, rfl⟩ pins s' I⟩) (fun s H C cl fp => ⟨fun pins s' σ' H' Q' I h => h _ ⟨s, H, C, cl, fp, rfl⟩ pins s' I⟩) hs) h
/-- .. where what is walked is made with effects -/
theorem lcE_eff {X : Cx} {B H : Hp} {M0 : List Addr} {ρ : Ro} {σ : L2.St} {tg iter elt : Expr} {scope : Scope} {own : List (Str × Nat)} {js : List Nat} {Q : VK} (Z : Mu → List D → Prop)
    (hI : ∀ R : It → Hp → Prop, (∀ J H2 μ ds, Z μ ds → Sy X.K B M0 ρ μ σ H2 → Yl X.K (hid (adr M0 μ) H2) J ds → R J H2) → tI X tg iter σ H R) (f : D → Ro → Ro) (hjs : ∀ j ∈ js, j ∈ own.map (·.2)) (I : Mu → List D → Nat → List D → Mu → Prop) (h0 : ∀ μ ds, Z μ ds → I μ ds 0 [] μ) (hlen : ∀ μ ds, Z μ ds → ∀ i acc μ', I μ ds i acc μ' → acc.length ≤ 90000)
    (hg : ∀ X' d, Blk X scope X' → Jg X' tg js d (wip ρ (own.map (·.2))) (f d (wip ρ (own.map (·.2)))))
    (he : ∀ μ ds, Z μ ds → ∀ (i : Nat) (d : D) (acc : List D) (μ' : Mu) X' B' M' σ' H' (Q : VK), ds[i]? = some d → I μ ds i acc μ' → Blk X scope X' → Sy X'.K B' M' (f d (wip ρ (own.map (·.2)))) μ' σ' H' →
      (∀ v x μ'' H'', I μ ds (i + 1) (acc ++ [x]) μ'' → Sy X'.K B' M' (f d (wip ρ (own.map (·.2)))) μ'' σ' H'' → Dp X'.K (hid (adr M' μ'') H'') v x → Q v H'') → tW X' elt σ' H' Q)
    (k : ∀ μ ds, Z μ ds → ∀ a acc μ' H', I μ ds ds.length acc μ' → Sy X.K B M0 ρ ((a, .lst (acc.map .dat)) :: μ') σ H' → Q (.ref a) H') :
    tLc (tI X tg iter) (tGb X scope tg) (tTsb X scope []) (tWb X scope elt) (own.map (·.2)) σ H Q :=
  hI _ fun _ H2 μ ds hz S2 yl => lcE_core (H := H) S2 yl f hjs (I μ ds) (h0 μ ds hz) (hlen μ ds hz) (fun X' d hb _ => hg X' d hb) (he μ ds hz) (k μ ds hz)
end J

set_option maxHeartbeats 4000000
/-! J17: isinstance with two classes; sizes of data. -/
namespace J
open PySem PySem.Spec PyProof.Rows L2 Evl RZ
section
variable {X : Cx} {M : List Addr} {σ : L2.St} {H : Hp} {a : Expr} {d : D} {p pos : Pos}
theorem jd_isi2 {T1 T2 : Str} {t1 t2 : String} {k1 k2 : Bool} {q1 q2 q3 : Pos} {n : Nat} (hm : X.mg "isinstance" = none) (hT1 : X.mg T1 = none) (hT2 : X.mg T2 = none) (hv1 : bootBuiltins T1 = some (.type t1)) (hv2 : bootBuiltins T2 = some (.type t2)) (ha : Jd X M a σ H d) (hk1 : kitB (tyD d) t1 = some k1) (hk2 : kitB (tyD d) t2 = some k2)
    (hg : Gl X "isinstance" := by rfl) (hgT1 : Gl X T1 := by rfl) (hgT2 : Gl X T2 := by rfl) (hn1 : T1 ≠ "__name__" := by decide) (hn2 : T2 ≠ "__name__" := by decide) (hd1 : (T1 == ("__debug__" : Str)) = false := by decide) (hd2 : (T2 == ("__debug__" : Str)) = false := by decide)
    (hs1 : starEach [.Name T1 q1, .Name T2 q2] X.env = (false, eval (.Name T1 q1) X.env) :: starEach [.Name T2 q2] X.env := by rfl) (hs2 : starEach [.Name T2 q2] X.env = (false, eval (.Name T2 q2) X.env) :: starEach [] X.env := by rfl)
    (hs : starEach [a, .Tuple [.Name T1 q1, .Name T2 q2] n q3] X.env = (false, eval a X.env) :: starEach [.Tuple [.Name T1 q1, .Name T2 q2] n q3] X.env := by rfl) (hs3 : starEach [.Tuple [.Name T1 q1, .Name T2 q2] n q3] X.env = (false, eval (.Tuple [.Name T1 q1, .Name T2 q2] n q3) X.env) :: starEach [] X.env := by rfl)
    (hpl : (backTo pos (starEach [.Tuple [.Name T1 q1, .Name T2 q2] n q3] X.env)).any (·.1) = false := by rfl) :
    Jd X M (.Call (.Name "isinstance" p) [a, .Tuple [.Name T1 q1, .Name T2 q2] n q3] [] pos) σ H (.bool (k1 || k2)) := fun al H1 y Q q =>
  leW (pe_callB call_isiT hg hm (by decide +kernel) (pa_cons pe_W (pa_cons (pe_tup (pa_cons (pe_bltn (v := .ty t1) hgT1 hT1 hv1 rfl hn1 hd1) (pa_cons (pe_bltn (v := .ty t2) hgT2 hT2 hv2 rfl hn2 hd2) pa_nil hs2) hs1)) pa_nil hs3) hs) (by decide) (by decide) hs hpl) (ha al H1 y _ fun v H2 z r =>
    ⟨sz_of (by simp), fun c hc => ⟨v, c, [.ty t1, .ty t2], .type (tyD d), [.type t1, .type t2], k1 || k2, rfl, upd_same, .cons (.ty t1) (.cons (.ty t2) .nil), tyX_of ((r.ex (hid_ex (Ex.new hc))).ex hid_le), by
      refine kitAny_cons (kit_ty hk1) (fun h => ?_) (fun h => by rw [h]; rfl)
      rw [h, Bool.false_or]
      refine kitAny_cons (kit_ty hk2) (fun h2 => ?_) (fun h2 => h2)
      rw [h2]; rfl, q _ _ (z.trans (Ex.new hc)) (.bl _)⟩⟩)
end
mutual
/-- how many data stand in one -/
def sz : D → Nat
  | .list xs => szs xs + 1
  | .tuple xs => szs xs + 1
  | _ => 1
def szs : List D → Nat
  | [] => 0
  | x :: xs => sz x + szs xs
end
theorem sz_pos (d : D) : 0 < sz d := by cases d <;> simp [sz]
theorem szs_app : ∀ xs ys : List D, szs (xs ++ ys) = szs xs + szs ys
  | [], _ => by simp [szs]
  | x :: xs, ys => by simp only [List.cons_append, szs, szs_app xs ys]; omega
theorem szs_len : ∀ xs : List D, xs.length ≤ szs xs
  | [] => Nat.le_refl _
  | x :: xs => by have := szs_len xs; have := sz_pos x; simp only [List.length_cons, szs]; omega
theorem zip_same : ∀ xs : List D, zipD xs xs = xs.map fun x => .tuple [x, x]
  | [] => rfl
  | x :: xs => by simp [zipD, zip_same xs]
end J

set_option maxHeartbeats 4000000
/-! J18: calls whose arguments are made with effects; keyword calls. -/
namespace J
open PySem PySem.Spec PyProof.Rows L2 Evl RZ
section
variable {X : Cx} {B H : Hp} {M M0 : List Addr} {ρ : Ro} {μ : Mu} {σ : L2.St} {pos p : Pos} {a b c e : Expr} {es : List Expr} {k n : Nat} {x : Str} {ps : List Str} {R : List D → D → Prop} {Fl : List D → Value → Prop} {ds : List D} {d : D} {vs : List V} {Q : VK} {rest A C : List Stmt} {D' : Ends}
theorem jd_callE (F : Fd CX0 X.prog X.w X.K X.mg X.base k x ps (spD X.K n R)) (hr : Room k X.A) (ha : tA X (e :: es) σ H fun vs H2 => spD X.K n R vs H2 Q E0) (hg : Gl X x := by rfl) (hdb : (x == ("__debug__" : Str)) = false := by decide)
    (he : starEach (e :: es) X.env = (false, eval e X.env) :: starEach es X.env := by rfl) (hpl : (backTo pos (starEach es X.env)).any (·.1) = false := by rfl) : tW X (.Call (.Name x p) (e :: es) [] pos) σ H Q := by
  obtain ⟨f, fd, hm, hk, hb, ok⟩ := F.ex
  refine leW (pe_call (E := E0) ok hr hg hm hk hb .nil pass0 pa_A hdb he hpl) ?_
  have e : (fun vs H2 => spD X.K n R vs H2 Q E0) = fun vs H1 => spD X.K n R (vs ++ []) H1 Q E0 := by funext vs H2; rw [List.append_nil]
  rw [e] at ha
  exact ha
theorem spd_in (S : Sy X.K B M0 ρ μ σ H) (hv : DpAll X.K (hid (adr M0 μ) H) vs ds) (hl : ds.length = n) (hR : R ds d) (k : ∀ v H3, Sy X.K B M0 ρ μ σ H3 → Dp X.K (hid (adr M0 μ) H3) v d → Q v H3) : spD X.K n R vs H Q E0 :=
  ⟨adr M0 μ, ds, d, hl, S.all, hv, hR, fun v H3 x p => k v H3 (S.ex x) p⟩
theorem tB_if (h : tT X c σ H fun k H' => if k = true then tB X A { D' with nx := tB X rest D' } σ H' else tB X C { D' with nx := tB X rest D' } σ H') : tB X (.If c A C pos :: rest) D' σ H := tB_cons (ps_if pt_T pss_B pss_B) h
theorem tT_not {Q : Bool → Hp → Prop} (h : tT X a σ H fun k H' => Q (!k) H') : tT X (.UnaryOp .Not a pos) σ H Q := leT (pt_not pt_T) h
theorem tT_or {Q : Bool → Hp → Prop} (h : tT X a σ H fun k H' => if k = true then Q true H' else tT X b σ H' Q) : tT X (.BoolOp .Or [a, b] pos) σ H Q := leT (pw_or pt_T (pw_or1 pt_T)).pt h
theorem tT_val {Q : Bool → Hp → Prop} (h : tW X a σ H fun v H' => ∃ k, v = .bl k ∧ Q k H') (he : ∀ whole, isTrue a X.env whole = (do let v ← whole; standAt a.pos; holding [v] (truthy v)) := by intro _; rfl) : tT X a σ H Q := leT (pt_val pe_W he) h
theorem sy_parE (i j : Nat) {x y : Str} {px py pt : Pos} {kt k2 pt2} (h : tA X [a, b] σ H fun vs H' => ∃ v v2, vs = [v, v2] ∧ tB X rest D' ((σ.set i (some v)).set j (some v2)) H')
    (hc : X.calm = true) (hN : X.N.Nodup) (hij : i ≠ j) (hw : swappedStores [.Tuple [.Name x px, .Name y py] kt pt] (.Tuple [a, b] k2 pt2) X.env = pure (some [x, y])) (hi : X.N[i]? = some x := by rfl) (hj : X.N[j]? = some y := by rfl)
    (hx : X.env.scope.names.lookup x = some .local := by rfl) (hy : X.env.scope.names.lookup y = some .local := by rfl) (hs : swapsWithSole [.Tuple [.Name x px, .Name y py] kt pt] (.Tuple [a, b] k2 pt2) pos.line X.env = pure false := by rfl) :
    tB X (.Assign [.Tuple [.Name x px, .Name y py] kt pt] (.Tuple [a, b] k2 pt2) pos :: rest) D' σ H :=
  tB_cons (ps_par hc hN hi hj hij hx hy pa_A hw hs) h
end
/-! ### f(k = e) -/
theorem kbn_of {K : PySem.W.Frag} {x q : Str} {params : Arguments} {body : List Stmt} {scope : Scope} {f : Addr} {fd : FuncData} {ps ks : List Str} {n : Nat} (F : FunD K x q params body scope [] [] f fd)
    (h : ∀ (kV doc pm : Value) (an : Option Addr) (cdv ct : Value) (us ws : List Value), us.length = n → ws.length = ks.length → bindArgs (PySem.W.fnOf x q params body scope .none kV doc pm an cdv ct) ⟨us, ks.zip ws⟩ = pure (ps.zip (us ++ ws))) : KBn K fd ps n ks (fun us ws => us ++ ws) (fun vs zs => vs ++ zs) := by
  obtain ⟨oc, od, dV, kV, doc, pm, an, cdv, ct, osl, rfl, lk, hcd, hD, hK⟩ := F.ex
  rcases hD with ⟨_, rfl⟩ | ⟨e, _⟩
  · exact ⟨fun s us ws X l1 l2 => BindsTo.of_looks fun M => PySem.W.Looks.of_pure (h kV doc pm an cdv ct us ws l1 l2), fun r1 r2 => paired_app r1 r2⟩
  · exact absurd rfl e
def tCallK0 (m : Nat) (sp : Sp) (gV : List V → List V → List V) (E : XK) (tk : TA) : TE := fun σ H Q => tk σ H fun zs H2 => zs.length = m ∧ sp (gV [] zs) H2 Q E
section
variable {X : Cx} {CX : CXT} {k n : Nat} {f C : Addr} {fd : FuncData} {ps ks : List Str} {sp : Sp} {E : XK} {x : Str} {p pos : Pos} {e : Expr} {kws : List Keyword} {tk : TA} {g : List Value → List Value → List Value} {gV : List V → List V → List V}
theorem pe_callK0 (F : FnOk X.prog X.w X.K X.mg X.base CX k f fd ps sp) (hr : Room k X.A) (hg : Gl X x) (hm : X.mg x = some (.ref f)) (hk : PySem.W.keepIn X.K (.ref f) = true) (hb : KBn X.K fd ps 0 ks g gV) (hx : Passes CX X E) (hkw : PK X kws tk)
    (hall : (backToKw pos (keywordEach kws X.env)).all (·.1.isSome) = true := by rfl) (hks : (backToKw pos (keywordEach kws X.env)).filterMap (·.1) = ks := by rfl) (hdb : (x == ("__debug__" : Str)) = false := by decide)
    (hpl : ((backTo pos (starEach [] X.env)).any (·.1) || (backToKw pos (keywordEach kws X.env)).any (·.1.isNone)) = false := by rfl) :
    PE X (.Call (.Name x p) [] kws pos) (tCallK0 ks.length sp gV E tk) := by
  refine ⟨fun pins s σ H Q I h => ?_⟩
  refine wpAny_Call_Name_kw (ld_glob I hg hm ?_ hdb)
  refine PySem.W.callWith_KW0 (h₀ := X.base) I.ok.mod.kin hk hall ?_ hpl
  refine thn (hkw.run pos pins s σ H _ I h) fun ws s2 ⟨zs, H2, I2, rz, l2, q2⟩ => ⟨I2.kIn, ?_⟩
  rw [hks]
  exact run_fnN (us := []) (vs := []) F hr hb hx I2 .nil rz rfl l2 q2
end
section
variable {X : Cx} {B H : Hp} {M M0 : List Addr} {ρ : Ro} {μ : Mu} {σ : L2.St} {pos p kpos : Pos} {e : Expr} {k : Nat} {x nm : Str} {R : List D → D → Prop} {Fl : List D → Value → Prop} {d d' : D} {f C : Addr} {fd : FuncData} {Q : VK} {E : XK}
/-- f(nm = e), f of data, one parameter -/
theorem jd_callXK (ok : FnOk X.prog X.w X.K X.mg X.base (CX X.prog X.w) k f fd [nm] (spX X.K 1 R Fl)) (hm : X.mg x = some (.ref f)) (hk : PySem.W.keepIn X.K (.ref f) = true) (hb : KBn X.K fd [nm] 0 [nm] (fun us ws => us ++ ws) (fun vs zs => vs ++ zs)) (hr : Room k X.A) (ha : Jd X M e σ H d) (hR : R [d] d') (hg : Gl X x := by rfl) (hdb : (x == ("__debug__" : Str)) = false := by decide)
    (hall : (backToKw pos (keywordEach [⟨some nm, e, kpos⟩] X.env)).all (·.1.isSome) = true := by rfl) (hks : (backToKw pos (keywordEach [⟨some nm, e, kpos⟩] X.env)).filterMap (·.1) = [nm] := by rfl)
    (hpl : ((backTo pos (starEach [] X.env)).any (·.1) || (backToKw pos (keywordEach [⟨some nm, e, kpos⟩] X.env)).any (·.1.isNone)) = false := by rfl) : Jd X M (.Call (.Name x p) [] [⟨some nm, e, kpos⟩] pos) σ H d' := fun al H1 y Q q =>
  leW (pe_callK0 (E := E0) ok hr hg hm hk hb passE0 (pk_cons pe_W pk_nil) hall hks hdb hpl) (ha al H1 y _ fun v H2 z r => ⟨rfl, M, [d], rfl, (al.ex y).ex z, .cons r .nil, .inl ⟨d', hR, fun v H3 u t => q v H3 (z.trans u) t⟩⟩)
/-- C(nm = e) -/
theorem jm_makeK1 {ps : List Str} {Pre : List Sv → Mu → Prop} {Rm : List Sv → Mu → Sv → Mu → Prop} {Fm : List Sv → Mu → Value → Prop} {CX : CXT} {s : Sv} (S : Sy X.K B M0 ρ μ σ H) (Mc : Mk X.K C f) (F : FnOk X.prog X.w X.K X.mg X.base CX k f fd ps (spM X.K 2 Pre Rm Fm)) (hb : KBn X.K fd ps 1 [nm] (fun us ws => us ++ ws) (fun vs zs => vs ++ zs)) (hr : Room (k + 1) X.A) (hm : X.mg x = some (.ref C)) (hx : Passes CX X E)
    (ha : Js X (adr M0 μ) e σ H s) (hp : ∀ x0 dx, Pre [.val (.ref x0), s] [(x0, .ins C dx [])]) (hR : ∀ ss' μ' s μ'', Rm ss' μ' s μ'' → s = .dat .none)
    (kk : ∀ x0 dx μ' H', Rm [.val (.ref x0), s] [(x0, .ins C dx [])] (.dat .none) μ' → Sy X.K B M0 ρ (μ' ++ μ) σ H' → Q (.ref x0) H') (kE : ∀ x0 dx cls H', Fm [.val (.ref x0), s] [(x0, .ins C dx [])] cls → Ex H H' → E cls none H') (hg : Gl X x := by rfl)
    (hdb : (x == ("__debug__" : Str)) = false := by decide) (hall : (backToKw pos (keywordEach [⟨some nm, e, kpos⟩] X.env)).all (·.1.isSome) = true := by rfl) (hks : (backToKw pos (keywordEach [⟨some nm, e, kpos⟩] X.env)).filterMap (·.1) = [nm] := by rfl)
    (hpl : ((backTo pos (starEach [] X.env)).any (·.1) || (backToKw pos (keywordEach [⟨some nm, e, kpos⟩] X.env)).any (·.1.isNone)) = false := by rfl) : tW X (.Call (.Name x p) [] [⟨some nm, e, kpos⟩] pos) σ H Q :=
  leW (pe_makeK0 Mc F hr hg hm hb hx (pk_cons pe_W pk_nil) hall hks hdb hpl) (S.evS ha fun v H2 S2 x2 pv => ⟨rfl, rfl, fun x0 dx h1 h2 h3 => by
    exact make_core (ss := [s]) S2 (.cons pv .nil) rfl hp hR kk (fun x0 dx cls H' hF x => kE x0 dx cls H' hF (x2.trans x)) x0 dx h1 h2 h3⟩)
end
end J

set_option maxHeartbeats 4000000
/-! J19: the law's own def. -/
namespace J
open PySem PySem.Spec PyProof.Rows L2 Evl RZ LamX
section
variable {X : Cx}
theorem jm_caughtP {k : Nat} {x a e n f : Str} {CS g c P : Addr} {st : Stmt} {fd : FuncData} {params : Arguments} {body : Expr} {scope : Scope} {p lpos pos : Pos} {j : Nat} {p0 p1 p2 p3 p4 p5 p6 p7 p8 p9 p10 p11 p12 p13 : Pos} {ρ : Ro} {μ : Mu} {σ : L2.St} {H : Hp} {Q : VK}
    (S : Sy X.K (fun _ => none) [] ρ ((P, .tab (X.env.qual ++ "<lambda>")) :: μ) σ H) (hmu : ∀ p ∈ μ, noTab p.2)
    (F : FunD X.K x x (defArgs st) [.Assign [.Name f p0] (.Constant .none j p1) p2, .Try [.Expr (.Call (.Name a p3) [] [] p4) p5] [.ExceptHandler (some (.Name e p6)) (some n) [.Assign [.Name f p7] (.Name n p8) p9] p10] [] [] p11, .Return (some (.Name f p12)) p13] (defScope st) [] [] g fd) (hm : X.mg x = some (.ref g))
    (hbi : ∀ (kV doc pm : Value) (an : Option Addr) (cdv ct : Value) (us : List Value), us.length = [a].length → bindArgs (PySem.W.fnOf x x (defArgs st) [.Assign [.Name f p0] (.Constant .none j p1) p2, .Try [.Expr (.Call (.Name a p3) [] [] p4) p5] [.ExceptHandler (some (.Name e p6)) (some n) [.Assign [.Name f p7] (.Name n p8) p9] p10] [] [] p11, .Return (some (.Name f p12)) p13] (defScope st) .none kV doc pm an cdv ct) ⟨us, []⟩ = pure ([a].zip us))
    (Sg : FnScope [a, f, n] [a] (defScope st)) (hva : Vis (defScope st) a) (hge : (defScope st).names.lookup e = some .globalImplicit) (hme : X.mg e = some (.ref CS)) (hde : (e == ("__debug__" : Str)) = false)
    (hlf : (defScope st).names.lookup f = some .local) (hln : (defScope st).names.lookup n = some .local) (hdf : (f == ("__debug__" : Str)) = false) (hcf : (f == ("__classdict__" : Str)) = false) (hdn : (n == ("__debug__" : Str)) = false) (hcn : (n == ("__classdict__" : Str)) = false)
    (TB : TabB X.base X.mg c P) (hcode : X.env.code = .ref c) (hr : Room (k + 2) X.A) (L : LamS X.env.scope scope)
    (Pc : Value → Prop) (hbody : ∀ (A : Around) (outer : List Env) (s : Shared) (H0 : Hp) (f' c' : Addr) (H1 : Hp) (E : XK), Room k (A.deeper (lamEnv X scope s.heap.objs.size f' c')) → Sy X.K (fun _ => none) [] ρ ((P, .tab (X.env.qual ++ "<lambda>")) :: μ) σ H1 →
      (∀ cls H', Pc cls → PySem.W.exmOne X.K cls (.ref CS) = some true → Sy X.K (fun _ => none) [] ρ ((P, .tab (X.env.qual ++ "<lambda>")) :: μ) σ H' → E cls none H') → tW (lamCx X A outer s H0 E scope f' c') body σ H1 (fun _ H' => Q .non H'))
    (hQ : ∀ cls v H', Pc cls → PySem.W.exmOne X.K cls (.ref CS) = some true → Sy X.K (fun _ => none) [] ρ ((P, .tab (X.env.qual ++ "<lambda>")) :: μ) σ H' → (Sv.exc cls).holds X.K (hid (adr [] ((P, .tab (X.env.qual ++ "<lambda>")) :: μ)) H') v → Q v H')
    (hg : Gl X x := by rfl) (hdef : defaultsOf params X.env = ([], []) := by rfl) (hbind : ∀ (q : Str) (cl : List (Str × Addr)) (pm cv ctv : Value), bindArgs (PySem.W.kla_fn "<lambda>" q params body scope cl pm cv ctv) ⟨[], []⟩ = pure [] := by intros; rfl)
    (hdb : (x == ("__debug__" : Str)) = false := by decide) (hd : (a == ("__debug__" : Str)) = false := by decide) (hcd : (a == ("__classdict__" : Str)) = false := by decide) : tW X (.Call (.Name x p) [.Lambda params body scope lpos] [] pos) σ H Q := by
  have hb := F.bindsN (ps := [a]) hbi
  obtain ⟨oc, od, dV, kV, doc, pm, an, cdv, ct, osl, efd, lk, hcg, _, _⟩ := F.ex
  subst efd
  refine leW (pe_lamcall (T := [(P, X.env.qual ++ "<lambda>")]) (TT := TCaught X.K CS) (t := tLm X scope body k) hg hm F.kp lk hcg hb Sg rfl hva
    (caught_gives Sg.nd hge hme hde hlf hln hdf hcf hdn hcn) TB hcode List.mem_cons_self (fun p hp _ => by rw [List.mem_singleton.mp hp]) hr L hdef hbind (fun A outer s H0 E f' c' hr' => ⟨fun pins s' σ' H' Q' I h => h A outer s H0 f' c' hr' pins s' I⟩) hdb hd hcd) ⟨S.tabs, fun H1 eN T1 => ?_⟩
  have S1 := S.tabbed hmu eN T1
  intro A outer s H0 f' c' hr'
  refine tW_mono (hbody A outer s H0 f' c' H1 _ hr' S1 fun cls H' hc he S' => ?_) fun v H' q => ⟨.non, rfl, q⟩
  refine ⟨true, he, fun _ ad ha => hQ cls (.ref ad) _ hc he (S'.ex (Ex.new ha)) ⟨ad, rfl, ?_⟩, fun z => by cases z⟩
  rw [hid_out (S'.all.out ha)]
  exact upd_same
end
/-- for i in range(n), over a ground of nothing -/
theorem sy_forR {X : Cx} {B H : Hp} {M0 : List Addr} {ρ : Ro} {μ : Mu} {σ : L2.St} {pos p ppos : Pos} {tg a : Expr} {body rest : List Stmt} {D' : Ends} {js : List Nat} {n : Int} (S : Sy X.K B M0 ρ μ σ H) (hm : X.mg "range" = none) (h : Jd X (adr M0 μ) a σ H (.int n)) (hn : -(2 ^ 62) ≤ n ∧ n < 2 ^ 62) (f : D → Ro → Ro) (hg : ∀ d ρ', Jg X tg js d ρ' (f d ρ')) (I : Nat → Ro → Mu → Prop) (h0 : I 0 ρ μ)
    (hs : ∀ (i : Nat) ρ' μ' σ' H', i < n.toNat → I i ρ' μ' → Sy X.K B M0 (f (.int i) ρ') μ' σ' H' → tB X body ⟨fun σ2 H2 => ∃ ρ2 μ2, I (i + 1) ρ2 μ2 ∧ Sy X.K B M0 ρ2 μ2 σ2 H2, D'.rt, tB X rest D', fun σ2 H2 => ∃ ρ2 μ2, I (i + 1) ρ2 μ2 ∧ Sy X.K B M0 ρ2 μ2 σ2 H2⟩ σ' H')
    (hd : ∀ ρ' μ' σ' H', I n.toNat ρ' μ' → Sy X.K B M0 ρ' μ' σ' H' → tB X rest D' σ' H')
    (hp : PassesOwn (model X.prog X.w) X.A X.env X.xe) (hc : X.calm = true) (hgR : Gl X "range" := by rfl) (hs1 : starEach [a] X.env = [(false, eval a X.env)] := by rfl) (hfs : ∀ x, foldedSetIterable (.Call (.Name "range" p) [a] [] ppos) X.env x = pure x := by intro _; rfl) :
    tB X (.For tg (.Call (.Name "range" p) [a] [] ppos) body [] pos :: rest) D' σ H :=
  tB_cons (ps_for hp hc (pi_range1 hgR hm (pa_cons pe_W pa_nil hs1) hs1) pg_G pss_B hfs) (S.ev h fun v H2 S2 x2 p2 => ⟨n, by rw [dInt p2], hn.1, hn.2, by
    refine for_it walk_range (fun i σ' H' => ∃ ρ' μ', I i ρ' μ' ∧ Sy X.K B M0 ρ' μ' σ' H') ⟨ρ, μ, h0, S2⟩ (fun i σ' H' hi _ => trivial) (fun i x σ' H' H3 hi ⟨ρ', μ', hI, S'⟩ y => ?_) fun σ' H' ⟨ρ', μ', hI, S'⟩ => hd ρ' μ' σ' H' hI S'
    obtain ⟨rfl, e⟩ := y
    have e : x = V.int (0 + (i : Int)) := e
    rw [e, Int.zero_add]
    exact hg (.int i) ρ' _ _ _ _ _ _ S' (.int _) _ fun σ4 S4 _ _ => hs i ρ' μ' σ4 _ hi hI S4⟩)
/-- xs[:n] of a list -/
theorem jd_slLTo {X : Cx} {M : List Addr} {σ : L2.St} {H : Hp} {a b : Expr} {ds : List D} {i : Int} {n : Nat} {p2 pos : Pos} (ha : Jd X M a σ H (.list ds)) (hb : Jd X M b σ H (.int i)) (hi : i = (n : Int)) : Jd X M (.Subscript a (.Slice none (some b) none p2) pos) σ H (.list (ds.take n)) := fun al H1 x Q q =>
  leW (pe_slice sl_list pe_W po_none (po_some pe_W)) (ha al H1 x _ fun v H2 y p => hb al H2 (x.trans y) _ fun w H3 z r => by
    obtain ⟨t, xs, e1, e2, e3⟩ := dLst p
    have e3' := e3.ex (hid_ex (M := M) z)
    have hl := e3.len
    refine ⟨i, dInt r, t, xs, e1, ex_l hid_le (ex_l (hid_ex z) e2), fun c hc => ?_⟩
    have up := hid_ex (M := M) (Ex.new (o := .lst (L2.cutV xs none (some i))) hc)
    refine q _ _ ((y.trans z).trans (Ex.new hc)) (.lst (SqL.of ((al.ex ((x.trans y).trans z)).newEx hc)) ?_)
    have e : L2.cutV xs none (some i) = xs.take n := by
      unfold L2.cutV
      rw [hi, HT.sIx_none, HT.sIx_nat, List.drop_zero, Nat.sub_zero, hl]
      by_cases h : n ≤ ds.length
      · rw [Nat.min_eq_left h]
      · rw [Nat.min_eq_right (by omega), List.take_of_length_le (by omega), List.take_of_length_le (by omega)]
    rw [e] at up ⊢
    exact dpTake n (e3'.ex up))
/-! ### the law's def -/
/-- the script in, True out; P: the law's table of code objects, empty -/
def spLaw (K : PySem.W.Frag) (P : Addr) (n : Nat) : Sp := fun vs H Q _ => ∃ (a : Addr) (ns : List Int), vs = [.ref a] ∧ ns.length ≤ n ∧ SqL K H a (ns.map V.int) ∧ H P = some (.tbl #[]) ∧ ∀ H', Q (.bl true) H'
theorem ok_law {P : Program} {w : World} {K : PySem.W.Frag} {mg : Str → Option Value} {base : Heap} {q : Str} {st : Stmt} {f : Addr} {fd : FuncData} {N : List Str} {s0 : Str} {k n : Nat} {x : Str} (F : FunD K x q (defArgs st) (defBody st) (defScope st) [] [] f fd) (S : FnScope N [s0] (defScope st)) (TP : Addr) (TBh : ∀ c, fd.code = .ref c → TabB base mg c TP)
    (body : ∀ (c : Addr) (A : Around) (outer : List Env) (s : Shared) (H : Hp) (E : XK) (a : Addr) (ns : List Int) (D' : Ends), TabB base mg c TP → Room k (bodyX P w K mg base N q st f (.ref c) A outer s H E).A → ns.length ≤ n →
      Sy K (fun _ => none) [] (some (Sv.dat (.list (ns.map PyData.int))) :: List.replicate (N.length - 1) none) [(TP, .tab ((bodyX P w K mg base N q st f (.ref c) A outer s H E).env.qual ++ "<lambda>"))] (L2.start N [.ref a]) H →
      (∀ H', D'.rt (.bl true) H') → tB (bodyX P w K mg base N q st f (.ref c) A outer s H E) (defBody st) D' (L2.start N [.ref a]) H) : FnOk P w K mg base CX0 (k + 1) f fd [s0] (spLaw K TP n) := by
  obtain ⟨oc, od, dV, kV, doc, pm, an, cdv, ct, osl, efd, lk, hcg, _, _⟩ := F.ex
  subst efd
  obtain ⟨c, rfl⟩ := He.codeIn_ref hcg
  refine fn_of lk hcg S (fun vs H Q E h => ?_) (fun A outer s H vs Q E hr h => ?_)
  · obtain ⟨a, ns, rfl, _⟩ := h
    rfl
  · obtain ⟨a, ns, rfl, hl, hS, hP, hQ⟩ := h
    refine ⟨_, PSs.nox pss_B, body c A outer s H E a ns _ (TBh c rfl) hr hl ?_ fun H' => hQ H'⟩
    have hS' : SqL K (hid (adr [] [(TP, .tab ((bodyX P w K mg base N q st f (.ref c) A outer s H E).env.qual ++ "<lambda>"))]) H) a (ns.map V.int) := by
      rcases hS with (h | ⟨o, h⟩) | h
      · refine .inl (.inl ?_)
        rw [hid_out]
        · exact h
        · intro z
          have z : a = TP := by simpa [adr] using z
          rw [z, hP] at h; cases h
      · refine .inl (.inr ⟨o, ?_⟩)
        rw [hid_out]
        · exact h
        · intro z
          have z : a = TP := by simpa [adr] using z
          rw [z, hP] at h; cases h
      · exact .inr h
    refine ⟨fun i sv hi => ?_, by unfold L2.start; simp, fun p hp => ?_, Al.nil, (fun _ _ z => by cases z), fun _ _ => rfl, List.nodup_cons.mpr ⟨by simp, List.nodup_nil⟩, fun p _ z => by cases z⟩
    · match i, hi with
      | 0, hi =>
        cases hi
        exact ⟨.ref a, rfl, .lst hS' (dInts ns)⟩
      | i + 1, hi =>
        rw [List.getElem?_cons_succ, List.getElem?_replicate] at hi
        split at hi <;> cases hi
    · obtain rfl := List.mem_singleton.mp hp
      exact ⟨#[], hP, True.intro, fun pos cv z => by
        have z : codeAmong pos [] = some cv := z
        simp [codeAmong] at z⟩
end J

set_option maxHeartbeats 4000000
/-! J20: zip of any two of lists and tuples. -/
namespace J
open PySem PySem.Spec PyProof.Rows L2 Evl RZ
/-- b: a tuple, else a list -/
def SqB (b : Bool) (K : PySem.W.Frag) (H : Hp) (a : Addr) (xs : List V) : Prop := match b with
  | true => SqT K H a xs
  | false => SqL K H a xs
def ItB (b : Bool) (h : Heap) (it l : Addr) (i : Nat) : Prop := match b with
  | true => h.IsTupleIter it l i
  | false => h.IsListIter it l i
def SeqB (b : Bool) (h : Heap) (l : Addr) (items : Array Value) : Prop := match b with
  | true => h.IsTuple l items
  | false => h.IsList l items
theorem drawsB {prog : Program} {w : World} {A : Around} (b : Bool) (hh : A.handled = none) (it l : Addr) (hne : l ≠ it) (items : Array Value) : Draws prog w A it [it, l] items.size (fun i v => items[i]? = some v) (fun i h => ItB b h it l i ∧ SeqB b h l items) := by
  cases b with
  | true => exact Draws.tuple hh it l hne items
  | false => exact Draws.list hh it l hne items
theorem itB_obj {b : Bool} {h : Heap} {it l : Addr} {i : Nat} (p : ItB b h it l i) : ∃ o, h.get? it = some o ∧ ∀ v, o.data ≠ .cell v := by
  cases b with
  | true => obtain ⟨o, e, _, d⟩ := (show h.IsTupleIter it l i from p); exact ⟨o, e, fun v q => by rw [d] at q; cases q⟩
  | false => obtain ⟨o, e, _, d⟩ := (show h.IsListIter it l i from p); exact ⟨o, e, fun v q => by rw [d] at q; cases q⟩
theorem itB_at {b : Bool} {h h' : Heap} {it l : Addr} {i : Nat} (p : ItB b h it l i) (k : ∀ o, h.get? it = some o → h'.get? it = some o) : ItB b h' it l i := by
  cases b with
  | true => exact (show h.IsTupleIter it l i from p).at k
  | false => exact (show h.IsListIter it l i from p).at k
theorem sqB_read {b : Bool} {X : Cx} {pins : List (Addr × Obj)} {σ : L2.St} {H : Hp} {s : Shared} (I : Inv X pins σ H s) {a : Addr} {xs : List V} (h : SqB b X.K H a xs) : ∃ its : List Value, Vals xs its ∧ SeqB b s.heap a its.toArray ∧ a < s.heap.objs.size := by
  cases b with
  | true =>
    obtain ⟨its, rv, p, _⟩ := I.tuple h
    exact ⟨its, rv, isTuple_of p, by obtain ⟨o, ho, _⟩ := p; exact Heap.lt_size ho⟩
  | false =>
    obtain ⟨its, rv, p, _⟩ := I.list h
    exact ⟨its, rv, p.isList, p.lt⟩
theorem sqB_inj {b : Bool} {X : Cx} {pins : List (Addr × Obj)} {σ : L2.St} {H : Hp} {s : Shared} (I : Inv X pins σ H s) {a : Addr} {xs ys : List V} (h : SqB b X.K H a xs) (h2 : SqB b X.K H a ys) : xs = ys := by
  cases b with
  | true => exact I.tuple_inj h h2
  | false => exact I.list_inj h h2
/-- two of them, the items in new pairs -/
def ItzB (b1 b2 : Bool) (K : PySem.W.Frag) (a b : Addr) : It :=
  ⟨fun i H => ∃ (xs ys : List V) (x y : V), SqB b1 K H a xs ∧ SqB b2 K H b ys ∧ xs[i]? = some x ∧ ys[i]? = some y,
    fun i H v H' => ∃ T x y, v = .ref T ∧ H T = none ∧ H' = upd H T (.tup [x, y]) ∧ (∀ xs, SqB b1 K H a xs → xs[i]? = some x) ∧ ∀ ys, SqB b2 K H b ys → ys[i]? = some y,
    fun i H => ∃ xs ys : List V, SqB b1 K H a xs ∧ SqB b2 K H b ys ∧ i ≤ xs.length ∧ i ≤ ys.length ∧ (i = xs.length ∨ i = ys.length)⟩
theorem turn_zipB {P : Program} {w : World} {K : PySem.W.Frag} {elts : List Expr} {kk : Nat} {tpos : Pos} {b1 b2 : Bool} {a b z TI TO i1 i2 : Addr} (D : ZipSep2 z TI TO i1 i2 [i1, a] [i2, b]) (na : a ≠ i1) (nb : b ≠ i2) :
    Turn P w K (.Tuple elts kk tpos) (ItzB b1 b2 K a b) [z, TI, TO, i1, i2] z (fun i h => IsZip h z TI TO .none ∧ IsTupOf2 h TI (.ref i1) (.ref i2) ∧ (∃ x y, IsTupOf2 h TO x y) ∧ ItB b1 h i1 a i ∧ ItB b2 h i2 b i) where
  mem := by simp
  obj := fun i h st c hc => by
    obtain ⟨hz, hTI, ⟨x, y, hTO⟩, h1, h2⟩ := st
    simp only [List.mem_cons, List.not_mem_nil, or_false] at hc
    rcases hc with rfl | rfl | rfl | rfl | rfl
    · exact ⟨_, hz, fun v q => nomatch q⟩
    · exact ⟨_, hTI, fun v q => nomatch q⟩
    · exact ⟨_, hTO, fun v q => nomatch q⟩
    · exact itB_obj h1
    · exact itB_obj h2
  keep := fun i h h' st k => by
    obtain ⟨hz, hTI, ⟨x, y, hTO⟩, h1, h2⟩ := st
    exact ⟨k z (by simp) _ hz, k TI (by simp) _ hTI, ⟨x, y, k TO (by simp) _ hTO⟩, itB_at h1 fun o q => k i1 (by simp) o q, itB_at h2 fun o q => k i2 (by simp) o q⟩
  item := by
    intro X hP hw hK hc i pins s σ H E I hf st hg
    subst hP hw hK
    obtain ⟨hz, hTI, ⟨x0, y0, hTO⟩, h1, h2⟩ := st
    obtain ⟨xs, ys, x, y, hqx, hqy, hx, hy⟩ := hg
    obtain ⟨its, rv, p, pl⟩ := sqB_read I hqx
    obtain ⟨its2, rv2, p2, pl2⟩ := sqB_read I hqy
    obtain ⟨u, hu, ru⟩ := rv.get hx
    obtain ⟨u2, hu2, ru2⟩ := rv2.get hy
    have hzl : z < s.heap.objs.size := Heap.lt_size hz
    have l1 : i < its.toArray.size := by have := (List.getElem?_eq_some_iff.mp hu).1; simpa using this
    have l2 : i < its2.toArray.size := by have := (List.getElem?_eq_some_iff.mp hu2).1; simpa using this
    refine wpAny_pyNext_zipD2_item D (drawsB b1 (A := X.A.in1) (I.ok.hd hc) i1 a na its.toArray) (drawsB b2 (A := X.A.in1) (I.ok.hd hc) i2 b nb its2.toArray) hz hTI hTO ⟨h1, p⟩ ⟨h2, p2⟩ l1 l2 fun x1 x2 h' tk e1 e2 z' TO' st1 st2 hT hsz hk => ?_
    have e1 : u = x1 := by
      have hu' : its.toArray[i]? = some u := by simpa using hu
      rw [hu'] at e1; exact Option.some.inj e1
    have e2 : u2 = x2 := by
      have hu' : its2.toArray[i]? = some u2 := by simpa using hu2
      rw [hu'] at e2; exact Option.some.inj e2
    subst e1 e2
    refine ⟨_, rfl, wpAny_letOwnedTupleGo_zip (s := { s with heap := h', toks := tk }) z' fun h'' z'' sb => ?_⟩
    have hT2 : h''.get? s.heap.objs.size = some { cls := .type "tuple", data := .seq #[u, u2] } := (sb.2 _ (Nat.ne_of_gt hzl)).trans hT
    have new : ObjOk X.prog X.w (upd H s.heap.objs.size (.tup [x, y])) h'' s.heap.objs.size (.tup [x, y]) :=
      ⟨by show 2 ≤ sizeLine; decide, [u, u2], .cons ru (.cons ru2 .nil), ⟨_, hT2, rfl, _, rfl⟩⟩
    have I1 : Inv X pins σ (upd H s.heap.objs.size (.tup [x, y])) { s with heap := h'', toks := tk } :=
      I.turnedNew (ch := [z, TI, TO, i1, i2]) (fun c o hb q => (sb.2 c (fun q' => hb (by simp [q']))).trans (hk c o (fun q' => hb (by simp [q'])) (fun q' => hb (by simp [q'])) (fun q' => hb (by simp [q'])) (fun q' => hb (by simp [q'])) q)) hf (Nat.le_refl _) new
    refine ⟨.ref s.heap.objs.size, _, I1, rfl, ⟨_, x, y, rfl, I.hok.fresh (Nat.le_refl _), rfl, fun l hl => by rw [sqB_inj I hl hqx]; exact hx, fun l hl => by rw [sqB_inj I hl hqy]; exact hy⟩, ⟨z'', ?_, ⟨u, u2, ?_⟩, ?_, ?_⟩, fun c hcm => ?_⟩
    · exact (sb.2 _ D.TIz).trans (hk _ _ D.TIz D.TITO D.TIi1 D.TIi2 hTI)
    · exact (sb.2 _ D.TOz).trans TO'
    · exact itB_at st1.1 fun o q => (sb.2 _ (Ne.symm D.zi1)).trans q
    · exact itB_at st2.1 fun o q => (sb.2 _ (Ne.symm D.zi2)).trans q
    · have hlt : c < s.heap.objs.size := by
        simp only [List.mem_cons, List.not_mem_nil, or_false] at hcm
        rcases hcm with rfl | rfl | rfl | rfl | rfl
        · exact hzl
        · exact Heap.lt_size hTI
        · exact Heap.lt_size hTO
        · obtain ⟨_, e, _⟩ := itB_obj h1; exact Heap.lt_size e
        · obtain ⟨_, e, _⟩ := itB_obj h2; exact Heap.lt_size e
      rw [upd_ne (Nat.ne_of_lt hlt)]
      exact (hf c hcm).1
  done := by
    intro X hP hw hK hc i pins s σ H E I hf st hg
    subst hP hw hK
    obtain ⟨hz, hTI, ⟨x0, y0, hTO⟩, h1, h2⟩ := st
    obtain ⟨xs, ys, hqx, hqy, m1, m2, hend⟩ := hg
    obtain ⟨its, rv, p, pl⟩ := sqB_read I hqx
    obtain ⟨its2, rv2, p2, pl2⟩ := sqB_read I hqy
    have l1 := rv.length
    have l2 := rv2.length
    exact wpAny_pyNext_zipD2_end D (drawsB b1 (A := X.A.in1) (I.ok.hd hc) i1 a na its.toArray) (drawsB b2 (A := X.A.in1) (I.ok.hd hc) i2 b nb its2.toArray) hz hTI hTO ⟨h1, p⟩ ⟨h2, p2⟩ (by simp; omega) (by simp; omega) (by simp; omega) fun h' tk hk => ⟨rfl, by
      obtain ⟨f0, f1, f2, f3, f4, f5⟩ := hf z (by simp)
      exact I.turnedL (t' := tk) (ch := [z, TI, TO, i1, i2]) (fun c o hb q => hk c o (fun q' => hb (by simp [q'])) (fun q' => hb (by simp [q'])) (fun q' => hb (by simp [q'])) (fun q' => hb (by simp [q'])) q) hf⟩
  self := fun A i s Q E st h => wpAny_pyIter_zip st.1 h
def iZipB (K : PySem.W.Frag) (ta : TA) : TI := fun σ H R => ta σ H fun vs H1 => ∃ b1 b2 a b xs ys, vs = [.ref a, .ref b] ∧ SqB b1 K H1 a xs ∧ SqB b2 K H1 b ys ∧ R (ItzB b1 b2 K a b) H1
def itO (b : Bool) (l : Addr) : Obj := match b with
  | true => { cls := .type "tuple_iterator", data := .fields #[.ref l, .int 0 0] }
  | false => { cls := .type "list_iterator", data := .fields #[.ref l, .int 0 0] }
theorem beginsB (b : Bool) (l : Addr) (items : Array Value) : Begins (.ref l) (itO b l) fun h => SeqB b h l items := by
  cases b with
  | true => exact begins_tuple l items
  | false => exact begins_list l items
theorem itB_new {b : Bool} {h : Heap} {it l : Addr} (e : h.get? it = some (itO b l)) : ItB b h it l 0 := by
  cases b with
  | true => exact ⟨_, e, rfl, rfl⟩
  | false => exact ⟨_, e, rfl, rfl⟩
theorem pi_zipB {X : Cx} {e e2 : Expr} {ta : TA} {p pos tpos : Pos} {elts : List Expr} {kk : Nat} (hg : Gl X "zip") (hm : X.mg "zip" = none) (ha : PA X [e, e2] ta)
    (hs : starEach [e, e2] X.env = (false, eval e X.env) :: starEach [e2] X.env := by rfl) (hpl : (backTo pos (starEach [e2] X.env)).any (·.1) = false := by rfl) :
    PI X (.Tuple elts kk tpos) (.Call (.Name "zip" p) [e, e2] [] pos) (iZipB X.K ta) := by
  refine ⟨fun pins s σ H R I h => ?_⟩
  refine Call_ (ld_blt I hg hm PyProof.Rows.boot_zip (PyProof.Rows.callWith_type1 (thn (ha.run pos pins s σ H _ I h) fun us s1 ⟨vs, H1, I1, r1, q1⟩ => ?_) hs hpl))
  obtain ⟨b1, b2, a, b, xs, ys, ex, hqx, hqy, q⟩ := q1
  subst ex
  cases r1 with
  | cons r rr =>
    cases rr with
    | cons r' rr =>
      cases rr
      cases r
      cases r'
      obtain ⟨its, rv, p1, pl1⟩ := sqB_read I1 hqx
      obtain ⟨its2, rv2, p2, pl2⟩ := sqB_read I1 hqy
      refine zip_begins2 (beginsB b1 a its.toArray) (beginsB b2 b its2.toArray) p1 p2 fun h' hz hTI hTO g1 g2 hsz hk => wpAny_pyIter_zip hz ?_
      have I2 : Inv X pins σ H1 { s1 with heap := h' } := I1.kept (t' := s1.toks) hk
      refine ⟨s1.heap.objs.size + 4, [s1.heap.objs.size + 4, s1.heap.objs.size + 2, s1.heap.objs.size + 3, s1.heap.objs.size, s1.heap.objs.size + 1], _, _, H1, rfl, I2, turn_zipB (zip_sep2 (N := s1.heap.objs.size) (fp1 := [a]) (fp2 := [b]) (fun c hc => by rw [List.mem_singleton.mp hc]; exact pl1) (fun c hc => by rw [List.mem_singleton.mp hc]; exact pl2)) (Nat.ne_of_lt pl1) (Nat.ne_of_lt (Nat.lt_succ_of_lt pl2)), ⟨hz, hTI, ⟨_, _, hTO⟩, itB_new g1, itB_new g2⟩, fun c hcm => ?_, q⟩
      have hle : s1.heap.objs.size ≤ c := by
        simp only [List.mem_cons, List.not_mem_nil, or_false] at hcm
        rcases hcm with rfl | rfl | rfl | rfl | rfl
        · exact Nat.le_add_right _ _
        · exact Nat.le_add_right _ _
        · exact Nat.le_add_right _ _
        · exact Nat.le_refl _
        · exact Nat.le_add_right _ _
      exact I1.fpOk hle (I1.hok.fresh hle)
theorem sqB_ex {b : Bool} {K : PySem.W.Frag} {H H' : Hp} {a : Addr} {xs : List V} (e : Ex H H') (h : SqB b K H a xs) : SqB b K H' a xs := by
  cases b with
  | true => exact ex_t e h
  | false => exact ex_l e h
theorem walk_zipB {K : PySem.W.Frag} {b1 b2 : Bool} {a b : Addr} {xs ys : List V} {n : Nat} (hn : n = min xs.length ys.length) : Walk (ItzB b1 b2 K a b) n (fun H => SqB b1 K H a xs ∧ SqB b2 K H b ys) (YPair (fun i => xs[i]?) (fun i => ys[i]?)) := by
  subst hn
  refine ⟨fun i _ hi q => ?_, fun _ q => ⟨xs, ys, q.1, q.2, by omega, by omega, by omega⟩, fun i H v H' _ q y => ?_⟩
  · have h1 : i < xs.length := by omega
    have h2 : i < ys.length := by omega
    exact ⟨xs, ys, xs[i], ys[i], q.1, q.2, by simp [h1], by simp [h2]⟩
  · obtain ⟨T, x, z, h1, h2, h3, h4, h5⟩ := y
    exact ⟨T, x, z, h1, h2, h3, h4 xs q.1, h5 ys q.2⟩
/-- a datum that is a list or a tuple of ds -/
def seqD (b : Bool) (ds : List D) : D := match b with
  | true => .tuple ds
  | false => .list ds
theorem dSeq {K : PySem.W.Frag} {H : Hp} {b : Bool} {v : V} {ds : List D} (h : Dp K H v (seqD b ds)) : ∃ a xs, v = .ref a ∧ SqB b K H a xs ∧ DpAll K H xs ds := by
  cases b with
  | true => exact dTup h
  | false => exact dLst h
theorem jw_zipB {X : Cx} {M : List Addr} {a b : Expr} {σ : L2.St} {H : Hp} {ds es : List D} {p pos : Pos} {b1 b2 : Bool} {elts : List Expr} {kk : Nat} {tpos : Pos} (hm : X.mg "zip" = none) (h : Jd X M a σ H (seqD b1 ds)) (h2 : Jd X M b σ H (seqD b2 es)) (hg : Gl X "zip" := by rfl) (hs : starEach [a, b] X.env = (false, eval a X.env) :: starEach [b] X.env := by rfl)
    (hs2 : starEach [b] X.env = (false, eval b X.env) :: starEach [] X.env := by rfl) (hpl : (backTo pos (starEach [b] X.env)).any (·.1) = false := by rfl) : Jw X M (.Tuple elts kk tpos) (.Call (.Name "zip" p) [a, b] [] pos) σ H (zipD ds es) := fun al H1 x R k =>
  leI (pi_zipB hg hm (pa_cons pe_W (pa_cons pe_W pa_nil hs2) hs) hs hpl) (h al H1 x _ fun v H2 y q => h2 al H2 (x.trans y) _ fun w H3 z r => by
    obtain ⟨t, xs, e1, e2, e3⟩ := dSeq q
    obtain ⟨u, ys, f1, f2, f3⟩ := dSeq r
    have e2' := sqB_ex (hid_ex (M := M) z) e2
    have e3' := e3.ex (hid_ex (M := M) z)
    exact ⟨b1, b2, t, u, xs, ys, by rw [e1, f1], sqB_ex hid_le e2', sqB_ex hid_le f2, k _ H3 (y.trans z) ⟨_, _, walk_zipB (by rw [zipD_len, e3.len, f3.len]), fun H4 g => ⟨sqB_ex g e2', sqB_ex g f2⟩, yl_pair (fun i d hd => e3'.get hd) (fun i d hd => f3.get hd)⟩⟩)
end J

set_option maxHeartbeats 4000000
namespace K58
open PySem PySem.Spec PyProof.Rows L2 J
/-! ### the text, by places -/
def top (i : Nat) : Stmt := PySem.Challenge.pw_judgedalike_k58_trials_and_what_they_tel.main.body.getD i (.Pass ⟨0, 0, 0, 0⟩)
abbrev s_is_whole : Stmt := top 8
abbrev N_is_whole : List Str := ["value"]
theorem sc_is_whole : FnScope N_is_whole ["value"] (defScope s_is_whole) := ⟨rfl, rfl, rfl, by decide +kernel, rfl, by decide +kernel, by decide +kernel⟩
abbrev s_is_ratio : Stmt := top 9
abbrev N_is_ratio : List Str := ["value", "part"]
theorem sc_is_ratio : FnScope N_is_ratio ["value"] (defScope s_is_ratio) := ⟨rfl, rfl, rfl, by decide +kernel, rfl, by decide +kernel, by decide +kernel⟩
abbrev s_is_chance : Stmt := top 10
abbrev N_is_chance : List Str := ["value"]
theorem sc_is_chance : FnScope N_is_chance ["value"] (defScope s_is_chance) := ⟨rfl, rfl, rfl, by decide +kernel, rfl, by decide +kernel, by decide +kernel⟩
abbrev s_lowest : Stmt := top 11
abbrev N_lowest : List Str := ["n", "d", "common"]
theorem sc_lowest : FnScope N_lowest ["n", "d"] (defScope s_lowest) := ⟨rfl, rfl, rfl, by decide +kernel, rfl, by decide +kernel, by decide +kernel⟩
abbrev s_plus : Stmt := top 12
abbrev N_plus : List Str := ["one", "other"]
theorem sc_plus : FnScope N_plus ["one", "other"] (defScope s_plus) := ⟨rfl, rfl, rfl, by decide +kernel, rfl, by decide +kernel, by decide +kernel⟩
abbrev s_times : Stmt := top 13
abbrev N_times : List Str := ["one", "other"]
theorem sc_times : FnScope N_times ["one", "other"] (defScope s_times) := ⟨rfl, rfl, rfl, by decide +kernel, rfl, by decide +kernel, by decide +kernel⟩
abbrev s_is_less : Stmt := top 14
abbrev N_is_less : List Str := ["one", "other"]
theorem sc_is_less : FnScope N_is_less ["one", "other"] (defScope s_is_less) := ⟨rfl, rfl, rfl, by decide +kernel, rfl, by decide +kernel, by decide +kernel⟩
abbrev s_total : Stmt := top 15
abbrev N_total : List Str := ["ratios", "found", "each"]
theorem sc_total : FnScope N_total ["ratios"] (defScope s_total) := ⟨rfl, rfl, rfl, by decide +kernel, rfl, by decide +kernel, by decide +kernel⟩
abbrev s_are_shares : Stmt := top 16
abbrev N_are_shares : List Str := ["value", "many", "share"]
theorem sc_are_shares : FnScope N_are_shares ["value", "many"] (defScope s_are_shares) := ⟨rfl, rfl, rfl, by decide +kernel, rfl, by decide +kernel, by decide +kernel⟩
abbrev s_need_shares : Stmt := top 17
abbrev N_need_shares : List Str := ["shares", "many"]
theorem sc_need_shares : FnScope N_need_shares ["shares", "many"] (defScope s_need_shares) := ⟨rfl, rfl, rfl, by decide +kernel, rfl, by decide +kernel, by decide +kernel⟩
abbrev s_mean_of : Stmt := top 18
abbrev N_mean_of : List Str := ["ratios", "shares", "share", "ratio_"]
theorem sc_mean_of : FnScope N_mean_of ["ratios", "shares"] (defScope s_mean_of) := ⟨rfl, rfl, rfl, by decide +kernel, rfl, by decide +kernel, by decide +kernel⟩
abbrev s_is_word : Stmt := top 21
abbrev N_is_word : List Str := ["value", "letter"]
theorem sc_is_word : FnScope N_is_word ["value"] (defScope s_is_word) := ⟨rfl, rfl, rfl, by decide +kernel, rfl, by decide +kernel, by decide +kernel⟩
abbrev s_is_count : Stmt := top 23
abbrev N_is_count : List Str := ["value"]
theorem sc_is_count : FnScope N_is_count ["value"] (defScope s_is_count) := ⟨rfl, rfl, rfl, by decide +kernel, rfl, by decide +kernel, by decide +kernel⟩
abbrev s_is_stratum : Stmt := top 26
abbrev N_is_stratum : List Str := ["value", "count"]
theorem sc_is_stratum : FnScope N_is_stratum ["value"] (defScope s_is_stratum) := ⟨rfl, rfl, rfl, by decide +kernel, rfl, by decide +kernel, by decide +kernel⟩
abbrev s_is_trial : Stmt := top 27
abbrev N_is_trial : List Str := ["value", "row", "one", "other"]
theorem sc_is_trial : FnScope N_is_trial ["value"] (defScope s_is_trial) := ⟨rfl, rfl, rfl, by decide +kernel, rfl, by decide +kernel, by decide +kernel⟩
abbrev s_need_trial : Stmt := top 28
abbrev N_need_trial : List Str := ["trial"]
theorem sc_need_trial : FnScope N_need_trial ["trial"] (defScope s_need_trial) := ⟨rfl, rfl, rfl, by decide +kernel, rfl, by decide +kernel, by decide +kernel⟩
abbrev s_rates_in : Stmt := top 29
abbrev N_rates_in : List Str := ["strata", "row"]
theorem sc_rates_in : FnScope N_rates_in ["strata"] (defScope s_rates_in) := ⟨rfl, rfl, rfl, by decide +kernel, rfl, by decide +kernel, by decide +kernel⟩
abbrev s_arm_rates : Stmt := top 30
abbrev N_arm_rates : List Str := ["trial"]
theorem sc_arm_rates : FnScope N_arm_rates ["trial"] (defScope s_arm_rates) := ⟨rfl, rfl, rfl, by decide +kernel, rfl, by decide +kernel, by decide +kernel⟩
abbrev s_shares_in : Stmt := top 31
abbrev N_shares_in : List Str := ["strata", "found", "at", "counts", "row", "count"]
theorem sc_shares_in : FnScope N_shares_in ["strata"] (defScope s_shares_in) := ⟨rfl, rfl, rfl, by decide +kernel, rfl, by decide +kernel, by decide +kernel⟩
abbrev s_arm_shares : Stmt := top 32
abbrev N_arm_shares : List Str := ["trial"]
theorem sc_arm_shares : FnScope N_arm_shares ["trial"] (defScope s_arm_shares) := ⟨rfl, rfl, rfl, by decide +kernel, rfl, by decide +kernel, by decide +kernel⟩
abbrev s_whole_in : Stmt := top 33
abbrev N_whole_in : List Str := ["strata", "sums", "at", "row"]
theorem sc_whole_in : FnScope N_whole_in ["strata"] (defScope s_whole_in) := ⟨rfl, rfl, rfl, by decide +kernel, rfl, by decide +kernel, by decide +kernel⟩
abbrev s_whole_rates : Stmt := top 34
abbrev N_whole_rates : List Str := ["trial"]
theorem sc_whole_rates : FnScope N_whole_rates ["trial"] (defScope s_whole_rates) := ⟨rfl, rfl, rfl, by decide +kernel, rfl, by decide +kernel, by decide +kernel⟩
abbrev s_sign_of : Stmt := top 35
abbrev N_sign_of : List Str := ["one", "other"]
theorem sc_sign_of : FnScope N_sign_of ["one", "other"] (defScope s_sign_of) := ⟨rfl, rfl, rfl, by decide +kernel, rfl, by decide +kernel, by decide +kernel⟩
abbrev s_strata_sign : Stmt := top 36
abbrev N_strata_sign : List Str := ["trial", "signs", "one", "other", "sign"]
theorem sc_strata_sign : FnScope N_strata_sign ["trial"] (defScope s_strata_sign) := ⟨rfl, rfl, rfl, by decide +kernel, rfl, by decide +kernel, by decide +kernel⟩
abbrev s_strata_tell : Stmt := top 37
abbrev N_strata_tell : List Str := ["trial"]
theorem sc_strata_tell : FnScope N_strata_tell ["trial"] (defScope s_strata_tell) := ⟨rfl, rfl, rfl, by decide +kernel, rfl, by decide +kernel, by decide +kernel⟩
abbrev s_whole_tells : Stmt := top 38
abbrev N_whole_tells : List Str := ["trial", "one", "other"]
theorem sc_whole_tells : FnScope N_whole_tells ["trial"] (defScope s_whole_tells) := ⟨rfl, rfl, rfl, by decide +kernel, rfl, by decide +kernel, by decide +kernel⟩
abbrev s_is_reversed : Stmt := top 39
abbrev N_is_reversed : List Str := ["trial"]
theorem sc_is_reversed : FnScope N_is_reversed ["trial"] (defScope s_is_reversed) := ⟨rfl, rfl, rfl, by decide +kernel, rfl, by decide +kernel, by decide +kernel⟩
abbrev s_standardised : Stmt := top 40
abbrev N_standardised : List Str := ["trial", "shares", "rates", "one", "other"]
theorem sc_standardised : FnScope N_standardised ["trial", "shares"] (defScope s_standardised) := ⟨rfl, rfl, rfl, by decide +kernel, rfl, by decide +kernel, by decide +kernel⟩
abbrev s_law_begun : Stmt := top 42
abbrev N_law_begun : List Str := ["script", "great", "cell"]
theorem sc_law_begun : FnScope N_law_begun ["script"] (defScope s_law_begun) := ⟨rfl, rfl, rfl, by decide +kernel, rfl, by decide +kernel, by decide +kernel⟩
abbrev s_law_blended : Stmt := top 43
abbrev N_law_blended : List Str := ["state", "prime", "turn", "found", "blend", "cell"]
theorem sc_law_blended : FnScope N_law_blended ["state"] (defScope s_law_blended) := ⟨rfl, rfl, rfl, by decide +kernel, rfl, by decide +kernel, by decide +kernel⟩
abbrev s_law_draw : Stmt := top 44
abbrev N_law_draw : List Str := ["state", "room", "found"]
theorem sc_law_draw : FnScope N_law_draw ["state", "room"] (defScope s_law_draw) := ⟨rfl, rfl, rfl, by decide +kernel, rfl, by decide +kernel, by decide +kernel⟩
abbrev s_law_pick : Stmt := top 45
abbrev N_law_pick : List Str := ["state", "some"]
theorem sc_law_pick : FnScope N_law_pick ["state", "some"] (defScope s_law_pick) := ⟨rfl, rfl, rfl, by decide +kernel, rfl, by decide +kernel, by decide +kernel⟩
abbrev s_law_caught : Stmt := top 46
abbrev N_law_caught : List Str := ["action", "found", "error"]
theorem sc_law_caught : FnScope N_law_caught ["action"] (defScope s_law_caught) := ⟨rfl, rfl, rfl, by decide +kernel, rfl, by decide +kernel, by decide +kernel⟩
abbrev s_law_is_truth : Stmt := top 47
abbrev N_law_is_truth : List Str := ["found", "due"]
theorem sc_law_is_truth : FnScope N_law_is_truth ["found", "due"] (defScope s_law_is_truth) := ⟨rfl, rfl, rfl, by decide +kernel, rfl, by decide +kernel, by decide +kernel⟩
abbrev s_law_same : Stmt := top 48
abbrev N_law_same : List Str := ["found", "due", "waiting", "one", "other", "alike", "key", "left", "right"]
theorem sc_law_same : FnScope N_law_same ["found", "due"] (defScope s_law_same) := ⟨rfl, rfl, rfl, by decide +kernel, rfl, by decide +kernel, by decide +kernel⟩
abbrev s_law_q : Stmt := top 49
abbrev N_law_q : List Str := ["n", "d", "one", "other"]
theorem sc_law_q : FnScope N_law_q ["n", "d"] (defScope s_law_q) := ⟨rfl, rfl, rfl, by decide +kernel, rfl, by decide +kernel, by decide +kernel⟩
abbrev s_law_plus : Stmt := top 50
abbrev N_law_plus : List Str := ["one", "other"]
theorem sc_law_plus : FnScope N_law_plus ["one", "other"] (defScope s_law_plus) := ⟨rfl, rfl, rfl, by decide +kernel, rfl, by decide +kernel, by decide +kernel⟩
abbrev s_law_times : Stmt := top 51
abbrev N_law_times : List Str := ["one", "other"]
theorem sc_law_times : FnScope N_law_times ["one", "other"] (defScope s_law_times) := ⟨rfl, rfl, rfl, by decide +kernel, rfl, by decide +kernel, by decide +kernel⟩
abbrev s_law_less : Stmt := top 52
abbrev N_law_less : List Str := ["one", "other"]
theorem sc_law_less : FnScope N_law_less ["one", "other"] (defScope s_law_less) := ⟨rfl, rfl, rfl, by decide +kernel, rfl, by decide +kernel, by decide +kernel⟩
abbrev s_law_sum : Stmt := top 53
abbrev N_law_sum : List Str := ["some", "found", "each"]
theorem sc_law_sum : FnScope N_law_sum ["some"] (defScope s_law_sum) := ⟨rfl, rfl, rfl, by decide +kernel, rfl, by decide +kernel, by decide +kernel⟩
abbrev s_law_words : Stmt := top 54
abbrev N_law_words : List Str := ["draws", "many", "found", "word", "lap"]
theorem sc_law_words : FnScope N_law_words ["draws", "many"] (defScope s_law_words) := ⟨rfl, rfl, rfl, by decide +kernel, rfl, by decide +kernel, by decide +kernel⟩
abbrev s_law_weights : Stmt := top 55
abbrev N_law_weights : List Str := ["draws", "many", "top", "found", "lap"]
theorem sc_law_weights : FnScope N_law_weights ["draws", "many", "top"] (defScope s_law_weights) := ⟨rfl, rfl, rfl, by decide +kernel, rfl, by decide +kernel, by decide +kernel⟩
abbrev s_law_shares : Stmt := top 56
abbrev N_law_shares : List Str := ["draws", "many", "found", "each"]
theorem sc_law_shares : FnScope N_law_shares ["draws", "many"] (defScope s_law_shares) := ⟨rfl, rfl, rfl, by decide +kernel, rfl, by decide +kernel, by decide +kernel⟩
abbrev s_law_odd : Stmt := top 57
abbrev N_law_odd : List Str := ["draws", "some"]
theorem sc_law_odd : FnScope N_law_odd ["draws"] (defScope s_law_odd) := ⟨rfl, rfl, rfl, by decide +kernel, rfl, by decide +kernel, by decide +kernel⟩
abbrev s_law_sr_trial : Stmt := top 58
abbrev N_law_sr_trial : List Str := ["draws", "many", "size", "words", "found", "word", "counts", "lap"]
theorem sc_law_sr_trial : FnScope N_law_sr_trial ["draws", "many", "size"] (defScope s_law_sr_trial) := ⟨rfl, rfl, rfl, by decide +kernel, rfl, by decide +kernel, by decide +kernel⟩
abbrev s_law_sr_told : Stmt := top 59
abbrev N_law_sr_told : List Str := ["draws", "many", "words", "word", "side", "found", "rows", "low", "gap", "one", "other"]
theorem sc_law_sr_told : FnScope N_law_sr_told ["draws", "many"] (defScope s_law_sr_told) := ⟨rfl, rfl, rfl, by decide +kernel, rfl, by decide +kernel, by decide +kernel⟩
abbrev s_law_sr_rates : Stmt := top 60
abbrev N_law_sr_rates : List Str := ["strata", "row"]
theorem sc_law_sr_rates : FnScope N_law_sr_rates ["strata"] (defScope s_law_sr_rates) := ⟨rfl, rfl, rfl, by decide +kernel, rfl, by decide +kernel, by decide +kernel⟩
abbrev s_law_sr_whole : Stmt := top 61
abbrev N_law_sr_whole : List Str := ["strata", "sums", "at", "row"]
theorem sc_law_sr_whole : FnScope N_law_sr_whole ["strata"] (defScope s_law_sr_whole) := ⟨rfl, rfl, rfl, by decide +kernel, rfl, by decide +kernel, by decide +kernel⟩
abbrev s_law_sr_sign : Stmt := top 62
abbrev N_law_sr_sign : List Str := ["one", "other"]
theorem sc_law_sr_sign : FnScope N_law_sr_sign ["one", "other"] (defScope s_law_sr_sign) := ⟨rfl, rfl, rfl, by decide +kernel, rfl, by decide +kernel, by decide +kernel⟩
abbrev s_law_sr_tell : Stmt := top 63
abbrev N_law_sr_tell : List Str := ["strata", "signs", "one", "other", "sign"]
theorem sc_law_sr_tell : FnScope N_law_sr_tell ["strata"] (defScope s_law_sr_tell) := ⟨rfl, rfl, rfl, by decide +kernel, rfl, by decide +kernel, by decide +kernel⟩
abbrev s_law_sr_shares : Stmt := top 64
abbrev N_law_sr_shares : List Str := ["strata", "found", "at", "counts", "row", "count"]
theorem sc_law_sr_shares : FnScope N_law_sr_shares ["strata"] (defScope s_law_sr_shares) := ⟨rfl, rfl, rfl, by decide +kernel, rfl, by decide +kernel, by decide +kernel⟩
abbrev s_law_sr_is_count : Stmt := top 65
abbrev N_law_sr_is_count : List Str := ["value"]
theorem sc_law_sr_is_count : FnScope N_law_sr_is_count ["value"] (defScope s_law_sr_is_count) := ⟨rfl, rfl, rfl, by decide +kernel, rfl, by decide +kernel, by decide +kernel⟩
abbrev s_law_sr_is_word : Stmt := top 66
abbrev N_law_sr_is_word : List Str := ["value", "letter"]
theorem sc_law_sr_is_word : FnScope N_law_sr_is_word ["value"] (defScope s_law_sr_is_word) := ⟨rfl, rfl, rfl, by decide +kernel, rfl, by decide +kernel, by decide +kernel⟩
abbrev s_law_sr_is_trial : Stmt := top 67
abbrev N_law_sr_is_trial : List Str := ["value", "row", "words", "count"]
theorem sc_law_sr_is_trial : FnScope N_law_sr_is_trial ["value"] (defScope s_law_sr_is_trial) := ⟨rfl, rfl, rfl, by decide +kernel, rfl, by decide +kernel, by decide +kernel⟩
abbrev s_law_sr_bent : Stmt := top 68
abbrev N_law_sr_bent : List Str := ["draws", "value", "items", "at", "way"]
theorem sc_law_sr_bent : FnScope N_law_sr_bent ["draws", "value"] (defScope s_law_sr_bent) := ⟨rfl, rfl, rfl, by decide +kernel, rfl, by decide +kernel, by decide +kernel⟩
abbrev s_law_sr_dot : Stmt := top 69
abbrev N_law_sr_dot : List Str := ["shares", "ratios", "share", "ratio"]
theorem sc_law_sr_dot : FnScope N_law_sr_dot ["shares", "ratios"] (defScope s_law_sr_dot) := ⟨rfl, rfl, rfl, by decide +kernel, rfl, by decide +kernel, by decide +kernel⟩
abbrev s_law : Stmt := top 70
abbrev N_law : List Str := ["script", "draws", "turn", "trial", "wide", "value", "sign", "due", "shares", "pair", "ask", "right", "rates", "whole", "tell", "odd", "wrong", "lap", "letter", "one", "other"]
theorem sc_law : FnScope N_law ["script"] (defScope s_law) := ⟨rfl, rfl, rfl, by decide +kernel, rfl, by decide +kernel, by decide +kernel⟩
/-! ### what the top leaves -/
abbrev FnP (K : PySem.W.Frag) (x q : Str) (st : Stmt) (f : Addr) (fd : FuncData) : Prop := FunD K x q (defArgs st) (defBody st) (defScope st) [] [] f fd
structure Tx (K : PySem.W.Frag) (mg : Str → Option Value) : Prop where
  f_is_whole : ∃ fd, FnP K "is_whole" "is_whole" s_is_whole (He.ga K "is_whole") fd ∧ mg "is_whole" = some (.ref (He.ga K "is_whole"))
  f_is_ratio : ∃ fd, FnP K "is_ratio" "is_ratio" s_is_ratio (He.ga K "is_ratio") fd ∧ mg "is_ratio" = some (.ref (He.ga K "is_ratio"))
  f_is_chance : ∃ fd, FnP K "is_chance" "is_chance" s_is_chance (He.ga K "is_chance") fd ∧ mg "is_chance" = some (.ref (He.ga K "is_chance"))
  f_lowest : ∃ fd, FnP K "lowest" "lowest" s_lowest (He.ga K "lowest") fd ∧ mg "lowest" = some (.ref (He.ga K "lowest"))
  f_plus : ∃ fd, FnP K "plus" "plus" s_plus (He.ga K "plus") fd ∧ mg "plus" = some (.ref (He.ga K "plus"))
  f_times : ∃ fd, FnP K "times" "times" s_times (He.ga K "times") fd ∧ mg "times" = some (.ref (He.ga K "times"))
  f_is_less : ∃ fd, FnP K "is_less" "is_less" s_is_less (He.ga K "is_less") fd ∧ mg "is_less" = some (.ref (He.ga K "is_less"))
  f_total : ∃ fd, FnP K "total" "total" s_total (He.ga K "total") fd ∧ mg "total" = some (.ref (He.ga K "total"))
  f_are_shares : ∃ fd, FnP K "are_shares" "are_shares" s_are_shares (He.ga K "are_shares") fd ∧ mg "are_shares" = some (.ref (He.ga K "are_shares"))
  f_need_shares : ∃ fd, FnP K "need_shares" "need_shares" s_need_shares (He.ga K "need_shares") fd ∧ mg "need_shares" = some (.ref (He.ga K "need_shares"))
  f_mean_of : ∃ fd, FnP K "mean_of" "mean_of" s_mean_of (He.ga K "mean_of") fd ∧ mg "mean_of" = some (.ref (He.ga K "mean_of"))
  f_is_word : ∃ fd, FnP K "is_word" "is_word" s_is_word (He.ga K "is_word") fd ∧ mg "is_word" = some (.ref (He.ga K "is_word"))
  f_is_count : ∃ fd, FnP K "is_count" "is_count" s_is_count (He.ga K "is_count") fd ∧ mg "is_count" = some (.ref (He.ga K "is_count"))
  f_is_stratum : ∃ fd, FnP K "is_stratum" "is_stratum" s_is_stratum (He.ga K "is_stratum") fd ∧ mg "is_stratum" = some (.ref (He.ga K "is_stratum"))
  f_is_trial : ∃ fd, FnP K "is_trial" "is_trial" s_is_trial (He.ga K "is_trial") fd ∧ mg "is_trial" = some (.ref (He.ga K "is_trial"))
  f_need_trial : ∃ fd, FnP K "need_trial" "need_trial" s_need_trial (He.ga K "need_trial") fd ∧ mg "need_trial" = some (.ref (He.ga K "need_trial"))
  f_rates_in : ∃ fd, FnP K "rates_in" "rates_in" s_rates_in (He.ga K "rates_in") fd ∧ mg "rates_in" = some (.ref (He.ga K "rates_in"))
  f_arm_rates : ∃ fd, FnP K "arm_rates" "arm_rates" s_arm_rates (He.ga K "arm_rates") fd ∧ mg "arm_rates" = some (.ref (He.ga K "arm_rates"))
  f_shares_in : ∃ fd, FnP K "shares_in" "shares_in" s_shares_in (He.ga K "shares_in") fd ∧ mg "shares_in" = some (.ref (He.ga K "shares_in"))
  f_arm_shares : ∃ fd, FnP K "arm_shares" "arm_shares" s_arm_shares (He.ga K "arm_shares") fd ∧ mg "arm_shares" = some (.ref (He.ga K "arm_shares"))
  f_whole_in : ∃ fd, FnP K "whole_in" "whole_in" s_whole_in (He.ga K "whole_in") fd ∧ mg "whole_in" = some (.ref (He.ga K "whole_in"))
  f_whole_rates : ∃ fd, FnP K "whole_rates" "whole_rates" s_whole_rates (He.ga K "whole_rates") fd ∧ mg "whole_rates" = some (.ref (He.ga K "whole_rates"))
  f_sign_of : ∃ fd, FnP K "sign_of" "sign_of" s_sign_of (He.ga K "sign_of") fd ∧ mg "sign_of" = some (.ref (He.ga K "sign_of"))
  f_strata_sign : ∃ fd, FnP K "strata_sign" "strata_sign" s_strata_sign (He.ga K "strata_sign") fd ∧ mg "strata_sign" = some (.ref (He.ga K "strata_sign"))
  f_strata_tell : ∃ fd, FnP K "strata_tell" "strata_tell" s_strata_tell (He.ga K "strata_tell") fd ∧ mg "strata_tell" = some (.ref (He.ga K "strata_tell"))
  f_whole_tells : ∃ fd, FnP K "whole_tells" "whole_tells" s_whole_tells (He.ga K "whole_tells") fd ∧ mg "whole_tells" = some (.ref (He.ga K "whole_tells"))
  f_is_reversed : ∃ fd, FnP K "is_reversed" "is_reversed" s_is_reversed (He.ga K "is_reversed") fd ∧ mg "is_reversed" = some (.ref (He.ga K "is_reversed"))
  f_standardised : ∃ fd, FnP K "standardised" "standardised" s_standardised (He.ga K "standardised") fd ∧ mg "standardised" = some (.ref (He.ga K "standardised"))
  f_law_begun : ∃ fd, FnP K "_law_begun" "_law_begun" s_law_begun (He.ga K "_law_begun") fd ∧ mg "_law_begun" = some (.ref (He.ga K "_law_begun"))
  f_law_blended : ∃ fd, FnP K "_law_blended" "_law_blended" s_law_blended (He.ga K "_law_blended") fd ∧ mg "_law_blended" = some (.ref (He.ga K "_law_blended"))
  f_law_draw : ∃ fd, FnP K "_law_draw" "_law_draw" s_law_draw (He.ga K "_law_draw") fd ∧ mg "_law_draw" = some (.ref (He.ga K "_law_draw"))
  f_law_pick : ∃ fd, FnP K "_law_pick" "_law_pick" s_law_pick (He.ga K "_law_pick") fd ∧ mg "_law_pick" = some (.ref (He.ga K "_law_pick"))
  f_law_caught : ∃ fd, FnP K "_law_caught" "_law_caught" s_law_caught (He.ga K "_law_caught") fd ∧ mg "_law_caught" = some (.ref (He.ga K "_law_caught"))
  f_law_is_truth : ∃ fd, FnP K "_law_is_truth" "_law_is_truth" s_law_is_truth (He.ga K "_law_is_truth") fd ∧ mg "_law_is_truth" = some (.ref (He.ga K "_law_is_truth"))
  f_law_same : ∃ fd, FnP K "_law_same" "_law_same" s_law_same (He.ga K "_law_same") fd ∧ mg "_law_same" = some (.ref (He.ga K "_law_same"))
  f_law_q : ∃ fd, FnP K "_law_q" "_law_q" s_law_q (He.ga K "_law_q") fd ∧ mg "_law_q" = some (.ref (He.ga K "_law_q"))
  f_law_plus : ∃ fd, FnP K "_law_plus" "_law_plus" s_law_plus (He.ga K "_law_plus") fd ∧ mg "_law_plus" = some (.ref (He.ga K "_law_plus"))
  f_law_times : ∃ fd, FnP K "_law_times" "_law_times" s_law_times (He.ga K "_law_times") fd ∧ mg "_law_times" = some (.ref (He.ga K "_law_times"))
  f_law_less : ∃ fd, FnP K "_law_less" "_law_less" s_law_less (He.ga K "_law_less") fd ∧ mg "_law_less" = some (.ref (He.ga K "_law_less"))
  f_law_sum : ∃ fd, FnP K "_law_sum" "_law_sum" s_law_sum (He.ga K "_law_sum") fd ∧ mg "_law_sum" = some (.ref (He.ga K "_law_sum"))
  f_law_words : ∃ fd, FnP K "_law_words" "_law_words" s_law_words (He.ga K "_law_words") fd ∧ mg "_law_words" = some (.ref (He.ga K "_law_words"))
  f_law_weights : ∃ fd, FnP K "_law_weights" "_law_weights" s_law_weights (He.ga K "_law_weights") fd ∧ mg "_law_weights" = some (.ref (He.ga K "_law_weights"))
  f_law_shares : ∃ fd, FnP K "_law_shares" "_law_shares" s_law_shares (He.ga K "_law_shares") fd ∧ mg "_law_shares" = some (.ref (He.ga K "_law_shares"))
  f_law_odd : ∃ fd, FnP K "_law_odd" "_law_odd" s_law_odd (He.ga K "_law_odd") fd ∧ mg "_law_odd" = some (.ref (He.ga K "_law_odd"))
  f_law_sr_trial : ∃ fd, FnP K "_law_sr_trial" "_law_sr_trial" s_law_sr_trial (He.ga K "_law_sr_trial") fd ∧ mg "_law_sr_trial" = some (.ref (He.ga K "_law_sr_trial"))
  f_law_sr_told : ∃ fd, FnP K "_law_sr_told" "_law_sr_told" s_law_sr_told (He.ga K "_law_sr_told") fd ∧ mg "_law_sr_told" = some (.ref (He.ga K "_law_sr_told"))
  f_law_sr_rates : ∃ fd, FnP K "_law_sr_rates" "_law_sr_rates" s_law_sr_rates (He.ga K "_law_sr_rates") fd ∧ mg "_law_sr_rates" = some (.ref (He.ga K "_law_sr_rates"))
  f_law_sr_whole : ∃ fd, FnP K "_law_sr_whole" "_law_sr_whole" s_law_sr_whole (He.ga K "_law_sr_whole") fd ∧ mg "_law_sr_whole" = some (.ref (He.ga K "_law_sr_whole"))
  f_law_sr_sign : ∃ fd, FnP K "_law_sr_sign" "_law_sr_sign" s_law_sr_sign (He.ga K "_law_sr_sign") fd ∧ mg "_law_sr_sign" = some (.ref (He.ga K "_law_sr_sign"))
  f_law_sr_tell : ∃ fd, FnP K "_law_sr_tell" "_law_sr_tell" s_law_sr_tell (He.ga K "_law_sr_tell") fd ∧ mg "_law_sr_tell" = some (.ref (He.ga K "_law_sr_tell"))
  f_law_sr_shares : ∃ fd, FnP K "_law_sr_shares" "_law_sr_shares" s_law_sr_shares (He.ga K "_law_sr_shares") fd ∧ mg "_law_sr_shares" = some (.ref (He.ga K "_law_sr_shares"))
  f_law_sr_is_count : ∃ fd, FnP K "_law_sr_is_count" "_law_sr_is_count" s_law_sr_is_count (He.ga K "_law_sr_is_count") fd ∧ mg "_law_sr_is_count" = some (.ref (He.ga K "_law_sr_is_count"))
  f_law_sr_is_word : ∃ fd, FnP K "_law_sr_is_word" "_law_sr_is_word" s_law_sr_is_word (He.ga K "_law_sr_is_word") fd ∧ mg "_law_sr_is_word" = some (.ref (He.ga K "_law_sr_is_word"))
  f_law_sr_is_trial : ∃ fd, FnP K "_law_sr_is_trial" "_law_sr_is_trial" s_law_sr_is_trial (He.ga K "_law_sr_is_trial") fd ∧ mg "_law_sr_is_trial" = some (.ref (He.ga K "_law_sr_is_trial"))
  f_law_sr_bent : ∃ fd, FnP K "_law_sr_bent" "_law_sr_bent" s_law_sr_bent (He.ga K "_law_sr_bent") fd ∧ mg "_law_sr_bent" = some (.ref (He.ga K "_law_sr_bent"))
  f_law_sr_dot : ∃ fd, FnP K "_law_sr_dot" "_law_sr_dot" s_law_sr_dot (He.ga K "_law_sr_dot") fd ∧ mg "_law_sr_dot" = some (.ref (He.ga K "_law_sr_dot"))
  f_law : ∃ fd, FnP K "law" "law" s_law (He.ga K "law") fd ∧ mg "law" = some (.ref (He.ga K "law"))
  n_ValueError : mg "ValueError" = none
  n_abs : mg "abs" = none
  n_all : mg "all" = none
  n_bool : mg "bool" = none
  n_dict : mg "dict" = none
  n_int : mg "int" = none
  n_isinstance : mg "isinstance" = none
  n_len : mg "len" = none
  n_list : mg "list" = none
  n_min : mg "min" = none
  n_range : mg "range" = none
  n_set : mg "set" = none
  n_sorted : mg "sorted" = none
  n_str : mg "str" = none
  n_sum : mg "sum" = none
  n_tuple : mg "tuple" = none
  n_zip : mg "zip" = none
  c_ZERO : mg "ZERO" = some (.ref (He.ga K "ZERO")) ∧ ∀ H : Hp, SqT K H (He.ga K "ZERO") [.int 0, .int 1]
  c_ONE : mg "ONE" = some (.ref (He.ga K "ONE")) ∧ ∀ H : Hp, SqT K H (He.ga K "ONE") [.int 1, .int 1]
  c_LETTERS : ∃ t, mg "LETTERS" = some (.str "abcdefghijklmnopqrstuvwxyz" t)
  c_MOST_STRATA : ∃ t, mg "MOST_STRATA" = some (.int 8 t)
  i_gcd : mg "gcd" = some (.builtin "math.gcd")
  x_JudgeError : PySem.W.excIn K (He.ga K "JudgeError") He.veBase "ValueError.__new__" = true ∧ PySem.W.keepIn K (.ref (He.ga K "JudgeError")) = true ∧ PySem.W.subIn K (.ref (He.ga K "JudgeError")) (.type "BaseException") = some true ∧ PySem.W.typeIn K (.ref (He.ga K "JudgeError")) = some (.type "type")
  g_JudgeError : mg "JudgeError" = some (.ref (He.ga K "JudgeError"))
  e_JudgeError : ExcC K (He.ga K "JudgeError")
  j_JudgeError : PySem.W.exmOne K (.ref (He.ga K "JudgeError")) (.ref (He.ga K "JudgeError")) = some true
  s_JudgeError : PySem.W.kitOne K (.ref (He.ga K "JudgeError")) (.ref (He.ga K "JudgeError")) = some true
  x_BadShares : PySem.W.excIn K (He.ga K "BadShares") He.veBase "ValueError.__new__" = true ∧ PySem.W.keepIn K (.ref (He.ga K "BadShares")) = true ∧ PySem.W.subIn K (.ref (He.ga K "BadShares")) (.type "BaseException") = some true ∧ PySem.W.typeIn K (.ref (He.ga K "BadShares")) = some (.type "type")
  g_BadShares : mg "BadShares" = some (.ref (He.ga K "BadShares"))
  e_BadShares : ExcC K (He.ga K "BadShares")
  j_BadShares : PySem.W.exmOne K (.ref (He.ga K "BadShares")) (.ref (He.ga K "JudgeError")) = some true
  s_BadShares : PySem.W.kitOne K (.ref (He.ga K "BadShares")) (.ref (He.ga K "BadShares")) = some true
  x_BadTrial : PySem.W.excIn K (He.ga K "BadTrial") He.veBase "ValueError.__new__" = true ∧ PySem.W.keepIn K (.ref (He.ga K "BadTrial")) = true ∧ PySem.W.subIn K (.ref (He.ga K "BadTrial")) (.type "BaseException") = some true ∧ PySem.W.typeIn K (.ref (He.ga K "BadTrial")) = some (.type "type")
  g_BadTrial : mg "BadTrial" = some (.ref (He.ga K "BadTrial"))
  e_BadTrial : ExcC K (He.ga K "BadTrial")
  j_BadTrial : PySem.W.exmOne K (.ref (He.ga K "BadTrial")) (.ref (He.ga K "JudgeError")) = some true
  s_BadTrial : PySem.W.kitOne K (.ref (He.ga K "BadTrial")) (.ref (He.ga K "BadTrial")) = some true
/-! ### the head's facts -/
def fa : List He.Fa := [.glo "is_whole", .glo "is_ratio", .glo "is_chance", .glo "lowest", .glo "plus", .glo "times", .glo "is_less", .glo "total", .glo "are_shares", .glo "need_shares", .glo "mean_of", .glo "is_word", .glo "is_count", .glo "is_stratum", .glo "is_trial", .glo "need_trial", .glo "rates_in", .glo "arm_rates", .glo "shares_in", .glo "arm_shares", .glo "whole_in", .glo "whole_rates", .glo "sign_of", .glo "strata_sign", .glo "strata_tell", .glo "whole_tells", .glo "is_reversed", .glo "standardised", .glo "_law_begun", .glo "_law_blended", .glo "_law_draw", .glo "_law_pick", .glo "_law_caught", .glo "_law_is_truth", .glo "_law_same", .glo "_law_q", .glo "_law_plus", .glo "_law_times", .glo "_law_less", .glo "_law_sum", .glo "_law_words", .glo "_law_weights", .glo "_law_shares", .glo "_law_odd", .glo "_law_sr_trial", .glo "_law_sr_told", .glo "_law_sr_rates", .glo "_law_sr_whole", .glo "_law_sr_sign", .glo "_law_sr_tell", .glo "_law_sr_shares", .glo "_law_sr_is_count", .glo "_law_sr_is_word", .glo "_law_sr_is_trial", .glo "_law_sr_bent", .glo "_law_sr_dot", .glo "law", .free "ValueError", .free "abs", .free "all", .free "bool", .free "dict", .free "int", .free "isinstance", .free "len", .free "list", .free "min", .free "range", .free "set", .free "sorted", .free "str", .free "sum", .free "tuple", .free "zip", .glo "ZERO", .glo "ONE", .str "LETTERS" "abcdefghijklmnopqrstuvwxyz", .int "MOST_STRATA" 8, .exc "JudgeError", .glo "JudgeError", .exm "JudgeError" "JudgeError" true, .exc "BadShares", .glo "BadShares", .exm "BadShares" "JudgeError" true, .exc "BadTrial", .glo "BadTrial", .exm "BadTrial" "JudgeError" true]
def d_is_whole : He.DefD := ⟨("is_whole", none), "is_whole", "is_whole", defArgs s_is_whole, defBody s_is_whole, defScope s_is_whole, [], []⟩
def d_is_ratio : He.DefD := ⟨("is_ratio", none), "is_ratio", "is_ratio", defArgs s_is_ratio, defBody s_is_ratio, defScope s_is_ratio, [], []⟩
def d_is_chance : He.DefD := ⟨("is_chance", none), "is_chance", "is_chance", defArgs s_is_chance, defBody s_is_chance, defScope s_is_chance, [], []⟩
def d_lowest : He.DefD := ⟨("lowest", none), "lowest", "lowest", defArgs s_lowest, defBody s_lowest, defScope s_lowest, [], []⟩
def d_plus : He.DefD := ⟨("plus", none), "plus", "plus", defArgs s_plus, defBody s_plus, defScope s_plus, [], []⟩
def d_times : He.DefD := ⟨("times", none), "times", "times", defArgs s_times, defBody s_times, defScope s_times, [], []⟩
def d_is_less : He.DefD := ⟨("is_less", none), "is_less", "is_less", defArgs s_is_less, defBody s_is_less, defScope s_is_less, [], []⟩
def d_total : He.DefD := ⟨("total", none), "total", "total", defArgs s_total, defBody s_total, defScope s_total, [], []⟩
def d_are_shares : He.DefD := ⟨("are_shares", none), "are_shares", "are_shares", defArgs s_are_shares, defBody s_are_shares, defScope s_are_shares, [], []⟩
def d_need_shares : He.DefD := ⟨("need_shares", none), "need_shares", "need_shares", defArgs s_need_shares, defBody s_need_shares, defScope s_need_shares, [], []⟩
def d_mean_of : He.DefD := ⟨("mean_of", none), "mean_of", "mean_of", defArgs s_mean_of, defBody s_mean_of, defScope s_mean_of, [], []⟩
def d_is_word : He.DefD := ⟨("is_word", none), "is_word", "is_word", defArgs s_is_word, defBody s_is_word, defScope s_is_word, [], []⟩
def d_is_count : He.DefD := ⟨("is_count", none), "is_count", "is_count", defArgs s_is_count, defBody s_is_count, defScope s_is_count, [], []⟩
def d_is_stratum : He.DefD := ⟨("is_stratum", none), "is_stratum", "is_stratum", defArgs s_is_stratum, defBody s_is_stratum, defScope s_is_stratum, [], []⟩
def d_is_trial : He.DefD := ⟨("is_trial", none), "is_trial", "is_trial", defArgs s_is_trial, defBody s_is_trial, defScope s_is_trial, [], []⟩
def d_need_trial : He.DefD := ⟨("need_trial", none), "need_trial", "need_trial", defArgs s_need_trial, defBody s_need_trial, defScope s_need_trial, [], []⟩
def d_rates_in : He.DefD := ⟨("rates_in", none), "rates_in", "rates_in", defArgs s_rates_in, defBody s_rates_in, defScope s_rates_in, [], []⟩
def d_arm_rates : He.DefD := ⟨("arm_rates", none), "arm_rates", "arm_rates", defArgs s_arm_rates, defBody s_arm_rates, defScope s_arm_rates, [], []⟩
def d_shares_in : He.DefD := ⟨("shares_in", none), "shares_in", "shares_in", defArgs s_shares_in, defBody s_shares_in, defScope s_shares_in, [], []⟩
def d_arm_shares : He.DefD := ⟨("arm_shares", none), "arm_shares", "arm_shares", defArgs s_arm_shares, defBody s_arm_shares, defScope s_arm_shares, [], []⟩
def d_whole_in : He.DefD := ⟨("whole_in", none), "whole_in", "whole_in", defArgs s_whole_in, defBody s_whole_in, defScope s_whole_in, [], []⟩
def d_whole_rates : He.DefD := ⟨("whole_rates", none), "whole_rates", "whole_rates", defArgs s_whole_rates, defBody s_whole_rates, defScope s_whole_rates, [], []⟩
def d_sign_of : He.DefD := ⟨("sign_of", none), "sign_of", "sign_of", defArgs s_sign_of, defBody s_sign_of, defScope s_sign_of, [], []⟩
def d_strata_sign : He.DefD := ⟨("strata_sign", none), "strata_sign", "strata_sign", defArgs s_strata_sign, defBody s_strata_sign, defScope s_strata_sign, [], []⟩
def d_strata_tell : He.DefD := ⟨("strata_tell", none), "strata_tell", "strata_tell", defArgs s_strata_tell, defBody s_strata_tell, defScope s_strata_tell, [], []⟩
def d_whole_tells : He.DefD := ⟨("whole_tells", none), "whole_tells", "whole_tells", defArgs s_whole_tells, defBody s_whole_tells, defScope s_whole_tells, [], []⟩
def d_is_reversed : He.DefD := ⟨("is_reversed", none), "is_reversed", "is_reversed", defArgs s_is_reversed, defBody s_is_reversed, defScope s_is_reversed, [], []⟩
def d_standardised : He.DefD := ⟨("standardised", none), "standardised", "standardised", defArgs s_standardised, defBody s_standardised, defScope s_standardised, [], []⟩
def d_law_begun : He.DefD := ⟨("_law_begun", none), "_law_begun", "_law_begun", defArgs s_law_begun, defBody s_law_begun, defScope s_law_begun, [], []⟩
def d_law_blended : He.DefD := ⟨("_law_blended", none), "_law_blended", "_law_blended", defArgs s_law_blended, defBody s_law_blended, defScope s_law_blended, [], []⟩
def d_law_draw : He.DefD := ⟨("_law_draw", none), "_law_draw", "_law_draw", defArgs s_law_draw, defBody s_law_draw, defScope s_law_draw, [], []⟩
def d_law_pick : He.DefD := ⟨("_law_pick", none), "_law_pick", "_law_pick", defArgs s_law_pick, defBody s_law_pick, defScope s_law_pick, [], []⟩
def d_law_caught : He.DefD := ⟨("_law_caught", none), "_law_caught", "_law_caught", defArgs s_law_caught, defBody s_law_caught, defScope s_law_caught, [], []⟩
def d_law_is_truth : He.DefD := ⟨("_law_is_truth", none), "_law_is_truth", "_law_is_truth", defArgs s_law_is_truth, defBody s_law_is_truth, defScope s_law_is_truth, [], []⟩
def d_law_same : He.DefD := ⟨("_law_same", none), "_law_same", "_law_same", defArgs s_law_same, defBody s_law_same, defScope s_law_same, [], []⟩
def d_law_q : He.DefD := ⟨("_law_q", none), "_law_q", "_law_q", defArgs s_law_q, defBody s_law_q, defScope s_law_q, [], []⟩
def d_law_plus : He.DefD := ⟨("_law_plus", none), "_law_plus", "_law_plus", defArgs s_law_plus, defBody s_law_plus, defScope s_law_plus, [], []⟩
def d_law_times : He.DefD := ⟨("_law_times", none), "_law_times", "_law_times", defArgs s_law_times, defBody s_law_times, defScope s_law_times, [], []⟩
def d_law_less : He.DefD := ⟨("_law_less", none), "_law_less", "_law_less", defArgs s_law_less, defBody s_law_less, defScope s_law_less, [], []⟩
def d_law_sum : He.DefD := ⟨("_law_sum", none), "_law_sum", "_law_sum", defArgs s_law_sum, defBody s_law_sum, defScope s_law_sum, [], []⟩
def d_law_words : He.DefD := ⟨("_law_words", none), "_law_words", "_law_words", defArgs s_law_words, defBody s_law_words, defScope s_law_words, [], []⟩
def d_law_weights : He.DefD := ⟨("_law_weights", none), "_law_weights", "_law_weights", defArgs s_law_weights, defBody s_law_weights, defScope s_law_weights, [], []⟩
def d_law_shares : He.DefD := ⟨("_law_shares", none), "_law_shares", "_law_shares", defArgs s_law_shares, defBody s_law_shares, defScope s_law_shares, [], []⟩
def d_law_odd : He.DefD := ⟨("_law_odd", none), "_law_odd", "_law_odd", defArgs s_law_odd, defBody s_law_odd, defScope s_law_odd, [], []⟩
def d_law_sr_trial : He.DefD := ⟨("_law_sr_trial", none), "_law_sr_trial", "_law_sr_trial", defArgs s_law_sr_trial, defBody s_law_sr_trial, defScope s_law_sr_trial, [], []⟩
def d_law_sr_told : He.DefD := ⟨("_law_sr_told", none), "_law_sr_told", "_law_sr_told", defArgs s_law_sr_told, defBody s_law_sr_told, defScope s_law_sr_told, [], []⟩
def d_law_sr_rates : He.DefD := ⟨("_law_sr_rates", none), "_law_sr_rates", "_law_sr_rates", defArgs s_law_sr_rates, defBody s_law_sr_rates, defScope s_law_sr_rates, [], []⟩
def d_law_sr_whole : He.DefD := ⟨("_law_sr_whole", none), "_law_sr_whole", "_law_sr_whole", defArgs s_law_sr_whole, defBody s_law_sr_whole, defScope s_law_sr_whole, [], []⟩
def d_law_sr_sign : He.DefD := ⟨("_law_sr_sign", none), "_law_sr_sign", "_law_sr_sign", defArgs s_law_sr_sign, defBody s_law_sr_sign, defScope s_law_sr_sign, [], []⟩
def d_law_sr_tell : He.DefD := ⟨("_law_sr_tell", none), "_law_sr_tell", "_law_sr_tell", defArgs s_law_sr_tell, defBody s_law_sr_tell, defScope s_law_sr_tell, [], []⟩
def d_law_sr_shares : He.DefD := ⟨("_law_sr_shares", none), "_law_sr_shares", "_law_sr_shares", defArgs s_law_sr_shares, defBody s_law_sr_shares, defScope s_law_sr_shares, [], []⟩
def d_law_sr_is_count : He.DefD := ⟨("_law_sr_is_count", none), "_law_sr_is_count", "_law_sr_is_count", defArgs s_law_sr_is_count, defBody s_law_sr_is_count, defScope s_law_sr_is_count, [], []⟩
def d_law_sr_is_word : He.DefD := ⟨("_law_sr_is_word", none), "_law_sr_is_word", "_law_sr_is_word", defArgs s_law_sr_is_word, defBody s_law_sr_is_word, defScope s_law_sr_is_word, [], []⟩
def d_law_sr_is_trial : He.DefD := ⟨("_law_sr_is_trial", none), "_law_sr_is_trial", "_law_sr_is_trial", defArgs s_law_sr_is_trial, defBody s_law_sr_is_trial, defScope s_law_sr_is_trial, [], []⟩
def d_law_sr_bent : He.DefD := ⟨("_law_sr_bent", none), "_law_sr_bent", "_law_sr_bent", defArgs s_law_sr_bent, defBody s_law_sr_bent, defScope s_law_sr_bent, [], []⟩
def d_law_sr_dot : He.DefD := ⟨("_law_sr_dot", none), "_law_sr_dot", "_law_sr_dot", defArgs s_law_sr_dot, defBody s_law_sr_dot, defScope s_law_sr_dot, [], []⟩
def d_law : He.DefD := ⟨("law", none), "law", "law", defArgs s_law, defBody s_law, defScope s_law, [], []⟩
def fn : List He.DefD := [d_is_whole, d_is_ratio, d_is_chance, d_lowest, d_plus, d_times, d_is_less, d_total, d_are_shares, d_need_shares, d_mean_of, d_is_word, d_is_count, d_is_stratum, d_is_trial, d_need_trial, d_rates_in, d_arm_rates, d_shares_in, d_arm_shares, d_whole_in, d_whole_rates, d_sign_of, d_strata_sign, d_strata_tell, d_whole_tells, d_is_reversed, d_standardised, d_law_begun, d_law_blended, d_law_draw, d_law_pick, d_law_caught, d_law_is_truth, d_law_same, d_law_q, d_law_plus, d_law_times, d_law_less, d_law_sum, d_law_words, d_law_weights, d_law_shares, d_law_odd, d_law_sr_trial, d_law_sr_told, d_law_sr_rates, d_law_sr_whole, d_law_sr_sign, d_law_sr_tell, d_law_sr_shares, d_law_sr_is_count, d_law_sr_is_word, d_law_sr_is_trial, d_law_sr_bent, d_law_sr_dot, d_law]
def ex0 (K : PySem.W.Frag) : Bool := He.tupB K "ZERO" [.int 0, .int 1]
def ex1 (K : PySem.W.Frag) : Bool := He.tupB K "ONE" [.int 1, .int 1]
def ex2 (K : PySem.W.Frag) : Bool := He.eqO (PySem.W.nsIn K mainGlobals "gcd") (some (some (.builtin "math.gcd")))
def ex3 (K : PySem.W.Frag) : Bool := He.eqO (PySem.W.findIn K (.ref (He.ga K "JudgeError")) "__getattribute__") (some (some (.builtin "BaseException.__getattribute__"))) && He.eqO (PySem.W.findIn K (.ref (He.ga K "JudgeError")) "__getattr__") (some none) && decide (PySem.W.subIn K (.ref (He.ga K "JudgeError")) (.type "BaseException") = some true) && PySem.W.hasDictIn K (He.ga K "JudgeError") && He.eqO (PySem.W.findIn K (.ref (He.ga K "JudgeError")) "__class__") (some (some (.builtin "object.__class__"))) && He.eqO (PySem.W.specialIn K (.builtin "object.__class__") "__get__") (some (some (.builtin "getset_descriptor.__get__"))) && decide (PySem.W.takesIn K (.builtin "object.__class__") = some true) && decide (PySem.W.mroIn K (He.ga K "JudgeError") (.type "object") = some true) && decide (PySem.W.kitOne K (.ref (He.ga K "JudgeError")) (.ref (He.ga K "JudgeError")) = some true)
def ex4 (K : PySem.W.Frag) : Bool := He.eqO (PySem.W.findIn K (.ref (He.ga K "BadShares")) "__getattribute__") (some (some (.builtin "BaseException.__getattribute__"))) && He.eqO (PySem.W.findIn K (.ref (He.ga K "BadShares")) "__getattr__") (some none) && decide (PySem.W.subIn K (.ref (He.ga K "BadShares")) (.type "BaseException") = some true) && PySem.W.hasDictIn K (He.ga K "BadShares") && He.eqO (PySem.W.findIn K (.ref (He.ga K "BadShares")) "__class__") (some (some (.builtin "object.__class__"))) && He.eqO (PySem.W.specialIn K (.builtin "object.__class__") "__get__") (some (some (.builtin "getset_descriptor.__get__"))) && decide (PySem.W.takesIn K (.builtin "object.__class__") = some true) && decide (PySem.W.mroIn K (He.ga K "BadShares") (.type "object") = some true) && decide (PySem.W.kitOne K (.ref (He.ga K "BadShares")) (.ref (He.ga K "BadShares")) = some true)
def ex5 (K : PySem.W.Frag) : Bool := He.eqO (PySem.W.findIn K (.ref (He.ga K "BadTrial")) "__getattribute__") (some (some (.builtin "BaseException.__getattribute__"))) && He.eqO (PySem.W.findIn K (.ref (He.ga K "BadTrial")) "__getattr__") (some none) && decide (PySem.W.subIn K (.ref (He.ga K "BadTrial")) (.type "BaseException") = some true) && PySem.W.hasDictIn K (He.ga K "BadTrial") && He.eqO (PySem.W.findIn K (.ref (He.ga K "BadTrial")) "__class__") (some (some (.builtin "object.__class__"))) && He.eqO (PySem.W.specialIn K (.builtin "object.__class__") "__get__") (some (some (.builtin "getset_descriptor.__get__"))) && decide (PySem.W.takesIn K (.builtin "object.__class__") = some true) && decide (PySem.W.mroIn K (He.ga K "BadTrial") (.type "object") = some true) && decide (PySem.W.kitOne K (.ref (He.ga K "BadTrial")) (.ref (He.ga K "BadTrial")) = some true)
def ex (K : PySem.W.Frag) : Bool := ex0 K && ex1 K && ex2 K && ex3 K && ex4 K && ex5 K
def tf : List He.Defn := [("law", none)]
theorem tx_mk {K : PySem.W.Frag} {h : Heap} {mg : Str → Option Value} (X : K.In h) (G : h.Ns mainGlobals mg) (c : He.SaysD fa fn K) (e : ex K = true) : Tx K mg := by
  unfold ex at e
  simp only [Bool.and_eq_true] at e
  obtain ⟨⟨⟨⟨⟨e0, e1⟩, e2⟩, e3⟩, e4⟩, e5⟩ := e
  have b3 := e3
  unfold ex3 at b3
  simp only [Bool.and_eq_true] at b3
  obtain ⟨⟨⟨⟨⟨⟨⟨⟨u3_1, u3_2⟩, u3_3⟩, u3_4⟩, u3_5⟩, u3_6⟩, u3_7⟩, u3_8⟩, u3_9⟩ := b3
  have b4 := e4
  unfold ex4 at b4
  simp only [Bool.and_eq_true] at b4
  obtain ⟨⟨⟨⟨⟨⟨⟨⟨u4_1, u4_2⟩, u4_3⟩, u4_4⟩, u4_5⟩, u4_6⟩, u4_7⟩, u4_8⟩, u4_9⟩ := b4
  have b5 := e5
  unfold ex5 at b5
  simp only [Bool.and_eq_true] at b5
  obtain ⟨⟨⟨⟨⟨⟨⟨⟨u5_1, u5_2⟩, u5_3⟩, u5_4⟩, u5_5⟩, u5_6⟩, u5_7⟩, u5_8⟩, u5_9⟩ := b5
  exact {
    f_is_whole := (let ⟨fd, F⟩ := c.def_ 0 (d := d_is_whole) rfl; ⟨fd, F, He.glo_ok X G (c.fact 0 (f := .glo "is_whole") rfl)⟩)
    f_is_ratio := (let ⟨fd, F⟩ := c.def_ 1 (d := d_is_ratio) rfl; ⟨fd, F, He.glo_ok X G (c.fact 1 (f := .glo "is_ratio") rfl)⟩)
    f_is_chance := (let ⟨fd, F⟩ := c.def_ 2 (d := d_is_chance) rfl; ⟨fd, F, He.glo_ok X G (c.fact 2 (f := .glo "is_chance") rfl)⟩)
    f_lowest := (let ⟨fd, F⟩ := c.def_ 3 (d := d_lowest) rfl; ⟨fd, F, He.glo_ok X G (c.fact 3 (f := .glo "lowest") rfl)⟩)
    f_plus := (let ⟨fd, F⟩ := c.def_ 4 (d := d_plus) rfl; ⟨fd, F, He.glo_ok X G (c.fact 4 (f := .glo "plus") rfl)⟩)
    f_times := (let ⟨fd, F⟩ := c.def_ 5 (d := d_times) rfl; ⟨fd, F, He.glo_ok X G (c.fact 5 (f := .glo "times") rfl)⟩)
    f_is_less := (let ⟨fd, F⟩ := c.def_ 6 (d := d_is_less) rfl; ⟨fd, F, He.glo_ok X G (c.fact 6 (f := .glo "is_less") rfl)⟩)
    f_total := (let ⟨fd, F⟩ := c.def_ 7 (d := d_total) rfl; ⟨fd, F, He.glo_ok X G (c.fact 7 (f := .glo "total") rfl)⟩)
    f_are_shares := (let ⟨fd, F⟩ := c.def_ 8 (d := d_are_shares) rfl; ⟨fd, F, He.glo_ok X G (c.fact 8 (f := .glo "are_shares") rfl)⟩)
    f_need_shares := (let ⟨fd, F⟩ := c.def_ 9 (d := d_need_shares) rfl; ⟨fd, F, He.glo_ok X G (c.fact 9 (f := .glo "need_shares") rfl)⟩)
    f_mean_of := (let ⟨fd, F⟩ := c.def_ 10 (d := d_mean_of) rfl; ⟨fd, F, He.glo_ok X G (c.fact 10 (f := .glo "mean_of") rfl)⟩)
    f_is_word := (let ⟨fd, F⟩ := c.def_ 11 (d := d_is_word) rfl; ⟨fd, F, He.glo_ok X G (c.fact 11 (f := .glo "is_word") rfl)⟩)
    f_is_count := (let ⟨fd, F⟩ := c.def_ 12 (d := d_is_count) rfl; ⟨fd, F, He.glo_ok X G (c.fact 12 (f := .glo "is_count") rfl)⟩)
    f_is_stratum := (let ⟨fd, F⟩ := c.def_ 13 (d := d_is_stratum) rfl; ⟨fd, F, He.glo_ok X G (c.fact 13 (f := .glo "is_stratum") rfl)⟩)
    f_is_trial := (let ⟨fd, F⟩ := c.def_ 14 (d := d_is_trial) rfl; ⟨fd, F, He.glo_ok X G (c.fact 14 (f := .glo "is_trial") rfl)⟩)
    f_need_trial := (let ⟨fd, F⟩ := c.def_ 15 (d := d_need_trial) rfl; ⟨fd, F, He.glo_ok X G (c.fact 15 (f := .glo "need_trial") rfl)⟩)
    f_rates_in := (let ⟨fd, F⟩ := c.def_ 16 (d := d_rates_in) rfl; ⟨fd, F, He.glo_ok X G (c.fact 16 (f := .glo "rates_in") rfl)⟩)
    f_arm_rates := (let ⟨fd, F⟩ := c.def_ 17 (d := d_arm_rates) rfl; ⟨fd, F, He.glo_ok X G (c.fact 17 (f := .glo "arm_rates") rfl)⟩)
    f_shares_in := (let ⟨fd, F⟩ := c.def_ 18 (d := d_shares_in) rfl; ⟨fd, F, He.glo_ok X G (c.fact 18 (f := .glo "shares_in") rfl)⟩)
    f_arm_shares := (let ⟨fd, F⟩ := c.def_ 19 (d := d_arm_shares) rfl; ⟨fd, F, He.glo_ok X G (c.fact 19 (f := .glo "arm_shares") rfl)⟩)
    f_whole_in := (let ⟨fd, F⟩ := c.def_ 20 (d := d_whole_in) rfl; ⟨fd, F, He.glo_ok X G (c.fact 20 (f := .glo "whole_in") rfl)⟩)
    f_whole_rates := (let ⟨fd, F⟩ := c.def_ 21 (d := d_whole_rates) rfl; ⟨fd, F, He.glo_ok X G (c.fact 21 (f := .glo "whole_rates") rfl)⟩)
    f_sign_of := (let ⟨fd, F⟩ := c.def_ 22 (d := d_sign_of) rfl; ⟨fd, F, He.glo_ok X G (c.fact 22 (f := .glo "sign_of") rfl)⟩)
    f_strata_sign := (let ⟨fd, F⟩ := c.def_ 23 (d := d_strata_sign) rfl; ⟨fd, F, He.glo_ok X G (c.fact 23 (f := .glo "strata_sign") rfl)⟩)
    f_strata_tell := (let ⟨fd, F⟩ := c.def_ 24 (d := d_strata_tell) rfl; ⟨fd, F, He.glo_ok X G (c.fact 24 (f := .glo "strata_tell") rfl)⟩)
    f_whole_tells := (let ⟨fd, F⟩ := c.def_ 25 (d := d_whole_tells) rfl; ⟨fd, F, He.glo_ok X G (c.fact 25 (f := .glo "whole_tells") rfl)⟩)
    f_is_reversed := (let ⟨fd, F⟩ := c.def_ 26 (d := d_is_reversed) rfl; ⟨fd, F, He.glo_ok X G (c.fact 26 (f := .glo "is_reversed") rfl)⟩)
    f_standardised := (let ⟨fd, F⟩ := c.def_ 27 (d := d_standardised) rfl; ⟨fd, F, He.glo_ok X G (c.fact 27 (f := .glo "standardised") rfl)⟩)
    f_law_begun := (let ⟨fd, F⟩ := c.def_ 28 (d := d_law_begun) rfl; ⟨fd, F, He.glo_ok X G (c.fact 28 (f := .glo "_law_begun") rfl)⟩)
    f_law_blended := (let ⟨fd, F⟩ := c.def_ 29 (d := d_law_blended) rfl; ⟨fd, F, He.glo_ok X G (c.fact 29 (f := .glo "_law_blended") rfl)⟩)
    f_law_draw := (let ⟨fd, F⟩ := c.def_ 30 (d := d_law_draw) rfl; ⟨fd, F, He.glo_ok X G (c.fact 30 (f := .glo "_law_draw") rfl)⟩)
    f_law_pick := (let ⟨fd, F⟩ := c.def_ 31 (d := d_law_pick) rfl; ⟨fd, F, He.glo_ok X G (c.fact 31 (f := .glo "_law_pick") rfl)⟩)
    f_law_caught := (let ⟨fd, F⟩ := c.def_ 32 (d := d_law_caught) rfl; ⟨fd, F, He.glo_ok X G (c.fact 32 (f := .glo "_law_caught") rfl)⟩)
    f_law_is_truth := (let ⟨fd, F⟩ := c.def_ 33 (d := d_law_is_truth) rfl; ⟨fd, F, He.glo_ok X G (c.fact 33 (f := .glo "_law_is_truth") rfl)⟩)
    f_law_same := (let ⟨fd, F⟩ := c.def_ 34 (d := d_law_same) rfl; ⟨fd, F, He.glo_ok X G (c.fact 34 (f := .glo "_law_same") rfl)⟩)
    f_law_q := (let ⟨fd, F⟩ := c.def_ 35 (d := d_law_q) rfl; ⟨fd, F, He.glo_ok X G (c.fact 35 (f := .glo "_law_q") rfl)⟩)
    f_law_plus := (let ⟨fd, F⟩ := c.def_ 36 (d := d_law_plus) rfl; ⟨fd, F, He.glo_ok X G (c.fact 36 (f := .glo "_law_plus") rfl)⟩)
    f_law_times := (let ⟨fd, F⟩ := c.def_ 37 (d := d_law_times) rfl; ⟨fd, F, He.glo_ok X G (c.fact 37 (f := .glo "_law_times") rfl)⟩)
    f_law_less := (let ⟨fd, F⟩ := c.def_ 38 (d := d_law_less) rfl; ⟨fd, F, He.glo_ok X G (c.fact 38 (f := .glo "_law_less") rfl)⟩)
    f_law_sum := (let ⟨fd, F⟩ := c.def_ 39 (d := d_law_sum) rfl; ⟨fd, F, He.glo_ok X G (c.fact 39 (f := .glo "_law_sum") rfl)⟩)
    f_law_words := (let ⟨fd, F⟩ := c.def_ 40 (d := d_law_words) rfl; ⟨fd, F, He.glo_ok X G (c.fact 40 (f := .glo "_law_words") rfl)⟩)
    f_law_weights := (let ⟨fd, F⟩ := c.def_ 41 (d := d_law_weights) rfl; ⟨fd, F, He.glo_ok X G (c.fact 41 (f := .glo "_law_weights") rfl)⟩)
    f_law_shares := (let ⟨fd, F⟩ := c.def_ 42 (d := d_law_shares) rfl; ⟨fd, F, He.glo_ok X G (c.fact 42 (f := .glo "_law_shares") rfl)⟩)
    f_law_odd := (let ⟨fd, F⟩ := c.def_ 43 (d := d_law_odd) rfl; ⟨fd, F, He.glo_ok X G (c.fact 43 (f := .glo "_law_odd") rfl)⟩)
    f_law_sr_trial := (let ⟨fd, F⟩ := c.def_ 44 (d := d_law_sr_trial) rfl; ⟨fd, F, He.glo_ok X G (c.fact 44 (f := .glo "_law_sr_trial") rfl)⟩)
    f_law_sr_told := (let ⟨fd, F⟩ := c.def_ 45 (d := d_law_sr_told) rfl; ⟨fd, F, He.glo_ok X G (c.fact 45 (f := .glo "_law_sr_told") rfl)⟩)
    f_law_sr_rates := (let ⟨fd, F⟩ := c.def_ 46 (d := d_law_sr_rates) rfl; ⟨fd, F, He.glo_ok X G (c.fact 46 (f := .glo "_law_sr_rates") rfl)⟩)
    f_law_sr_whole := (let ⟨fd, F⟩ := c.def_ 47 (d := d_law_sr_whole) rfl; ⟨fd, F, He.glo_ok X G (c.fact 47 (f := .glo "_law_sr_whole") rfl)⟩)
    f_law_sr_sign := (let ⟨fd, F⟩ := c.def_ 48 (d := d_law_sr_sign) rfl; ⟨fd, F, He.glo_ok X G (c.fact 48 (f := .glo "_law_sr_sign") rfl)⟩)
    f_law_sr_tell := (let ⟨fd, F⟩ := c.def_ 49 (d := d_law_sr_tell) rfl; ⟨fd, F, He.glo_ok X G (c.fact 49 (f := .glo "_law_sr_tell") rfl)⟩)
    f_law_sr_shares := (let ⟨fd, F⟩ := c.def_ 50 (d := d_law_sr_shares) rfl; ⟨fd, F, He.glo_ok X G (c.fact 50 (f := .glo "_law_sr_shares") rfl)⟩)
    f_law_sr_is_count := (let ⟨fd, F⟩ := c.def_ 51 (d := d_law_sr_is_count) rfl; ⟨fd, F, He.glo_ok X G (c.fact 51 (f := .glo "_law_sr_is_count") rfl)⟩)
    f_law_sr_is_word := (let ⟨fd, F⟩ := c.def_ 52 (d := d_law_sr_is_word) rfl; ⟨fd, F, He.glo_ok X G (c.fact 52 (f := .glo "_law_sr_is_word") rfl)⟩)
    f_law_sr_is_trial := (let ⟨fd, F⟩ := c.def_ 53 (d := d_law_sr_is_trial) rfl; ⟨fd, F, He.glo_ok X G (c.fact 53 (f := .glo "_law_sr_is_trial") rfl)⟩)
    f_law_sr_bent := (let ⟨fd, F⟩ := c.def_ 54 (d := d_law_sr_bent) rfl; ⟨fd, F, He.glo_ok X G (c.fact 54 (f := .glo "_law_sr_bent") rfl)⟩)
    f_law_sr_dot := (let ⟨fd, F⟩ := c.def_ 55 (d := d_law_sr_dot) rfl; ⟨fd, F, He.glo_ok X G (c.fact 55 (f := .glo "_law_sr_dot") rfl)⟩)
    f_law := (let ⟨fd, F⟩ := c.def_ 56 (d := d_law) rfl; ⟨fd, F, He.glo_ok X G (c.fact 56 (f := .glo "law") rfl)⟩)
    n_ValueError := He.free_ok X G (c.fact 57 (f := .free "ValueError") rfl)
    n_abs := He.free_ok X G (c.fact 58 (f := .free "abs") rfl)
    n_all := He.free_ok X G (c.fact 59 (f := .free "all") rfl)
    n_bool := He.free_ok X G (c.fact 60 (f := .free "bool") rfl)
    n_dict := He.free_ok X G (c.fact 61 (f := .free "dict") rfl)
    n_int := He.free_ok X G (c.fact 62 (f := .free "int") rfl)
    n_isinstance := He.free_ok X G (c.fact 63 (f := .free "isinstance") rfl)
    n_len := He.free_ok X G (c.fact 64 (f := .free "len") rfl)
    n_list := He.free_ok X G (c.fact 65 (f := .free "list") rfl)
    n_min := He.free_ok X G (c.fact 66 (f := .free "min") rfl)
    n_range := He.free_ok X G (c.fact 67 (f := .free "range") rfl)
    n_set := He.free_ok X G (c.fact 68 (f := .free "set") rfl)
    n_sorted := He.free_ok X G (c.fact 69 (f := .free "sorted") rfl)
    n_str := He.free_ok X G (c.fact 70 (f := .free "str") rfl)
    n_sum := He.free_ok X G (c.fact 71 (f := .free "sum") rfl)
    n_tuple := He.free_ok X G (c.fact 72 (f := .free "tuple") rfl)
    n_zip := He.free_ok X G (c.fact 73 (f := .free "zip") rfl)
    c_ZERO := ⟨He.glo_ok X G (c.fact 74 (f := .glo "ZERO") rfl), fun H => He.tupB_ok e0 H⟩
    c_ONE := ⟨He.glo_ok X G (c.fact 75 (f := .glo "ONE") rfl), fun H => He.tupB_ok e1 H⟩
    c_LETTERS := He.str_ok X G (c.fact 76 (f := .str "LETTERS" "abcdefghijklmnopqrstuvwxyz") rfl)
    c_MOST_STRATA := He.int_ok X G (c.fact 77 (f := .int "MOST_STRATA" 8) rfl)
    i_gcd := PySem.W.mg_of X G (He.eqO_ok e2)
    x_JudgeError := He.exc_ok (c.fact 78 (f := .exc "JudgeError") rfl)
    g_JudgeError := He.glo_ok X G (c.fact 79 (f := .glo "JudgeError") rfl)
    e_JudgeError := ⟨He.eqO_ok u3_1, He.eqO_ok u3_2, of_decide_eq_true u3_3, u3_4, He.eqO_ok u3_5, He.eqO_ok u3_6, of_decide_eq_true u3_7, of_decide_eq_true u3_8⟩
    j_JudgeError := He.exm_ok (c.fact 80 (f := .exm "JudgeError" "JudgeError" true) rfl)
    s_JudgeError := of_decide_eq_true u3_9
    x_BadShares := He.exc_ok (c.fact 81 (f := .exc "BadShares") rfl)
    g_BadShares := He.glo_ok X G (c.fact 82 (f := .glo "BadShares") rfl)
    e_BadShares := ⟨He.eqO_ok u4_1, He.eqO_ok u4_2, of_decide_eq_true u4_3, u4_4, He.eqO_ok u4_5, He.eqO_ok u4_6, of_decide_eq_true u4_7, of_decide_eq_true u4_8⟩
    j_BadShares := He.exm_ok (c.fact 83 (f := .exm "BadShares" "JudgeError" true) rfl)
    s_BadShares := of_decide_eq_true u4_9
    x_BadTrial := He.exc_ok (c.fact 84 (f := .exc "BadTrial") rfl)
    g_BadTrial := He.glo_ok X G (c.fact 85 (f := .glo "BadTrial") rfl)
    e_BadTrial := ⟨He.eqO_ok u5_1, He.eqO_ok u5_2, of_decide_eq_true u5_3, u5_4, He.eqO_ok u5_5, He.eqO_ok u5_6, of_decide_eq_true u5_7, of_decide_eq_true u5_8⟩
    j_BadTrial := He.exm_ok (c.fact 86 (f := .exm "BadTrial" "JudgeError" true) rfl)
    s_BadTrial := of_decide_eq_true u5_9
  }
end K58

set_option maxHeartbeats 0
namespace K58
open PySem PySem.Spec PyProof.Rows L2 J
abbrev R : PySem.W.OpenRow := PySem.W.OpenLaw.row PySem.Challenge.rw_judgedalike_k58_trials_and_what_they_tel
abbrev hk : PySem.W.Hook := He.hookX 5 fa fn [] tf ex
def ob (s : PySem.W.SharedT) : He.AlX := He.obsX 5 fa fn [] tf ex (HandSHeadRun.getT s)
theorem ob_eq (s : PySem.W.SharedT) : ob s = hk.obs s.abs := He.obsX_eq (HandSHeadRun.getT_eq s)
def loose0 : List Str := ["JudgeError", "BadShares", "BadTrial", "ZERO", "ONE", "is_whole", "is_ratio", "is_chance", "lowest", "plus", "times", "is_less", "total", "are_shares", "need_shares", "mean_of", "LETTERS", "is_word", "is_count", "MOST_STRATA", "is_stratum", "is_trial", "need_trial", "rates_in", "arm_rates", "shares_in", "arm_shares", "whole_in", "whole_rates", "sign_of"]
def loose1 : List Str := ["strata_sign", "strata_tell", "whole_tells", "is_reversed", "standardised", "_law_begun", "_law_blended", "_law_draw", "_law_pick", "_law_caught", "_law_is_truth", "_law_same", "_law_q", "_law_plus", "_law_times", "_law_less", "_law_sum", "_law_words", "_law_weights", "_law_shares", "_law_odd", "_law_sr_trial", "_law_sr_told", "_law_sr_rates", "_law_sr_whole", "_law_sr_sign", "_law_sr_tell", "_law_sr_shares", "_law_sr_is_count", "_law_sr_is_word"]
def loose2 : List Str := ["_law_sr_is_trial", "_law_sr_bent", "_law_sr_dot"]
def loose : List Str := loose0 ++ loose1 ++ loose2
theorem run (w : World) : HandSHeadRun.RunEqI R (PySem.W.view R.prog [0, 70]) hk ob 9000 loose w := by
  unfold HandSHeadRun.RunEqI
  kernel_rfl
end K58

set_option maxHeartbeats 4000000
/-! J21: a tuple turned round; more of lists that change; loops over what is made with effects; two keywords. -/
namespace J
open PySem PySem.Spec PyProof.Rows L2 Evl RZ
/-! ### t[::-1] -/
section
variable {prog : Program} {w : World} {A : Around} {E : Value → Shared → Prop} {s : Shared}
theorem rev_places (n : Nat) : Builtin.Slice.slicePlaces ((n : Int) - 1) (-1) (-1) = n := by
  unfold Builtin.Slice.slicePlaces
  have h1 : ¬ ((-1 : Int) > 0) := by decide
  have h2 : (-(-1) : Int) = 1 := by decide
  rw [if_neg h1, h2]
  simp only [Int.ediv_one]
  split <;> omega
theorem rev_pick (xs : Array Value) : ((List.range xs.size).filterMap fun (m : Nat) => xs[(((xs.size : Nat) : Int) - 1 + (m : Int) * (-1)).toNat]?).toArray = xs.toList.reverse.toArray := by
  congr 1
  refine List.ext_getElem? fun i => ?_
  have e : (List.range xs.size).filterMap (fun (m : Nat) => xs[(((xs.size : Nat) : Int) - 1 + (m : Int) * (-1)).toNat]?) = xs.toList.reverse := by
    have key : ∀ n, n ≤ xs.size → (List.range n).filterMap (fun (m : Nat) => xs[(((xs.size : Nat) : Int) - 1 + (m : Int) * (-1)).toNat]?) = xs.toList.reverse.take n := by
      intro n
      induction n with
      | zero => intro _; simp
      | succ n ih =>
        intro hn
        have hi : (((xs.size : Nat) : Int) - 1 + (n : Int) * (-1)).toNat = xs.size - 1 - n := by omega
        have hg : xs[xs.size - 1 - n]? = some (xs[xs.size - 1 - n]'(by omega)) := Array.getElem?_eq_getElem (by omega)
        rw [List.range_succ, List.filterMap_append, ih (by omega), List.take_add_one]
        congr 1
        rw [List.filterMap_cons, hi, hg]
        have hr : xs.toList.reverse[n]? = some (xs[xs.size - 1 - n]'(by omega)) := by
          rw [List.getElem?_reverse (by simpa using (by omega : n < xs.size))]
          simpa using hg
        rw [hr]
        rfl
    rw [key xs.size (Nat.le_refl _), List.take_of_length_le (by simp)]
  rw [e]
theorem getItem_tuple_rev {t sl : Addr} {items : Array Value} {tk : Tok} {Q : Value → Shared → Prop} (ht : IsTup s.heap t items) (hs : s.heap.IsSliceOf sl .none .none (.int (-1) tk))
    (h : Q (.ref s.heap.objs.size) { s with heap := s.heap.push { cls := .type "tuple", data := .seq items.toList.reverse.toArray } }) (hsz : items.size ≤ sizeLine) : wpAny (model prog w) A (getItem (.ref t) (.ref sl)) Q E s := by
  have hok : sizeOk (.seq items.toList.reverse.toArray) := by
    show items.toList.reverse.toArray.size ≤ sizeLine
    simpa using hsz
  obtain ⟨os, hos, hcs, hds⟩ := id hs
  have hTs : s.TypeIs (.ref sl) "slice" := ⟨os, hos, hcs⟩
  unfold getItem
  try with_reducible refine wpAny_holding ?_
  first | refine wpAny_bind (wpAny_pure ?_) | skip
  refine wpAny_bind (wpAny_sequenceKey ht.typeIs (by decide) ?_)
  refine wpAny_bind (wpAny_callSpecial?_slot (name := Str.ofString "__getitem__") ht.typeIs PyProof.Rows.slot_tuple_getitem
    (wpAny_call_entry PyProof.Rows.slot_tuple_getitem ht.typeIs entry_tuple_getitem ?_ (args_tuple_getitem _ _)))
  show wpAny _ _ (Builtin.Tuple.tupleItemsOf (.ref t) >>= _) _ _ s
  refine wpAny_bind (tupleItemsOf_ ht ?_)
  refine wpAny_bind (wpAny_typeOf hTs ?_)
  rw [if_pos (by decide)]
  refine wpAny_bind ?_
  unfold Builtin.Slice.sliceApplied Builtin.Slice.sliceFields
  refine wpAny_bind (wpAny_bind (wpAny_field hos hds (x := .none) rfl (wpAny_bind (wpAny_field hos hds (x := .none) rfl (wpAny_bind (wpAny_field hos hds (x := .int (-1) tk) rfl (wpAny_pure ?_)))))))
  refine wpAny_bind (slicePart_int ?_)
  show wpAny _ _ (if ((-1 : Int) == 0) = true then _ else _) _ _ s
  rw [if_neg (by decide)]
  refine wpAny_bind (slicePart_none (wpAny_bind (slicePart_none (wpAny_bind (wpAny_pure ?_)))))
  have ea : Builtin.Slice.sliceAdjust none none (-1) ((items.size : Nat) : Int) = (((items.size : Nat) : Int) - 1, -1) := by
    unfold Builtin.Slice.sliceAdjust
    simp
  show wpAny _ _ (match Builtin.Slice.sliceAdjust none none (-1) ((items.size : Nat) : Int) with | (lo, hi) => pure (lo, (-1 : Int), Builtin.Slice.slicePlaces lo hi (-1))) _ _ s
  rw [ea]
  show wpAny _ _ (pure (((items.size : Nat) : Int) - 1, (-1 : Int), Builtin.Slice.slicePlaces (((items.size : Nat) : Int) - 1) (-1) (-1))) _ _ s
  rw [rev_places]
  refine wpAny_pure ?_
  have hno : ¬ (((((items.size : Nat) : Int) - 1) == 0 && (-1 : Int) == 1 && items.size == items.size) = true) := by simp
  show wpAny _ _ (if ((((items.size : Nat) : Int) - 1) == 0 && (-1 : Int) == 1 && items.size == items.size) = true then _ else _) _ _ s
  rw [if_neg hno, rev_pick]
  first
    | exact wpAny_bind (m := Builtin.Tuple.tupleExact _) (wpAny_newObj_type (wpAny_pure ⟨_, rfl, wpAny_pure h⟩) hok)
    | exact wpAny_bind (m := Builtin.Tuple.tupleExact _) (wpAny_newObj_type (wpAny_bind (wpAny_pure (wpAny_pure ⟨_, rfl, wpAny_pure h⟩))) hok)
    | exact wpAny_bind (wpAny_bind (m := Builtin.Tuple.tupleExact _) (wpAny_newObj_type (wpAny_pure (wpAny_pure ⟨_, rfl, wpAny_pure h⟩)) hok))
    | exact wpAny_bind (wpAny_bind (m := Builtin.Tuple.tupleExact _) (wpAny_newObj_type (wpAny_pure ⟨_, rfl, wpAny_pure h⟩) hok))
end
section
variable {X : Cx} {B H : Hp} {M M0 : List Addr} {ρ : Ro} {μ : Mu} {σ : L2.St} {pos pos' apos p p1 p2 p3 : Pos} {a b c e o tg iter : Expr} {d : D} {ds es : List D} {rest body : List Stmt} {D' : Ends} {i j : Int} {js : List Nat} {ad : Addr} {n : Nat}
def tRevT (K : PySem.W.Frag) (te : TE) : TE := fun σ H Q => te σ H fun x H1 => ∃ a xs, x = .ref a ∧ SqT K H1 a xs ∧ ∀ p, H1 p = none → Q (.ref p) (upd H1 p (.tup xs.reverse))
theorem pe_revT {e : Expr} {te : TE} {k : Nat} {p1 p2 p3 pos : Pos} (he : PE X e te) : PE X (.Subscript e (.Slice none none (some (.UnaryOp .USub (.Constant (.int 1) k p1) p2)) p3) pos) (tRevT X.K te) := by
  refine ⟨fun pins s σ H Q I h => ?_⟩
  refine Subscript_ (thn (he.run pins s σ H _ I h) fun v s1 ⟨x, H1, I1, r1, q1⟩ => ?_)
  obtain ⟨a, xs, ex, hx, q⟩ := q1
  subst ex
  cases r1
  have hst : PO X (some (.UnaryOp .USub (.Constant (.int 1) k p1) p2)) (tPart (tUn (rU fun i => .int (-i)) (tC (.int 1)))) := po_some (pe_un un_neg pe_int)
  refine wpAny_Slice (thn (po_none.run pins s1 σ H1 (fun o H2 => o = none ∧ H2 = H1) I1 ⟨rfl, rfl⟩) fun vl s2 ⟨l, H2, I2, pl, el, e2⟩ => ?_)
  subst el e2
  refine thn (po_none.run pins s2 σ H2 (fun o H3 => o = none ∧ H3 = H2) I2 ⟨rfl, rfl⟩) fun vu s3 ⟨u, H3, I3, pu, eu, e3⟩ => ?_
  subst eu e3
  refine thn (hst.run pins s3 σ H3 (fun o H4 => o = some (-1) ∧ H4 = H3) I3 ⟨1, rfl, -1, rfl, rfl, rfl⟩) fun vs s4 ⟨o, H4, I4, ps, eo, e4⟩ => ?_
  subst eo e4
  have I5 : Inv X pins σ H4 { s4 with heap := s4.heap.push { cls := .type "slice", data := .fields #[vl, vu, vs] } } := I4.kept (t' := s4.toks) fun b ob q => Heap.get?_push_of_some _ q
  obtain ⟨its, r, ht, hz⟩ := I5.tuple hx
  have hlen := r.length
  have hsl := Heap.IsSliceOf.new s4.heap vl vu vs
  cases pl
  cases pu
  cases ps
  refine tail_any (ops := [.ref a, .ref s4.heap.objs.size]) ht.typeIs (PyProof.Rows.slot_tuple_getitem.lookup) ?_ (by with_unfolding_all rfl)
  refine getItem_tuple_rev ht hsl ?_ (by rw [List.size_toArray]; omega)
  refine ⟨.ref _, _, I5.laid (t' := s4.toks) (o := .tup xs.reverse) (fun b ob q => Heap.get?_push_of_some _ q) (Nat.le_refl _) ?_, rfl, q _ (I5.hok.fresh (Nat.le_refl _))⟩
  exact ⟨by rw [List.length_reverse]; exact hz, _, r.reverse, IsTup.new _ _⟩
theorem dpRev {K : PySem.W.Frag} {G : Hp} : ∀ {vs : List V} {ds : List D}, DpAll K G vs ds → DpAll K G vs.reverse ds.reverse
  | _, _, .nil => .nil
  | _, _, .cons a t => by rw [List.reverse_cons, List.reverse_cons]; exact (dpRev t).append (.cons a .nil)
theorem jd_revT {k : Nat} (ha : Jd X M a σ H (.tuple ds)) : Jd X M (.Subscript a (.Slice none none (some (.UnaryOp .USub (.Constant (.int 1) k p1) p2)) p3) pos) σ H (.tuple ds.reverse) := fun al H1 x Q q =>
  leW (pe_revT pe_W) (ha al H1 x _ fun v H2 y p => by
    obtain ⟨t, xs, e1, e2, e3⟩ := dTup p
    refine ⟨t, xs, e1, ex_t hid_le e2, fun c hc => ?_⟩
    have up := hid_ex (M := M) (Ex.new (o := .tup xs.reverse) hc)
    exact q _ _ (y.trans (Ex.new hc)) (.tup (SqT.of ((al.ex (x.trans y)).newEx hc)) (dpRev (e3.ex up))))
/-- t[-1:] -/
theorem jd_slLast (ha : Jd X M a σ H (.tuple ds)) (hb : Jd X M b σ H (.int (-1))) (h : ds ≠ []) : Jd X M (.Subscript a (.Slice (some b) none none p2) pos) σ H (.tuple (ds.drop (ds.length - 1))) := fun al H1 x Q q =>
  leW (pe_slice sl_tupA pe_W (po_some pe_W) po_none) (ha al H1 x _ fun v H2 y p => hb al H2 (x.trans y) _ fun w H3 z r => by
    obtain ⟨t, xs, e1, e2, e3⟩ := dTup p
    have e2' := ex_t (hid_ex (M := M) z) e2
    have e3' := e3.ex (hid_ex (M := M) z)
    have hl := e3.len
    have hpos : 0 < ds.length := List.length_pos_iff.mpr h
    have es : HT.sIx xs.length 0 (some (-1)) = ds.length - 1 := by
      show (if (-1 : Int) < 0 then ((-1 : Int) + (xs.length : Int)).toNat else min (-1 : Int).toNat xs.length) = _
      rw [if_pos (by decide)]; omega
    refine ⟨-1, dInt r, t, xs, e1, ex_t hid_le e2', fun h0 => ?_, fun _ c hc => ?_⟩
    · rw [es] at h0
      rw [h0.1, List.drop_zero] at q
      exact q _ H3 (y.trans z) (.tup e2' e3')
    · have up := hid_ex (M := M) (Ex.new (o := .tup (L2.cutV xs (some (-1)) none)) hc)
      refine q _ _ ((y.trans z).trans (Ex.new hc)) (.tup (SqT.of ((al.ex ((x.trans y).trans z)).newEx hc)) ?_)
      have e : L2.cutV xs (some (-1)) none = xs.drop (ds.length - 1) := by
        unfold L2.cutV
        rw [HT.sIx_none, es, List.take_of_length_le]
        rw [List.length_drop]; omega
      rw [e] at up ⊢
      exact dpDrop _ (e3'.ex up))
/-- is not, of bools -/
theorem jt_isnB {k l : Bool} (ha : Jd X M a σ H (.bool k)) (hb : Jd X M b σ H (.bool l)) : Jt X M (.Compare a [.IsNot] [b] pos) σ H (!decide (k = l)) := fun al H1 x Q q =>
  leT (pt_cmpR op_isnot_bl pe_W pe_W (nm b rfl rfl)) (ha al H1 x _ fun v H2 y p => hb al H2 (x.trans y) _ fun w H3 z r => ⟨k, l, dBl p, dBl r, by
    have e : (decide (k = l)) = decide (k = l) := rfl
    exact ⟨_, rfl, q H3 (y.trans z)⟩⟩)
/-- xs.append(e), e made with effects -/
theorem sy_appE {xs : List Sv} {m : Nat} (S : Sy X.K B M0 ρ μ σ H) (ho : Jv X o σ H (.ref ad)) (hi : μ[m]? = some (ad, .lst xs))
    (h : ∀ H1, Sy X.K B M0 ρ μ σ H1 → tW X e σ H1 fun v H2 => ∃ (B2 : Hp) (M2 : List Addr) (ρ2 : Ro) (μ2 : Mu) (m2 : Nat) (xs2 : List Sv) (s : Sv), Sy X.K B2 M2 ρ2 μ2 σ H2 ∧ s.holds X.K (hid (adr M2 μ2) H2) v ∧ μ2[m2]? = some (ad, .lst xs2) ∧ xs2.length ≤ 90000 ∧ ∀ H3, Sy X.K B2 M2 ρ2 (μ2.set m2 (ad, .lst (xs2 ++ [s]))) σ H3 → tB X rest D' σ H3)
    (hsw : swapsWith (.Call (.Attribute o "append" apos) [e] [] pos) none pos'.line X.env = pure false := by rfl)
    (hbase : attributeBase o "append" X.env (eval o X.env) = eval o X.env := by rfl)
    (hfew : ((backTo pos (starEach [e] X.env)).all (fun x => !x.1) && (backToKw pos (keywordEach [] X.env)).all (fun x => x.1.isSome)
      && decide (([e] : List Expr).length + ([] : List Keyword).length + (if ([] : List Keyword).isEmpty then 0 else 1) < 30)) = true := by rfl)
    (hline : (apos.endLine == pos.line) = true := by rfl) (hs : starEach [e] X.env = (false, eval e X.env) :: starEach [] X.env := by rfl) (hplain : (backTo pos (starEach [] X.env)).any (·.1) = false := by rfl) : tB X (.Expr (.Call (.Attribute o "append" apos) [e] [] pos) pos' :: rest) D' σ H :=
  tB_exprX (leW (pe_bm PySem.F.plainAttrs_list PySem.F.slot_list_append PySem.F.type_list_append mt_append pe_W (pa_cons pe_W pa_nil hs) hbase hfew hline hs hplain) (S.evV ho fun H1 S1 x1 => by
    obtain ⟨vs, h1, h2⟩ := S1.own hi
    refine ⟨.inl ⟨rfl, _, .inl (.inl h1)⟩, tW_mono (h H1 S1) ?_⟩
    rintro v H2 ⟨B2, M2, ρ2, μ2, m2, xs2, s, S2, hv, hi2, hl, k⟩
    obtain ⟨vs2, q1, q2⟩ := S2.own hi2
    have hl2 := paired_len q2
    exact ⟨ad, vs2, v, rfl, rfl, q1, sz_lt (by omega), k _ (S2.upd _ hi2 ⟨_, upd_same, paired_app q2 (.cons hv .nil)⟩)⟩)) hsw
/-- xs[i] += e -/
theorem pget_list : PGet X fun o i H Q => ∃ (p : Addr) (xs : List V) (k : Nat) (v : V), o = .ref p ∧ i = .int (k : Int) ∧ SqL X.K H p xs ∧ xs[k]? = some v ∧ Q v H := by
  intro pins s σ H o i ov iv Q I r1 r2 h
  obtain ⟨p, xs, k, v, rfl, rfl, hq, hv, q⟩ := h
  cases r1
  obtain ⟨t, rfl⟩ := r2
  obtain ⟨its, r, pl, hz⟩ := I.list hq
  obtain ⟨w, ew, rw'⟩ := r.get hv
  have hl := r.length
  have hn := line63
  have hk := (List.getElem?_eq_some_iff.mp hv).1
  exact wpAny_getItem_list pl.isList (by omega) (by omega) (x := w) (by simpa using ew) ⟨v, H, I, rw', q⟩
theorem sy_augIx {xs : List Sv} {m k : Nat} {x y : Int} {tpos : Pos} (S : Sy X.K B M0 ρ μ σ H) (ho : Jv X o σ H (.ref ad)) (hx : Jd X (adr M0 μ) b σ H (.int i)) (hv : Jd X (adr M0 μ) e σ H (.int y)) (hi : μ[m]? = some (ad, .lst xs)) (hk : i = (k : Int)) (hg : xs[k]? = some (.dat (.int x)))
    (kk : ∀ H', Sy X.K B M0 ρ (μ.set m (ad, .lst (xs.set k (.dat (.int (x + y)))))) σ H' → tB X rest D' σ H')
    (ha : ∀ ov iv new, augStore b ov iv new = (do holding [new, ov, iv] (setItem ov iv new); release [new, ov, iv] []; pure .next) := by intros; rfl) : tB X (.AugAssign (.Subscript o b tpos) .Add e pos :: rest) D' σ H :=
  tB_cons (ps_augS pe_W pe_W pget_list pe_W ip_add set_list ha) (S.evV ho fun H1 S1 x1 => S1.ev (hx.mono x1 S.all) fun w H2 S2 x2 p2 => by
    subst hk
    obtain ⟨vs, h1, h2⟩ := S2.own hi
    obtain ⟨v, h3, h4⟩ := paired_get h2 hg
    have h4 : v = .int x := dInt h4
    subst h4
    refine ⟨ad, vs, k, _, rfl, dInt p2, .inl (.inl h1), h3, S2.ev (hv.mono (x1.trans x2) S.all) fun u H3 S3 x3 p3 => ⟨x, y, rfl, dInt p3, ?_⟩⟩
    obtain ⟨vs3, g1, g2⟩ := S3.own hi
    have hl := paired_len g2
    have hkl := (List.getElem?_eq_some_iff.mp hg).1
    refine ⟨ad, vs3, (k : Int), k, rfl, dInt p2, g1, ?_, kk _ (S3.upd _ hi ⟨_, upd_same, paired_set (a := .dat (.int (x + y))) (b := .int (x + y)) (Dp.int _) g2⟩)⟩
    unfold ixN
    rw [if_pos (Int.natCast_nonneg k), if_pos (by omega)]
    rfl)
/-- for over what is made with effects -/
theorem sy_forE (Z : Mu → List D → Prop) (hI : ∀ R : It → Hp → Prop, (∀ J H2 μ ds, Z μ ds → Sy X.K B M0 ρ μ σ H2 → Yl X.K (hid (adr M0 μ) H2) J ds → R J H2) → tI X tg iter σ H R) (f : D → Ro → Ro) (hg : ∀ μ ds d ρ', Z μ ds → d ∈ ds → Jg X tg js d ρ' (f d ρ')) (I : Mu → List D → Nat → Ro → Mu → Prop) (h0 : ∀ μ ds, Z μ ds → I μ ds 0 ρ μ)
    (hs : ∀ μ ds i d ρ' μ' σ' H' B', Z μ ds → ds[i]? = some d → I μ ds i ρ' μ' → Ex B B' → Sy X.K B' M0 (f d ρ') μ' σ' H' →
      tB X body ⟨fun σ2 H2 => ∃ ρ2 μ2, I μ ds (i + 1) ρ2 μ2 ∧ Sy X.K B' M0 ρ2 μ2 σ2 H2, D'.rt, tB X rest D', fun σ2 H2 => ∃ ρ2 μ2, I μ ds (i + 1) ρ2 μ2 ∧ Sy X.K B' M0 ρ2 μ2 σ2 H2⟩ σ' H')
    (hd : ∀ μ ds ρ' μ' σ' H', Z μ ds → I μ ds ds.length ρ' μ' → Sy X.K B M0 ρ' μ' σ' H' → tB X rest D' σ' H')
    (hp : PassesOwn (model X.prog X.w) X.A X.env X.xe) (hc : X.calm = true) (hfs : ∀ x, foldedSetIterable iter X.env x = pure x := by intro _; rfl) : tB X (.For tg iter body [] pos :: rest) D' σ H :=
  tB_cons (ps_for hp hc pi_I pg_G pss_B hfs) (hI _ fun J H2 μ ds z S2 yl => by
    obtain ⟨G, Y, w, hG, hY⟩ := yl
    have low : hid M0 (grd μ H2) = hid (adr M0 μ) H2 := grd_low
    refine for_it w (fun i σ' H' => ∃ ρ' μ', I μ ds i ρ' μ' ∧ Sy X.K (grd μ H2) M0 ρ' μ' σ' H') ⟨ρ, μ, h0 μ ds z, S2.grd⟩ (fun i σ' H' hi ⟨ρ', μ', _, S'⟩ => hG H' ?_) (fun i x σ' H' H3 hi ⟨ρ', μ', hI, S'⟩ y => ?_) fun σ' H' ⟨ρ', μ', hI, S'⟩ => hd μ ds ρ' μ' σ' H' z hI (S'.base S2.grdB)
    · rw [← low]; exact S'.low.trans hid_le
    · have g0 : Ex (hid (adr M0 μ) H2) (hid (adr M0 μ') H') := by rw [← low]; exact S'.low
      obtain ⟨x3, dx⟩ := hY i H' x H3 hi (g0.trans hid_le) y
      have hdi : ds[i]? = some ds[i] := List.getElem?_eq_getElem hi
      have p := dx (adr M0 μ') S'.all g0 ds[i] hdi
      have S3 := S'.ex x3
      exact hg μ ds ds[i] ρ' z (List.getElem_mem hi) _ _ _ _ _ _ S3 p _ fun σ4 S4 _ _ => hs μ ds i ds[i] ρ' μ' σ4 H3 (grd μ H2) z hdi hI S2.grdB S4)
/-- what is one's own list, walked while nothing of it changes: its data -/
theorem own_yl {xs : List D} {m : Nat} {tg : Expr} (S : Sy X.K B M0 ρ μ σ H) (hi : μ[m]? = some (ad, .lst (xs.map .dat))) : ∃ vs, H ad = some (.lst vs) ∧ DpAll X.K (hid (adr M0 (μ.eraseIdx m)) H) vs xs := by
  obtain ⟨vs, h1, h2⟩ := S.own hi
  exact ⟨vs, h1, dats_all (hid_sub erase_sub) h2⟩
end
end J

set_option maxHeartbeats 4000000
/-! J22: one's own list is looked at for a while and is one's own again afterwards. -/
namespace J
open PySem PySem.Spec PyProof.Rows L2 Evl RZ
/-- at a, in the ground B0, stands a list of xs; it was not in B -/
def Fz (K : PySem.W.Frag) (B0 B : Hp) (M0 : List Addr) (a : Addr) (xs : List D) : Prop := ∃ vs, B0 a = some (.lst vs) ∧ DpAll K (hid (a :: M0) B0) vs xs ∧ a ∉ M0 ∧ B a = none ∧ Ex B B0
/-- no list stands in what a slot, an object holds -/
def noS : Sv → Bool
  | .dat d => noL d
  | .inv _ => false
  | _ => true
def noO : Option Sv → Bool
  | some s => noS s
  | none => true
def noMo : Mo → Bool
  | .lst xs => xs.all noS
  | .dct kvs => kvs.all fun p => noS p.2
  | .ins _ _ fs => fs.all fun p => noS p.2
  | .tab _ => true
section
variable {K : PySem.W.Frag} {B B' B0 H : Hp} {M0 : List Addr} {ρ : Ro} {μ : Mu} {σ : L2.St} {a : Addr} {xs : List D}
theorem Sy.fz (S : Sy K B M0 ρ ((a, .lst (xs.map .dat)) :: μ) σ H) : Fz K (J.grd μ H) B M0 a xs ∧ Sy K (J.grd μ H) M0 ρ μ σ H := by
  have S1 := S.drop1
  obtain ⟨vs, h1, h2⟩ := S.own (i := 0) rfl
  have na : a ∉ μ.map (·.1) := (List.nodup_cons.mp S.dj.1).1
  have nm : a ∉ M0 := S.dj.2 _ List.mem_cons_self
  refine ⟨⟨vs, ?_, ?_, nm, S.nb _ List.mem_cons_self, S1.grdB⟩, S1.grd⟩
  · show hid (μ.map (·.1)) H a = _
    rw [hid_out na]; exact h1
  · have e : hid (a :: M0) (J.grd μ H) = hid (adr M0 ((a, .lst (xs.map .dat)) :: μ)) H := by
      unfold J.grd
      rw [hid_app]
      funext b
      have : b ∈ μ.map (·.1) ++ a :: M0 ↔ b ∈ adr M0 ((a, Mo.lst (xs.map .dat)) :: μ) := by
        unfold adr
        simp only [List.map_cons, List.cons_append, List.mem_append, List.mem_cons]
        exact ⟨fun h => by rcases h with h | h | h <;> simp [h], fun h => by rcases h with h | h | h <;> simp [h]⟩
      unfold hid
      by_cases hb : b ∈ adr M0 ((a, Mo.lst (xs.map .dat)) :: μ)
      · rw [if_pos (this.mpr hb), if_pos hb]
      · rw [if_neg fun z => hb (this.mp z), if_neg hb]
    rw [e]
    exact dats_all (Ex.refl _) h2
theorem Fz.jd {X : Cx} {e : Expr} (F : Fz X.K B0 B M0 a xs) (hB : Ex B0 B') (S : Sy X.K B' M0 ρ μ σ H) (he : Jv X e σ H (.ref a)) : Jd X (adr M0 μ) e σ H (.list xs) := fun _ H1 x Q q => by
  obtain ⟨vs, h1, h2, h3, _, _⟩ := F
  refine he H1 x Q fun H2 y => q _ H2 y ?_
  have low := (hid_ex hB).trans (S.ex (x.trans y)).low
  exact .lst (SqL.of (low _ _ (by rw [hid_out h3]; exact h1))) (h2.ex ((hid_sub fun b hb => List.mem_cons_of_mem _ hb).trans low))
theorem Fz.le (F : Fz K B0 B M0 a xs) : Ex B B0 := let ⟨_, _, _, _, _, h⟩ := F; h
theorem sv_hid {M M' : List Addr} {vs : List V} {s : Sv} {v : V} (ha : H a = some (.lst vs)) (hM : ∀ b ∈ M, b = a ∨ b ∈ M') (n : noS s = true) (h : s.holds K (hid M' H) v) : s.holds K (hid M H) v := by
  cases s with
  | dat d => exact dp_hid ha hM d v n h
  | val w => exact h
  | inv p => cases n
  | exc cls =>
    obtain ⟨b, h1, h2⟩ := h
    refine ⟨b, h1, ?_⟩
    by_cases hb : b ∈ M'
    · rw [hid_in hb] at h2; cases h2
    · rw [hid_out hb] at h2
      rw [hid_out fun z => ?_]
      · exact h2
      · rcases hM b z with z | z
        · rw [z, ha] at h2; cases h2
        · exact hb z
theorem paired_hid {M M' : List Addr} {vs : List V} (ha : H a = some (.lst vs)) (hM : ∀ b ∈ M, b = a ∨ b ∈ M') : ∀ {xs : List Sv} {ws : List V}, xs.all noS = true → Paired (fun s v => Sv.holds K (hid M' H) s v) xs ws → Paired (fun s v => Sv.holds K (hid M H) s v) xs ws
  | _, _, _, .nil => .nil
  | s :: xs, _, n, .cons p q => by
    rw [List.all_cons, Bool.and_eq_true] at n
    exact .cons (sv_hid ha hM n.1 p) (paired_hid ha hM n.2 q)
theorem paired2_hid {κ : Type} {M M' : List Addr} {vs : List V} (ha : H a = some (.lst vs)) (hM : ∀ b ∈ M, b = a ∨ b ∈ M') : ∀ {xs : List (κ × Sv)} {ws : List (κ × V)}, (xs.all fun p => noS p.2) = true → Paired (fun (p : κ × Sv) (q : κ × V) => p.1 = q.1 ∧ p.2.holds K (hid M' H) q.2) xs ws → Paired (fun (p : κ × Sv) (q : κ × V) => p.1 = q.1 ∧ p.2.holds K (hid M H) q.2) xs ws
  | _, _, _, .nil => .nil
  | s :: xs, _, n, .cons p q => by
    rw [List.all_cons, Bool.and_eq_true] at n
    exact .cons ⟨p.1, sv_hid ha hM n.1 p.2⟩ (paired2_hid ha hM n.2 q)
theorem mo_hid {M M' : List Addr} {vs : List V} {b : Addr} {m : Mo} (ha : H a = some (.lst vs)) (hM : ∀ b ∈ M, b = a ∨ b ∈ M') (n : noMo m = true) (h : m.holds K (hid M' H) H b) : m.holds K (hid M H) H b := by
  cases m with
  | lst xs => obtain ⟨ws, h1, h2⟩ := h; exact ⟨ws, h1, paired_hid ha hM n h2⟩
  | dct xs => obtain ⟨ws, h1, h2⟩ := h; exact ⟨ws, h1, paired2_hid ha hM n h2⟩
  | ins C dx xs => obtain ⟨ws, h1, h2⟩ := h; exact ⟨ws, h1, paired2_hid ha hM n h2⟩
  | tab q =>
    obtain ⟨ps, h1, h2, h3⟩ := h
    refine ⟨ps, h1, h2, fun pos cv z => ?_⟩
    obtain ⟨c, c1, c2⟩ := h3 pos cv z
    refine ⟨c, c1, ?_⟩
    by_cases hb : c ∈ M'
    · rw [hid_in hb] at c2; cases c2
    · rw [hid_out hb] at c2
      rw [hid_out fun z => ?_]
      · exact c2
      · rcases hM c z with z | z
        · rw [z, ha] at c2; cases c2
        · exact hb z
/-- .. it is one's own again -/
theorem Fz.thaw (F : Fz K B0 B M0 a xs) (S : Sy K B0 M0 ρ μ σ H) (nr : ρ.all noO = true) (nm : (μ.all fun p => noMo p.2) = true) : Sy K B M0 ρ ((a, .lst (xs.map .dat)) :: μ) σ H := by
  obtain ⟨vs, h1, h2, h3, h4, h5⟩ := F
  have ha : H a = some (.lst vs) := S.bs _ _ h1
  have nin : a ∉ μ.map (·.1) := fun z => by
    obtain ⟨p, hp, e⟩ := List.mem_map.mp z
    have := S.nb p hp
    rw [e, h1] at this; cases this
  have hM : ∀ b ∈ adr M0 ((a, .lst (xs.map .dat)) :: μ), b = a ∨ b ∈ adr M0 μ := fun b hb => List.mem_cons.mp hb
  have up : Ex (hid (adr M0 ((a, .lst (xs.map .dat)) :: μ)) H) (hid (adr M0 μ) H) := hid_sub fun b hb => List.mem_cons_of_mem _ hb
  refine ⟨fun i s hi => ?_, S.ln, fun p hp => ?_, S.al, h5.trans S.bs, fun p hp => ?_, List.nodup_cons.mpr ⟨nin, S.dj.1⟩, fun p hp => ?_⟩
  · obtain ⟨v, q1, q2⟩ := S.sl i s hi
    exact ⟨v, q1, sv_hid ha hM (show noO (some s) = true from List.all_eq_true.mp nr _ (List.mem_of_getElem? hi)) q2⟩
  · rcases List.mem_cons.mp hp with rfl | hp
    · refine ⟨vs, ha, ?_⟩
      have low : Ex (hid (a :: M0) B0) (hid (adr M0 ((a, .lst (xs.map .dat)) :: μ)) H) := fun b o e => by
        by_cases hb : b ∈ a :: M0
        · rw [hid_in hb] at e; cases e
        · rw [hid_out hb] at e
          rw [hid_out fun z => ?_]
          · exact S.bs b o e
          · rcases List.mem_cons.mp (show b ∈ a :: adr M0 μ from z) with z | z
            · exact hb (by rw [z]; exact List.mem_cons_self)
            · rcases List.mem_append.mp z with z | z
              · obtain ⟨p, hp, q⟩ := List.mem_map.mp z
                rw [← q, S.nb p hp] at e; cases e
              · exact hb (List.mem_cons_of_mem _ z)
      exact paired_dat (h2.ex low)
    · exact mo_hid ha hM (List.all_eq_true.mp nm p hp) (S.ob p hp)
  · rcases List.mem_cons.mp hp with rfl | hp
    · exact h4
    · cases q : B p.1 with
      | none => rfl
      | some o => exact absurd ((h5 _ _ q).symm.trans (S.nb p hp)) (by simp)
  · rcases List.mem_cons.mp hp with rfl | hp
    · exact h3
    · exact S.dj.2 p hp
end
end J

set_option maxHeartbeats 4000000
/-! J23: values on the way: what was made already while the rest of a display, of arguments, is made with effects. -/
namespace J
open PySem PySem.Spec PyProof.Rows L2 Evl RZ
/-- the state, and values ts = vs that are at hand -/
def Sx (K : PySem.W.Frag) (B : Hp) (M0 : List Addr) (ρ : Ro) (μ : Mu) (σ : L2.St) (ts : List Sv) (vs : List V) (H : Hp) : Prop := Sy K B M0 (ρ ++ ts.map some) μ (σ ++ vs.map some) H ∧ ρ.length = σ.length
section
variable {K : PySem.W.Frag} {B H H' : Hp} {M0 : List Addr} {ρ : Ro} {μ μ' : Mu} {σ : L2.St} {ts : List Sv} {vs : List V} {s : Sv} {v : V}
theorem Sy.sx (S : Sy K B M0 ρ μ σ H) : Sx K B M0 ρ μ σ [] [] H := ⟨by simpa using S, S.ln⟩
theorem Sx.base (S : Sx K B M0 ρ μ σ ts vs H) : Sy K B M0 ρ μ σ H := S.1.reslot S.2 fun i s h => by
  have hi : i < ρ.length := (List.getElem?_eq_some_iff.mp h).1
  obtain ⟨v, h1, h2⟩ := S.1.sl i s (by rw [List.getElem?_append_left hi]; exact h)
  rw [List.getElem?_append_left (by rw [← S.2]; exact hi)] at h1
  exact ⟨v, h1, h2⟩
theorem Sx.ex (S : Sx K B M0 ρ μ σ ts vs H) (e : Ex H H') : Sx K B M0 ρ μ σ ts vs H' := ⟨S.1.ex e, S.2⟩
theorem Sx.len (S : Sx K B M0 ρ μ σ ts vs H) : ts.length = vs.length := by
  have h1 := S.1.ln
  have h2 := S.2
  simp at h1
  omega
theorem Sx.push (S : Sx K B M0 ρ μ σ ts vs H) (h : s.holds K (hid (adr M0 μ) H) v) : Sx K B M0 ρ μ σ (ts ++ [s]) (vs ++ [v]) H := by
  refine ⟨S.1.reslot (by have h1 := S.1.ln; simp at h1 ⊢; omega) fun i t e => ?_, S.2⟩
  have hl := S.1.ln
  have hl2 := S.len
  by_cases hi : i < (ρ ++ ts.map some).length
  · have e' : (ρ ++ ts.map some)[i]? = some (some t) := by
      rw [List.map_append, ← List.append_assoc, List.getElem?_append_left hi] at e; exact e
    obtain ⟨u, h1, h2⟩ := S.1.sl i t e'
    refine ⟨u, ?_, h2⟩
    rw [List.map_append, ← List.append_assoc, List.getElem?_append_left (by rw [← hl]; exact hi)]
    exact h1
  · rw [List.map_append, ← List.append_assoc, List.getElem?_append_right (by omega)] at e
    have h0 : i - (ρ ++ ts.map some).length = 0 := by
      have := (List.getElem?_eq_some_iff.mp e).1
      simp at this; simp; omega
    rw [h0] at e
    cases e
    refine ⟨v, ?_, h⟩
    rw [List.map_append, ← List.append_assoc, List.getElem?_append_right (by omega), ← hl, h0]
    rfl
theorem paired_of {F : Sv → V → Prop} : ∀ {ts : List Sv} {vs : List V}, ts.length = vs.length → (∀ (i : Nat) (s : Sv), ts[i]? = some s → ∃ v, vs[i]? = some v ∧ F s v) → Paired F ts vs
  | [], [], _, _ => .nil
  | s :: ts, v :: vs, hl, h => by
    obtain ⟨v', h1, h2⟩ := h 0 s rfl
    cases h1
    exact .cons h2 (paired_of (by simpa using hl) fun i s' e => h (i + 1) s' e)
  | [], _ :: _, hl, _ => by simp at hl
  | _ :: _, [], hl, _ => by simp at hl
/-- the values at hand are what they were -/
theorem Sx.vals (S : Sx K B M0 ρ μ σ ts vs H) : Paired (fun s v => Sv.holds K (hid (adr M0 μ) H) s v) ts vs := paired_of S.len fun i s e => by
  have hi := (List.getElem?_eq_some_iff.mp e).1
  have e' : (ρ ++ ts.map some)[ρ.length + i]? = some (some s) := by
    rw [List.getElem?_append_right (by omega), Nat.add_sub_cancel_left, List.getElem?_map, e]; rfl
  obtain ⟨v, h1, h2⟩ := S.1.sl _ _ e'
  rw [List.getElem?_append_right (by have := S.2; omega), ← S.2, Nat.add_sub_cancel_left, List.getElem?_map] at h1
  obtain ⟨u, h3, h4⟩ := Option.map_eq_some_iff.mp h1
  cases h4
  exact ⟨v, h3, h2⟩
theorem dats_of {G : Hp} : ∀ {ds : List D} {vs : List V}, Paired (fun s v => Sv.holds K G s v) (ds.map .dat) vs → DpAll K G vs ds
  | [], _, h => by cases h; exact .nil
  | d :: ds, _, h => by cases h with | cons x y => exact .cons x (dats_of y)
theorem Sx.dats {ds : List D} (S : Sx K B M0 ρ μ σ (ds.map .dat) vs H) : DpAll K (hid (adr M0 μ) H) vs ds := dats_of S.vals
theorem Sx.perm (S : Sx K B M0 ρ μ σ ts vs H) (p : μ'.Perm μ) : Sx K B M0 ρ μ' σ ts vs H := ⟨S.1.perm p, S.2⟩
theorem Sx.newN {a : Addr} (S : Sx K B M0 ρ μ σ ts vs H) (m : Mo) (x : Ex H H') (hn : H a = none) (ho : m.holds K (hid (a :: adr M0 μ) H') H' a) : Sx K B M0 ρ ((a, m) :: μ) σ ts vs H' := ⟨S.1.newN m x hn ho, S.2⟩
end
section
variable {X : Cx} {B H : Hp} {M0 : List Addr} {ρ : Ro} {μ μ1 μ2 : Mu} {σ : L2.St} {ts : List Sv} {vs : List V} {s : Sv} {e : Expr} {es : List Expr} {ds : List D} {d : D} {pos p : Pos}
theorem Sx.ev (S : Sx X.K B M0 ρ μ σ ts vs H) (h : Js X (adr M0 μ) e σ H s) {Q : VK} (k : ∀ v H', Sx X.K B M0 ρ μ σ (ts ++ [s]) (vs ++ [v]) H' → Q v H') : tW X e σ H Q :=
  h S.1.all H (Ex.refl H) Q fun v H' x p => k v H' ((S.ex x).push p)
theorem Sx.evN (S : Sx X.K B M0 ρ μ σ ts vs H) (h : Jn X (adr M0 μ) e σ H ds) {Q : VK} (k : ∀ a H', Sx X.K B M0 ρ ((a, .lst (ds.map .dat)) :: μ) σ (ts ++ [.val (.ref a)]) (vs ++ [.ref a]) H' → Q (.ref a) H') : tW X e σ H Q :=
  h S.1.all H (Ex.refl H) Q fun a vs' H2 y hn ha p => k a H2 (Sx.push (s := .val (.ref a)) (v := .ref a) (S.newN (.lst (ds.map .dat)) y hn ⟨vs', ha, paired_dat p⟩) rfl)
/-- a call whose callee changes objects -/
theorem Sx.call {k n : Nat} {x : Str} {ps : List Str} {Pre : List Sv → Mu → Prop} {R : List Sv → Mu → Sv → Mu → Prop} {ss : List Sv} {Q : VK} (S : Sx X.K B M0 ρ (μ1 ++ μ2) σ ts vs H) (F : Fd CX0 X.prog X.w X.K X.mg X.base k x ps (spM X.K n Pre R noF)) (hr : Room k X.A) (ha : Jsa X (adr M0 (μ1 ++ μ2)) (e :: es) σ H ss) (hn : ss.length = n) (hp : Pre ss μ1)
    (kk : ∀ v s μ1' H', R ss μ1 s μ1' → Sx X.K B M0 ρ (μ1' ++ μ2) σ (ts ++ [s]) (vs ++ [v]) H' → Q v H') (hg : Gl X x := by rfl) (hdb : (x == ("__debug__" : Str)) = false := by decide)
    (he : starEach (e :: es) X.env = (false, eval e X.env) :: starEach es X.env := by rfl) (hpl : (backTo pos (starEach es X.env)).any (·.1) = false := by rfl) : tW X (.Call (.Name x p) (e :: es) [] pos) σ H Q :=
  jm_callE F hr (ha S.1.all H (Ex.refl H) _ fun ws H2 x2 pv => callM (S.ex x2).1 pv hn hp (fun v s μ1' H' r S' hv => kk v s μ1' H' r (Sx.push ⟨S', S.2⟩ hv)) fun _ _ h => h.elim) hg hdb he hpl
theorem tA_nil {Q : List V → Hp → Prop} (h : Q [] H) : tA X [] σ H Q := leA pa_nil h
theorem tA_cons {Q : List V → Hp → Prop} (h : tW X e σ H fun v H1 => tA X es σ H1 fun vs H2 => Q (v :: vs) H2) (hs : starEach (e :: es) X.env = (false, eval e X.env) :: starEach es X.env := by rfl) : tA X (e :: es) σ H Q := leA (pa_cons pe_W pa_A hs) h
/-- a new list, a new tuple of what was made -/
theorem tW_lst {Q : VK} {n : Nat} (h : tA X es σ H fun ws H1 => ws.length ≤ 100000 ∧ ∀ a, H1 a = none → Q (.ref a) (upd H1 a (.lst ws))) : tW X (.List es pos) σ H Q :=
  leW (pe_lst pa_A) (tA_mono h fun ws H1 ⟨hz, q⟩ => ⟨sz_of hz, q⟩)
theorem tW_tup {Q : VK} {n : Nat} (h : tA X es σ H fun ws H1 => ws.length ≤ 100000 ∧ ∀ a, H1 a = none → Q (.ref a) (upd H1 a (.tup ws))) : tW X (.Tuple es n pos) σ H Q :=
  leW (pe_tup pa_A) (tA_mono h fun ws H1 ⟨hz, q⟩ => ⟨sz_of hz, q⟩)
/-- .. as one's own list -/
theorem Sx.lst {a : Addr} {us : List Sv} {ws : List V} (S : Sx X.K B M0 ρ μ σ (ts ++ us) (vs ++ ws) H) (hl : ts.length = vs.length) (hn : H a = none) : Sx X.K B M0 ρ ((a, .lst us) :: μ) σ ts vs (upd H a (.lst ws)) := by
  have hv := S.vals
  have key : ∀ {ts us : List Sv} {vs ws : List V} {F : Sv → V → Prop}, ts.length = vs.length → Paired F (ts ++ us) (vs ++ ws) → Paired F us ws := by
    intro ts
    induction ts with
    | nil => intro us vs ws F h p; cases vs with
      | nil => exact p
      | cons _ _ => simp at h
    | cons t ts ih => intro us vs ws F h p; cases vs with
      | nil => simp at h
      | cons v vs => cases p with | cons _ q => exact ih (by simpa using h) q
  have hp := key hl hv
  have S2 := S.newN (a := a) (.lst us) (Ex.new hn) hn ⟨ws, upd_same, by
    have e : hid (a :: adr M0 μ) (upd H a (.lst ws)) = hid (adr M0 μ) H := hid_new hn
    rw [e]; exact hp⟩
  refine ⟨S2.1.reslot (by have := S.2; simp; omega) fun i s h => ?_, S.2⟩
  have hi := (List.getElem?_eq_some_iff.mp h).1
  obtain ⟨v, h1, h2⟩ := S2.1.sl i s (by rw [List.map_append, ← List.append_assoc, List.getElem?_append_left hi]; exact h)
  rw [List.map_append, ← List.append_assoc, List.getElem?_append_left (by have := S.2; simp at hi ⊢; omega)] at h1
  exact ⟨v, h1, h2⟩
/-- list(t) as a new list -/
theorem jn_lstOf {M : List Addr} {a : Expr} (hm : X.mg "list" = none) (ha : Jd X M a σ H d) (h : d = .list ds ∨ d = .tuple ds) (hg : Gl X "list" := by rfl) (hs : starEach [a] X.env = (false, eval a X.env) :: starEach [] X.env := by rfl) : Jn X M (.Call (.Name "list" p) [a] [] pos) σ H ds := fun al H1 x Q q =>
  leW (pe_callTy call_list_of hg hm (by decide +kernel) (pa_cons pe_W pa_nil hs) (by decide) (by decide) hs) (ha al H1 x _ fun v H2 y r => by
    have h1n : ∀ l, H2 l = none → H1 l = none := fun l hl => by
      cases z : H1 l with
      | none => rfl
      | some o => rw [y _ _ z] at hl; cases hl
    rcases h with rfl | rfl
    · obtain ⟨t, xs, e1, e2, e3⟩ := dLst r
      exact ⟨t, xs, by rw [e1], .inl (ex_l hid_le e2), fun l hl => q l xs _ (y.trans (Ex.new hl)) (h1n l hl) upd_same (by rw [hid_new hl]; exact e3)⟩
    · obtain ⟨t, xs, e1, e2, e3⟩ := dTup r
      exact ⟨t, xs, by rw [e1], .inr (ex_t hid_le e2), fun l hl => q l xs _ (y.trans (Ex.new hl)) (h1n l hl) upd_same (by rw [hid_new hl]; exact e3)⟩)
end
/-! ### xs[i], xs[j] = xs[j], xs[i] -/
section
variable {X : Cx} {B H : Hp} {M0 : List Addr} {ρ : Ro} {μ : Mu} {σ : L2.St} {o b1 b2 : Expr} {pos p1 p2 p3 p4 pt pt2 : Pos} {rest : List Stmt} {D' : Ends} {xs : List Sv} {m i j : Nat} {a : Addr} {zi zj : Int} {s1 s2 : Sv} {kt k2 : Nat} {o1 o2 o3 o4 c1 c2 c3 c4 : Expr}
theorem setL_of (S : Sy X.K B M0 ρ μ σ H) {v : V} {s : Sv} (hi : μ[m]? = some (a, .lst xs)) (hv : s.holds X.K (hid (adr M0 μ) H) v) (hlt : i < xs.length) {Q : Hp → Prop} (k : ∀ H', Sy X.K B M0 ρ (μ.set m (a, .lst (xs.set i s))) σ H' → Q H') : rSetL (.ref a) (.int (i : Int)) v H Q := by
  obtain ⟨vs, h1, h2⟩ := S.own hi
  have hl := paired_len h2
  refine ⟨a, vs, (i : Int), i, rfl, rfl, h1, ?_, k _ (S.upd _ hi ⟨_, upd_same, paired_set hv h2⟩)⟩
  unfold ixN
  rw [if_pos (Int.natCast_nonneg i), if_pos (by omega)]
  rfl
theorem sy_swap (S : Sy X.K B M0 ρ μ σ H) (hc : X.calm = true) (hi : μ[m]? = some (a, .lst xs)) (ho : ∀ H', Jv X o1 σ H' (.ref a)) (ho2 : ∀ H', Jv X o2 σ H' (.ref a)) (ho3 : ∀ H', Jv X o3 σ H' (.ref a)) (ho4 : ∀ H', Jv X o4 σ H' (.ref a)) (hc1 : ∀ H', Jv X c1 σ H' (.int (i : Int))) (hc2 : ∀ H', Jv X c2 σ H' (.int (j : Int))) (hc3 : ∀ H', Jv X c3 σ H' (.int (j : Int))) (hc4 : ∀ H', Jv X c4 σ H' (.int (i : Int)))
    (h1 : xs[i]? = some s1) (h2 : xs[j]? = some s2) (k : ∀ H', Sy X.K B M0 ρ (μ.set m (a, .lst ((xs.set i s2).set j s1))) σ H' → tB X rest D' σ H') (hx3 : PlainIx c3 := by exact fun _ _ => rfl) (hx4 : PlainIx c4 := by exact fun _ _ => rfl)
    (ha : ∀ v, assign (.Subscript o1 c1 p1) X.env v = (do
      let ov ← holding [v] (eval o1 X.env)
      let iv ← holding [v, ov] (eval c1 X.env)
      standAt p1
      holding [v, ov, iv] (setItem ov iv v)
      release [v, ov, iv] []) := by intro _; rfl)
    (hb : ∀ v, assign (.Subscript o2 c2 p2) X.env v = (do
      let ov ← holding [v] (eval o2 X.env)
      let iv ← holding [v, ov] (eval c2 X.env)
      standAt p2
      holding [v, ov, iv] (setItem ov iv v)
      release [v, ov, iv] []) := by intro _; rfl)
    (hs : swapsWithSole [.Tuple [.Subscript o1 c1 p1, .Subscript o2 c2 p2] kt pt] (.Tuple [.Subscript o3 c3 p3, .Subscript o4 c4 p4] k2 pt2) pos.line X.env = pure false := by rfl) (hw : swappedStores [.Tuple [.Subscript o1 c1 p1, .Subscript o2 c2 p2] kt pt] (.Tuple [.Subscript o3 c3 p3, .Subscript o4 c4 p4] k2 pt2) X.env = pure none := by rfl)
    (hh1 : (assignEach [.Tuple [.Subscript o1 c1 p1, .Subscript o2 c2 p2] kt pt] X.env).map (·.2) = [assign (.Tuple [.Subscript o1 c1 p1, .Subscript o2 c2 p2] kt pt) X.env] := by rfl)
    (hgs : (assignEach [.Subscript o1 c1 p1, .Subscript o2 c2 p2] X.env).map (·.2) = assign (.Subscript o1 c1 p1) X.env :: (assignEach [.Subscript o2 c2 p2] X.env).map (·.2) := by rfl) (hgs2 : (assignEach [.Subscript o2 c2 p2] X.env).map (·.2) = assign (.Subscript o2 c2 p2) X.env :: (assignEach [] X.env).map (·.2) := by rfl)
    (hst : (assignEach [.Subscript o1 c1 p1, .Subscript o2 c2 p2] X.env).findIdx? (·.1) = none := by rfl) (hne : (assignEach [.Subscript o1 c1 p1, .Subscript o2 c2 p2] X.env).length = 2 := by rfl)
    (hs1 : starEach [.Subscript o3 c3 p3, .Subscript o4 c4 p4] X.env = (false, eval (.Subscript o3 c3 p3) X.env) :: starEach [.Subscript o4 c4 p4] X.env := by rfl) (hs2 : starEach [.Subscript o4 c4 p4] X.env = (false, eval (.Subscript o4 c4 p4) X.env) :: starEach [] X.env := by rfl) :
    tB X (.Assign [.Tuple [.Subscript o1 c1 p1, .Subscript o2 c2 p2] kt pt] (.Tuple [.Subscript o3 c3 p3, .Subscript o4 c4 p4] k2 pt2) pos :: rest) D' σ H := by
  have hlen1 : i < xs.length := (List.getElem?_eq_some_iff.mp h1).1
  have hlen2 : j < xs.length := (List.getElem?_eq_some_iff.mp h2).1
  refine tB_cons (ps_asg (pe_tup (pa_cons (pe_ix ix_list pe_W pe_W hx3) (pa_cons (pe_ix ix_list pe_W pe_W hx4) pa_nil hs2) hs1)) (pg_tup hc (pgs_cons (pg_sub pe_W pe_W set_list ha) (pgs_cons (pg_sub pe_W pe_W set_list hb) pgs_nil hgs2) hgs) rfl hst) hs hw hh1) ?_
  refine (S.evV (ho3 H)) fun H1 S1 x1 => S1.evV (hc3 H1) fun H2 S2 x2 => ?_
  obtain ⟨vs2, g1, g2⟩ := S2.own hi
  obtain ⟨v2, g3, g4⟩ := paired_get g2 h2
  refine ⟨a, vs2, (j : Int), v2, rfl, rfl, .inl (.inl g1), atI_nat g3, ?_⟩
  refine (S2.evV (ho4 H2)) fun H3 S3 x3 => S3.evV (hc4 H3) fun H4 S4 x4 => ?_
  obtain ⟨vs4, f1, f2⟩ := S4.own hi
  obtain ⟨v1, f3, f4⟩ := paired_get f2 h1
  refine ⟨a, vs4, (i : Int), v1, rfl, rfl, .inl (.inl f1), atI_nat f3, ?_⟩
  refine ⟨sz_of (by simp), fun q hq => ?_⟩
  have e24 := x3.trans x4
  have S5 := (S4.sx.push f4).push (Sv.holds.ex g4 (hid_ex e24))
  have S6 := S5.ex (Ex.new (o := .tup [v2, v1]) hq)
  refine ⟨q, [v2, v1], rfl, SqT.of upd_same, by rw [hne]; rfl, ?_⟩
  refine ⟨v2, [v1], rfl, ?_⟩
  refine S6.base.evV (ho _) fun H7 S7 x7 => S7.evV (hc1 _) fun H8 S8 x8 => ?_
  have S8x := (S6.ex x7).ex x8
  have p2 : s2.holds X.K (hid (adr M0 μ) H8) v2 := by
    have := S8x.vals
    cases this with | cons _ t => cases t with | cons y _ => exact y
  have p1' : s1.holds X.K (hid (adr M0 μ) H8) v1 := by
    have := S8x.vals
    cases this with | cons y _ => exact y
  -- the first store; the other value is carried
  obtain ⟨vs8, u1, u2⟩ := S8.own hi
  have hl8 := paired_len u2
  have So := S8x.1.upd (o := .lst (vs8.set i v2)) (.lst (xs.set i s2)) hi ⟨_, upd_same, paired_set p2 u2⟩
  have Sx9 : Sx X.K B M0 ρ (μ.set m (a, .lst (xs.set i s2))) σ [s1, s2] [v1, v2] (upd H8 a (.lst (vs8.set i v2))) := ⟨So, S8x.2⟩
  refine ⟨a, vs8, (i : Int), i, rfl, rfl, u1, ?_, ?_⟩
  · unfold ixN
    rw [if_pos (Int.natCast_nonneg i), if_pos (by omega)]
    rfl
  refine ⟨v1, [], rfl, ?_⟩
  refine Sx9.base.evV (ho2 _) fun H10 S10 x10 => S10.evV (hc2 _) fun H11 S11 x11 => ?_
  have S11x := (Sx9.ex x10).ex x11
  have p1'' : s1.holds X.K (hid (adr M0 (μ.set m (a, .lst (xs.set i s2)))) H11) v1 := by
    have := S11x.vals
    cases this with | cons y _ => exact y
  have hm : m < μ.length := (List.getElem?_eq_some_iff.mp hi).1
  refine setL_of (xs := xs.set i s2) S11 (by rw [List.getElem?_set_self hm]) p1'' (by rw [List.length_set]; exact hlen2) fun H12 S12 => ⟨rfl, ?_⟩
  rw [List.set_set] at S12
  exact k H12 S12
end
end J

set_option maxHeartbeats 4000000
/-! J24: x, y = a, b where a name is kept in a cell. -/
namespace J
open PySem PySem.Spec PyProof.Rows L2 Evl RZ
section
variable {X : Cx} {B H : Hp} {M0 : List Addr} {ρ : Ro} {μ : Mu} {σ : L2.St} {a b : Expr} {pos : Pos} {rest : List Stmt} {D' : Ends}
theorem sy_tup2 (i j : Nat) {x y : Str} {px py pt : Pos} {kt k2 pt2} (h : tA X [a, b] σ H fun vs H' => ∃ v v2, vs = [v, v2] ∧ ∀ q, H' q = none → tB X rest D' ((σ.set i (some v)).set j (some v2)) (upd H' q (.tup [v, v2])))
    (hc : X.calm = true) (hN : X.N.Nodup) (hi : X.N[i]? = some x := by rfl) (hj : X.N[j]? = some y := by rfl)
    (hx : Loc X.env.scope x := by first | exact Or.inl rfl | exact Or.inr rfl) (hy : Loc X.env.scope y := by first | exact Or.inl rfl | exact Or.inr rfl)
    (hfx : X.fn x = true ∨ X.env.scope.names.lookup x = some .local := by first | exact .inl rfl | exact .inr rfl) (hfy : X.fn y = true ∨ X.env.scope.names.lookup y = some .local := by first | exact .inl rfl | exact .inr rfl)
    (hs : swapsWithSole [.Tuple [.Name x px, .Name y py] kt pt] (.Tuple [a, b] k2 pt2) pos.line X.env = pure false := by rfl) (hw : swappedStores [.Tuple [.Name x px, .Name y py] kt pt] (.Tuple [a, b] k2 pt2) X.env = pure none := by rfl)
    (hh1 : (assignEach [.Tuple [.Name x px, .Name y py] kt pt] X.env).map (·.2) = [assign (.Tuple [.Name x px, .Name y py] kt pt) X.env] := by rfl)
    (hgs : (assignEach [.Name x px, .Name y py] X.env).map (·.2) = assign (.Name x px) X.env :: (assignEach [.Name y py] X.env).map (·.2) := by rfl) (hgs2 : (assignEach [.Name y py] X.env).map (·.2) = assign (.Name y py) X.env :: (assignEach [] X.env).map (·.2) := by rfl)
    (hst : (assignEach [.Name x px, .Name y py] X.env).findIdx? (·.1) = none := by rfl) (hne : (assignEach [.Name x px, .Name y py] X.env).length = 2 := by rfl) :
    tB X (.Assign [.Tuple [.Name x px, .Name y py] kt pt] (.Tuple [a, b] k2 pt2) pos :: rest) D' σ H := by
  refine tB_cons (ps_asg (pe_tup pa_A) (pg_tup hc (pgs_cons (pg_name hN hi hx hfx) (pgs_cons (pg_name hN hj hy hfy) pgs_nil hgs2) hgs) rfl hst) hs hw hh1) (tA_mono h ?_)
  rintro ws H1 ⟨v, v2, rfl, k⟩
  exact ⟨sz_of (by simp), fun q hq => ⟨q, [v, v2], rfl, SqT.of upd_same, by rw [hne]; rfl, v, [v2], rfl, v2, [], rfl, rfl, k q hq⟩⟩
end
end J

set_option maxHeartbeats 4000000
/-! J25: more of values on the way; caught lambdas that change objects; two keywords. -/
namespace J
open PySem PySem.Spec PyProof.Rows L2 Evl RZ LamX
section
variable {K : PySem.W.Frag} {B H H' : Hp} {M0 : List Addr} {ρ : Ro} {μ μ' : Mu} {σ : L2.St} {ts us : List Sv} {vs ws : List V} {s : Sv} {v w : V} {ds es : List D} {d : D}
theorem Sx.take (S : Sx K B M0 ρ μ σ (ts ++ us) (vs ++ ws) H) (hl : ts.length = vs.length) : Sx K B M0 ρ μ σ ts vs H := by
  refine ⟨S.1.reslot (by have := S.2; simp; omega) fun i s h => ?_, S.2⟩
  have hi := (List.getElem?_eq_some_iff.mp h).1
  obtain ⟨v, h1, h2⟩ := S.1.sl i s (by rw [List.map_append, ← List.append_assoc, List.getElem?_append_left hi]; exact h)
  rw [List.map_append, ← List.append_assoc, List.getElem?_append_left (by have := S.2; simp at hi ⊢; omega)] at h1
  exact ⟨v, h1, h2⟩
theorem paired_right {F : Sv → V → Prop} : ∀ {ts us : List Sv} {vs ws : List V}, ts.length = vs.length → Paired F (ts ++ us) (vs ++ ws) → Paired F us ws
  | [], _, [], _, _, p => p
  | [], _, _ :: _, _, h, _ => by simp at h
  | _ :: _, _, [], _, h, _ => by simp at h
  | _ :: ts, us, _ :: vs, ws, h, p => by cases p with | cons _ q => exact paired_right (by simpa using h) q
theorem Sx.right (S : Sx K B M0 ρ μ σ (ts ++ us) (vs ++ ws) H) (hl : ts.length = vs.length) : Paired (fun s v => Sv.holds K (hid (adr M0 μ) H) s v) us ws := paired_right hl S.vals
/-- a computation of any kind lies between -/
theorem Sx.across (S : Sx K B M0 ρ μ σ ts vs H) : Sy K (J.grd μ H) M0 ρ μ σ H ∧ ∀ {ρ' : Ro} {σ' : L2.St} {μ' : Mu} {H' : Hp}, Sy K (J.grd μ H) M0 ρ' μ' σ' H' → Sx K B M0 ρ' μ' σ' ts vs H' := by
  refine ⟨S.base.grd, fun {ρ' σ' μ' H'} S' => ?_⟩
  have low : Ex (hid (adr M0 μ) H) (hid (adr M0 μ') H') := by
    have := S'.low
    rw [grd_low] at this
    exact this
  have hv := S.vals
  have Sb := S'.base S.base.grdB
  have key : ∀ {ts : List Sv} {vs : List V}, Paired (fun s v => Sv.holds K (hid (adr M0 μ) H) s v) ts vs → ∀ {ts0 : List Sv} {vs0 : List V}, Sx K B M0 ρ' μ' σ' ts0 vs0 H' → Sx K B M0 ρ' μ' σ' (ts0 ++ ts) (vs0 ++ vs) H' := by
    intro ts vs h
    induction h with
    | nil => intro ts0 vs0 S0; simpa using S0
    | cons a t ih =>
      intro ts0 vs0 S0
      have := ih (S0.push (Sv.holds.ex a low))
      simpa using this
  have := key hv Sb.sx
  simpa using this
/-- a new tuple of the last ones -/
theorem Sx.mkTup {a : Addr} (S : Sx K B M0 ρ μ σ (ts ++ us) (vs ++ ws) H) (hl : ts.length = vs.length) (hu : us = ds.map .dat) (hn : H a = none) : Sx K B M0 ρ μ σ (ts ++ [.dat (.tuple ds)]) (vs ++ [.ref a]) (upd H a (.tup ws)) := by
  have hr := S.right hl
  subst hu
  have S1 := (S.take hl).ex (Ex.new (o := .tup ws) hn)
  refine S1.push (.tup (SqT.of (S.1.all.newEx hn)) ((dats_of hr).ex (hid_ex (Ex.new hn))))
/-- t + u of the last two -/
theorem Sx.cat (S : Sx K B M0 ρ μ σ (ts ++ [.dat (.tuple ds), .dat (.tuple es)]) (vs ++ [v, w]) H) (hl : ts.length = vs.length) (hz : ds.length + es.length ≤ 90000) {Q : VK} (k : ∀ u H', Sx K B M0 ρ μ σ (ts ++ [.dat (.tuple (ds ++ es))]) (vs ++ [u]) H' → Q u H') : rCatA K v w H Q := by
  have hr := S.right hl
  cases hr with | cons p hr => cases hr with | cons r _ =>
  have p : Dp K _ v (.tuple ds) := p
  have r : Dp K _ w (.tuple es) := r
  obtain ⟨t, xs, e1, e2, e3⟩ := dTup p
  obtain ⟨u, ys, f1, f2, f3⟩ := dTup r
  refine ⟨t, u, xs, ys, e1, f1, ex_t hid_le e2, ex_t hid_le f2, sz_of (by rw [e3.len, f3.len]; omega), fun h0 => ?_, fun _ h0 => ?_, fun _ _ c hc => ?_⟩
  · subst h0
    cases e3
    exact k _ _ ((S.take hl).push (by rw [← f1]; exact r))
  · subst h0
    cases f3
    refine k _ _ ((S.take hl).push ?_)
    rw [List.append_nil]
    exact .tup e2 e3
  · have up := hid_ex (M := adr M0 μ) (Ex.new (o := .tup (xs ++ ys)) hc)
    exact k _ _ (((S.take hl).ex (Ex.new hc)).push (.tup (SqT.of (S.1.all.newEx hc)) ((e3.ex up).append (f3.ex up))))
end
section
variable {X : Cx} {B H : Hp} {M M0 : List Addr} {ρ : Ro} {μ : Mu} {σ : L2.St} {a b c : Expr} {pos p kp1 kp2 : Pos} {d d' d1 d2 : D} {k1 k2 : Bool}
/-- and of three, as a value -/
theorem jd_and3 (ha : Jd X M a σ H (.bool k1)) (hf : k1 = false → d = .bool false) (hb : k1 = true → Jd X M b σ H (.bool k2)) (hf2 : k1 = true → k2 = false → d = .bool false) (hc : k1 = true → k2 = true → Jd X M c σ H d) : Jd X M (.BoolOp .And [a, b, c] pos) σ H d := fun al H1 x Q q =>
  leW (pe_and pe_W (pe_and pe_W (pe_one pe_W))) (ha al H1 x _ fun v H2 y p => ⟨k1, dBl p, by
    cases k1 with
    | true =>
      rw [if_pos rfl]
      exact hb rfl al H2 (x.trans y) _ fun w H3 z r => ⟨k2, dBl r, by
        cases k2 with
        | true => rw [if_pos rfl]; exact hc rfl rfl al H3 ((x.trans y).trans z) _ fun u H4 z2 => q u H4 ((y.trans z).trans z2)
        | false => rw [if_neg Bool.false_ne_true]; rw [hf2 rfl rfl] at q; exact q _ H3 (y.trans z) (.bl _)⟩
    | false => rw [if_neg Bool.false_ne_true]; rw [hf rfl] at q; exact q _ H2 y (.bl _)⟩)
end
section
variable {X : Cx}
/-- .. the lambda's body may change objects: what comes of them is told with the class -/
theorem jm_caughtM {k : Nat} {x a e n f : Str} {CS g c P : Addr} {st : Stmt} {fd : FuncData} {params : Arguments} {body : Expr} {scope : Scope} {p lpos pos : Pos} {j : Nat} {p0 p1 p2 p3 p4 p5 p6 p7 p8 p9 p10 p11 p12 p13 : Pos} {ρ : Ro} {μ : Mu} {σ : L2.St} {H : Hp} {Q : VK}
    (S : Sy X.K (fun _ => none) [] ρ ((P, .tab (X.env.qual ++ "<lambda>")) :: μ) σ H) (hmu : ∀ p ∈ μ, noTab p.2)
    (F : FunD X.K x x (defArgs st) [.Assign [.Name f p0] (.Constant .none j p1) p2, .Try [.Expr (.Call (.Name a p3) [] [] p4) p5] [.ExceptHandler (some (.Name e p6)) (some n) [.Assign [.Name f p7] (.Name n p8) p9] p10] [] [] p11, .Return (some (.Name f p12)) p13] (defScope st) [] [] g fd) (hm : X.mg x = some (.ref g))
    (hbi : ∀ (kV doc pm : Value) (an : Option Addr) (cdv ct : Value) (us : List Value), us.length = [a].length → bindArgs (PySem.W.fnOf x x (defArgs st) [.Assign [.Name f p0] (.Constant .none j p1) p2, .Try [.Expr (.Call (.Name a p3) [] [] p4) p5] [.ExceptHandler (some (.Name e p6)) (some n) [.Assign [.Name f p7] (.Name n p8) p9] p10] [] [] p11, .Return (some (.Name f p12)) p13] (defScope st) .none kV doc pm an cdv ct) ⟨us, []⟩ = pure ([a].zip us))
    (Sg : FnScope [a, f, n] [a] (defScope st)) (hva : Vis (defScope st) a) (hge : (defScope st).names.lookup e = some .globalImplicit) (hme : X.mg e = some (.ref CS)) (hde : (e == ("__debug__" : Str)) = false)
    (hlf : (defScope st).names.lookup f = some .local) (hln : (defScope st).names.lookup n = some .local) (hdf : (f == ("__debug__" : Str)) = false) (hcf : (f == ("__classdict__" : Str)) = false) (hdn : (n == ("__debug__" : Str)) = false) (hcn : (n == ("__classdict__" : Str)) = false)
    (TB : TabB X.base X.mg c P) (hcode : X.env.code = .ref c) (hr : Room (k + 2) X.A) (L : LamS X.env.scope scope)
    (Pc : Value → Mu → Prop) (hbody : ∀ (A : Around) (outer : List Env) (s : Shared) (H0 : Hp) (f' c' : Addr) (H1 : Hp) (E : XK), Room k (A.deeper (lamEnv X scope s.heap.objs.size f' c')) → Sy X.K (fun _ => none) [] ρ ((P, .tab (X.env.qual ++ "<lambda>")) :: μ) σ H1 →
      (∀ cls H' μ', Pc cls μ' → PySem.W.exmOne X.K cls (.ref CS) = some true → Sy X.K (fun _ => none) [] ρ ((P, .tab (X.env.qual ++ "<lambda>")) :: μ') σ H' → E cls none H') → tW (lamCx X A outer s H0 E scope f' c') body σ H1 (fun _ H' => Q .non H'))
    (hQ : ∀ cls v H' μ', Pc cls μ' → PySem.W.exmOne X.K cls (.ref CS) = some true → Sy X.K (fun _ => none) [] ρ ((P, .tab (X.env.qual ++ "<lambda>")) :: μ') σ H' → (Sv.exc cls).holds X.K (hid (adr [] ((P, .tab (X.env.qual ++ "<lambda>")) :: μ')) H') v → Q v H')
    (hg : Gl X x := by rfl) (hdef : defaultsOf params X.env = ([], []) := by rfl) (hbind : ∀ (q : Str) (cl : List (Str × Addr)) (pm cv ctv : Value), bindArgs (PySem.W.kla_fn "<lambda>" q params body scope cl pm cv ctv) ⟨[], []⟩ = pure [] := by intros; rfl)
    (hdb : (x == ("__debug__" : Str)) = false := by decide) (hd : (a == ("__debug__" : Str)) = false := by decide) (hcd : (a == ("__classdict__" : Str)) = false := by decide) : tW X (.Call (.Name x p) [.Lambda params body scope lpos] [] pos) σ H Q := by
  have hb := F.bindsN (ps := [a]) hbi
  obtain ⟨oc, od, dV, kV, doc, pm, an, cdv, ct, osl, efd, lk, hcg, _, _⟩ := F.ex
  subst efd
  refine leW (pe_lamcall (T := [(P, X.env.qual ++ "<lambda>")]) (TT := TCaught X.K CS) (t := tLm X scope body k) hg hm F.kp lk hcg hb Sg rfl hva
    (caught_gives Sg.nd hge hme hde hlf hln hdf hcf hdn hcn) TB hcode List.mem_cons_self (fun p hp _ => by rw [List.mem_singleton.mp hp]) hr L hdef hbind (fun A outer s H0 E f' c' hr' => ⟨fun pins s' σ' H' Q' I h => h A outer s H0 f' c' hr' pins s' I⟩) hdb hd hcd) ⟨S.tabs, fun H1 eN T1 => ?_⟩
  have S1 := S.tabbed hmu eN T1
  intro A outer s H0 f' c' hr'
  refine tW_mono (hbody A outer s H0 f' c' H1 _ hr' S1 fun cls H' μ' hc he S' => ?_) fun v H' q => ⟨.non, rfl, q⟩
  refine ⟨true, he, fun _ ad ha => hQ cls (.ref ad) _ μ' hc he (S'.ex (Ex.new ha)) ⟨ad, rfl, ?_⟩, fun z => by cases z⟩
  rw [hid_out (S'.all.out ha)]
  exact upd_same
end
section
variable {X : Cx} {B H : Hp} {M M0 : List Addr} {ρ : Ro} {μ : Mu} {σ : L2.St} {e e1 e2 : Expr} {es : List Expr} {pos p kp1 kp2 : Pos} {d d1 d2 : D} {k n : Nat} {x p1 p2 : Str} {ps : List Str} {R : List D → D → Prop} {Fl : List D → Value → Prop} {f : Addr} {fd : FuncData}
/-- a call that may raise, its arguments made with effects -/
theorem jx_callE {E : XK} {Q : VK} (F : Fd (CX X.prog X.w) X.prog X.w X.K X.mg X.base k x ps (spX X.K n R Fl)) (hr : Room k X.A) (tk : Takes X (fun cls d _ H => E cls d H)) (ha : tA X (e :: es) σ H fun vs H2 => spX X.K n R Fl vs H2 Q E)
    (hg : Gl X x := by rfl) (hdb : (x == ("__debug__" : Str)) = false := by decide) (he : starEach (e :: es) X.env = (false, eval e X.env) :: starEach es X.env := by rfl) (hpl : (backTo pos (starEach es X.env)).any (·.1) = false := by rfl) : tW X (.Call (.Name x p) (e :: es) [] pos) σ H Q := by
  obtain ⟨f, fd, hm, hk, hb, ok⟩ := F.ex
  refine leW (pe_call (E := E) ok hr hg hm hk hb .nil (passes_call tk fun _ _ _ _ h => h) pa_A hdb he hpl) (tA_mono ha fun vs H2 h => ?_)
  show spX X.K n R Fl (vs ++ []) H2 Q E
  rw [List.append_nil]
  exact h
theorem paired_rev {α β : Type} {F : α → β → Prop} : ∀ {xs : List α} {vs : List β}, Paired F xs vs → Paired F xs.reverse vs.reverse
  | _, _, .nil => .nil
  | _, _, .cons a t => by rw [List.reverse_cons, List.reverse_cons]; exact paired_app (paired_rev t) (.cons a .nil)
/-- two parameters told by keywords, the second one first -/
theorem kbn_rev {K : PySem.W.Frag} {x q : Str} {params : Arguments} {body : List Stmt} {scope : Scope} {f : Addr} {fd : FuncData} {ps ks : List Str} (F : FunD K x q params body scope [] [] f fd)
    (h : ∀ (kV doc pm : Value) (an : Option Addr) (cdv ct : Value) (ws : List Value), ws.length = ks.length → bindArgs (PySem.W.fnOf x q params body scope .none kV doc pm an cdv ct) ⟨[], ks.zip ws⟩ = pure (ps.zip ws.reverse)) : KBn K fd ps 0 ks (fun us ws => us ++ ws.reverse) (fun vs zs => vs ++ zs.reverse) := by
  obtain ⟨oc, od, dV, kV, doc, pm, an, cdv, ct, osl, rfl, lk, hcd, hD, hK⟩ := F.ex
  rcases hD with ⟨_, rfl⟩ | ⟨e, _⟩
  · exact ⟨fun s us ws X l1 l2 => BindsTo.of_looks fun M => PySem.W.Looks.of_pure (by
      have e : us = [] := List.length_eq_zero_iff.mp l1
      subst e
      exact h kV doc pm an cdv ct ws l2), fun r1 r2 => paired_app r1 (paired_rev r2)⟩
  · exact absurd rfl e
theorem jd_callXK2 (ok : FnOk X.prog X.w X.K X.mg X.base (CX X.prog X.w) k f fd [p1, p2] (spX X.K 2 R Fl)) (hm : X.mg x = some (.ref f)) (hk : PySem.W.keepIn X.K (.ref f) = true) (hb : KBn X.K fd [p1, p2] 0 [p2, p1] (fun us ws => us ++ ws.reverse) (fun vs zs => vs ++ zs.reverse)) (hr : Room k X.A)
    (ha : Jd X M e2 σ H d2) (ha1 : Jd X M e1 σ H d1) (hR : R [d1, d2] d) (hg : Gl X x := by rfl) (hdb : (x == ("__debug__" : Str)) = false := by decide)
    (hall : (backToKw pos (keywordEach [⟨some p2, e2, kp2⟩, ⟨some p1, e1, kp1⟩] X.env)).all (·.1.isSome) = true := by rfl) (hks : (backToKw pos (keywordEach [⟨some p2, e2, kp2⟩, ⟨some p1, e1, kp1⟩] X.env)).filterMap (·.1) = [p2, p1] := by rfl)
    (hpl : ((backTo pos (starEach [] X.env)).any (·.1) || (backToKw pos (keywordEach [⟨some p2, e2, kp2⟩, ⟨some p1, e1, kp1⟩] X.env)).any (·.1.isNone)) = false := by rfl) : Jd X M (.Call (.Name x p) [] [⟨some p2, e2, kp2⟩, ⟨some p1, e1, kp1⟩] pos) σ H d := fun al H1 y Q q =>
  leW (pe_callK0 (E := E0) ok hr hg hm hk hb passE0 (pk_cons pe_W (pk_cons pe_W pk_nil)) hall hks hdb hpl) (ha al H1 y _ fun v H2 z r => ha1 al H2 (y.trans z) _ fun v1 H3 z1 r1 => ⟨rfl, M, [d1, d2], rfl, ((al.ex y).ex z).ex z1, .cons r1 (.cons (r.ex (hid_ex z1)) .nil), .inl ⟨d, hR, fun v H4 u t => q v H4 ((z.trans z1).trans u) t⟩⟩)
end
end J

set_option maxHeartbeats 4000000
/-! J26: ratios as rational numbers. -/
namespace J
open PySem PySem.Spec PyProof.Rows L2 Evl RZ
/-- a ratio -/
abbrev dR (r : Rat) : D := .tuple [.int r.num, .int (r.den : Int)]
/-- of at most so many bits -/
def Bz (b : Nat) (r : Rat) : Prop := r.num.natAbs < 2 ^ b ∧ r.den < 2 ^ b
theorem Bz.mono {b c : Nat} {r : Rat} (h : Bz b r) (k : b ≤ c) : Bz c r := ⟨Nat.lt_of_lt_of_le h.1 (Nat.pow_le_pow_right (by decide) k), Nat.lt_of_lt_of_le h.2 (Nat.pow_le_pow_right (by decide) k)⟩
theorem bz_mkRat {n : Int} {d b : Nat} (h0 : 0 < b) (h1 : n.natAbs < 2 ^ b) (h2 : d < 2 ^ b) : Bz b (mkRat n d) := by
  unfold Bz
  rw [Rat.num_mkRat, Rat.den_mkRat]
  have h1b : 1 < 2 ^ b := Nat.one_lt_two_pow (by omega)
  by_cases hd : d = 0
  · rw [if_pos hd, if_pos hd]
    exact ⟨by simp; omega, h1b⟩
  · rw [if_neg hd, if_neg hd]
    exact ⟨Nat.lt_of_le_of_lt (Int.natAbs_ediv_le_natAbs _ _) h1, Nat.lt_of_le_of_lt (Nat.div_le_self _ _) h2⟩
theorem bz_add {a b : Rat} {m n : Nat} (ha : Bz m a) (hb : Bz n b) : Bz (m + n + 1) (a + b) := by
  rw [Rat.add_def']
  have x1 : (a.num * b.den).natAbs < 2 ^ (m + n) := wide_lt ha.1 (by rw [Int.natAbs_natCast]; exact hb.2)
  have x2 : (b.num * a.den).natAbs < 2 ^ (m + n) := by rw [Int.mul_comm]; exact wide_lt (by rw [Int.natAbs_natCast]; exact ha.2) hb.1
  have x3 : a.den * b.den < 2 ^ (m + n) := by rw [Nat.pow_add]; exact Nat.mul_lt_mul'' ha.2 hb.2
  have e : 2 ^ (m + n + 1) = 2 ^ (m + n) + 2 ^ (m + n) := by rw [Nat.pow_succ]; omega
  exact bz_mkRat (by omega) (by omega) (by omega)
theorem bz_neg {a : Rat} {m : Nat} (ha : Bz m a) : Bz m (-a) := by
  unfold Bz
  rw [Rat.neg_num, Rat.neg_den, Int.natAbs_neg]
  exact ha
theorem bz_sub {a b : Rat} {m n : Nat} (ha : Bz m a) (hb : Bz n b) : Bz (m + n + 1) (a - b) := by
  rw [Rat.sub_eq_add_neg]
  exact bz_add ha (bz_neg hb)
theorem bz_mul {a b : Rat} {m n : Nat} (ha : Bz m a) (hb : Bz n b) : Bz (m + n + 1) (a * b) := by
  rw [Rat.mul_def']
  have x1 : (a.num * b.num).natAbs < 2 ^ (m + n) := wide_lt ha.1 hb.1
  have x3 : a.den * b.den < 2 ^ (m + n) := by rw [Nat.pow_add]; exact Nat.mul_lt_mul'' ha.2 hb.2
  have e : 2 ^ (m + n + 1) = 2 ^ (m + n) + 2 ^ (m + n) := by rw [Nat.pow_succ]; omega
  exact bz_mkRat (by omega) (by omega) (by omega)
theorem bz_inv {b : Rat} {n : Nat} (hb : Bz n b) (h0 : 0 < n) : Bz n b⁻¹ := by
  unfold Bz
  rw [Rat.num_inv, Rat.den_inv]
  have h1b : 1 < 2 ^ n := Nat.one_lt_two_pow (by omega)
  refine ⟨?_, ?_⟩
  · rw [Int.natAbs_mul, Int.natAbs_natCast]
    have hs : b.num.sign.natAbs ≤ 1 := by
      rcases Int.lt_trichotomy b.num 0 with h | h | h
      · rw [Int.sign_eq_neg_one_of_neg h]; decide
      · rw [h]; decide
      · rw [Int.sign_eq_one_of_pos h]; decide
    exact Nat.lt_of_le_of_lt (Nat.le_trans (Nat.mul_le_mul_right _ hs) (by omega)) hb.2
  · split
    · exact h1b
    · exact hb.1
theorem bz_div {a b : Rat} {m n : Nat} (ha : Bz m a) (hb : Bz n b) (h0 : 0 < n) : Bz (m + n + 1) (a / b) := by
  rw [Rat.div_def]
  exact bz_mul ha (bz_inv hb h0)
theorem bz_int {x : Int} {b : Nat} (h0 : 0 < b) (h : x.natAbs < 2 ^ b) : Bz b (x : Rat) := ⟨by rw [Rat.num_intCast]; exact h, by rw [Rat.den_intCast]; exact Nat.one_lt_two_pow (by omega)⟩
theorem bz_of {n d : Int} {b : Nat} (h : 0 < d) (h0 : 0 < b) (h1 : n.natAbs < 2 ^ b) (h2 : d.natAbs < 2 ^ b) : Bz b (Rat.divInt n d) := by
  have e : d = ((d.natAbs : Nat) : Int) := by omega
  rw [e, Rat.divInt_ofNat]
  exact bz_mkRat h0 h1 h2
/-- lowest terms -/
theorem low_div {n d : Int} (h : 0 < d) : PyData.tuple [.int (n / ((Nat.gcd n.natAbs d.natAbs : Nat) : Int)), .int (d / ((Nat.gcd n.natAbs d.natAbs : Nat) : Int))] = dR (Rat.divInt n d) := by
  unfold dR
  have e : d = ((d.natAbs : Nat) : Int) := by omega
  have hd : d.natAbs ≠ 0 := by omega
  have e2 : Rat.divInt n d = mkRat n d.natAbs := by
    have := Rat.divInt_ofNat n d.natAbs
    rw [← e] at this
    exact this
  rw [e2, Rat.num_mkRat, Rat.den_mkRat, if_neg hd, if_neg hd, Nat.gcd_comm d.natAbs]
  congr 3
  rw [Int.natCast_ediv, ← e]
theorem divInt_add {a b : Rat} : Rat.divInt (a.num * b.den + b.num * a.den) (a.den * b.den) = a + b := by
  have h1 : (a.den : Int) ≠ 0 := by have := a.den_nz; omega
  have h2 : (b.den : Int) ≠ 0 := by have := b.den_nz; omega
  rw [← Rat.divInt_add_divInt _ _ h1 h2, Rat.num_divInt_den, Rat.num_divInt_den]
theorem divInt_sub {a b : Rat} : Rat.divInt (a.num * b.den - b.num * a.den) (a.den * b.den) = a - b := by
  have h1 : (a.den : Int) ≠ 0 := by have := a.den_nz; omega
  have h2 : (b.den : Int) ≠ 0 := by have := b.den_nz; omega
  rw [← Rat.divInt_sub_divInt _ _ h1 h2, Rat.num_divInt_den, Rat.num_divInt_den]
theorem divInt_mul {a b : Rat} : Rat.divInt (a.num * b.num) (a.den * b.den) = a * b := by
  rw [← Rat.divInt_mul_divInt, Rat.num_divInt_den, Rat.num_divInt_den]
theorem divInt_div {a b : Rat} : Rat.divInt (a.num * b.den) (a.den * b.num) = a / b := by
  rw [← Rat.divInt_mul_divInt, Rat.num_divInt_den, ← Rat.inv_def, Rat.div_def]
theorem den_pos (r : Rat) : (0 : Int) < r.den := by have := r.den_nz; omega
theorem num_pos {r : Rat} : 0 < r.num ↔ 0 < r := by
  have h1 := @Rat.num_nonneg r
  have h2 := @Rat.num_eq_zero r
  constructor
  · intro h
    exact Rat.lt_of_le_of_ne (h1.mp (by omega)) fun e => by rw [← e] at h; exact absurd h (by decide)
  · intro h
    have a := h1.mpr (Rat.le_of_lt h)
    have b : r.num ≠ 0 := fun e => Rat.ne_of_lt h (h2.mp e).symm
    omega
theorem num_nonpos {r : Rat} : r.num ≤ 0 ↔ r ≤ 0 := by
  rw [← Int.not_lt, num_pos, Rat.not_lt]
theorem dec_lt {a b : Rat} : decide (a.num * b.den < b.num * a.den) = decide (a < b) := decide_eq_decide.mpr (Rat.lt_iff a b).symm
theorem dec_pos {r : Rat} : decide (0 < r.num) = decide (0 < r) := decide_eq_decide.mpr num_pos
theorem dec_nonpos {r : Rat} : decide (r.num ≤ 0) = decide (r ≤ 0) := decide_eq_decide.mpr num_nonpos
theorem dec_nonneg {r : Rat} : decide (0 ≤ r.num) = decide (0 ≤ r) := decide_eq_decide.mpr Rat.num_nonneg
theorem dR_inj {a b : Rat} (h : dR a = dR b) : a = b := by
  simp only [PyData.tuple.injEq, List.cons.injEq, PyData.int.injEq, and_true] at h
  exact Rat.ext h.1 (by omega)
theorem eqv_dR (a b : Rat) : PyData.eqv (dR a) (dR b) = decide (a = b) := by
  have e : PyData.eqv (dR a) (dR b) = (decide (a.num = b.num) && decide ((a.den : Int) = b.den)) := by
    simp only [PyData.eqv, PyData.eqvAll, Bool.and_true]
    rfl
  rw [e]
  by_cases h : a = b
  · subst h; simp
  · rw [decide_eq_false h]
    by_cases h1 : a.num = b.num
    · have : ¬ (a.den : Int) = b.den := fun z => h (Rat.ext h1 (by omega))
      rw [decide_eq_false this, Bool.and_false]
    · rw [decide_eq_false h1, Bool.false_and]
theorem lay_dR {r : Rat} : Lay 5 (dR r) := lay_tup.mpr fun x hx => by
  simp only [List.mem_cons, List.not_mem_nil, or_false] at hx
  rcases hx with rfl | rfl <;> exact lay_int
theorem noL_dR (r : Rat) : noL (dR r) = true := rfl
theorem sz_dR (r : Rat) : sz (dR r) = 3 := rfl
/-- what is a ratio -/
def isR : D → Bool
  | .tuple [.int n, .int m] => decide (0 < m) && decide (((Nat.gcd n.natAbs m.natAbs : Nat) : Int) = 1)
  | _ => false
theorem isR_dR (r : Rat) : isR (dR r) = true := by
  show (decide _ && decide _) = true
  have h := r.reduced
  rw [decide_eq_true (den_pos r), decide_eq_true]
  · rfl
  · rw [Int.natAbs_natCast]
    have : Nat.gcd r.num.natAbs r.den = 1 := h
    rw [this]; rfl
theorem isR_of {d : D} (h : isR d = true) : ∃ r : Rat, d = dR r := by
  unfold isR at h
  split at h
  · rename_i n m
    simp only [Bool.and_eq_true, decide_eq_true_eq] at h
    refine ⟨⟨n, m.natAbs, by omega, ?_⟩, ?_⟩
    · show Nat.gcd n.natAbs m.natAbs = 1
      omega
    · unfold dR
      congr 3
      show PyData.int m = PyData.int ((m.natAbs : Nat) : Int)
      congr 1
      omega
  · cases h
def isC (d : D) : Bool := isR d && (match d with
  | .tuple [.int n, .int m] => decide (0 ≤ n) && decide (n ≤ m)
  | _ => false)
theorem le_one {r : Rat} : r.num ≤ r.den ↔ r ≤ 1 := by
  rw [Rat.le_iff]
  simp
theorem isC_dR (r : Rat) : isC (dR r) = (decide (0 ≤ r) && decide (r ≤ 1)) := by
  show (isR (dR r) && (decide _ && decide _)) = _
  rw [isR_dR, Bool.true_and, dec_nonneg]
  congr 1
  exact decide_eq_decide.mpr le_one
theorem isC_of {d : D} (h : isC d = true) : ∃ r : Rat, d = dR r ∧ 0 ≤ r ∧ r ≤ 1 := by
  have h1 : isR d = true := by
    unfold isC at h
    rw [Bool.and_eq_true] at h
    exact h.1
  obtain ⟨r, rfl⟩ := isR_of h1
  rw [isC_dR, Bool.and_eq_true, decide_eq_true_eq, decide_eq_true_eq] at h
  exact ⟨r, rfl, h⟩
/-! ### sums -/
theorem rsum_append : ∀ xs ys : List Rat, (xs ++ ys).sum = xs.sum + ys.sum
  | [], ys => (Rat.zero_add ys.sum).symm
  | x :: xs, ys => by rw [List.cons_append, List.sum_cons, List.sum_cons, rsum_append xs ys, Rat.add_assoc]
theorem rsum_take {l : List Rat} {i : Nat} {x : Rat} (h : l[i]? = some x) : (l.take (i + 1)).sum = (l.take i).sum + x := by
  rw [List.take_add_one, h, rsum_append]
  show _ + (x + 0) = _
  rw [Rat.add_zero]
theorem bz_sum {l : List Rat} {b : Nat} (h : ∀ x ∈ l, Bz b x) : Bz (l.length * (b + 1) + 1) l.sum := by
  induction l with
  | nil =>
    have : 1 < 2 ^ (0 * (b + 1) + 1) := Nat.one_lt_two_pow (by omega)
    exact ⟨Nat.lt_trans (by decide) this, this⟩
  | cons x l ih =>
    rw [List.sum_cons]
    have := bz_add (h x (by simp)) (ih fun y hy => h y (by simp [hy]))
    refine this.mono ?_
    rw [List.length_cons, Nat.add_mul]
    omega
theorem bz_take {l : List Rat} {b i : Nat} (h : ∀ x ∈ l, Bz b x) : Bz (i * (b + 1) + 1) (l.take i).sum := by
  have := bz_sum (l := l.take i) (b := b) fun x hx => h x (List.mem_of_mem_take hx)
  refine this.mono ?_
  have : (l.take i).length ≤ i := List.length_take_le _ _
  have := Nat.mul_le_mul_right (b + 1) this
  omega
end J

set_option maxHeartbeats 4000000
/-! J27: comprehensions of one clause, as maps; a loop over functions; a call of a function that a variable holds. -/
namespace J
open PySem PySem.Spec PyProof.Rows L2 Evl RZ
section
variable {α β : Type}
theorem fmm (f : α → D) (l : List α) : (l.map fun a => some (f a)).filterMap id = l.map f := by
  induction l with
  | nil => rfl
  | cons a t ih => simp
theorem zipD_map (f : α → D) (g : β → D) : ∀ (xs : List α) (ys : List β), zipD (xs.map f) (ys.map g) = (xs.zip ys).map fun p => .tuple [f p.1, g p.2]
  | [], _ => rfl
  | _ :: _, [] => rfl
  | x :: xs, y :: ys => by simp only [List.map_cons, List.zip_cons_cons, zipD, zipD_map f g xs ys]
variable {X : Cx} {B H : Hp} {M0 : List Addr} {ρ : Ro} {μ : Mu} {σ : L2.St} {pos : Pos} {tg iter elt : Expr} {ifs : List Expr} {scope : Scope} {own : List (Str × Nat)} {js : List Nat} {rest body : List Stmt} {D' : Ends}
/-- [elt for tg in iter] -/
theorem sy_lcM (S : Sy X.K B M0 ρ μ σ H) {g : α → D} {xs : List α} (hw : Jw X (adr M0 μ) tg iter σ H (xs.map g)) (h : α → D) (hz : xs.length ≤ 90000) (f : D → Ro → Ro) (hjs : ∀ j ∈ js, j ∈ own.map (·.2))
    (hg : ∀ X' x, Blk X scope X' → x ∈ xs → Jg X' tg js (g x) (wip ρ (own.map (·.2))) (f (g x) (wip ρ (own.map (·.2)))))
    (he : ∀ (i : Nat) (x : α) X' B' M' σ' H', xs[i]? = some x → Blk X scope X' → Sy X'.K B' M' (f (g x) (wip ρ (own.map (·.2)))) μ σ' H' → Jd X' (adr M' μ) elt σ' H' (h x))
    (ok : BlkOk X.N X.env.scope scope own) (hc : X.calm = true) (hN : X.N.Nodup) (hs : ∀ x, foldedSetIterable iter X.env x = pure x := by intro _; rfl) :
    Jn X (adr M0 μ) (.ListComp elt [⟨tg, iter, [], 0⟩] scope pos) σ H (xs.map h) := by
  have z := sy_lcN (ifs := []) (elt := elt) (pos := pos) S hw (xs.map fun x => some (h x)) (by simp) (by simpa using hz) f hjs (fun X' d b hd => ?_) (fun i d o X' B' M' σ' H' h1 h2 b S' => ?_) (fun i d x X' B' M' σ' H' h1 h2 b S' => ?_) ok hc hN hs
  · rw [fmm] at z; exact z
  · obtain ⟨x, hx, rfl⟩ := List.mem_map.mp hd
    exact hg X' x b hx
  · rw [List.getElem?_map] at h1 h2
    obtain ⟨n, hn, rfl⟩ := Option.map_eq_some_iff.mp h1
    rw [hn] at h2
    cases h2
    exact jts_nil
  · rw [List.getElem?_map] at h1 h2
    obtain ⟨n, hn, rfl⟩ := Option.map_eq_some_iff.mp h1
    rw [hn] at h2
    cases h2
    exact he i n X' B' M' σ' H' hn b S'
/-- [elt for tg in iter if c], none of which passes -/
theorem sy_lc0 (S : Sy X.K B M0 ρ μ σ H) {g : α → D} {xs : List α} {c : Expr} (hw : Jw X (adr M0 μ) tg iter σ H (xs.map g)) (hz : xs.length ≤ 90000) (f : D → Ro → Ro) (hjs : ∀ j ∈ js, j ∈ own.map (·.2))
    (hg : ∀ X' x, Blk X scope X' → x ∈ xs → Jg X' tg js (g x) (wip ρ (own.map (·.2))) (f (g x) (wip ρ (own.map (·.2)))))
    (ht : ∀ (i : Nat) (x : α) X' B' M' σ' H', xs[i]? = some x → Blk X scope X' → Sy X'.K B' M' (f (g x) (wip ρ (own.map (·.2)))) μ σ' H' → Jt X' (adr M' μ) c σ' H' false)
    (ok : BlkOk X.N X.env.scope scope own) (hc : X.calm = true) (hN : X.N.Nodup) (hs : ∀ x, foldedSetIterable iter X.env x = pure x := by intro _; rfl) :
    Jn X (adr M0 μ) (.ListComp elt [⟨tg, iter, [c], 0⟩] scope pos) σ H [] := by
  have z := sy_lcN (ifs := [c]) (elt := elt) (pos := pos) S hw (xs.map fun _ => none) (by simp) (by simpa using hz) f hjs (fun X' d b hd => ?_) (fun i d o X' B' M' σ' H' h1 h2 b S' => ?_) (fun i d x X' B' M' σ' H' h1 h2 b S' => ?_) ok hc hN hs
  · have e : (xs.map fun _ => (none : Option D)).filterMap id = [] := by
      clear z hw ht hg hz
      induction xs with
      | nil => rfl
      | cons a t ih => simp
    rw [e] at z; exact z
  · obtain ⟨x, hx, rfl⟩ := List.mem_map.mp hd
    exact hg X' x b hx
  · rw [List.getElem?_map] at h1 h2
    obtain ⟨n, hn, rfl⟩ := Option.map_eq_some_iff.mp h1
    rw [hn] at h2
    cases h2
    exact jts_one (ht i n X' B' M' σ' H' hn b S')
  · rw [List.getElem?_map] at h1 h2
    obtain ⟨n, hn, rfl⟩ := Option.map_eq_some_iff.mp h1
    rw [hn] at h2
    cases h2
/-- values of several expressions -/
def Jva (X : Cx) (es : List Expr) (σ : L2.St) (H : Hp) (vs : List V) : Prop := ∀ H1, Ex H H1 → ∀ Q : List V → Hp → Prop, (∀ H2, Ex H1 H2 → Q vs H2) → tA X es σ H1 Q
theorem jva_nil : Jva X [] σ H [] := fun H1 _ Q q => leA pa_nil (q H1 (Ex.refl H1))
theorem jva_cons {e : Expr} {es : List Expr} {v : V} {vs : List V} (ha : Jv X e σ H v) (hr : Jva X es σ H vs) (hs : starEach (e :: es) X.env = (false, eval e X.env) :: starEach es X.env := by rfl) : Jva X (e :: es) σ H (v :: vs) := fun H1 x Q q =>
  leA (pa_cons pe_W pa_A hs) (ha H1 x _ fun H2 y => hr H2 (x.trans y) _ fun H3 z => q H3 (y.trans z))
/-- for x in [e, ..]: over values -/
theorem sy_forV {es : List Expr} {vs : List V} {x : Str} {p lpos : Pos} (j : Nat) (S : Sy X.K B M0 ρ μ σ H) (hv : Jva X es σ H vs) (I : Nat → Ro → Mu → Prop) (h0 : I 0 ρ μ)
    (hs : ∀ i v ρ' μ' σ' H' B', vs[i]? = some v → I i ρ' μ' → Ex B B' → Sy X.K B' M0 (ρ'.set j (some (.val v))) μ' σ' H' →
      tB X body ⟨fun σ2 H2 => ∃ ρ2 μ2, I (i + 1) ρ2 μ2 ∧ Sy X.K B' M0 ρ2 μ2 σ2 H2, D'.rt, tB X rest D', fun σ2 H2 => ∃ ρ2 μ2, I (i + 1) ρ2 μ2 ∧ Sy X.K B' M0 ρ2 μ2 σ2 H2⟩ σ' H')
    (hd : ∀ ρ' μ' σ' H', I vs.length ρ' μ' → Sy X.K B M0 ρ' μ' σ' H' → tB X rest D' σ' H')
    (hp : PassesOwn (model X.prog X.w) X.A X.env X.xe) (hc : X.calm = true) (hN : X.N.Nodup) (hz : vs.length ≤ 100000) (hi : X.N[j]? = some x := by rfl) (hx : Loc X.env.scope x := by first | exact Or.inl rfl | exact Or.inr rfl) (hf : X.fn x = true ∨ X.env.scope.names.lookup x = some .local := by first | exact .inl rfl | exact .inr rfl)
    (hfs : ∀ x, foldedSetIterable (.List es lpos) X.env x = pure x := by intro _; rfl) : tB X (.For (.Name x p) (.List es lpos) body [] pos :: rest) D' σ H := by
  have al := S.all
  refine tB_cons (ps_for hp hc pi_I pg_G pss_B hfs) (leI (pi_list pe_W) (tW_lst (n := 0) (hv H (Ex.refl H) _ fun H2 x2 => ⟨hz, fun a ha => ⟨a, rfl, ⟨vs, .inl (.inl upd_same)⟩, ?_⟩⟩)))
  have S2 := S.ex (x2.trans (Ex.new (o := .lst vs) ha))
  have na : a ∉ adr M0 μ := (S.ex x2).all.out ha
  have ga : grd μ (upd H2 a (.lst vs)) a = some (.lst vs) := by
    unfold grd
    rw [hid_out (fun z => na (by unfold adr; exact List.mem_append_left _ z))]
    exact upd_same
  refine for_it (walk_list (K := X.K) (a := a) (xs := vs)) (fun i σ' H' => ∃ ρ' μ', I i ρ' μ' ∧ Sy X.K (grd μ (upd H2 a (.lst vs))) M0 ρ' μ' σ' H') ⟨ρ, μ, h0, S2.grd⟩ (fun i σ' H' hi ⟨ρ', μ', _, S'⟩ => .inl (.inl (S'.bs _ _ ga))) (fun i u σ' H' H3 hlt ⟨ρ', μ', hI, S'⟩ y => ?_) fun σ' H' ⟨ρ', μ', hI, S'⟩ => hd ρ' μ' σ' H' hI (S'.base S2.grdB)
  obtain ⟨rfl, hy⟩ := y
  exact leG (pg_name hN hi hx hf) (hs i u ρ' μ' _ _ _ hy hI S2.grdB (S'.set j (s := .val u) rfl))
/-- a call of a def that a variable holds; it raises -/
theorem jx_callL {M : List Addr} {E : XK} {cls : Value} {Q : VK} {k n : Nat} {f : Addr} {fd : FuncData} {ps : List Str} {x : Str} {p : Pos} {e : Expr} {es : List Expr} {ds : List D} {R : List D → D → Prop} {Fl : List D → Value → Prop} (i : Nat) (F : FnOk X.prog X.w X.K X.mg X.base (CX X.prog X.w) k f fd ps (spX X.K n R Fl)) (hb : Binds X.K fd ps []) (hk : PySem.W.keepIn X.K (.ref f) = true) (hr : Room k X.A)
    (tk : Takes X (fun cls d _ H => E cls d H)) (al : Al M H) (hσ : σ[i]? = some (some (.ref f))) (ha : Ja X M (e :: es) σ H ds) (hl : ds.length = n) (hF : Fl ds cls) (kE : ∀ H', Ex H H' → E cls none H') (hN : X.N[i]? = some x := by rfl) (hv : Vis X.env.scope x := by first | exact Or.inl rfl | exact Or.inr rfl)
    (hdb : (x == ("__debug__" : Str)) = false := by decide) (hcd : (x == ("__classdict__" : Str)) = false := by decide) (he : starEach (e :: es) X.env = (false, eval e X.env) :: starEach es X.env := by rfl) (hpl : (backTo pos (starEach es X.env)).any (·.1) = false := by rfl) : tW X (.Call (.Name x p) (e :: es) [] pos) σ H Q := by
  refine leW (pe_callL (E := E) (i := i) (dvs := []) F hr hN hv hk hb .nil (passes_call tk fun _ _ _ _ h => h) pa_A hdb hcd he hpl) ⟨hσ, ha al H (Ex.refl H) _ fun vs H2 z r => ?_⟩
  show spX X.K n R Fl (vs ++ []) H2 Q E
  rw [List.append_nil]
  exact ⟨M, ds, hl, al.ex z, r, .inr ⟨cls, hF, fun H3 u => kE H3 (z.trans u)⟩⟩
end
end J

set_option maxHeartbeats 4000000
/-! J28: l.index(x); ratios of a common denominator. -/
namespace J
open PySem PySem.Spec PyProof.Rows L2 Evl RZ
section
variable {X : Cx} {M : List Addr} {σ : L2.St} {H : Hp} {o e : Expr} {d z : D} {ds : List D} {j : Nat} {apos pos : Pos}
theorem jd_index (hu : X.A.units + 65 < cLine) (ho : Jd X M o σ H (.list ds)) (ha : Jd X M e σ H d) (sl : SeqAt.shaped (.list ds) = true) (sd : SeqAt.shaped d = true) (hz : ds[j]? = some z) (he : PyData.eqv z d = true) (hno : ∀ (m : Nat) (z' : D), m < j → ds[m]? = some z' → PyData.eqv z' d = false)
    (hbase : attributeBase o "index" X.env (eval o X.env) = eval o X.env := by rfl)
    (hfew : ((backTo pos (starEach [e] X.env)).all (fun x => !x.1) && (backToKw pos (keywordEach [] X.env)).all (fun x => x.1.isSome)
      && decide (([e] : List Expr).length + ([] : List Keyword).length + (if ([] : List Keyword).isEmpty then 0 else 1) < 30)) = true := by rfl)
    (hline : (apos.endLine == pos.line) = true := by rfl) (hs : starEach [e] X.env = (false, eval e X.env) :: starEach [] X.env := by rfl) (hplain : (backTo pos (starEach [] X.env)).any (·.1) = false := by rfl) :
    Jd X M (.Call (.Attribute o "index" apos) [e] [] pos) σ H (.int (j : Nat)) := fun al H1 x Q q =>
  leW (pe_bm PySem.F.plainAttrs_list PySem.F.slot_list_index PySem.F.type_list_index (mt_indexD hu) pe_W (pa_cons pe_W pa_nil hs) hbase hfew hline hs hplain) (ho al H1 x _ fun v H2 y p => by
    obtain ⟨a, xs, rfl, e2, e3⟩ := dLst p
    refine ⟨.inl ⟨rfl, _, ex_l hid_le e2⟩, ?_⟩
    refine ha al H2 (x.trans y) _ fun u H3 y3 p3 => ?_
    refine ⟨a, u, d, ds, j, z, rfl, rfl, ((p.ex (hid_ex y3)).ex hid_le).old sl, (p3.ex hid_le).old sd, sl, sd, hz, he, hno, q _ H3 (y.trans y3) (.int _)⟩)
/-- l[n:] of a list -/
theorem jd_slLFrom {a b : Expr} {i : Int} {n : Nat} {p2 : Pos} (ha : Jd X M a σ H (.list ds)) (hb : Jd X M b σ H (.int i)) (hi : i = (n : Int)) (hn : n ≤ ds.length) : Jd X M (.Subscript a (.Slice (some b) none none p2) pos) σ H (.list (ds.drop n)) := fun al H1 x Q q =>
  leW (pe_slice sl_list pe_W (po_some pe_W) po_none) (ha al H1 x _ fun v H2 y p => hb al H2 (x.trans y) _ fun w H3 z r => by
    obtain ⟨t, xs, e1, e2, e3⟩ := dLst p
    have e3' := e3.ex (hid_ex (M := M) z)
    have hl := e3.len
    refine ⟨i, dInt r, t, xs, e1, ex_l hid_le (ex_l (hid_ex z) e2), fun c hc => ?_⟩
    have up := hid_ex (M := M) (Ex.new (o := .lst (L2.cutV xs (some i) none)) hc)
    refine q _ _ ((y.trans z).trans (Ex.new hc)) (.lst (SqL.of ((al.ex ((x.trans y).trans z)).newEx hc)) ?_)
    have e : L2.cutV xs (some i) none = xs.drop n := by
      unfold L2.cutV
      rw [hi, HT.sIx_none, HT.sIx_nat, hl, Nat.min_eq_left hn, List.take_of_length_le]
      rw [List.length_drop]
      omega
    rw [e] at up ⊢
    exact (dpDrop n e3').ex up)
end
section
variable {X : Cx} {M : List Addr} {σ : L2.St} {H : Hp} {a b c e : Expr} {pos : Pos} {k l m n : Bool}
/-- or of four -/
theorem jt_or4 (ha : Jt X M a σ H k) (hb : k = false → Jt X M b σ H l) (hc : k = false → l = false → Jt X M c σ H m) (he : k = false → l = false → m = false → Jt X M e σ H n) : Jt X M (.BoolOp .Or [a, b, c, e] pos) σ H (k || (l || (m || n))) := fun al H1 x Q q =>
  leT (pw_or pt_T (pw_or pt_T (pw_or pt_T (pw_or1 pt_T)))).pt (ha al H1 x _ fun H2 y => by
    cases k with
    | false =>
      rw [if_neg Bool.false_ne_true]
      exact hb rfl al H2 (x.trans y) _ fun H3 z => by
        cases l with
        | false =>
          rw [if_neg Bool.false_ne_true]
          exact hc rfl rfl al H3 ((x.trans y).trans z) _ fun H4 z2 => by
            cases m with
            | false => rw [if_neg Bool.false_ne_true]; exact he rfl rfl rfl al H4 (((x.trans y).trans z).trans z2) _ fun H5 z3 => q H5 (((y.trans z).trans z2).trans z3)
            | true => rw [if_pos rfl]; exact q H4 ((y.trans z).trans z2)
        | true => rw [if_pos rfl]; exact q H3 (y.trans z)
    | true => rw [if_pos rfl]; exact q H2 y)
end
section
variable {α : Type} {X : Cx} {B H : Hp} {M0 : List Addr} {ρ : Ro} {μ : Mu} {σ : L2.St} {pos : Pos} {tg iter elt : Expr} {scope : Scope} {own : List (Str × Nat)} {js : List Nat} {rest : List Stmt} {D' : Ends}
/-- y = [elt for tg in iter] -/
theorem sy_setLcM (n : Nat) {y : Str} {py spos : Pos} (S : Sy X.K B M0 ρ μ σ H) {g : α → D} {xs : List α} (hw : Jw X (adr M0 μ) tg iter σ H (xs.map g)) (h : α → D) (hz : xs.length ≤ 90000) (f : D → Ro → Ro) (hjs : ∀ j ∈ js, j ∈ own.map (·.2))
    (hg : ∀ X' x, Blk X scope X' → x ∈ xs → Jg X' tg js (g x) (wip ρ (own.map (·.2))) (f (g x) (wip ρ (own.map (·.2)))))
    (he : ∀ (i : Nat) (x : α) X' B' M' σ' H', xs[i]? = some x → Blk X scope X' → Sy X'.K B' M' (f (g x) (wip ρ (own.map (·.2)))) μ σ' H' → Jd X' (adr M' μ) elt σ' H' (h x))
    (ok : BlkOk X.N X.env.scope scope own) (hc : X.calm = true) (hN : X.N.Nodup) (k : ∀ σ' H', Sy X.K B M0 (ρ.set n (some (.dat (.list (xs.map h))))) μ σ' H' → tB X rest D' σ' H')
    (hy : X.N[n]? = some y := by rfl) (hyl : X.env.scope.names.lookup y = some .local := by rfl) (hsw : swapsWith (.ListComp elt [⟨tg, iter, [], 0⟩] scope pos) (some (.Name y py)) spos.line X.env = pure true := by rfl) (hs : ∀ x, foldedSetIterable iter X.env x = pure x := by intro _; rfl) :
    tB X (.Assign [.Name y py] (.ListComp elt [⟨tg, iter, [], 0⟩] scope pos) spos :: rest) D' σ H := by
  refine tB_setLc n (lcN_tree (ifs := []) (elt := elt) S hw (xs.map fun x => some (h x)) (by simp) (by simpa using hz) f hjs (fun X' d b hd => ?_) (fun i d o X' B' M' σ' H' h1 h2 b S' => ?_) (fun i d x X' B' M' σ' H' h1 h2 b S' => ?_) S.all (Ex.refl H) fun a vs H2 x hn h1 h2 => ?_) ok hc hN hy hyl hsw hs
  · obtain ⟨x, hx, rfl⟩ := List.mem_map.mp hd
    exact hg X' x b hx
  · rw [List.getElem?_map] at h1 h2
    obtain ⟨n, hn, rfl⟩ := Option.map_eq_some_iff.mp h1
    rw [hn] at h2
    cases h2
    exact jts_nil
  · rw [List.getElem?_map] at h1 h2
    obtain ⟨n, hn, rfl⟩ := Option.map_eq_some_iff.mp h1
    rw [hn] at h2
    cases h2
    exact he i n X' B' M' σ' H' hn b S'
  · rw [fmm] at h2
    have al := S.all
    exact k _ H2 ((S.ex x).set n (s := .dat (.list (xs.map h))) (.lst (SqL.of (by rw [hid_out (al.out hn)]; exact h1)) (h2.ex (hid_sub fun b hb => List.mem_cons_of_mem _ hb))))
end
/-! ### of a common denominator -/
/-- r is n / D -/
def Dv (D : Nat) (r : Rat) : Prop := 0 < D ∧ ∃ n : Int, r * (D : Rat) = (n : Rat)
theorem natR_pos {D : Nat} (h : 0 < D) : (0 : Rat) < (D : Rat) := Rat.natCast_pos.mpr h
section
variable {a b r : Rat} {D E : Nat}
theorem dv_add (ha : Dv D a) (hb : Dv D b) : Dv D (a + b) := by
  obtain ⟨h, n, hn⟩ := ha; obtain ⟨_, m, hm⟩ := hb
  exact ⟨h, n + m, by rw [Rat.intCast_add, Rat.add_mul, hn, hm]⟩
theorem dv_neg (ha : Dv D a) : Dv D (-a) := by
  obtain ⟨h, n, hn⟩ := ha
  exact ⟨h, -n, by rw [Rat.intCast_neg, Rat.neg_mul, hn]⟩
theorem dv_sub (ha : Dv D a) (hb : Dv D b) : Dv D (a - b) := by
  rw [Rat.sub_eq_add_neg]; exact dv_add ha (dv_neg hb)
theorem dv_mul (ha : Dv D a) (hb : Dv E b) : Dv (D * E) (a * b) := by
  obtain ⟨h, n, hn⟩ := ha; obtain ⟨h', m, hm⟩ := hb
  refine ⟨Nat.mul_pos h h', n * m, ?_⟩
  rw [Rat.intCast_mul, Rat.natCast_mul, ← hn, ← hm]
  grind
theorem dv_up (ha : Dv D a) (hE : 0 < E) : Dv (D * E) a := by
  obtain ⟨h, n, hn⟩ := ha
  refine ⟨Nat.mul_pos h hE, n * (E : Int), ?_⟩
  rw [Rat.intCast_mul, Rat.natCast_mul, ← hn, Rat.intCast_natCast]
  grind
theorem dv_up' (ha : Dv E a) (hD : 0 < D) : Dv (D * E) a := by rw [Nat.mul_comm]; exact dv_up ha hD
theorem dv_dvd (ha : Dv D a) (h : D ∣ E) (hE : 0 < E) : Dv E a := by
  obtain ⟨k, rfl⟩ := h
  exact dv_up ha (Nat.pos_of_ne_zero fun z => by rw [z] at hE; omega)
theorem mul_den (r : Rat) : r * (r.den : Rat) = (r.num : Rat) := by
  have h := Rat.num_divInt_den r
  rw [Rat.divInt_eq_div, Rat.intCast_natCast] at h
  have p := natR_pos (Nat.pos_of_ne_zero r.den_nz)
  have p2 : (r.den : Rat) ≠ 0 := by grind
  grind
theorem dv_den (r : Rat) : Dv r.den r := ⟨Nat.pos_of_ne_zero r.den_nz, r.num, mul_den r⟩
theorem dv_int (n : Int) (hD : 0 < D) : Dv D (n : Rat) := ⟨hD, n * D, by rw [Rat.intCast_mul, Rat.intCast_natCast]⟩
theorem dv_zero (hD : 0 < D) : Dv D 0 := dv_int 0 hD
theorem dv_one (hD : 0 < D) : Dv D 1 := dv_int 1 hD
theorem dv_sum {l : List Rat} (hD : 0 < D) (h : ∀ x ∈ l, Dv D x) : Dv D l.sum := by
  induction l with
  | nil => exact dv_zero hD
  | cons x l ih => rw [List.sum_cons]; exact dv_add (h x List.mem_cons_self) (ih fun y hy => h y (List.mem_cons_of_mem _ hy))
theorem dv_abs {x : Rat} (h : Dv D x) : Dv D x.abs := by
  rcases (Rat.le_total : (0 : Rat) ≤ x ∨ x ≤ 0) with q | q
  · rw [Rat.abs_of_nonneg q]; exact h
  · rw [Rat.abs_of_nonpos q]; exact dv_neg h
theorem bz_dv {c B : Nat} (h : Dv D r) (h1 : -(c : Rat) ≤ r) (h2 : r ≤ c) (hB : 0 < B) (hD : c * D < 2 ^ B) (hD2 : D < 2 ^ B) : Bz B r := by
  obtain ⟨h0, n, hn⟩ := h
  have p := natR_pos h0
  have e : r = (n : Rat) / (D : Rat) := by
    rw [← hn]
    have : (D : Rat) ≠ 0 := by grind
    grind
  have e2 : r = Rat.divInt n (D : Int) := by rw [e, Rat.divInt_eq_div, Rat.intCast_natCast]
  have u : (n : Rat) ≤ ((c * D : Nat) : Rat) := by rw [← hn, Rat.natCast_mul]; exact Rat.mul_le_mul_of_nonneg_right h2 (Rat.le_of_lt p)
  have l : (-((c * D : Nat) : Int) : Rat) ≤ (n : Rat) := by
    rw [← hn, Rat.intCast_natCast, Rat.natCast_mul, ← Rat.neg_mul]; exact Rat.mul_le_mul_of_nonneg_right h1 (Rat.le_of_lt p)
  have u2 : n ≤ ((c * D : Nat) : Int) := by rw [← Rat.intCast_natCast] at u; exact Rat.intCast_le_intCast.mp u
  have l2 : -((c * D : Nat) : Int) ≤ n := by rw [← Rat.intCast_neg] at l; exact Rat.intCast_le_intCast.mp l
  rw [e2]
  exact bz_of (by omega) hB (by omega) (by omega)
end
end J

set_option maxHeartbeats 4000000
/-! J29: list + list; a comprehension whose test changes objects and never passes. -/
namespace J
open PySem PySem.Spec PyProof.Rows L2 Evl RZ
section
variable {X : Cx} {B H : Hp} {M M0 : List Addr} {ρ : Ro} {μ : Mu} {σ : L2.St} {a b : Expr} {ds es : List D} {pos : Pos} {ad : Addr} {i : Nat}
theorem jn_cat (ha : Jn X M a σ H ds) (hb : Jn X M b σ H es) (hz : ds.length + es.length ≤ 90000) : Jn X M (.BinOp a .Add b pos) σ H (ds ++ es) := fun al H1 x Q q =>
  leW (pe_op op_cat pe_W pe_W) (ha al H1 x _ fun u vs H2 y hn hu pu => hb al H2 (x.trans y) _ fun v ws H3 z hm hv pv => by
    have hu3 : H3 u = some (.lst vs) := z _ _ hu
    refine ⟨u, v, vs, ws, rfl, rfl, hu3, hv, sz_of (by rw [pu.len, pv.len]; omega), fun p hp => ?_⟩
    have n1 : H1 p = none := by
      cases q1 : H1 p with
      | none => rfl
      | some o => rw [(y.trans z) _ _ q1] at hp; cases hp
    refine q p (vs ++ ws) _ ((y.trans z).trans (Ex.new hp)) n1 upd_same ?_
    rw [hid_new hp]
    exact ((pu.ex (hid_ex z)).ex (hid_sub fun b hb => List.mem_cons_of_mem _ hb)).append (pv.ex (hid_sub fun b hb => List.mem_cons_of_mem _ hb)))
/-- .. the first one's own -/
theorem jn_catO (S : Sy X.K B M0 ρ μ σ H) (ha : Jv X a σ H (.ref ad)) (hi : μ[i]? = some (ad, .lst (ds.map .dat))) (hb : Jn X (adr M0 μ) b σ H es) (hz : ds.length + es.length ≤ 90000) : Jn X (adr M0 μ) (.BinOp a .Add b pos) σ H (ds ++ es) := fun al H1 x Q q =>
  leW (pe_op op_cat pe_W pe_W) (ha H1 x _ fun H2 y => hb al H2 (x.trans y) _ fun v ws H3 z hm hv pv => by
    obtain ⟨vs, g1, g2⟩ := S.own hi
    have g2' := dats_of g2
    have hu3 : H3 ad = some (.lst vs) := ((x.trans y).trans z) _ _ g1
    refine ⟨ad, v, vs, ws, rfl, rfl, hu3, hv, sz_of (by rw [g2'.len, pv.len]; omega), fun p hp => ?_⟩
    have n1 : H1 p = none := by
      cases q1 : H1 p with
      | none => rfl
      | some o => rw [(y.trans z) _ _ q1] at hp; cases hp
    refine q p (vs ++ ws) _ ((y.trans z).trans (Ex.new hp)) n1 upd_same ?_
    rw [hid_new hp]
    exact (g2'.ex (hid_ex ((x.trans y).trans z))).append (pv.ex (hid_sub fun b hb => List.mem_cons_of_mem _ hb)))
end
section
variable {X : Cx} {B H : Hp} {M0 : List Addr} {ρ : Ro} {μ : Mu} {σ : L2.St} {ds : List D} {pos : Pos} {tg iter elt c : Expr} {scope : Scope} {own : List (Str × Nat)} {js : List Nat}
theorem lcF_tree (S : Sy X.K B M0 ρ μ σ H) (hw : Jw X (adr M0 μ) tg iter σ H ds) (f : D → Ro → Ro) (hjs : ∀ j ∈ js, j ∈ own.map (·.2)) (I : Nat → Mu → Prop) (h0 : I 0 μ)
    (hg : ∀ X' d, Blk X scope X' → d ∈ ds → Jg X' tg js d (wip ρ (own.map (·.2))) (f d (wip ρ (own.map (·.2)))))
    (ht : ∀ (i : Nat) (d : D) (μ' : Mu) X' B' M' σ' H' (Q : Bool → Hp → Prop), ds[i]? = some d → I i μ' → Blk X scope X' → Sy X'.K B' M' (f d (wip ρ (own.map (·.2)))) μ' σ' H' →
      (∀ μ'' H'', I (i + 1) μ'' → Sy X'.K B' M' (f d (wip ρ (own.map (·.2)))) μ'' σ' H'' → Q false H'') → tT X' c σ' H' Q)
    {Q : VK} (k : ∀ a μ' H', I ds.length μ' → Sy X.K B M0 ρ ((a, .lst []) :: μ') σ H' → Q (.ref a) H') :
    tLc (tI X tg iter) (tGb X scope tg) (tTsb X scope [c]) (tWb X scope elt) (own.map (·.2)) σ H Q := by
  refine hw S.all H (Ex.refl H) _ fun Jt2 H2 x2 yl Dl hD => ?_
  have S2 := S.ex x2
  obtain ⟨G, Y, w, hG, hY⟩ := yl
  let Pv : Nat → Hp → Prop := fun i H' => ∃ μ', I i μ' ∧ Sy X.K (J.grd μ H2) M0 ρ (μ' ++ [(Dl, .lst ([] : List Sv))]) σ H'
  have low : hid M0 (J.grd μ H2) = hid (adr M0 μ) H2 := grd_low
  have S0 : Sy X.K (J.grd μ H2) M0 ρ (μ ++ [(Dl, .lst ([] : List Sv))]) σ (L2.upd H2 Dl (.lst [])) := (S2.grd.newN (.lst []) (Ex.new hD) hD ⟨[], upd_same, .nil⟩).perm (List.perm_append_comm (l₁ := μ) (l₂ := [_]))
  refine lc_it w Pv ⟨μ, h0, S0⟩ (fun i H' hi p => hG H' ?_) (fun i x H' H3 hi p y => ?_) (fun H' p => ?_)
  · obtain ⟨μ', _, S'⟩ := p
    rw [← low]; exact S'.low.trans hid_le
  · obtain ⟨μ', hI, S'⟩ := p
    have g0 : Ex (hid (adr M0 μ) H2) (hid (adr M0 (μ' ++ [(Dl, .lst ([] : List Sv))])) H') := by rw [← low]; exact S'.low
    obtain ⟨x3, dx⟩ := hY i H' x H3 hi (g0.trans hid_le) y
    have hdi : ds[i]? = some ds[i] := List.getElem?_eq_getElem hi
    have q := dx _ S'.all g0 ds[i] hdi
    have S3 := S'.ex x3
    have S3w := (S3.wipe (own.map (·.2))).split
    rw [← adr_app] at q
    intro X' hX
    have eK : X'.K = X.K := by obtain ⟨_, _, _, _, _, rfl⟩ := hX; rfl
    refine hg X' ds[i] hX (List.getElem_mem hi) _ _ _ _ _ _ (by rw [eK]; exact S3w) (by rw [eK]; exact q) _ fun σ4 S4 l4 o4 => ⟨?_, ?_⟩
    · rw [wipe_eq (vs := own.map (·.2)) l4 fun j hj => o4 j fun z => hj (hjs j z)]
      exact wipe_eq (wipe_length _ _) fun j hj => wipe_out hj
    · intro X2 hX2
      have eK2 : X2.K = X'.K := by obtain ⟨_, _, _, _, _, rfl⟩ := hX2; exact eK.symm
      have eKK : X2.K = X.K := eK2.trans eK
      have S5' : Sy X2.K (J.grd μ' H3) (adr M0 [(Dl, .lst ([] : List Sv))]) (f ds[i] (wip ρ (own.map (·.2)))) μ' σ4 H3 := by
        rw [eK2]
        exact S4.grd
      refine fun pins s' Iv => (pts_one pt_T).run pins s' σ4 H3 _ Iv (ht i ds[i] μ' X2 _ _ σ4 H3 _ hdi hI hX2 S5' fun μ'' H6 hI6 S6 => ?_)
      rw [if_neg (by decide)]
      have S6' : Sy X.K (J.grd μ' H3) (adr M0 [(Dl, .lst ([] : List Sv))]) (f ds[i] (wip ρ (own.map (·.2)))) μ'' σ4 H6 := by rw [← eKK]; exact S6
      exact ⟨μ'', hI6, S3.keep S6'⟩
  · obtain ⟨μ', hI, S'⟩ := p
    exact k Dl μ' H' hI ((S'.base S2.grdB).perm (List.perm_append_comm (l₁ := [_]) (l₂ := μ')))
/-- e != [], e one's own empty list -/
theorem tT_neNil {e : Expr} {p2 : Pos} {Q : Bool → Hp → Prop} (hu : X.A.units + 64 < cLine) (h : tW X e σ H fun v H' => ∃ (a : Addr) (B' : Hp) (M' : List Addr) (ρ' : Ro) (μ' : Mu), v = .ref a ∧ Sy X.K B' M' ρ' ((a, .lst []) :: μ') σ H' ∧ ∀ H'', Ex H' H'' → Q false H'') : tT X (.Compare e [.NotEq] [.List [] p2] pos) σ H Q :=
  leT (pt_cmpR (op_neD hu) pe_W pe_W (nm _ rfl rfl)) (tW_mono h fun v H' ⟨a, B', M', ρ', μ', e, S', k⟩ => by
    subst e
    refine (jd_lst (M := []) ja_nil) Al.nil H' (Ex.refl H') _ fun w H3 z r => ?_
    obtain ⟨vs, g1, g2⟩ := S'.own (i := 0) rfl
    have e : vs = [] := by cases g2; rfl
    subst e
    exact ⟨.list [], .list [], .lst (SqL.of (z _ _ g1)) .nil, Dp.old (by rw [hid_nil] at r; exact r) rfl, rfl, rfl, _, rfl, k H3 z⟩)
end
end J

set_option maxHeartbeats 4000000
/-! J30: a list of values on the way; three names at once; l[n:] as a new list. -/
namespace J
open PySem PySem.Spec PyProof.Rows L2 Evl RZ
section
variable {K : PySem.W.Frag} {B H : Hp} {M0 : List Addr} {ρ : Ro} {μ : Mu} {σ : L2.St} {ts us : List Sv} {vs ws : List V} {ds : List D}
theorem Sx.mkLst {a : Addr} (S : Sx K B M0 ρ μ σ (ts ++ us) (vs ++ ws) H) (hl : ts.length = vs.length) (hu : us = ds.map .dat) (hn : H a = none) : Sx K B M0 ρ μ σ (ts ++ [.dat (.list ds)]) (vs ++ [.ref a]) (upd H a (.lst ws)) := by
  have hr := S.right hl
  subst hu
  have S1 := (S.take hl).ex (Ex.new (o := .lst ws) hn)
  refine S1.push (.lst (SqL.of (S.1.all.newEx hn)) ((dats_of hr).ex (hid_ex (Ex.new hn))))
end
section
variable {X : Cx} {M : List Addr} {σ : L2.St} {H : Hp} {a b c : Expr} {ds : List D} {i : Int} {n : Nat} {p2 pos : Pos} {rest : List Stmt} {D' : Ends}
theorem jn_slLFrom (ha : Jd X M a σ H (.list ds)) (hb : Jd X M b σ H (.int i)) (hi : i = (n : Int)) (hn : n ≤ ds.length) : Jn X M (.Subscript a (.Slice (some b) none none p2) pos) σ H (ds.drop n) := fun al H1 x Q q =>
  leW (pe_slice sl_list pe_W (po_some pe_W) po_none) (ha al H1 x _ fun v H2 y p => hb al H2 (x.trans y) _ fun w H3 z r => by
    obtain ⟨t, xs, e1, e2, e3⟩ := dLst p
    have e3' := e3.ex (hid_ex (M := M) z)
    have hl := e3.len
    refine ⟨i, dInt r, t, xs, e1, ex_l hid_le (ex_l (hid_ex z) e2), fun c hc => ?_⟩
    have e : L2.cutV xs (some i) none = xs.drop n := by
      unfold L2.cutV
      rw [hi, HT.sIx_none, HT.sIx_nat, hl, Nat.min_eq_left hn, List.take_of_length_le]
      rw [List.length_drop]
      omega
    rw [e]
    have n1 : H1 c = none := by
      cases q1 : H1 c with
      | none => rfl
      | some o => rw [(y.trans z) _ _ q1] at hc; cases hc
    refine q c (xs.drop n) _ ((y.trans z).trans (Ex.new hc)) n1 upd_same ?_
    rw [hid_new hc]
    exact dpDrop n e3')
theorem sy_par3E (i j l : Nat) {x y z : Str} {px py pz pt : Pos} {kt k2 pt2} (h : tA X [a, b, c] σ H fun vs H' => ∃ v v2 v3, vs = [v, v2, v3] ∧ tB X rest D' (((σ.set i (some v)).set j (some v2)).set l (some v3)) H')
    (hc : X.calm = true) (hN : X.N.Nodup) (hij : i ≠ j) (hil : i ≠ l) (hjl : j ≠ l) (hw : swappedStores [.Tuple [.Name x px, .Name y py, .Name z pz] kt pt] (.Tuple [a, b, c] k2 pt2) X.env = pure (some [x, y, z])) (hi : X.N[i]? = some x := by rfl) (hj : X.N[j]? = some y := by rfl) (hl : X.N[l]? = some z := by rfl)
    (hx : X.env.scope.names.lookup x = some .local := by rfl) (hy : X.env.scope.names.lookup y = some .local := by rfl) (hz : X.env.scope.names.lookup z = some .local := by rfl) (hs : swapsWithSole [.Tuple [.Name x px, .Name y py, .Name z pz] kt pt] (.Tuple [a, b, c] k2 pt2) pos.line X.env = pure false := by rfl) :
    tB X (.Assign [.Tuple [.Name x px, .Name y py, .Name z pz] kt pt] (.Tuple [a, b, c] k2 pt2) pos :: rest) D' σ H :=
  tB_cons (ps_par3 hc hN hi hj hl hij hil hjl hx hy hz pa_A hw hs) h
end
end J

set_option maxHeartbeats 4000000
/-! J31: a loop over values, the list one's own. -/
namespace J
open PySem PySem.Spec PyProof.Rows L2 Evl RZ
section
variable {X : Cx} {B H : Hp} {M0 : List Addr} {ρ : Ro} {μ : Mu} {σ : L2.St} {pos : Pos} {rest body : List Stmt} {D' : Ends}
theorem paired_val {K : PySem.W.Frag} {G : Hp} : ∀ vs : List V, Paired (fun s v => Sv.holds K G s v) (vs.map .val) vs
  | [] => .nil
  | v :: vs => .cons rfl (paired_val vs)
theorem paired_val_eq {K : PySem.W.Frag} {G : Hp} : ∀ {vs ws : List V}, Paired (fun s v => Sv.holds K G s v) (vs.map .val) ws → ws = vs
  | [], _, h => by cases h; rfl
  | v :: vs, _, h => by cases h with | cons a b => rw [show _ = v from a, paired_val_eq b]
theorem sy_forVO {es : List Expr} {vs : List V} {x : Str} {p lpos : Pos} (j : Nat) (S : Sy X.K B M0 ρ μ σ H) (hv : Jva X es σ H vs) (I : Nat → Ro → Mu → Prop) (h0 : I 0 ρ μ)
    (hs : ∀ a i v ρ' μ' σ' H', vs[i]? = some v → I i ρ' μ' → Sy X.K B M0 (ρ'.set j (some (.val v))) ((a, .lst (vs.map .val)) :: μ') σ' H' →
      tB X body ⟨fun σ2 H2 => ∃ ρ2 μ2, I (i + 1) ρ2 μ2 ∧ Sy X.K B M0 ρ2 ((a, .lst (vs.map .val)) :: μ2) σ2 H2, D'.rt, tB X rest D', fun σ2 H2 => ∃ ρ2 μ2, I (i + 1) ρ2 μ2 ∧ Sy X.K B M0 ρ2 ((a, .lst (vs.map .val)) :: μ2) σ2 H2⟩ σ' H')
    (hd : ∀ ρ' μ' σ' H', I vs.length ρ' μ' → Sy X.K B M0 ρ' μ' σ' H' → tB X rest D' σ' H')
    (hp : PassesOwn (model X.prog X.w) X.A X.env X.xe) (hc : X.calm = true) (hN : X.N.Nodup) (hz : vs.length ≤ 100000) (hi : X.N[j]? = some x := by rfl) (hx : Loc X.env.scope x := by first | exact Or.inl rfl | exact Or.inr rfl) (hf : X.fn x = true ∨ X.env.scope.names.lookup x = some .local := by first | exact .inl rfl | exact .inr rfl)
    (hfs : ∀ x, foldedSetIterable (.List es lpos) X.env x = pure x := by intro _; rfl) : tB X (.For (.Name x p) (.List es lpos) body [] pos :: rest) D' σ H := by
  refine tB_cons (ps_for hp hc pi_I pg_G pss_B hfs) (leI (pi_list pe_W) (tW_lst (n := 0) (hv H (Ex.refl H) _ fun H2 x2 => ⟨hz, fun a ha => ⟨a, rfl, ⟨vs, .inl (.inl upd_same)⟩, ?_⟩⟩)))
  have S2 : Sy X.K B M0 ρ ((a, .lst (vs.map .val)) :: μ) σ (upd H2 a (.lst vs)) := (S.ex x2).newN (.lst (vs.map .val)) (Ex.new ha) ha ⟨vs, upd_same, paired_val vs⟩
  refine for_it (walk_list (K := X.K) (a := a) (xs := vs)) (fun i σ' H' => ∃ ρ' μ', I i ρ' μ' ∧ Sy X.K B M0 ρ' ((a, .lst (vs.map .val)) :: μ') σ' H') ⟨ρ, μ, h0, S2⟩ (fun i σ' H' hi ⟨ρ', μ', _, S'⟩ => ?_) (fun i u σ' H' H3 hlt ⟨ρ', μ', hI, S'⟩ y => ?_) fun σ' H' ⟨ρ', μ', hI, S'⟩ => hd ρ' μ' σ' H' hI S'.drop1
  · obtain ⟨ws, g1, g2⟩ := S'.own (i := 0) rfl
    rw [paired_val_eq g2] at g1
    exact .inl (.inl g1)
  · obtain ⟨rfl, hy⟩ := y
    exact leG (pg_name hN hi hx hf) (hs a i u ρ' μ' _ _ hy hI (S'.set j (s := .val u) rfl))
end
end J

set_option maxHeartbeats 4000000
/-! J32: lambdas with parameters, kept in variables and lists, and called from there. -/
namespace J
open PySem PySem.Spec PyProof.Rows L2 Evl RZ LamX NdefX
abbrev lamOb (F : NF) (b : Expr) (pm ctv : Value) : Obj := PySem.W.kla_obj "<lambda>" F.qual F.params b F.scope F.cl pm F.c ctv
/-- the object at f is the lambda F with the body b -/
def LmO (f : Addr) (F : NF) (b : Expr) : HO := .ext fun h => ∃ pm ctv : Value, h.get? f = some (lamOb F b pm ctv)
theorem lmO_ne {f : Addr} {F : NF} {b : Expr} (ps : Array Value) : LmO f F b ≠ .tbl ps := fun z => by
  unfold LmO at z; cases z
theorem lmO_at {P : Program} {w : World} {H : Hp} {h : Heap} {f : Addr} {F : NF} {b : Expr} (hok : HOk P w H h) (e : H f = some (LmO f F b)) : ∃ pm ctv : Value, h.get? f = some (lamOb F b pm ctv) :=
  (hok f _ e).1
section
variable {X : Cx} {pins : List (Addr × Obj)} {σ : L2.St} {H : Hp} {s : Shared}
theorem lm_inv {F : NF} {b : Expr} {t' : Nat} {pm ctv : Value} (I : Inv X pins σ H s) : Inv X pins σ (upd H s.heap.objs.size (LmO s.heap.objs.size F b)) { s with heap := s.heap.push (lamOb F b pm ctv), toks := t' } := by
  have z : (s.heap.push (lamOb F b pm ctv)).get? s.heap.objs.size = some (lamOb F b pm ctv) := Heap.get?_push_size _ rfl
  exact I.laid (a := s.heap.objs.size) (fun b u e => Heap.get?_push_of_some _ e) (Nat.le_refl _) ⟨⟨pm, ctv, z⟩, ⟨_, z⟩, fun h1 h2 ⟨p, t, y⟩ st => ⟨p, t, st _ y⟩⟩
/-- the lambda of a def's frame -/
abbrev lamF (X : Cx) (params : Arguments) (scope : Scope) (c' : Addr) : NF := ⟨"<lambda>", X.env.qual ++ "<lambda>", params, [], scope, cloFrom X.env.cells scope.names [], c'⟩
theorem lam_known {c P : Addr} {params : Arguments} {body : Expr} {scope : Scope} {pos : Pos} {E : Value → Shared → Prop} {Q : Value → Shared → Prop} (I : Inv X pins σ H s) (TB : TabB X.base X.mg c P) (hcode : X.env.code = .ref c)
    (tabs : Tabs [(P, X.env.qual ++ "<lambda>")] H) (hdef : defaultsOf params X.env = ([], [])) (fre : ∀ y ∈ scope.names, y.2 = .free → ∃ c, X.env.cells.lookup y.1 = some c)
    (k : ∀ (f c' : Addr) (H1 : Hp) (s' : Shared), Inv X pins σ H1 s' → ExtN H H1 → Tabs [(P, X.env.qual ++ "<lambda>")] H1 → H f = none → H1 f = some (LmO f (lamF X params scope c') body) → H1 c' = some (CodeO c' (X.env.qual ++ "<lambda>")) → Q (.ref f) s') :
    wpAny (model X.prog X.w) X.A (eval (.Lambda params body scope pos) X.env) Q E s := by
  obtain ⟨tb, gP, tr, am⟩ := tabs _ List.mem_cons_self
  have gP : H P = some (.tbl tb) := gP
  have am : ∀ (pos : Pos) (cv : Value), codeAmong pos tb.toList = some cv → ∃ c, cv = .ref c ∧ H c = some (CodeO c (X.env.qual ++ "<lambda>")) := am
  have oP : s.heap.get? P = some { cls := .none, data := .fields tb } := I.hok P _ gP
  refine PySem.W.kla_eval hdef ?_
  cases found : codeAmong pos tb.toList with
  | some cv =>
    obtain ⟨c', rfl, known⟩ := am pos cv found
    refine PySem.W.kla_makeFunctionHit (mg := X.mg) (c := c) (P := P) (ps := tb) (closure_ok fre) I.ok.glob (I.mod.glob.keeps I.bk) hcode (TB.code.keeps I.bk) oP tr found (TB.bm.keeps I.bk) fun ctv h' tk up big => ?_
    have I1 : Inv X pins σ H { s with heap := h', toks := tk } := I.kept up
    have new : H h'.objs.size = none := I1.hok.fresh (Nat.le_refl _)
    have I2 := lm_inv (F := lamF X params scope c') (b := body) (t' := tk) (pm := (X.mg "__name__").getD .none) (ctv := ctv) I1
    exact k _ c' _ _ I2 (fun a o e _ => (upd_ne (ne_of_none e new)).trans e) (tabs.ext fun a o e => (upd_ne (ne_of_none e new)).trans e) new upd_same ((upd_ne (ne_of_none known new)).trans known)
  | none =>
    refine PySem.W.kla_makeFunction (mg := X.mg) (c := c) (P := P) (ps := tb) (closure_ok fre) I.ok.glob (I.mod.glob.keeps I.bk) hcode (TB.code.keeps I.bk) oP tr found TB.gP (TB.bm.keeps I.bk) fun c' ctv h' tk up ge lt rec_ there => ?_
    obtain ⟨c2, oc, vs, t, e2, g1, g2, g3⟩ := rec_
    cases e2
    have noC : H c' = none := I.hok.fresh ge
    have I1 := inv_table (t' := tk) (more := #[rawInt pos.line, rawInt pos.col, .ref c']) (h' := h') I gP up there ge ⟨oc, vs, t, g1, g2, g3⟩
    have new := I1.hok.fresh (Nat.le_refl _)
    have I2 := lm_inv (F := lamF X params scope c') (b := body) (t' := tk) (pm := (X.mg "__name__").getD .none) (ctv := ctv) I1
    have eN : ExtN H (upd (upd H P (.tbl (tb ++ #[rawInt pos.line, rawInt pos.col, .ref c']))) c' (CodeO c' (X.env.qual ++ "<lambda>"))) := fun a o e n => by
      rw [upd_ne (ne_of_none e noC), upd_ne (fun z => n tb (Option.some.inj (e.symm.trans (by rw [z]; exact gP))))]; exact e
    have T1 : Tabs [(P, X.env.qual ++ "<lambda>")] (upd (upd H P (.tbl (tb ++ #[rawInt pos.line, rawInt pos.col, .ref c']))) c' (CodeO c' (X.env.qual ++ "<lambda>"))) := fun p hp => by
      obtain rfl := List.mem_singleton.mp hp
      have eL : (tb ++ #[rawInt pos.line, rawInt pos.col, .ref c']).toList = tb.toList ++ [rawInt pos.line, rawInt pos.col, .ref c'] := by simp
      refine ⟨_, (upd_ne (ne_of_none gP noC)).trans upd_same, by rw [eL]; exact PySem.TriplesOk_snoc _ _ _ _ tr, fun q cv hq => ?_⟩
      rw [eL] at hq
      rcases among_app _ tr hq with z | z
      · obtain ⟨c0, e1, e2⟩ := am q cv z
        exact ⟨c0, e1, eN _ _ e2 codeO_ne⟩
      · exact ⟨c', z, upd_same⟩
    refine k _ c' _ _ I2 (fun a o e n => ?_) (T1.ext fun a o e => (upd_ne (ne_of_none e new)).trans e) (I.hok.fresh (Nat.le_trans ge (Nat.le_of_lt lt))) upd_same ((upd_ne (Nat.ne_of_lt lt)).trans upd_same)
    have e1 := eN a o e n
    exact (upd_ne (ne_of_none e1 new)).trans e1
end
/-- the lambda at f -/
def lamV (f : Addr) (F : Addr → NF) (b : Expr) : Hp → V → Prop := fun G v => v = .ref f ∧ ∃ c', G f = some (LmO f (F c') b) ∧ G (F c').c = some (CodeO (F c').c (F c').qual)
theorem lamV_holds {K : PySem.W.Frag} {G : Hp} {f c' : Addr} {F : Addr → NF} {b : Expr} (h1 : G f = some (LmO f (F c') b)) (h2 : G (F c').c = some (CodeO (F c').c (F c').qual)) : (Sv.inv (lamV f F b)).holds K G (.ref f) := fun G' e =>
  ⟨rfl, c', e _ _ h1 lmO_ne, e _ _ h2 codeO_ne⟩
theorem lamV_of {K : PySem.W.Frag} {G : Hp} {v : V} {f : Addr} {F : Addr → NF} {b : Expr} (h : (Sv.inv (lamV f F b)).holds K G v) : v = .ref f ∧ ∃ c', G f = some (LmO f (F c') b) ∧ G (F c').c = some (CodeO (F c').c (F c').qual) := h G (ExtN.refl G)
theorem ext_out {K : PySem.W.Frag} {B H : Hp} {ρ : Ro} {μ : Mu} {σ : L2.St} {a : Addr} {φ : Heap → Prop} (S : Sy K B [] ρ μ σ H) (h : H a = some (.ext φ)) : a ∉ adr [] μ := fun z => by
  rcases List.mem_append.mp z with z | z
  · obtain ⟨p, hp, rfl⟩ := List.mem_map.mp z
    have q := S.ob p hp
    revert q
    cases p.2 with
    | lst xs => rintro ⟨vs, q, _⟩; rw [q] at h; cases h
    | dct xs => rintro ⟨vs, q, _⟩; rw [q] at h; cases h
    | ins C dx xs => rintro ⟨vs, q, _⟩; rw [q] at h; cases h
    | tab q => rintro ⟨vs, q, _⟩; rw [q] at h; cases h
  · cases z
theorem lm_make {X : Cx} {c P : Addr} {params : Arguments} {body : Expr} {scope : Scope} {pos : Pos} {ρ : Ro} {μ : Mu} {σ σ' : L2.St} {H : Hp} {Q : VK} (S : Sy X.K (fun _ => none) [] ρ ((P, .tab (X.env.qual ++ "<lambda>")) :: μ) σ' H) (hmu : ∀ p ∈ μ, noTab p.2) (TB : TabB X.base X.mg c P) (hcode : X.env.code = .ref c)
    (fre : ∀ y ∈ scope.names, y.2 = .free → X.env.scope.names.lookup y.1 = some .cell ∨ X.env.scope.names.lookup y.1 = some .free)
    (k : ∀ f H', Sy X.K (fun _ => none) [] ρ ((P, .tab (X.env.qual ++ "<lambda>")) :: μ) σ' H' → (Sv.inv (lamV f (lamF X params scope) body)).holds X.K (hid (adr [] ((P, .tab (X.env.qual ++ "<lambda>")) :: μ)) H') (.ref f) → Q (.ref f) H')
    (hdef : defaultsOf params X.env = ([], []) := by rfl) : tW X (.Lambda params body scope pos) σ H Q := fun pins s I =>
  lam_known I TB hcode S.tabs hdef (fun y hy e => (fre y hy e).elim (fun z => I.ok.has _ (.inl z)) fun z => I.ok.has _ (.inr z)) fun f c' H1 s' I1 eN T1 n0 h1 h2 => by
    have S1 := S.tabbed hmu eN T1
    refine ⟨.ref f, H1, I1, rfl, k f H1 S1 (lamV_holds (c' := c') ?_ ?_)⟩
    · rw [hid_out (ext_out S1 h1)]; exact h1
    · show hid _ H1 c' = some (CodeO c' (X.env.qual ++ "<lambda>"))
      rw [hid_out (ext_out S1 h2)]; exact h2
/-! ### what a lambda promises -/
structure LOk (P : Program) (w : World) (K : PySem.W.Frag) (mg : Str → Option Value) (base : Heap) (CX : CXT) (k : Nat) (F : Addr → NF) (b : Expr) (ps fr : List Str) (sp : List (Option V) → Sp) : Prop where
  run : ∀ (f c' : Addr) (A : Around) (outer : List Env) (s : Shared) (H : Hp) (us : List Value) (vs : List V) (ws : List (Option V)) (Q : VK) (E : XK), Room k A → Env0 P w K mg base A outer s H → H f = some (LmO f (F c') b) → H (F c').c = some (CodeO (F c').c (F c').qual) →
    CellsAt (F c').cl fr ws s.heap H → Vals vs us → sp ws vs H Q E → codeAny (model P w) A (.call (.ref f) ⟨us, []⟩) (CR CX outer P w H s Q E) s
theorem lok_of {P : Program} {w : World} {K : PySem.W.Frag} {mg : Str → Option Value} {base : Heap} {CX : CXT} {k : Nat} {F : Addr → NF} {b : Expr} {N ps fr : List Str} {sp : List (Option V) → Sp} (S : ∀ c', NScope N ps fr (F c').scope)
    (hb : ∀ (c' : Addr) (pm ctv : Value) (us : List Value), us.length = ps.length → bindArgs (PySem.W.kla_fn "<lambda>" (F c').qual (F c').params b (F c').scope (F c').cl pm (.ref (F c').c) ctv) ⟨us, []⟩ = pure (ps.zip us)) (hlen : ∀ ws vs H Q E, sp ws vs H Q E → vs.length = ps.length)
    (hbody : ∀ (f c' : Addr) (A : Around) (outer : List Env) (s : Shared) (H : Hp) (vs : List V) (ws : List (Option V)) (Q : VK) (E : XK), Room k (A.deeper (envF (F c') f s.heap.objs.size)) → ws.length = fr.length → sp ws vs H Q E → tW (ncx CX P w K mg base N (F c') f A outer s H E) b (startF N vs ws) H Q) :
    LOk P w K mg base CX (k + 1) F b ps fr sp := by
  refine ⟨fun f c' A outer s H us vs ws Q E hr e0 hf hc C r q => ?_⟩
  have hl := hlen _ _ _ _ _ q
  obtain ⟨pm, ctv, ho⟩ := lmO_at e0.hok hf
  have lim : s.heap.NoLimit := e0.mod.nolimit.keeps fun b o e => (e0.bs b o e).1
  refine PySem.W.kla_callFunE hr.depth ho rfl (S c').co (S c').gen rfl (codeO_at e0.hok hc) ?_
  rw [hb c' pm ctv us (by rw [← r.length]; exact hl)]
  refine wpAny_pure (wpAny_newFunctionEnv (S c').nocell (fun ⟨n, _⟩ hy => (S c').par n (List.of_mem_zip hy).1) (fun h₁ ns but => ⟨lim.fresh _ but, ?_⟩) (S c').kind)
  have up : ∀ b o, s.heap.get? b = some o → h₁.get? b = some o := fun b o e => but.extBut b o (Nat.ne_of_lt (Heap.lt_size e)) (Heap.get?_push_of_some _ e)
  have I : Inv (ncx CX P w K mg base N (F c') f A outer s H E) [] (startF N vs ws) H { s with heap := h₁, toks := s.toks + (ps.zip us).length } := inv_startN (S c') hr.hd e0 hl r C ns up
  refine PySem.W.kla_codeExpr (wpAny_mono (hbody f c' A outer s H vs ws Q E (hr.deeper _) C.len q [] _ I) (fun u s' hq => ?_) fun _ _ hq => hq)
  obtain ⟨v, H', I', rv, hq⟩ := hq
  exact ⟨v, H', I'.os, I'.bare, I'.base, I'.hok, rv, hq⟩
theorem cells_nil {h : Heap} {H : Hp} : CellsAt [] [] [] h H := ⟨rfl, fun _ _ z => by simp at z, fun _ _ _ z => by simp at z, fun _ _ z => by simp at z⟩
section
variable {X : Cx} {CX : CXT} {F : Addr → NF} {b : Expr} {ps fr : List Str} {i j k : Nat} {x : Str} {sp : List (Option V) → Sp} {E : XK} {e : Expr} {es : List Expr} {p pos : Pos} {σ : L2.St} {H : Hp} {Q : VK} {f c' : Addr} {ws : List (Option V)}
/-- a call of a lambda that a variable holds -/
theorem tW_callP (L : LOk X.prog X.w X.K X.mg X.base CX k F b ps fr sp) (hr : Room k X.A) (hx : Passes CX X E) (i : Nat) (hσ : σ[i]? = some (some (.ref f))) (hf : H f = some (LmO f (F c') b)) (hc : H (F c').c = some (CodeO (F c').c (F c').qual))
    (C : ∀ pins H' s, Inv X pins σ H' s → CellsAt (F c').cl fr ws s.heap H')
    (ha : tA X (e :: es) σ H fun vs H1 => H1 f = some (LmO f (F c') b) ∧ H1 (F c').c = some (CodeO (F c').c (F c').qual) ∧ sp ws vs H1 Q E) (hN : X.N[i]? = some x := by rfl) (hv : Vis X.env.scope x := by first | exact Or.inl rfl | exact Or.inr (Or.inl rfl) | exact Or.inr (Or.inr rfl))
    (hd : (x == ("__debug__" : Str)) = false := by decide) (hcd : (x == ("__classdict__" : Str)) = false := by decide)
    (he : starEach (e :: es) X.env = (false, eval e X.env) :: starEach es X.env := by rfl) (hpl : (backTo pos (starEach es X.env)).any (·.1) = false := by rfl) : tW X (.Call (.Name x p) (e :: es) [] pos) σ H Q := fun pins s I => by
  refine wpAny_Call_Name_kw (thn ((pe_var (pos := p) hN hv hd hcd).run pins s σ H (fun v H1 => v = .ref f ∧ H1 = H) I ⟨.ref f, hσ, rfl, rfl⟩) fun u s1 ⟨v, H1, I1, r1, q1⟩ => ?_)
  obtain ⟨rfl, rfl⟩ := q1
  cases r1
  obtain ⟨pm, ctv, o1⟩ := lmO_at I1.hok hf
  refine PySem.W.callWith_F (first := []) ⟨_, _, _, _, o1⟩ (thn (ha pos pins s1 I1) fun us s2 ⟨vs, H2, I2, r, g1, g2, q⟩ => ?_) he hpl
  obtain ⟨pm2, ctv2, o2⟩ := lmO_at I2.hok g1
  refine ⟨⟨_, _, _, _, o2⟩, ?_⟩
  show wpAny _ _ (call (.ref f) us) _ _ _
  refine wpAny_call (codeAny_mono (L.run f c' X.A X.stack s2 H2 us vs ws Q E hr I2.env0 g1 g2 (C pins H2 s2 I2) r q) fun res s' hq => ?_)
  rcases res with ex | fl
  · exact hx pins σ H2 s2 ex s' I2 hq
  · rcases fl with _ | _ | _ | u
    all_goals first | exact I2.after hq | exact False.elim hq
end
end J

set_option maxHeartbeats 4000000
/-! J33: xs.pop(i), xs.insert(i, y), xs[i] = e (e with effects), slices of one's own list, {}, str(i), t * n; a loop with effects over a list that is made with effects. -/
namespace J
open PySem PySem.Spec PyProof.Rows L2 Evl RZ
theorem paired_take {α β : Type} {F : α → β → Prop} : ∀ {xs : List α} {vs : List β} (n : Nat), Paired F xs vs → Paired F (xs.take n) (vs.take n)
  | _, _, 0, _ => by simpa using Paired.nil
  | _, _, n + 1, .nil => by simpa using Paired.nil
  | _, _, n + 1, .cons a t => by rw [List.take_succ_cons, List.take_succ_cons]; exact .cons a (paired_take n t)
theorem paired_drop {α β : Type} {F : α → β → Prop} : ∀ {xs : List α} {vs : List β} (n : Nat), Paired F xs vs → Paired F (xs.drop n) (vs.drop n)
  | _, _, 0, h => by simpa using h
  | _, _, n + 1, .nil => by simpa using Paired.nil
  | _, _, n + 1, .cons a t => by rw [List.drop_succ_cons, List.drop_succ_cons]; exact paired_drop n t
theorem paired_erase {α β : Type} {F : α → β → Prop} : ∀ {xs : List α} {vs : List β} (n : Nat), Paired F xs vs → Paired F (xs.eraseIdx n) (vs.eraseIdx n)
  | _, _, _, .nil => by simpa using Paired.nil
  | _, _, 0, .cons a t => by simpa using t
  | _, _, n + 1, .cons a t => by rw [List.eraseIdx_cons_succ, List.eraseIdx_cons_succ]; exact .cons a (paired_erase n t)
section
variable {X : Cx} {B H : Hp} {M M0 : List Addr} {ρ : Ro} {μ : Mu} {σ : L2.St} {pos pos' apos p : Pos} {e o b c iter : Expr} {es : List Expr} {s : Sv} {a : Addr} {i n : Nat} {xs : List Sv} {z : Int} {rest body : List Stmt} {D' : Ends} {ds : List D} {d : D}
/-- xs.pop(i) -/
theorem sy_popAt (S : Sy X.K B M0 ρ μ σ H) (ho : Jv X o σ H (.ref a)) (hx : Jd X (adr M0 μ) b σ H (.int z)) (hi : μ[i]? = some (a, .lst xs)) (hz : z = (n : Int)) (hn : n < xs.length) (hl : xs.length ≤ 90000) (k : ∀ H', Sy X.K B M0 ρ (μ.set i (a, .lst (xs.eraseIdx n))) σ H' → tB X rest D' σ H')
    (hsw : swapsWith (.Call (.Attribute o "pop" apos) [b] [] pos) none pos'.line X.env = pure false := by rfl)
    (hbase : attributeBase o "pop" X.env (eval o X.env) = eval o X.env := by rfl)
    (hfew : ((backTo pos (starEach [b] X.env)).all (fun x => !x.1) && (backToKw pos (keywordEach [] X.env)).all (fun x => x.1.isSome)
      && decide (([b] : List Expr).length + ([] : List Keyword).length + (if ([] : List Keyword).isEmpty then 0 else 1) < 30)) = true := by rfl)
    (hline : (apos.endLine == pos.line) = true := by rfl) (hs : starEach [b] X.env = (false, eval b X.env) :: starEach [] X.env := by rfl) (hplain : (backTo pos (starEach [] X.env)).any (·.1) = false := by rfl) : tB X (.Expr (.Call (.Attribute o "pop" apos) [b] [] pos) pos' :: rest) D' σ H :=
  tB_exprX (leW (pe_bm PySem.F.plainAttrs_list PySem.F.slot_list_pop PySem.F.type_list_pop mt_popAt pe_W (pa_cons pe_W pa_nil hs) hbase hfew hline hs hplain) (S.evV ho fun H1 S1 x1 => by
    obtain ⟨vs, h1, h2⟩ := S1.own hi
    refine ⟨.inl ⟨rfl, _, .inl (.inl h1)⟩, S1.ev (hx.mono x1 S.all) fun v H2 S2 x2 p2 => ?_⟩
    obtain ⟨ws, g1, g2⟩ := S2.own hi
    have hlen := paired_len g2
    obtain ⟨y, hy⟩ : ∃ y, ws[n]? = some y := ⟨_, List.getElem?_eq_getElem (by omega)⟩
    refine ⟨a, ws, z, n, y, rfl, by rw [dInt p2], g1, by omega, by omega, ?_, hy, k _ (S2.upd _ hi ⟨_, upd_same, paired_erase n g2⟩)⟩
    rw [hz]; unfold seqIndex?; simp; omega)) hsw
/-- xs.insert(i, y) -/
theorem sy_ins (S : Sy X.K B M0 ρ μ σ H) (ho : Jv X o σ H (.ref a)) (hx : Jd X (adr M0 μ) b σ H (.int z)) (hv : Js X (adr M0 μ) c σ H s) (hi : μ[i]? = some (a, .lst xs)) (hz : z = (n : Int)) (hn : n ≤ xs.length) (hl : xs.length ≤ 90000) (k : ∀ H', Sy X.K B M0 ρ (μ.set i (a, .lst (xs.take n ++ [s] ++ xs.drop n))) σ H' → tB X rest D' σ H')
    (hsw : swapsWith (.Call (.Attribute o "insert" apos) [b, c] [] pos) none pos'.line X.env = pure false := by rfl)
    (hbase : attributeBase o "insert" X.env (eval o X.env) = eval o X.env := by rfl)
    (hfew : ((backTo pos (starEach [b, c] X.env)).all (fun x => !x.1) && (backToKw pos (keywordEach [] X.env)).all (fun x => x.1.isSome)
      && decide (([b, c] : List Expr).length + ([] : List Keyword).length + (if ([] : List Keyword).isEmpty then 0 else 1) < 30)) = true := by rfl)
    (hline : (apos.endLine == pos.line) = true := by rfl) (hs : starEach [b, c] X.env = (false, eval b X.env) :: starEach [c] X.env := by rfl) (hs2 : starEach [c] X.env = (false, eval c X.env) :: starEach [] X.env := by rfl) (hplain : (backTo pos (starEach [c] X.env)).any (·.1) = false := by rfl) : tB X (.Expr (.Call (.Attribute o "insert" apos) [b, c] [] pos) pos' :: rest) D' σ H :=
  tB_exprX (leW (pe_bm PySem.F.plainAttrs_list PySem.F.slot_list_insert PySem.F.type_list_insert mt_insert pe_W (pa_cons pe_W (pa_cons pe_W pa_nil hs2) hs) hbase hfew hline hs hplain) (S.evV ho fun H1 S1 x1 => by
    obtain ⟨vs, h1, h2⟩ := S1.own hi
    refine ⟨.inl ⟨rfl, _, .inl (.inl h1)⟩, S1.ev (hx.mono x1 S.all) fun v H2 S2 x2 p2 => ?_⟩
    refine hv S.all H2 (x1.trans x2) _ fun w H3 x3 p3 => ?_
    have S3 := S2.ex x3
    obtain ⟨ws, g1, g2⟩ := S3.own hi
    have hlen := paired_len g2
    refine ⟨a, ws, z, w, rfl, by rw [dInt p2], g1, sz_lt (by omega), by omega, by omega, ?_⟩
    have e : z.toNat = n := by omega
    rw [e]
    exact k _ (S3.upd _ hi ⟨_, upd_same, paired_app (paired_app (paired_take n g2) (.cons p3 .nil)) (paired_drop n g2)⟩))) hsw
/-- xs[i] = e, e with effects: what is left is the store -/
theorem sy_setIxE (h : tW X e σ H fun v H1 => ∃ (B : Hp) (M0 : List Addr) (ρ : Ro) (μ : Mu) (s : Sv) (i : Nat) (a : Addr) (xs : List Sv) (n : Nat), Sy X.K B M0 ρ μ σ H1 ∧ s.holds X.K (hid (adr M0 μ) H1) v ∧ Jv X o σ H1 (.ref a) ∧ Jd X (adr M0 μ) b σ H1 (.int (n : Int)) ∧ μ[i]? = some (a, .lst xs) ∧ n < xs.length ∧
      ∀ H', Sy X.K B M0 ρ (μ.set i (a, .lst (xs.set n s))) σ H' → tB X rest D' σ H')
    (ha : ∀ v, assign (.Subscript o b pos') X.env v = (do
      let ov ← holding [v] (eval o X.env)
      let iv ← holding [v, ov] (eval b X.env)
      standAt pos'
      holding [v, ov, iv] (setItem ov iv v)
      release [v, ov, iv] []) := by intro _; rfl)
    (hs : swapsWithSole [.Subscript o b pos'] e pos.line X.env = pure false := by rfl) (hw : swappedStores [.Subscript o b pos'] e X.env = pure none := by rfl) (h1 : (assignEach [.Subscript o b pos'] X.env).map (·.2) = [assign (.Subscript o b pos') X.env] := by rfl) : tB X (.Assign [.Subscript o b pos'] e pos :: rest) D' σ H :=
  tB_cons (ps_asg pe_W (pg_sub pe_W pe_W set_list ha) hs hw h1) (tW_mono h fun v H1 ⟨B, M0, ρ, μ, s, i, a, xs, n, S1, p1, ho, hx, hi, hn, k⟩ => S1.evV ho fun H2 S2 x2 => S2.ev (hx.mono x2 S1.all) fun w H3 S3 x3 p3 => by
    obtain ⟨vs, h1, h2⟩ := S3.own hi
    have hl := paired_len h2
    refine ⟨a, vs, (n : Int), n, rfl, dInt p3, h1, ?_, k _ (S3.upd _ hi ⟨_, upd_same, paired_set (p1.ex (hid_ex (x2.trans x3))) h2⟩)⟩
    unfold ixN
    rw [if_pos (Int.natCast_nonneg n), if_pos (by omega)]
    rfl)
/-- a new list that is made of one's own, nothing of which changes meanwhile -/
theorem Sy.lookN (S : Sy X.K B M0 ρ μ σ H) (hi : μ[i]? = some (a, .lst xs)) (h : Jn X (adr M0 (μ.eraseIdx i)) e σ H ds) (hd : noLs ds = true) : Jn X (adr M0 μ) e σ H ds := fun al H1 x Q q => by
  obtain ⟨vs, h1, _⟩ := S.own hi
  refine h (fun b hb => al b (erase_sub b hb)) H1 x Q fun u ws H2 y hn hu pu => q u ws H2 y hn hu (dp_hidA (H := H2) (M' := u :: adr M0 (μ.eraseIdx i)) (a := a) (vs := vs) ((x.trans y) _ _ h1) (fun b hb => ?_) ds ws hd pu)
  rcases List.mem_cons.mp hb with hb | hb
  · exact .inr (hb ▸ List.mem_cons_self)
  · rcases List.mem_append.mp hb with w | w
    · obtain ⟨p, hp, e⟩ := List.mem_map.mp w
      obtain ⟨j, hj⟩ := List.mem_iff_getElem?.mp hp
      by_cases hji : j = i
      · subst hji
        rw [hi] at hj; cases hj
        exact .inl e.symm
      · exact .inr (List.mem_cons_of_mem _ (List.mem_append_left _ (List.mem_map.mpr ⟨p, List.mem_eraseIdx_iff_getElem?.mpr ⟨j, hji, hj⟩, e⟩)))
    · exact .inr (List.mem_cons_of_mem _ (List.mem_append_right _ w))
theorem jn_slLTo (ha : Jd X M o σ H (.list ds)) (hb : Jd X M b σ H (.int z)) (hz : z = (n : Int)) : Jn X M (.Subscript o (.Slice none (some b) none p) pos) σ H (ds.take n) := fun al H1 x Q q =>
  leW (pe_slice sl_list pe_W po_none (po_some pe_W)) (ha al H1 x _ fun v H2 y p => hb al H2 (x.trans y) _ fun w H3 y3 r => by
    obtain ⟨t, ys, e1, e2, e3⟩ := dLst p
    have e3' := e3.ex (hid_ex (M := M) y3)
    have hl := e3.len
    refine ⟨z, dInt r, t, ys, e1, ex_l hid_le (ex_l (hid_ex y3) e2), fun c hc => ?_⟩
    have e : L2.cutV ys none (some z) = ys.take n := by
      unfold L2.cutV
      rw [hz, HT.sIx_none, HT.sIx_nat, List.drop_zero, Nat.sub_zero]
      rcases Nat.le_total n ys.length with h | h
      · rw [Nat.min_eq_left h]
      · rw [Nat.min_eq_right h, List.take_of_length_le (Nat.le_refl _), List.take_of_length_le h]
    have n1 : H1 c = none := by
      cases h0 : H1 c with
      | none => rfl
      | some o => rw [(y.trans y3) _ _ h0] at hc; cases hc
    rw [e]
    refine q c _ _ ((y.trans y3).trans (Ex.new hc)) n1 upd_same ?_
    rw [hid_new hc]
    exact dpTake n e3')
theorem jd_dict0 : Jd X M (.Dict [] [] pos) σ H (.dict []) := fun al H1 x Q q => leW pe_dnewK fun p hn => q _ _ (Ex.new hn) (.dct0 (.inl ((al.ex x).newEx hn)))
theorem jd_strI {p : Pos} {z : Int} (hm : X.mg "str" = none) (ha : Jd X M o σ H (.int z)) (hz : z.natAbs.log2 < 1920) (hg : Gl X "str" := by rfl) (hs : starEach [o] X.env = (false, eval o X.env) :: starEach [] X.env := by rfl) :
    Jd X M (.Call (.Name "str" p) [o] [] pos) σ H (.str (toString z)) :=
  jd_Ty1 call_str_int hm (by rfl) ha (fun v H1 Q x r k => ⟨z, by rw [dInt r], hz, k _ H1 (Ex.refl _) (.str _)⟩) hg (by decide) (by decide) hs
theorem tuple_mul0 (l : Addr) (items : Array Value) (n : Nat) (u : Tok) (hne : items.isEmpty = false) :
    Meets (Builtin.«tuple.__mul__» ⟨[.ref l, .int 0 u], []⟩) (fun _ R s => ∃ dd sl, s.heap.get? l = some { cls := .type "tuple", dict := dd, data := .seq items n, slots := sl } ∧ R (.ok (.ret (.ref s.heap.objs.size))) { s with heap := s.heap.push { cls := .type "tuple", data := .seq #[] }, toks := s.toks }) :=
  .of_wp fun prog w A R s h => by
    obtain ⟨hp, g, d, tk, os⟩ := s
    obtain ⟨dd, sl, hl, h⟩ := h
    have f1 := AutoSeq1.idx_int
    have c1 : (items.isEmpty || (0 : Int) == 1) = false := by rw [hne]; rfl
    have c2 : (decide ((0 : Int) ≤ 0) || items.isEmpty) = true := by simp
    wp_walk using wpAny_loadPart' hl
    repeat (first
      | (refine wpAny_ite_false (decide_eq_false (by decide)) ?_; wp_walk using wpAny_loadPart' hl)
      | (refine wpAny_ite_false (decide_eq_false (by rw [c1]; exact Bool.false_ne_true)) ?_; wp_walk using wpAny_loadPart' hl)
      | (refine wpAny_ite_true (decide_eq_true c2) ?_; wp_walk using wpAny_loadPart' hl))
    exact ⟨_, rfl, h⟩
def rRep0 (K : PySem.W.Frag) : R2 := fun x y H Q => ∃ l xs, x = .ref l ∧ y = .int 0 ∧ SqT K H l xs ∧ xs ≠ [] ∧ ∀ p, H p = none → Q (.ref p) (upd H p (.tup []))
theorem op_rep0 {X : Cx} : OpR X (binaryOp .Mult) (rRep0 X.K) := by
  intro pins s σ H x y v u Q I rx ry h
  obtain ⟨l, xs, rfl, rfl, hT, hne, q⟩ := h
  cases rx
  obtain ⟨t, rfl⟩ := ry
  obtain ⟨its, r, ⟨⟨cls, dd, data, sl⟩, ho, hc, n, hd⟩, hs⟩ := I.tuple hT
  simp only at hc hd
  subst hc hd
  have hi : its.toArray.isEmpty = false := by
    have hl := r.length
    cases its with
    | nil => exact absurd (List.eq_nil_of_length_eq_zero (by simpa using hl)) hne
    | cons a b => rfl
  refine wpAny_binaryOp_repeat_ref (T := "tuple") (U := "int") (by decide) ⟨_, ho, rfl⟩ (fun s' => typeIs_int s' 0 t) noFill_tuple_mul F.fills_int_mul F.slot_int_rmul repeat_tuple F.slot_int_index.lookup
    (call_meets F.slot_int_rmul (typeIs_int s 0 t) F.entry_int_rmul (F.args_int_rmul_2 _ _) (int_rmul_tuple 0 t l its.toArray n dd sl)
      ⟨ho, rfl, ⟨_, ho, rfl⟩, call_meets F.slot_tuple_mul ⟨_, ho, rfl⟩ F.entry_tuple_mul (F.args_tuple_mul_2 _ _) (tuple_mul0 l its.toArray n t hi) ⟨dd, sl, ho, ?_⟩⟩)
  refine ⟨.ref s.heap.objs.size, _, I.laid (t' := s.toks) (o := .tup []) (fun b ob q => Heap.get?_push_of_some _ q) (Nat.le_refl _) ?_, rfl, q _ (I.hok.fresh (Nat.le_refl _))⟩
  exact ⟨by simp, _, .nil, IsTup.new _ _⟩
theorem dpReps {K : PySem.W.Frag} {G : Hp} {vs : List V} {ds : List D} (h : DpAll K G vs ds) : ∀ n : Nat, DpAll K G (List.replicate n vs).flatten (List.replicate n ds).flatten
  | 0 => .nil
  | n + 1 => by rw [List.replicate_succ, List.replicate_succ, List.flatten_cons, List.flatten_cons]; exact h.append (dpReps h n)
/-- t * n, t not empty, n not below 0 -/
theorem jd_reps {m : Int} (ha : Jd X M o σ H (.tuple ds)) (hb : Jd X M b σ H (.int m)) (h0 : 0 ≤ m) (h2 : m ≤ 1000) (hne : ds ≠ []) (hl : ds.length ≤ 1000) : Jd X M (.BinOp o .Mult b pos) σ H (.tuple (List.replicate m.toNat ds).flatten) := fun al H1 x Q q => by
  have ne : ∀ {G : Hp} {ys : List V}, DpAll X.K G ys ds → ys ≠ [] := fun h z => by subst z; cases h; exact hne rfl
  by_cases c0 : m = 0
  · subst c0
    exact leW (pe_op op_rep0 pe_W pe_W) (ha al H1 x _ fun v H2 y p => hb al H2 (x.trans y) _ fun w H3 z r => by
      obtain ⟨t, ys, e1, e2, e3⟩ := dTup p
      exact ⟨t, ys, e1, dInt r, ex_t z (ex_t hid_le e2), ne e3, fun c hc => q _ _ ((y.trans z).trans (Ex.new hc)) (.tup (SqT.of ((al.ex ((x.trans y).trans z)).newEx hc)) .nil)⟩)
  · by_cases c1 : m = 1
    · subst c1
      exact leW (pe_op op_rep1 pe_W pe_W) (ha al H1 x _ fun v H2 y p => hb al H2 (x.trans y) _ fun w H3 z r => by
        obtain ⟨t, ys, e1, e2, e3⟩ := dTup p
        refine ⟨t, ys, e1, dInt r, ex_t z (ex_t hid_le e2), e1 ▸ q _ H3 (y.trans z) ?_⟩
        have e : (List.replicate (1 : Int).toNat ds).flatten = ds := by show (List.replicate 1 ds).flatten = ds; simp
        rw [e]
        exact p.ex (hid_ex z))
    · exact leW (pe_op op_repT pe_W pe_W) (ha al H1 x _ fun v H2 y p => hb al H2 (x.trans y) _ fun w H3 z r => by
        obtain ⟨t, ys, e1, e2, e3⟩ := dTup p
        refine ⟨t, m, ys, e1, dInt r, ex_t z (ex_t hid_le e2), ne e3, by omega, h2, by rw [e3.len]; exact hl, fun c hc => ?_⟩
        exact q _ _ ((y.trans z).trans (Ex.new hc)) (.tup (SqT.of ((al.ex ((x.trans y).trans z)).newEx hc)) (dpReps (e3.ex ((hid_ex z).trans (hid_ex (M := M) (Ex.new (o := .tup (List.replicate m.toNat ys).flatten) hc)))) _))
)
/-! ### a loop over one's own list: what stands in it stays -/
/-- the value v, and what it holds -/
def pinS (K : PySem.W.Frag) (s : Sv) (v : V) : Sv := .inv fun G w => w = v ∧ s.holds K G w
def pins (K : PySem.W.Frag) : List Sv → List V → List Sv
  | s :: ts, v :: vs => pinS K s v :: pins K ts vs
  | _, _ => []
theorem pins_of {K : PySem.W.Frag} {G : Hp} : ∀ {ts : List Sv} {vs : List V}, Paired (fun s v => Sv.holds K G s v) ts vs → Paired (fun s v => Sv.holds K G s v) (pins K ts vs) vs
  | _, _, .nil => .nil
  | _, _, .cons a t => .cons (fun G' e => ⟨rfl, svN e a⟩) (pins_of t)
theorem pins_eq {K : PySem.W.Frag} {G G0 : Hp} : ∀ {ts : List Sv} {vs ws : List V}, Paired (fun s v => Sv.holds K G0 s v) ts vs → Paired (fun s v => Sv.holds K G s v) (pins K ts vs) ws → ws = vs ∧ Paired (fun s v => Sv.holds K G s v) ts ws
  | _, _, _, .nil, h => by cases h; exact ⟨rfl, .nil⟩
  | s :: ts, v :: vs, _, .cons a t, h => by
    cases h with
    | cons x y =>
      obtain ⟨rfl, z⟩ := x _ (LamX.ExtN.refl _)
      obtain ⟨rfl, z2⟩ := pins_eq t y
      exact ⟨rfl, .cons z z2⟩
theorem sy_forP {x : Str} (j : Nat) (h : tW X iter σ H fun v H2 => ∃ (a : Addr) (ts : List Sv) (μ2 : Mu), v = .ref a ∧ Sy X.K B M0 ρ ((a, .lst ts) :: μ2) σ H2 ∧ ∃ I : Nat → Ro → Mu → Prop, I 0 ρ μ2 ∧
      (∀ m i s ρ' μ' σ' H', noTab m → ts[i]? = some s → I i ρ' μ' → Sy X.K B M0 (ρ'.set j (some s)) ((a, m) :: μ') σ' H' →
        tB X body ⟨fun σ2 H2 => ∃ ρ2 μ2, I (i + 1) ρ2 μ2 ∧ Sy X.K B M0 ρ2 ((a, m) :: μ2) σ2 H2, D'.rt, tB X rest D', fun σ2 H2 => ∃ ρ2 μ2, I (i + 1) ρ2 μ2 ∧ Sy X.K B M0 ρ2 ((a, m) :: μ2) σ2 H2⟩ σ' H') ∧
      ∀ ρ' μ' σ' H', I ts.length ρ' μ' → Sy X.K B M0 ρ' μ' σ' H' → tB X rest D' σ' H')
    (hp : PassesOwn (model X.prog X.w) X.A X.env X.xe) (hc : X.calm = true) (hN : X.N.Nodup) (hi : X.N[j]? = some x := by rfl) (hx : Loc X.env.scope x := by first | exact Or.inl rfl | exact Or.inr rfl) (hf : X.fn x = true ∨ X.env.scope.names.lookup x = some .local := by first | exact .inl rfl | exact .inr rfl)
    (hfs : ∀ x, foldedSetIterable iter X.env x = pure x := by intro _; rfl) : tB X (.For (.Name x p) iter body [] pos :: rest) D' σ H := by
  refine tB_cons (ps_for hp hc pi_I pg_G pss_B hfs) (leI (pi_list pe_W) (tW_mono h fun v H2 ⟨a, ts, μ2, ev, S2, I, h0, hs, hd⟩ => ?_))
  obtain ⟨vs, g1, g2⟩ := S2.own (i := 0) rfl
  have g1 : H2 a = some (.lst vs) := g1
  refine ⟨a, ev, ⟨vs, .inl (.inl g1)⟩, ?_⟩
  have S3 : Sy X.K B M0 ρ ((a, .lst (pins X.K ts vs)) :: μ2) σ H2 := by
    refine ⟨S2.sl, S2.ln, fun p hp => ?_, S2.al, S2.bs, fun p hp => ?_, S2.dj.1, fun p hp => ?_⟩
    · rcases List.mem_cons.mp hp with rfl | hp
      · exact ⟨vs, g1, pins_of g2⟩
      · exact S2.ob p (List.mem_cons_of_mem _ hp)
    · rcases List.mem_cons.mp hp with rfl | hp
      · exact S2.nb (a, .lst ts) List.mem_cons_self
      · exact S2.nb p (List.mem_cons_of_mem _ hp)
    · rcases List.mem_cons.mp hp with rfl | hp
      · exact S2.dj.2 (a, .lst ts) List.mem_cons_self
      · exact S2.dj.2 p (List.mem_cons_of_mem _ hp)
  have own : ∀ {ρ' : Ro} {μ' : Mu} {σ' : L2.St} {H' : Hp}, Sy X.K B M0 ρ' ((a, .lst (pins X.K ts vs)) :: μ') σ' H' → H' a = some (.lst vs) ∧ Paired (fun s v => Sv.holds X.K (hid (adr M0 ((a, .lst (pins X.K ts vs)) :: μ')) H') s v) ts vs := fun S' => by
    obtain ⟨ws, q1, q2⟩ := S'.own (i := 0) rfl
    obtain ⟨rfl, q3⟩ := pins_eq g2 q2
    exact ⟨q1, q3⟩
  have hlen := paired_len g2
  refine for_it (walk_list (K := X.K) (a := a) (xs := vs)) (fun i σ' H' => ∃ ρ' μ', I i ρ' μ' ∧ Sy X.K B M0 ρ' ((a, .lst (pins X.K ts vs)) :: μ') σ' H') ⟨ρ, μ2, h0, S3⟩ (fun i σ' H' hi ⟨ρ', μ', _, S'⟩ => .inl (.inl (own S').1)) (fun i u σ' H' H3 hlt ⟨ρ', μ', hI, S'⟩ y => ?_) fun σ' H' ⟨ρ', μ', hI, S'⟩ => hd ρ' μ' σ' H' (by rw [hlen]; exact hI) S'.drop1
  obtain ⟨rfl, hy⟩ := y
  obtain ⟨s, hs1⟩ : ∃ s, ts[i]? = some s := ⟨_, List.getElem?_eq_getElem (by omega)⟩
  obtain ⟨w, hw1, hw2⟩ := paired_get (own S').2 hs1
  rw [hy] at hw1
  cases hw1
  exact leG (pg_name hN hi hx hf) (hs (.lst (pins X.K ts vs)) i s ρ' μ' _ _ trivial hs1 hI (S'.set j hw2))
end
end J

set_option maxHeartbeats 4000000
/-! J34: [1 for .. if ..] != [] as a test; or of five. -/
namespace J
open PySem PySem.Spec PyProof.Rows L2 Evl RZ
section
variable {X : Cx} {M : List Addr} {σ : L2.St} {H : Hp} {a b c e g : Expr} {pos : Pos} {k l m n o : Bool}
/-- or of five -/
theorem jt_or5 (ha : Jt X M a σ H k) (hb : k = false → Jt X M b σ H l) (hc : k = false → l = false → Jt X M c σ H m) (he : k = false → l = false → m = false → Jt X M e σ H n) (hg : k = false → l = false → m = false → n = false → Jt X M g σ H o) :
    Jt X M (.BoolOp .Or [a, b, c, e, g] pos) σ H (k || (l || (m || (n || o)))) := fun al H1 x Q q =>
  leT (pw_or pt_T (pw_or pt_T (pw_or pt_T (pw_or pt_T (pw_or1 pt_T))))).pt (ha al H1 x _ fun H2 y => by
    cases k with
    | true => rw [if_pos rfl]; exact q H2 y
    | false =>
      rw [if_neg Bool.false_ne_true]
      exact hb rfl al H2 (x.trans y) _ fun H3 z => by
        cases l with
        | true => rw [if_pos rfl]; exact q H3 (y.trans z)
        | false =>
          rw [if_neg Bool.false_ne_true]
          exact hc rfl rfl al H3 ((x.trans y).trans z) _ fun H4 z2 => by
            cases m with
            | true => rw [if_pos rfl]; exact q H4 ((y.trans z).trans z2)
            | false =>
              rw [if_neg Bool.false_ne_true]
              exact he rfl rfl rfl al H4 (((x.trans y).trans z).trans z2) _ fun H5 z3 => by
                cases n with
                | true => rw [if_pos rfl]; exact q H5 (((y.trans z).trans z2).trans z3)
                | false => rw [if_neg Bool.false_ne_true]; exact hg rfl rfl rfl rfl al H5 ((((x.trans y).trans z).trans z2).trans z3) _ fun H6 z4 => q H6 ((((y.trans z).trans z2).trans z3).trans z4))
end
section
variable {α : Type} {X : Cx} {B H : Hp} {M0 : List Addr} {ρ : Ro} {μ : Mu} {σ : L2.St} {pos pos2 p2 p3 : Pos} {tg iter c : Expr} {scope : Scope} {own : List (Str × Nat)} {js : List Nat} {kk : Nat}
theorem ones_nil (t : α → Bool) : ∀ xs : List α, (((xs.map fun x => if t x then some (PyData.int 1) else none).filterMap id).isEmpty) = !xs.any t
  | [] => rfl
  | x :: xs => by
    have ih := ones_nil t xs
    cases h : t x with
    | true => simp [h]
    | false => simpa [h] using ih
/-- [1 for tg in iter if c] != [] -/
theorem jt_some (hu : X.A.units + 64 < cLine) (S : Sy X.K B M0 ρ μ σ H) {w : α → D} {xs : List α} (hw : Jw X (adr M0 μ) tg iter σ H (xs.map w)) (t : α → Bool) (hz : xs.length ≤ 90000) (f : D → Ro → Ro) (hjs : ∀ j ∈ js, j ∈ own.map (·.2))
    (hg : ∀ X' x, Blk X scope X' → x ∈ xs → Jg X' tg js (w x) (wip ρ (own.map (·.2))) (f (w x) (wip ρ (own.map (·.2)))))
    (ht : ∀ (i : Nat) (x : α) X' B' M' σ' H', xs[i]? = some x → Blk X scope X' → Sy X'.K B' M' (f (w x) (wip ρ (own.map (·.2)))) μ σ' H' → Jt X' (adr M' μ) c σ' H' (t x))
    (ok : BlkOk X.N X.env.scope scope own) (hc : X.calm = true) (hN : X.N.Nodup) (hs : ∀ x, foldedSetIterable iter X.env x = pure x := by intro _; rfl) :
    Jt X (adr M0 μ) (.Compare (.ListComp (.Constant (.int 1) kk p3) [⟨tg, iter, [c], 0⟩] scope pos) [.NotEq] [.List [] p2] pos2) σ H (xs.any t) := by
  have z := sy_lcN (ifs := [c]) (elt := .Constant (.int 1) kk p3) (pos := pos) S hw (xs.map fun x => if t x then some (PyData.int 1) else none) (by simp) (by simpa using hz) f hjs (fun X' d b hd => ?_) (fun i d o X' B' M' σ' H' h1 h2 b S' => ?_) (fun i d x X' B' M' σ' H' h1 h2 b S' => ?_) ok hc hN hs
  · refine Jt.is (jt_ne hu z.jd (jd_lst ja_nil) ?_ rfl) (by rw [eqv_nil, ones_nil, Bool.not_not])
    refine Lay.shaped (n := 2) (lay_lst.mpr fun x hx => ?_) (by decide)
    obtain ⟨y, hy, e⟩ := List.mem_filterMap.mp hx
    obtain ⟨q, _, rfl⟩ := List.mem_map.mp hy
    have e : (if t q then some (PyData.int 1) else none) = some x := e
    split at e
    · cases e; exact lay_int
    · cases e
  · obtain ⟨x, hx, rfl⟩ := List.mem_map.mp hd
    exact hg X' x b hx
  · rw [List.getElem?_map] at h1 h2
    obtain ⟨n, hn, rfl⟩ := Option.map_eq_some_iff.mp h1
    rw [hn] at h2
    cases h2
    refine jts_one (Jt.is (ht i n X' B' M' σ' H' hn b S') ?_)
    show t n = (if t n then some (PyData.int 1) else none).isSome
    cases t n <;> rfl
  · rw [List.getElem?_map] at h1 h2
    obtain ⟨n, hn, rfl⟩ := Option.map_eq_some_iff.mp h1
    rw [hn] at h2
    have h2 : (if t n then some (PyData.int 1) else none) = some x := Option.some.inj h2
    split at h2
    · cases h2; exact jd_int
    · cases h2
end
end J

set_option maxHeartbeats 4000000
/-! J35: argument lists by the heads of their items; tests with effects. -/
namespace J
open PySem PySem.Spec PyProof.Rows L2 Evl RZ
def notSt : Expr → Bool
  | .Starred .. => false
  | _ => true
theorem sE (e : Expr) (es : List Expr) (env : Env) (h : notSt e = true) : starEach (e :: es) env = (false, eval e env) :: starEach es env := by
  cases e <;> first | rfl | cases h
section
variable {X : Cx} {M : List Addr} {σ : L2.St} {H : Hp} {a b c e : Expr} {es : List Expr} {d : D} {ds : List D} {s : Sv} {ss : List Sv} {pos : Pos} {Q : Bool → Hp → Prop}
theorem ja_cc (ha : Jd X M e σ H d) (hr : Ja X M es σ H ds) (h : notSt e = true := by rfl) : Ja X M (e :: es) σ H (d :: ds) := ja_cons ha hr (sE _ _ _ h)
theorem jsa_cc (ha : Js X M e σ H s) (hr : Jsa X M es σ H ss) (h : notSt e = true := by rfl) : Jsa X M (e :: es) σ H (s :: ss) := jsa_cons ha hr (sE _ _ _ h)
theorem tA_cc {Q : List V → Hp → Prop} (h : tW X e σ H fun v H1 => tA X es σ H1 fun vs H2 => Q (v :: vs) H2) (hs : notSt e = true := by rfl) : tA X (e :: es) σ H Q := tA_cons h (sE _ _ _ hs)
theorem tT_and (h : tT X a σ H fun k H1 => if k = true then tT X b σ H1 Q else Q false H1) : tT X (.BoolOp .And [a, b] pos) σ H Q := leT (pw_and pt_T (pw_and1 pt_T)).pt h
theorem tT_and3 (h : tT X a σ H fun k H1 => if k = true then tT X b σ H1 (fun l H2 => if l = true then tT X c σ H2 Q else Q false H2) else Q false H1) : tT X (.BoolOp .And [a, b, c] pos) σ H Q := leT (pw_and pt_T (pw_and pt_T (pw_and1 pt_T))).pt h
theorem tT_or3 (h : tT X a σ H fun k H1 => if k = true then Q true H1 else tT X b σ H1 (fun l H2 => if l = true then Q true H2 else tT X c σ H2 Q)) : tT X (.BoolOp .Or [a, b, c] pos) σ H Q := leT (pw_or pt_T (pw_or pt_T (pw_or1 pt_T))).pt h
/-- a comparison of two ints that are made with effects -/
theorem tT_cmp {op : CmpOp} {g : Int → Int → Bool} (ho : OpR X (compareOp op) (rI0 fun i j => .bl (g i j))) (h : tW X a σ H fun v H1 => tW X b σ H1 fun w H2 => ∃ i j, v = .int i ∧ w = .int j ∧ Q (g i j) H2) (h1 : (op == .In) = false := by rfl) (h2 : (op == .NotIn) = false := by rfl) : tT X (.Compare a [op] [b] pos) σ H Q :=
  leT (pt_cmpR ho pe_W pe_W (nm b h1 h2)) (tW_mono h fun v H1 q => tW_mono q fun w H2 ⟨i, j, e1, e2, q2⟩ => ⟨i, j, e1, e2, _, rfl, q2⟩)
/-- if without else, where what stands behind it is told once -/
theorem tB_when {A rest : List Stmt} {D' : Ends} (Pz : L2.St → Hp → Prop) (fin : ∀ σ' H', Pz σ' H' → tB X rest D' σ' H') (h : (∀ σ' H', Pz σ' H' → tB X rest D' σ' H') → tT X c σ H fun k H' => if k = true then tB X A { D' with nx := tB X rest D' } σ H' else tB X rest D' σ H') : tB X (.If c A [] pos :: rest) D' σ H := by
  refine tB_if (leT pt_T (fun pins s I => wpAny_mono (h fin pins s I) (fun v s' q => ?_) fun _ _ q => q))
  obtain ⟨H', I', q⟩ := q
  refine ⟨H', I', ?_⟩
  cases v with
  | true => rw [if_pos rfl] at q ⊢; exact q
  | false => rw [if_neg Bool.false_ne_true] at q ⊢; exact tB_nil q
end
end J

set_option maxHeartbeats 4000000
/-! J36: a keyword of a def of data; two lists of one's own laid together; lambdas that capture nothing. -/
namespace J
open PySem PySem.Spec PyProof.Rows L2 Evl RZ LamX NdefX
section
variable {X : Cx} {B H : Hp} {M M0 : List Addr} {ρ : Ro} {μ : Mu} {σ : L2.St} {pos p kpos : Pos} {e : Expr} {k i j : Nat} {x nm : Str} {R : List D → D → Prop} {d d' : D} {f u v : Addr} {fd : FuncData} {ss ts : List Sv} {Q : VK}
/-- f(nm = e), f of data, one parameter, that raises nothing -/
theorem jd_callDK (ok : FnOk X.prog X.w X.K X.mg X.base CX0 k f fd [nm] (spD X.K 1 R)) (hm : X.mg x = some (.ref f)) (hk : PySem.W.keepIn X.K (.ref f) = true) (hb : KBn X.K fd [nm] 0 [nm] (fun us ws => us ++ ws) (fun vs zs => vs ++ zs)) (hr : Room k X.A) (ha : Jd X M e σ H d) (hR : R [d] d') (hg : Gl X x := by rfl) (hdb : (x == ("__debug__" : Str)) = false := by decide)
    (hall : (backToKw pos (keywordEach [⟨some nm, e, kpos⟩] X.env)).all (·.1.isSome) = true := by rfl) (hks : (backToKw pos (keywordEach [⟨some nm, e, kpos⟩] X.env)).filterMap (·.1) = [nm] := by rfl)
    (hpl : ((backTo pos (starEach [] X.env)).any (·.1) || (backToKw pos (keywordEach [⟨some nm, e, kpos⟩] X.env)).any (·.1.isNone)) = false := by rfl) : Jd X M (.Call (.Name x p) [] [⟨some nm, e, kpos⟩] pos) σ H d' := fun al H1 y Q q =>
  leW (pe_callK0 (E := E0) ok hr hg hm hk hb (fun _ _ _ _ _ _ _ z => z.elim) (pk_cons pe_W pk_nil) hall hks hdb hpl) (ha al H1 y _ fun v H2 z r => ⟨rfl, M, [d], d', rfl, (al.ex y).ex z, .cons r .nil, hR, fun v H3 u t => q v H3 (z.trans u) t⟩)
/-- u + v, both one's own: a new one -/
theorem cat_own (S : Sy X.K B M0 ρ μ σ H) (hi : μ[i]? = some (u, .lst ss)) (hj : μ[j]? = some (v, .lst ts)) (hz : ss.length + ts.length ≤ 90000) (k : ∀ p H', Sy X.K B M0 ρ ((p, .lst (ss ++ ts)) :: μ) σ H' → Q (.ref p) H') : rCat (.ref u) (.ref v) H Q := by
  obtain ⟨vs, g1, g2⟩ := S.own hi
  obtain ⟨ws, g3, g4⟩ := S.own hj
  have l1 := paired_len g2
  have l2 := paired_len g4
  refine ⟨u, v, vs, ws, rfl, rfl, g1, g3, sz_of (by omega), fun p hp => ?_⟩
  have up := Ex.new (o := HO.lst (vs ++ ws)) hp
  refine k p _ (S.newN (.lst (ss ++ ts)) up hp ⟨vs ++ ws, upd_same, ?_⟩)
  rw [hid_new hp]
  exact paired_app g2 g4
/-- one of one's own is not looked at any more -/
theorem Sy.dropAt {K : PySem.W.Frag} {B H : Hp} {M0 : List Addr} {ρ : Ro} {μa μb : Mu} {σ : L2.St} {a : Addr} {m : Mo} (S : Sy K B M0 ρ (μa ++ (a, m) :: μb) σ H) : Sy K B M0 ρ (μa ++ μb) σ H := (S.perm List.perm_middle.symm).drop1
theorem fre0 {sc scope : Scope} (h : (scope.names.all fun y => !decide (y.2 = .free)) = true) : ∀ y ∈ scope.names, y.2 = .free → sc.names.lookup y.1 = some .cell ∨ sc.names.lookup y.1 = some .free := fun y hy e => by
  have := List.all_eq_true.mp h y hy
  rw [e] at this
  cases this
end
end J

set_option maxHeartbeats 4000000
/-! J37: texts: list(z), "".join(xs), z * n, y + z, z[:n], sorted(xs). -/
namespace J
open PySem PySem.Spec PyProof.Rows L2 Evl RZ
/-- the text of these letters, a for 0 -/
def wS (w : List Nat) : Str := ⟨(w.map (· + 97)).toArray⟩
theorem wS_inj {a b : List Nat} (h : wS a = wS b) : a = b := by
  have e : (a.map (· + 97)).toArray.toList = (b.map (· + 97)).toArray.toList := congrArg (fun x : Str => x.cps.toList) h
  have e : a.map (· + 97) = b.map (· + 97) := e
  exact (List.map_inj_right (fun x y z => by omega)).mp e
theorem vals_pt : ∀ {vs : List V} {us : List Value}, us.length = vs.length → (∀ (j : Nat) (u : Value), us[j]? = some u → ∃ v, vs[j]? = some v ∧ RelV v u) → Vals vs us
  | [], [], _, _ => .nil
  | v :: vs, u :: us, hl, h => by
    obtain ⟨w, e, r⟩ := h 0 u rfl
    cases Option.some.inj e
    exact .cons r (vals_pt (by simpa using hl) fun j u' e' => h (j + 1) u' e')
  | [], _ :: _, hl, _ => by simp at hl
  | _ :: _, [], hl, _ => by simp at hl
theorem wS_len (a : List Nat) : (wS a).length = a.length := by simp [wS, Str.length]
abbrev wD (w : List Nat) : D := .str (wS w)
theorem wS_dec {a b : List Nat} : PyData.eqv (wD a) (wD b) = decide (a = b) := by
  have e : PyData.eqv (wD a) (wD b) = decide (wS a = wS b) := by
    show (wS a == wS b) = _
    rfl
  rw [e]
  exact decide_eq_decide.mpr ⟨wS_inj, fun h => by rw [h]⟩
section
variable {X : Cx} {M : List Addr} {σ : L2.St} {H : Hp} {a b o : Expr} {d : D} {pos p p2 apos : Pos} {x z : Str} {n : Nat} {i : Int}
def rLStr : List V → Hp → VK → Prop := fun xs H Q => ∃ z : Str, xs = [.str z] ∧ z.cps.size ≤ 1000 ∧ ∀ l, H l = none → Q (.ref l) (upd H l (.lst (z.cps.toList.map fun c => V.str ⟨#[c]⟩)))
theorem cr_listStr (hc : X.calm = true) : CallR X (.type "list") rLStr := by
  intro pins s σ H xs us Q I r h
  obtain ⟨z, rfl, hz, q⟩ := h
  obtain ⟨u, rfl, rx⟩ := vals1 r
  obtain ⟨t, rfl⟩ := rx
  refine call_list_str (I.ok.hd hc) z t (fun h' tk acc c' up there items => ?_) (by rw [sizeLine_eq]; omega)
  have hv : Vals (z.cps.toList.map fun c => V.str ⟨#[c]⟩) acc.toList := by
    refine vals_pt (by rw [List.length_map, Array.length_toList, Array.length_toList]; exact items.1) fun j v e => ?_
    obtain ⟨c, tk2, h1, rfl⟩ := items.2 j v (by rw [← Array.getElem?_toList]; exact e)
    exact ⟨.str ⟨#[c]⟩, by rw [List.getElem?_map, Array.getElem?_toList, h1]; rfl, ⟨tk2, rfl⟩⟩
  exact ⟨.ref s.heap.objs.size, upd H s.heap.objs.size (.lst (z.cps.toList.map fun c => V.str ⟨#[c]⟩)), I.laid (t' := tk) up (Nat.le_refl _)
    (show ObjOk X.prog X.w _ _ _ (.lst _) from ⟨by rw [List.length_map, Array.length_toList, sizeLine_eq]; omega, acc.toList, c', hv, by rw [Array.toArray_toList]; exact there⟩), rfl, q _ (I.hok.fresh (Nat.le_refl _))⟩
theorem dpStrs {K : PySem.W.Frag} {G : Hp} : ∀ (ys : List Str), DpAll K G (ys.map V.str) (ys.map PyData.str)
  | [] => .nil
  | y :: ys => .cons (.str y) (dpStrs ys)
theorem dpStrsV {K : PySem.W.Frag} {G : Hp} : ∀ {ys : List Str} {vs : List V}, DpAll K G vs (ys.map PyData.str) → vs = ys.map V.str
  | [], _, h => by cases h; rfl
  | y :: ys, _, h => by cases h with | cons a b => rw [dStr a, dpStrsV b]; rfl
/-- list(z) -/
theorem jn_listS (hc : X.calm = true) (hm : X.mg "list" = none) (ha : Jd X M a σ H (.str z)) (hz : z.cps.size ≤ 1000) (hg : Gl X "list" := by rfl) (hs : starEach [a] X.env = (false, eval a X.env) :: starEach [] X.env := by rfl) :
    Jn X M (.Call (.Name "list" p) [a] [] pos) σ H (z.cps.toList.map fun c => .str ⟨#[c]⟩) := fun al H1 x Q q =>
  leW (pe_callTy (cr_listStr hc) hg hm (by decide +kernel) (pa_cons pe_W pa_nil hs) (by decide) (by decide) hs) (ha al H1 x _ fun v H2 y p => ⟨z, by rw [dStr p], hz, fun l hl => by
    have n1 : H1 l = none := by
      cases h0 : H1 l with
      | none => rfl
      | some o => rw [y _ _ h0] at hl; cases hl
    refine q l _ _ (y.trans (Ex.new hl)) n1 upd_same ?_
    have e1 : (z.cps.toList.map fun c => V.str ⟨#[c]⟩) = ((z.cps.toList.map fun c => (⟨#[c]⟩ : Str)).map V.str) := by rw [List.map_map]; rfl
    have e2 : (z.cps.toList.map fun c => PyData.str ⟨#[c]⟩) = ((z.cps.toList.map fun c => (⟨#[c]⟩ : Str)).map PyData.str) := by rw [List.map_map]; rfl
    rw [e1, e2]
    exact dpStrs _⟩)
/-- sep.join(xs), xs a list -/
theorem jd_joinS {ys : List Str} (ho : Jd X M o σ H (.str z)) (ha : Jd X M a σ H (.list (ys.map PyData.str))) (hz : (ys.map (·.length)).sum + ys.length * z.length ≤ 16777216) (hs : starEach [a] X.env = [(false, eval a X.env)] := by rfl)
    (hbase : attributeBase o "join" X.env (eval o X.env) = eval o X.env := by rfl) (hline : (apos.endLine == pos.line) = true := by rfl) : Jd X M (.Call (.Attribute o "join" apos) [a] [] pos) σ H (.str (Txt.join z ys)) := fun al H1 x Q q =>
  leW (pe_join pe_W pe_W hs hbase hline) (ho al H1 x _ fun v H2 y p => ⟨⟨z, dStr p⟩, ha al H2 (x.trans y) _ fun w H3 y3 r => by
    obtain ⟨t, xs, e1, e2, e3⟩ := dLst r
    exact ⟨z, t, ys, dStr p, by rw [e1], .inl (by rw [← dpStrsV e3]; exact ex_l hid_le e2), hz, q _ H3 (y.trans y3) (.str _)⟩⟩)
/-- y + z -/
theorem jd_addS {y : Str} (ha : Jd X M a σ H (.str y)) (hb : Jd X M b σ H (.str z)) (hz : y.length + z.length ≤ 16777216) : Jd X M (.BinOp a .Add b pos) σ H (.str (y ++ z)) := fun al H1 x Q q =>
  leW (pe_op op_add_str pe_W pe_W) (ha al H1 x _ fun v H2 y2 p => hb al H2 (x.trans y2) _ fun w H3 y3 r => ⟨y, z, dStr p, dStr r, by rw [sizeLine_eq]; exact hz, q _ H3 (y2.trans y3) (.str _)⟩)
/-- z[:n] -/
theorem jd_slS (ha : Jd X M a σ H (.str z)) (hb : Jd X M b σ H (.int i)) (hz : z.length ≤ 16777216) : Jd X M (.Subscript a (.Slice none (some b) none p2) pos) σ H (.str (cutS z none (some i))) := fun al H1 x Q q =>
  leW (pe_slice sl_str pe_W po_none (po_some pe_W)) (ha al H1 x _ fun v H2 y p => hb al H2 (x.trans y) _ fun w H3 y3 r => ⟨i, dInt r, z, dStr p, by rw [sizeLine_eq]; exact hz, q _ H3 (y.trans y3) (.str _)⟩)
theorem fold_reps (A : Array Nat) : ∀ (m : Nat) (acc : Array Nat), (List.replicate m A).foldl (· ++ ·) acc = acc ++ (List.replicate m A.toList).flatten.toArray
  | 0, acc => by simp
  | m + 1, acc => by
    rw [List.replicate_succ, List.foldl_cons, fold_reps A m (acc ++ A), List.replicate_succ, List.flatten_cons]
    apply Array.ext'
    simp
def rMulS : R2 := fun x y H Q => ∃ (z : Str) (n : Nat), x = .str z ∧ y = .int (n : Int) ∧ n ≤ 1000 ∧ z.length = 1 ∧ Q (.str ⟨(List.replicate n z.cps.toList).flatten.toArray⟩) H
theorem op_mulS : OpR X (binaryOp .Mult) rMulS := by
  intro pins s σ H x y v u Q I rx ry h
  obtain ⟨z, n, rfl, rfl, hn, h1, q⟩ := h
  obtain ⟨t, rfl⟩ := rx
  obtain ⟨t2, rfl⟩ := ry
  have hsz : z.length ≤ 1000 := by omega
  refine P.mul_str (by rw [decide_eq_false (by omega), decide_eq_false (by omega)]; rfl) (fun _ _ => by
      have : (1 : Int) ≤ (2 ^ 63 - 1) / (n : Int) := by
        refine Int.le_ediv_of_mul_le (by omega) (by omega)
      rw [h1]; omega) (fun _ _ => by
      unfold Builtin.Str.tooLong
      rw [sizeLine_eq]
      exact decide_eq_false (by rw [h1]; omega)) ?_
  by_cases c0 : (n : Int) < 1
  · rw [if_pos c0]
    have : n = 0 := by omega
    subst this
    exact ⟨by decide, .str ⟨#[]⟩, H, I.tok _, ⟨_, rfl⟩, q⟩
  · rw [if_neg c0]
    by_cases c1 : ((n : Int) == 1 || z.length == 0) = true
    · rw [if_pos c1]
      have : n = 1 := by
        rw [h1] at c1
        simp at c1
        omega
      subst this
      have e : (⟨(List.replicate 1 z.cps.toList).flatten.toArray⟩ : Str) = z := by simp
      rw [e] at q
      exact ⟨.str z, H, I, ⟨_, rfl⟩, q⟩
    · rw [if_neg c1]
      have e : (List.replicate (n : Int).toNat z.cps).foldl (· ++ ·) #[] = (List.replicate n z.cps.toList).flatten.toArray := by
        rw [Int.toNat_natCast, fold_reps]; simp
      rw [e]
      refine ⟨?_, .str _, H, I.tok _, ⟨_, rfl⟩, q⟩
      show ((List.replicate n z.cps.toList).flatten.toArray).size ≤ _
      rw [List.size_toArray, List.length_flatten, List.map_replicate, List.sum_replicate_nat, sizeLine_eq]
      have : z.cps.toList.length = 1 := h1
      rw [this]; omega
/-- z * n, z one sign -/
theorem jd_mulS' {n : Nat} (ha : Jd X M a σ H (.str z)) (hb : Jd X M b σ H (.int i)) (hi : i = (n : Int)) (hn : n ≤ 1000) (h1 : z.length = 1) : Jd X M (.BinOp a .Mult b pos) σ H (.str ⟨(List.replicate n z.cps.toList).flatten.toArray⟩) := fun al H1 x Q q =>
  leW (pe_op op_mulS pe_W pe_W) (ha al H1 x _ fun v H2 y p => hb al H2 (x.trans y) _ fun w H3 y3 r => ⟨z, n, dStr p, by rw [dInt r, hi], hn, h1, q _ H3 (y.trans y3) (.str _)⟩)
/-- sorted(xs), xs a list of texts: some list of the same texts, ascending -/
theorem tW_sortedS {Q : VK} {ys : List Str} (hm : X.mg "sorted" = none) (al : Al M H) (ha : Jd X M a σ H (.list (ys.map PyData.str))) (hz : ys.length < 64) (k : ∀ (zs : List Str) (v : V) H2, zs.Perm ys → sortedS zs = true → Ex H H2 → Dp X.K (hid M H2) v (.list (zs.map PyData.str)) → Q v H2) (hg : Gl X "sorted" := by rfl) (hs : starEach [a] X.env = (false, eval a X.env) :: starEach [] X.env := by rfl)
    (hpl : (backTo pos (starEach [] X.env)).any (·.1) = false := by rfl) : tW X (.Call (.Name "sorted" p) [a] [] pos) σ H Q :=
  leW (pe_callB cr_sortedS hg hm (by decide +kernel) (pa_cons pe_W pa_nil hs) (by decide) (by decide) hs hpl) (ha al H (Ex.refl H) _ fun v H2 y r => by
    obtain ⟨t, xs, e1, e2, e3⟩ := dLst r
    refine ⟨t, ys, by rw [e1], by rw [← dpStrsV e3]; exact ex_l hid_le e2, hz, fun zs l pm so hl => ?_⟩
    exact k zs _ _ pm so (y.trans (Ex.new hl)) (.lst (SqL.of ((al.ex y).newEx hl)) (dpStrs _)))
end
end J

namespace W
/-! ### the draws of a law, as plain numbers -/
structure DS where
  gs : List Nat
  cs : List Nat
  r : Nat
  t : Nat
def bl (p : Nat) (cs : List Nat) (t : Nat) : Nat := cs.foldl (fun b c => (b * 69621 + c + t) % p) (48271 * t + p / 53)
def pA : Nat := 2147483579
def pB : Nat := 2147483629
def pC : Nat := 2147483563
def mM : Nat := 2147483647
def blN (cs : List Nat) (t : Nat) : Nat := ((bl pA cs t ^ 5 % pA) * mM + bl pB cs t ^ 5 % pB) * mM + bl pC cs t ^ 5 % pC
def dr (room : Nat) (s : DS) : Nat × DS :=
  if s.r = 0 then match s.gs with
    | g :: gs => (g % room, ⟨gs, s.cs, g / room, s.t⟩)
    | [] => (blN s.cs (s.t + 1) % room, ⟨[], s.cs, blN s.cs (s.t + 1) / room, s.t + 1⟩)
  else (s.r % room, ⟨s.gs, s.cs, s.r / room, s.t⟩)
/-- so many letters -/
def lets : Nat → DS → List Nat × DS
  | 0, s => ([], s)
  | n + 1, s => let (c, s1) := dr 26 s; let (w, s2) := lets n s1; (c :: w, s2)
def word (s : DS) : List Nat × DS := let (d, s1) := dr 8 s; lets (1 + d) s1
/-- a word that is not in F comes -/
inductive Ev (F : List (List Nat)) (N : Nat) : DS → Prop
  | now (s) : (word s).1 ∉ F → (word s).2.t ≤ N → Ev F N s
  | later (s) : Ev F N (word s).2 → Ev F N s
/-- u stands, m letters are to come -/
def Em (F : List (List Nat)) (N m : Nat) (u : List Nat) (s : DS) : Prop := ((u ++ (lets m s).1) ∉ F ∧ (lets m s).2.t ≤ N) ∨ Ev F N (lets m s).2
variable {F : List (List Nat)} {N : Nat}
theorem em_succ {m : Nat} {u : List Nat} {s : DS} : Em F N (m + 1) u s ↔ Em F N m (u ++ [(dr 26 s).1]) (dr 26 s).2 := by
  unfold Em
  simp [lets]
theorem ev_of {s : DS} (h : Em F N (1 + (dr 8 s).1) [] (dr 8 s).2) : Ev F N s := by
  rcases h with h | h
  · exact .now s (by simpa [word] using h.1) (by simpa [word] using h.2)
  · exact .later s (by simpa [word] using h)
theorem em_zero {u : List Nat} {s : DS} (h : Ev F N s) : Em F N 0 u s := .inr h
/-! ### every number comes -/
def itA : Nat → Nat → Nat
  | a, 0 => a
  | a, k + 1 => itA (a * 69621 + 1) k
theorem bl_aff (p : Nat) (cs : List Nat) : ∃ b, ∀ t, bl p cs t % p = (itA 48271 cs.length * t + b) % p := by
  have key : ∀ (cs : List Nat) (a b : Nat), ∃ b', ∀ t x, x % p = (a * t + b) % p → (cs.foldl (fun b c => (b * 69621 + c + t) % p) x) % p = (itA a cs.length * t + b') % p := by
    intro cs
    induction cs with
    | nil => intro a b; exact ⟨b, fun t x h => h⟩
    | cons c cs ih =>
      intro a b
      obtain ⟨b', h⟩ := ih (a * 69621 + 1) (b * 69621 + c)
      refine ⟨b', fun t x hx => h t _ ?_⟩
      rw [Nat.mod_mod, Nat.add_assoc, Nat.add_mod, Nat.mul_mod, hx, ← Nat.mul_mod, ← Nat.add_mod]
      congr 1
      grind
  obtain ⟨b', h⟩ := key cs 48271 (p / 53)
  exact ⟨b', fun t => h t _ rfl⟩
theorem bez : ∀ (n a b : Nat), b ≤ n → ∃ x y : Int, (a : Int) * x + (b : Int) * y = (Nat.gcd a b : Nat)
  | n, a, 0, _ => ⟨1, 0, by simp⟩
  | 0, a, b + 1, h => absurd h (by omega)
  | n + 1, a, b + 1, h => by
    obtain ⟨x, y, e⟩ := bez n (b + 1) (a % (b + 1)) (by have := Nat.mod_lt a (show 0 < b + 1 by omega); omega)
    refine ⟨y, x - (a / (b + 1) : Nat) * y, ?_⟩
    have g : Nat.gcd a (b + 1) = Nat.gcd (b + 1) (a % (b + 1)) := by rw [Nat.gcd_comm, Nat.gcd_rec, Nat.gcd_comm]
    rw [g, ← e]
    have d : (a : Int) = ((b + 1 : Nat) : Int) * ((a / (b + 1) : Nat) : Int) + ((a % (b + 1) : Nat) : Int) := by
      have := Nat.div_add_mod a (b + 1)
      rw [← Int.natCast_mul, ← Int.natCast_add, this]
    generalize ((a / (b + 1) : Nat) : Int) = q at *
    generalize ((a % (b + 1) : Nat) : Int) = r at *
    generalize ((b + 1 : Nat) : Int) = c at *
    rw [d]
    grind
/-- a t + b comes to every remainder -/
theorem hits {a P : Nat} (hP : 0 < P) (hg : Nat.gcd a P = 1) (b y T : Nat) : ∃ t, T ≤ t ∧ (a * t + b) % P = y % P := by
  obtain ⟨x, z, e⟩ := bez P a P (Nat.le_refl _)
  rw [hg] at e
  let u : Nat := (x % P).toNat
  have hu : ((u : Nat) : Int) = x % P := Int.toNat_of_nonneg (Int.emod_nonneg _ (by omega))
  let v : Nat := y + (P * b - b)
  have hPb : b ≤ P * b := Nat.le_mul_of_pos_left _ hP
  refine ⟨u * v + P * T, ?_, ?_⟩
  · have : T ≤ P * T := Nat.le_mul_of_pos_left _ hP
    omega
  · have h1 : (a * u) % P = 1 % P := by
      have : ((a * u : Nat) : Int) % (P : Int) = 1 % (P : Int) := by
        rw [Int.natCast_mul, hu, Int.mul_emod, Int.emod_emod_of_dvd _ (Int.dvd_refl _), ← Int.mul_emod]
        have e2 : (a : Int) * x = 1 + P * (-z) := by
          have : (1 : Int) = ((1 : Nat) : Int) := rfl
          rw [this, ← e]; grind
        rw [e2, Int.add_mul_emod_self_left]
      exact_mod_cast this
    have h2 : (a * (u * v + P * T) + b) % P = ((a * u) * v + b) % P := by
      have : a * (u * v + P * T) + b = (a * u) * v + b + P * (a * T) := by
        rw [Nat.mul_add]
        have e1 : a * (u * v) = a * u * v := by ac_rfl
        have e2 : a * (P * T) = P * (a * T) := by ac_rfl
        omega
      rw [this, Nat.add_mul_mod_self_left]
    rw [h2, Nat.add_mod, Nat.mul_mod, h1, ← Nat.mul_mod, ← Nat.add_mod, Nat.one_mul]
    have : v + b = y + P * b := by show y + (P * b - b) + b = _; omega
    rw [this, Nat.add_mul_mod_self_left]
end W

namespace W
/-! ### a word that was not yet drawn comes -/
/-- so many letters, all of the rest r -/
def pl : Nat → Nat → Option (List Nat × Nat)
  | 0, r => some ([], r)
  | n + 1, r => if r = 0 then none else match pl n (r / 26) with
    | some (w, r') => some (r % 26 :: w, r')
    | none => none
def pw (r : Nat) : Option (List Nat × Nat) := if r = 0 then none else pl (1 + r % 8) (r / 8)
theorem dr_pos {room : Nat} {gs cs : List Nat} {r t : Nat} (h : r ≠ 0) : dr room ⟨gs, cs, r, t⟩ = (r % room, ⟨gs, cs, r / room, t⟩) := by
  unfold dr; rw [if_neg h]
theorem lets_succ (n : Nat) (s : DS) : lets (n + 1) s = ((dr 26 s).1 :: (lets n (dr 26 s).2).1, (lets n (dr 26 s).2).2) := rfl
theorem word_eq (s : DS) : word s = lets (1 + (dr 8 s).1) (dr 8 s).2 := rfl
theorem lets_pl {gs cs : List Nat} {t : Nat} : ∀ {n r r' : Nat} {w : List Nat}, pl n r = some (w, r') → lets n ⟨gs, cs, r, t⟩ = (w, ⟨gs, cs, r', t⟩)
  | 0, r, r', w, h => by simp [pl] at h; obtain ⟨rfl, rfl⟩ := h; rfl
  | n + 1, r, r', w, h => by
    unfold pl at h
    split at h
    · cases h
    · rename_i h0
      cases q : pl n (r / 26) with
      | none => rw [q] at h; cases h
      | some p =>
        obtain ⟨w2, r2⟩ := p
        rw [q] at h
        simp only [Option.some.injEq, Prod.mk.injEq] at h
        obtain ⟨rfl, rfl⟩ := h
        rw [lets_succ, dr_pos h0]
        dsimp only
        rw [lets_pl q]
theorem word_pw {gs cs : List Nat} {t r r' : Nat} {w : List Nat} (h : pw r = some (w, r')) : word ⟨gs, cs, r, t⟩ = (w, ⟨gs, cs, r', t⟩) := by
  unfold pw at h
  split at h
  · cases h
  · rename_i h0
    rw [word_eq, dr_pos h0]
    exact lets_pl h
/-- numbers, each with its roots; whatever letters are still to come of the word before, the next word is one and the same -/
def tabW : List (Nat × Nat × Nat × Nat) := [(29479510200013918864408576, 1120398617, 1059476047, 1355602108), (30658690608014475618984919, 202919514, 1275843608, 288350084), (31837871016015032373561262, 761266786, 374658086, 1406750394), (33017051424015589128137605, 1568459578, 508156323, 1499486727), (34196231832016145882713948, 146368645, 1544498019, 1487431648), (35375412240016702637290291, 1810420294, 1748910143, 2028765937), (36554592648017259391866634, 239575233, 556451036, 312426966), (37733773056017816146442977, 1236049407, 955834410, 157096495), (38912953464018372901019320, 703637682, 101589272, 1105278896), (40092133872018929655595663, 803508904, 800244290, 282450059), (41271314280019486410172006, 1774072943, 534539944, 1892987183), (42450494688020043164748349, 1387561431, 1659257347, 802238686), (43629675096020599919324692, 1077486887, 928372916, 1119829522), (44808855504021156673901035, 454772073, 255684857, 1590731577), (45988035912021713428477378, 86121567, 467615321, 1663018406), (47167216320022270183053721, 751529387, 185202117, 1989918685), (48346396728022826937630064, 2079492246, 1215134056, 6818942), (49525577136023383692206407, 1034744682, 1883199493, 1410954726), (50704757544023940446782750, 1248303680, 229109925, 538559777), (51883937952024497201359093, 11372119, 177641686, 451098865), (53063118360025053955935436, 1581928997, 1634684492, 1311280032), (54242298768025610710511779, 1414779917, 566470764, 136987946), (55421479176026167465088122, 848230689, 1336289632, 737611857), (56600659584026724219664465, 1768010943, 1812740653, 1255087669), (57779839992027280974240808, 1075353803, 773323945, 369178293), (58959020400027837728817151, 227081329, 217574674, 1582040603)]
def wOf (N : Nat) : List Nat := match pw N with
  | some (w, _) => w
  | none => []
def okT (x : Nat × Nat × Nat × Nat) : Bool := decide ((x.2.1 ^ 5 % pA * mM + x.2.2.1 ^ 5 % pB) * mM + x.2.2.2 ^ 5 % pC = x.1) && (List.range 9).all fun m => match pl m x.1 with
  | some (_, r) => (match pw r with
    | some (w, _) => decide (w = wOf x.1)
    | none => false)
  | none => false
theorem tab_ok : tabW.all okT = true := by decide +kernel
theorem tab_nd : (tabW.map fun x => wOf x.1).Nodup := by decide +kernel
theorem tab_nz : (tabW.all fun x => decide (x.1 ≠ 0)) = true := by decide +kernel
/-- among more unlike values than F has one is not in F -/
theorem pigeon {α : Type} [DecidableEq α] : ∀ {F l : List α}, l.Nodup → F.length < l.length → ∃ x ∈ l, x ∉ F
  | F, [], _, h => by simp at h
  | F, x :: l, nd, h => by
    by_cases hx : x ∈ F
    · have h2 : (F.erase x).length < l.length := by
        rw [List.length_erase_of_mem hx]
        have : 0 < F.length := List.length_pos_of_mem hx
        simp at h; omega
      obtain ⟨y, hy, hn⟩ := pigeon (List.nodup_cons.mp nd).2 h2
      refine ⟨y, List.mem_cons_of_mem _ hy, fun hF => hn ?_⟩
      have : y ≠ x := fun e => (List.nodup_cons.mp nd).1 (e ▸ hy)
      exact (List.mem_erase_of_ne this).mpr hF
    · exact ⟨x, List.mem_cons_self, hx⟩
theorem tab_new {F : List (List Nat)} (h : F.length < 26) : ∃ x ∈ tabW, wOf x.1 ∉ F := by
  obtain ⟨w, hw, hn⟩ := pigeon tab_nd (F := F) (by rw [List.length_map]; exact h)
  obtain ⟨x, hx, rfl⟩ := List.mem_map.mp hw
  exact ⟨x, hx, hn⟩
/-! ### every number of the table comes -/
theorem co_ok : ((List.range 64).all fun n => decide (Nat.gcd (itA 48271 n) pA = 1 ∧ Nat.gcd (itA 48271 n) pB = 1 ∧ Nat.gcd (itA 48271 n) pC = 1)) = true := by decide +kernel
theorem pr_ok : Nat.gcd pA pB = 1 ∧ Nat.gcd pA pC = 1 ∧ Nat.gcd pB pC = 1 := by decide +kernel
theorem comes0 {cs : List Nat} (hc : cs.length ≤ 63) (x1 x2 x3 T : Nat) : ∃ t, T ≤ t ∧ bl pA cs t % pA = x1 % pA ∧ bl pB cs t % pB = x2 % pB ∧ bl pC cs t % pC = x3 % pC := by
  obtain ⟨b1, h1⟩ := bl_aff pA cs
  obtain ⟨b2, h2⟩ := bl_aff pB cs
  obtain ⟨b3, h3⟩ := bl_aff pC cs
  have g := List.all_eq_true.mp co_ok cs.length (List.mem_range.mpr (by omega))
  obtain ⟨g1, g2, g3⟩ := of_decide_eq_true g
  obtain ⟨p1, p2, p3⟩ := pr_ok
  generalize itA 48271 cs.length = k at *
  obtain ⟨u, _, e1⟩ := hits (P := pA) (by decide) g1 b1 x1 T
  have q2 : Nat.gcd (k * pA) pB = 1 := Nat.Coprime.mul_left g2 p1
  obtain ⟨v, _, e2⟩ := hits (P := pB) (by decide) q2 (k * u + b2) x2 T
  have q3 : Nat.gcd (k * (pA * pB)) pC = 1 := Nat.Coprime.mul_left g3 (Nat.Coprime.mul_left p2 p3)
  obtain ⟨z, hz, e3⟩ := hits (P := pC) (by decide) q3 (k * (u + pA * v) + b3) x3 T
  refine ⟨u + pA * v + pA * pB * z, ?_, ?_, ?_, ?_⟩
  · have : z ≤ pA * pB * z := Nat.le_mul_of_pos_left _ (by decide)
    omega
  · rw [h1, ← e1]
    have : k * (u + pA * v + pA * pB * z) + b1 = k * u + b1 + pA * (k * (v + pB * z)) := by grind
    rw [this, Nat.add_mul_mod_self_left]
  · rw [h2, ← e2]
    have : k * (u + pA * v + pA * pB * z) + b2 = k * pA * v + (k * u + b2) + pB * (k * (pA * z)) := by grind
    rw [this, Nat.add_mul_mod_self_left]
  · rw [h3, ← e3]
    have : k * (u + pA * v + pA * pB * z) + b3 = k * (pA * pB) * z + (k * (u + pA * v) + b3) := by grind
    rw [this]
theorem bl_mod {p : Nat} {cs : List Nat} {t t' : Nat} (h : t % p = t' % p) : bl p cs t % p = bl p cs t' % p := by
  obtain ⟨b, hb⟩ := bl_aff p cs
  rw [hb, hb, Nat.add_mod, Nat.mul_mod, h, ← Nat.mul_mod, ← Nat.add_mod]
theorem add_mod_dvd {T u q p : Nat} (h : p ∣ q) : (T + u % q) % p = (T + u) % p := by
  rw [Nat.add_mod, Nat.mod_mod_of_dvd _ h, ← Nat.add_mod]
/-- .. within one round -/
theorem comes {cs : List Nat} (hc : cs.length ≤ 63) (x1 x2 x3 T : Nat) : ∃ t, T ≤ t ∧ t < T + pA * pB * pC ∧ bl pA cs t % pA = x1 % pA ∧ bl pB cs t % pB = x2 % pB ∧ bl pC cs t % pC = x3 % pC := by
  obtain ⟨t, h0, h1, h2, h3⟩ := comes0 hc x1 x2 x3 T
  have hp : 0 < pA * pB * pC := by decide
  refine ⟨T + (t - T) % (pA * pB * pC), Nat.le_add_right _ _, Nat.add_lt_add_left (Nat.mod_lt _ hp) _, ?_, ?_, ?_⟩
  · rw [← h1]; exact bl_mod (by rw [add_mod_dvd ⟨pB * pC, Nat.mul_assoc _ _ _⟩, Nat.add_sub_of_le h0])
  · rw [← h2]; exact bl_mod (by rw [add_mod_dvd ⟨pA * pC, by rw [Nat.mul_comm pA pB, Nat.mul_assoc]⟩, Nat.add_sub_of_le h0])
  · rw [← h3]; exact bl_mod (by rw [add_mod_dvd ⟨pA * pB, Nat.mul_comm _ _⟩, Nat.add_sub_of_le h0])
theorem blN_of {cs : List Nat} {t x1 x2 x3 : Nat} (h1 : bl pA cs t % pA = x1 % pA) (h2 : bl pB cs t % pB = x2 % pB) (h3 : bl pC cs t % pC = x3 % pC) : blN cs t = ((x1 ^ 5 % pA * mM + x2 ^ 5 % pB) * mM + x3 ^ 5 % pC) := by
  unfold blN
  rw [Nat.pow_mod, h1, ← Nat.pow_mod, Nat.pow_mod (bl pB cs t), h2, ← Nat.pow_mod, Nat.pow_mod (bl pC cs t), h3, ← Nat.pow_mod]
/-! ### from every state -/
theorem dr_new {room : Nat} {cs : List Nat} {t : Nat} (h : blN cs (t + 1) ≠ 0) : dr room ⟨[], cs, 0, t⟩ = dr room ⟨[], cs, blN cs (t + 1), t + 1⟩ := by
  rw [dr_pos h]; rfl
theorem lets_new {n : Nat} {cs : List Nat} {t : Nat} (h : blN cs (t + 1) ≠ 0) : lets (n + 1) ⟨[], cs, 0, t⟩ = lets (n + 1) ⟨[], cs, blN cs (t + 1), t + 1⟩ := by
  rw [lets_succ, lets_succ, dr_new h]
theorem word_new {cs : List Nat} {t : Nat} (h : blN cs (t + 1) ≠ 0) : word ⟨[], cs, 0, t⟩ = word ⟨[], cs, blN cs (t + 1), t + 1⟩ := by
  rw [word_eq, word_eq, dr_new h]
variable {F : List (List Nat)} {N : Nat}
/-- whatever of a word stands -/
def Good (F : List (List Nat)) (N : Nat) (s : DS) : Prop := Ev F N s ∧ ∀ m u, m ≤ 8 → Em F N m u s
theorem good_of {s : DS} (h26 : Good F N (dr 26 s).2) (h8 : Good F N (dr 8 s).2) (hd : (dr 8 s).1 < 8) : Good F N s := by
  have e : Ev F N s := ev_of (h8.2 _ _ (by omega))
  refine ⟨e, fun m u hm => ?_⟩
  cases m with
  | zero => exact em_zero e
  | succ m => exact em_succ.mpr (h26.2 m _ (by omega))
theorem dr_lt {s : DS} : (dr 8 s).1 < 8 := by
  obtain ⟨gs, cs, r, t⟩ := s
  unfold dr
  split
  · split <;> exact Nat.mod_lt _ (by decide)
  · exact Nat.mod_lt _ (by decide)
/-- at the number that fits -/
theorem good_hit {cs : List Nat} {t : Nat} {x : Nat × Nat × Nat × Nat} (hx : x ∈ tabW) (hn : wOf x.1 ∉ F) (e : blN cs (t + 1) = x.1) (hN : t + 1 ≤ N) : Good F N ⟨[], cs, 0, t⟩ := by
  have h0 := of_decide_eq_true (List.all_eq_true.mp tab_nz x hx)
  have ok := List.all_eq_true.mp tab_ok x hx
  unfold okT at ok
  rw [Bool.and_eq_true] at ok
  have all := List.all_eq_true.mp ok.2
  have hb : blN cs (t + 1) ≠ 0 := by rw [e]; exact h0
  have at_ : ∀ m, m ≤ 8 → ∃ u r v r', pl m x.1 = some (u, r) ∧ pw r = some (v, r') ∧ v = wOf x.1 := fun m hm => by
    have q := all m (List.mem_range.mpr (by omega))
    cases q1 : pl m x.1 with
    | none => rw [q1] at q; cases q
    | some p =>
      obtain ⟨u, r⟩ := p
      rw [q1] at q
      cases q2 : pw r with
      | none => simp only [q2] at q; cases q
      | some p2 =>
        obtain ⟨v, r'⟩ := p2
        simp only [q2] at q
        exact ⟨u, r, v, r', rfl, q2, of_decide_eq_true q⟩
  have ev : Ev F N ⟨[], cs, 0, t⟩ := by
    obtain ⟨u, r, v, r', k1, k2, k3⟩ := at_ 0 (by omega)
    simp only [pl, Option.some.injEq, Prod.mk.injEq] at k1
    obtain ⟨_, rfl⟩ := k1
    refine .now _ ?_ ?_
    · rw [word_new hb, e, word_pw k2, k3]
      exact hn
    · rw [word_new hb, e, word_pw k2]
      exact hN
  refine ⟨ev, fun m u hm => ?_⟩
  cases m with
  | zero => exact em_zero ev
  | succ m =>
    obtain ⟨u', r, v, r', k1, k2, k3⟩ := at_ (m + 1) hm
    refine .inr ?_
    rw [lets_new hb, e, lets_pl k1]
    refine .now _ ?_ ?_
    · rw [word_pw k2, k3]
      exact hn
    · rw [word_pw k2]
      exact hN
/-- so many turns, at most, bring a word -/
def rnd : Nat := pA * pB * pC + 1
theorem good_all (hF : F.length < 26) {cs : List Nat} (hc : cs.length ≤ 63) : ∀ (gs : List Nat) (t : Nat), ∃ N, N ≤ t + rnd ∧ ∀ r, Good F N ⟨gs, cs, r, t⟩ := by
  obtain ⟨x, hx, hn⟩ := tab_new hF
  have rest : ∀ (N : Nat) (gs : List Nat) (t : Nat), Good F N ⟨gs, cs, 0, t⟩ → ∀ r, Good F N ⟨gs, cs, r, t⟩ := fun N gs t h0 r => by
    induction r using Nat.strongRecOn with
    | ind r ih =>
      by_cases hr : r = 0
      · subst hr; exact h0
      · refine good_of ?_ ?_ dr_lt
        · rw [dr_pos hr]; exact ih _ (Nat.div_lt_self (by omega) (by decide))
        · rw [dr_pos hr]; exact ih _ (Nat.div_lt_self (by omega) (by decide))
  have base : ∀ t, ∃ N, N ≤ t + rnd ∧ Good F N ⟨[], cs, 0, t⟩ := fun t0 => by
    obtain ⟨t', ht, ht2, h1, h2, h3⟩ := comes hc x.2.1 x.2.2.1 x.2.2.2 (t0 + 1)
    have e := blN_of h1 h2 h3
    have ok := List.all_eq_true.mp tab_ok x hx
    unfold okT at ok
    rw [Bool.and_eq_true] at ok
    rw [of_decide_eq_true ok.1] at e
    have key : ∀ k t, t + 1 + k = t' → Good F t' ⟨[], cs, 0, t⟩ := fun k => by
      induction k with
      | zero => intro t ht; exact good_hit hx hn (by rw [show t + 1 = t' by omega]; exact e) (by omega)
      | succ k ih =>
        intro t ht
        have n := rest t' [] (t + 1) (ih (t + 1) (by omega))
        exact good_of (n _) (n _) dr_lt
    refine ⟨t', ?_, key (t' - (t0 + 1)) t0 (by omega)⟩
    unfold rnd
    generalize pA * pB * pC = q at *
    omega
  intro gs t
  obtain ⟨N, hN, g0⟩ := base t
  refine ⟨N, hN, ?_⟩
  have all : ∀ gs : List Nat, ∀ r, Good F N ⟨gs, cs, r, t⟩ := fun gs => by
    induction gs with
    | nil => exact fun r => rest N [] t g0 r
    | cons g gs ih => exact fun r => rest N (g :: gs) t (good_of (ih _) (ih _) dr_lt) r
  exact all gs
theorem ev_all (hF : F.length < 26) (s : DS) (hc : s.cs.length ≤ 63) : ∃ N, N ≤ s.t + rnd ∧ Ev F N s := by
  obtain ⟨N, h1, h2⟩ := good_all hF hc s.gs s.t
  exact ⟨N, h1, (h2 s.r).1⟩
/-! ### the loop of words ends -/
/-- what is found behind a word w -/
def nxt (F : List (List Nat)) (w : List Nat) : List (List Nat) :=
  F ++ if w ∉ F then [w] else if w.take 1 ++ List.replicate F.length 16 ∉ F ∧ F.length < 8 then [w.take 1 ++ List.replicate F.length 16] else []
/-- so many turns of the loop are left; the turns of the draws stay below N -/
inductive Run (many N : Nat) : Nat → List (List Nat) → DS → Prop
  | done {F s} : many ≤ F.length → s.t ≤ N → Run many N 0 F s
  | step {m F s} : F.length < many → s.t ≤ N → Run many N m (nxt F (word s).1) (word s).2 → Run many N (m + 1) F s
theorem dr_cs {room : Nat} {s : DS} : (dr room s).2.cs = s.cs := by
  obtain ⟨gs, cs, r, t⟩ := s
  unfold dr
  split
  · split <;> rfl
  · rfl
theorem dr_t {room : Nat} {s : DS} : s.t ≤ (dr room s).2.t ∧ (dr room s).2.t ≤ s.t + 1 := by
  obtain ⟨gs, cs, r, t⟩ := s
  unfold dr
  split
  · split
    · exact ⟨Nat.le_refl _, Nat.le_add_right _ _⟩
    · exact ⟨Nat.le_add_right _ _, Nat.le_refl _⟩
  · exact ⟨Nat.le_refl _, Nat.le_add_right _ _⟩
theorem lets_cs : ∀ {n : Nat} {s : DS}, (lets n s).2.cs = s.cs
  | 0, _ => rfl
  | n + 1, s => by
    rw [lets_succ]
    dsimp only
    rw [lets_cs, dr_cs]
theorem lets_t : ∀ {n : Nat} {s : DS}, s.t ≤ (lets n s).2.t
  | 0, _ => Nat.le_refl _
  | n + 1, s => by
    rw [lets_succ]
    exact Nat.le_trans dr_t.1 lets_t
theorem word_cs {s : DS} : (word s).2.cs = s.cs := by
  rw [word_eq, lets_cs, dr_cs]
theorem word_t {s : DS} : s.t ≤ (word s).2.t := by
  rw [word_eq]
  exact Nat.le_trans dr_t.1 lets_t
theorem ev_t {s : DS} (h : Ev F N s) : s.t ≤ N := by
  induction h with
  | now s _ h => exact Nat.le_trans word_t h
  | later s _ ih => exact Nat.le_trans word_t ih
theorem run_le {many N N' m : Nat} {F : List (List Nat)} {s : DS} (h : Run many N m F s) (q : N ≤ N') : Run many N' m F s := by
  induction h with
  | done a b => exact .done a (Nat.le_trans b q)
  | step a b _ ih => exact .step a (Nat.le_trans b q) ih
theorem run_ex {many : Nat} (hm : many ≤ 26) : ∀ (d : Nat) (F : List (List Nat)) (s : DS), many - F.length = d → s.cs.length ≤ 63 → ∃ m N, N ≤ s.t + d * rnd ∧ Run many N m F s := by
  intro d
  induction d with
  | zero => exact fun F s h _ => ⟨0, s.t, by omega, .done (by omega) (Nat.le_refl _)⟩
  | succ d ih =>
    intro F s h hc
    obtain ⟨N, hN, ev⟩ := ev_all (F := F) (by omega) s hc
    have hlt : F.length < many := by omega
    have key : ∃ m N', N' ≤ N + d * rnd ∧ Run many N' m F s := by
      clear hN
      induction ev with
      | now s hw ht =>
        have e : nxt F (word s).1 = F ++ [(word s).1] := by unfold nxt; rw [if_pos hw]
        obtain ⟨m, N', h1, r⟩ := ih (F ++ [(word s).1]) (word s).2 (by rw [List.length_append, List.length_singleton]; omega) (by rw [word_cs]; exact hc)
        exact ⟨m + 1, max N' s.t, by have := @word_t s; omega, .step hlt (by omega) (by rw [e]; exact run_le r (by omega))⟩
      | later s hev ih2 =>
        have hc2 : (word s).2.cs.length ≤ 63 := by rw [word_cs]; exact hc
        have ht := ev_t hev
        have hw := @word_t s
        by_cases hg : nxt F (word s).1 = F
        · obtain ⟨m, N', h1, r⟩ := ih2 hc2
          exact ⟨m + 1, max N' s.t, by omega, .step hlt (by omega) (by rw [hg]; exact run_le r (by omega))⟩
        · have hl : (nxt F (word s).1).length = F.length + 1 := by
            unfold nxt at hg ⊢
            split at hg
            · rename_i q; rw [if_pos q]; simp
            · rename_i q
              rw [if_neg q]
              split at hg
              · rename_i q2; rw [if_pos q2]; simp
              · simp at hg
          have hd : many - (nxt F (word s).1).length = d := by rw [hl]; exact Nat.sub_eq_of_eq_add (by clear ih2 ih hev ht hw hg hl; omega)
          obtain ⟨m, N', h1, r⟩ := ih (nxt F (word s).1) (word s).2 hd hc2
          have h2 : s.t ≤ N := Nat.le_trans hw ht
          refine ⟨m + 1, N + d * rnd, Nat.le_refl _, .step hlt (Nat.le_trans h2 (Nat.le_add_right _ _)) (run_le r (Nat.le_trans h1 (Nat.add_le_add_right ht _)))⟩
    obtain ⟨m, N', h1, r⟩ := key
    refine ⟨m, N', ?_, r⟩
    rw [Nat.add_mul]
    generalize d * rnd = q at *
    omega
end W

set_option maxHeartbeats 4000000
/-! J38: the draws of a law as a state of plain numbers. -/
namespace J
open PySem PySem.Spec PyProof.Rows L2 Evl RZ
def drK (l : Addr) (cs : List Int) (r t : Int) : List (Key × Sv) := [(.inr "great", .val (.ref l)), (.inr "cells", .dat (.list (cs.map PyData.int))), (.inr "rest", .dat (.int r)), (.inr "turn", .dat (.int t))]
abbrev iS (gs : List Int) : List Sv := (gs.map PyData.int).map Sv.dat
def Dr (a l : Addr) (gs cs : List Int) (r t : Int) : Mu := [(a, .dct (drK l cs r t)), (l, .lst (iS gs))]
theorem lk_great {l cs r t} : lkS (drK l cs r t) (.inr "great") = some (.val (.ref l)) := rfl
theorem lk_cells {l cs r t} : lkS (drK l cs r t) (.inr "cells") = some (.dat (.list (cs.map PyData.int))) := rfl
theorem lk_rest {l cs r t} : lkS (drK l cs r t) (.inr "rest") = some (.dat (.int r)) := rfl
theorem lk_turn {l cs r t} : lkS (drK l cs r t) (.inr "turn") = some (.dat (.int t)) := rfl
theorem put_rest {l cs r t r'} : putS (drK l cs r t) (.inr "rest") (.dat (.int r')) = drK l cs r' t := rfl
theorem put_turn {l cs r t t'} : putS (drK l cs r t) (.inr "turn") (.dat (.int t')) = drK l cs r t' := rfl
theorem dr_inj {a l a' l' : Addr} {gs cs gs' cs' : List Int} {r t r' t' : Int} (h : Dr a l gs cs r t = Dr a' l' gs' cs' r' t') : a = a' ∧ l = l' ∧ gs = gs' ∧ cs = cs' ∧ r = r' ∧ t = t' := by
  have mi : ∀ {xs ys : List Int}, xs.map PyData.int = ys.map PyData.int → xs = ys := fun {xs ys} e => List.map_inj_right (fun _ _ z => by cases z; rfl) |>.mp e
  have ms : ∀ {xs ys : List D}, xs.map Sv.dat = ys.map Sv.dat → xs = ys := fun {xs ys} e => List.map_inj_right (fun _ _ z => by cases z; rfl) |>.mp e
  unfold Dr drK iS at h
  simp only [List.cons.injEq, Prod.mk.injEq, Mo.dct.injEq, Mo.lst.injEq, Sv.val.injEq, V.ref.injEq, Sv.dat.injEq, PyData.int.injEq, PyData.list.injEq, true_and, and_true] at h
  obtain ⟨⟨h1, h2, h3, h4, h5⟩, h6, h7⟩ := h
  exact ⟨h1, h2, mi (ms h7), mi h3, h4, h5⟩
def nI (xs : List Nat) : List Int := xs.map fun n : Nat => (n : Int)
theorem nI_inj {xs ys : List Nat} (h : nI xs = nI ys) : xs = ys := (List.map_inj_right (fun _ _ z => by exact_mod_cast z)).mp h
/-- the draws at a, l -/
def Dw (a l : Addr) (s : W.DS) : Mu := Dr a l (nI s.gs) (nI s.cs) s.r s.t
theorem dw_inj {a l a' l' : Addr} {s s' : W.DS} (h : Dw a l s = Dw a' l' s') : a = a' ∧ l = l' ∧ s = s' := by
  obtain ⟨h1, h2, h3, h4, h5, h6⟩ := dr_inj h
  refine ⟨h1, h2, ?_⟩
  cases s; cases s'
  simp only [W.DS.mk.injEq]
  exact ⟨nI_inj h3, nI_inj h4, by exact_mod_cast h5, by exact_mod_cast h6⟩
def okS (s : W.DS) : Prop := s.gs.length ≤ 1000 ∧ s.cs.length ≤ 63
theorem okS_dr {room : Nat} {s : W.DS} (h : okS s) : okS (W.dr room s).2 := by
  obtain ⟨gs, cs, r, t⟩ := s
  obtain ⟨h1, h2⟩ := h
  unfold W.dr
  split
  · split
    · rename_i g gs' e
      have e : gs = g :: gs' := e
      subst e
      exact ⟨by simp at h1 ⊢; omega, h2⟩
    · exact ⟨by simp, h2⟩
  · exact ⟨h1, h2⟩
theorem dr_room {room : Nat} {s : W.DS} (h : 0 < room) : (W.dr room s).1 < room := by
  obtain ⟨gs, cs, r, t⟩ := s
  unfold W.dr
  split
  · split <;> exact Nat.mod_lt _ h
  · exact Nat.mod_lt _ h
/-- more turns than any law takes -/
theorem capEx : ∃ n : Nat, 2 ^ 1000 ≤ n ∧ n ≤ 2 ^ 200000 := ⟨2 ^ 1000, Nat.le_refl _, Nat.pow_le_pow_right (by decide) (by decide)⟩
noncomputable def capT : Nat := Classical.choose capEx
theorem capT_big : 2 ^ 1000 ≤ capT := (Classical.choose_spec capEx).1
/-- more turns than it takes to draw words -/
theorem cWEx : ∃ n : Nat, 26 * W.rnd + 1 ≤ n ∧ n ≤ 2 ^ 100 := ⟨2 ^ 100, by decide +kernel, Nat.le_refl _⟩
noncomputable def cW : Nat := Classical.choose cWEx
theorem cW_ge : 26 * W.rnd + 1 ≤ cW := (Classical.choose_spec cWEx).1
theorem capW : 1000000 * (cW + 1000000) ≤ capT := by
  have h := capT_big
  have h3 : cW ≤ 2 ^ 100 := (Classical.choose_spec cWEx).2
  have h2 : 1000000 * (cW + 1000000) ≤ 2 ^ 200 := Nat.le_trans (Nat.mul_le_mul_left _ (Nat.add_le_add_right h3 _)) (by decide +kernel)
  exact Nat.le_trans h2 (Nat.le_trans (Nat.pow_le_pow_right (by decide) (by decide)) h)
theorem capT_lt {n k : Nat} (h : n ≤ capT * 2 ^ k) (hk : k ≤ 1000) : n < 2 ^ 201001 := by
  have h := Nat.le_trans h (Nat.mul_le_mul_right _ (Classical.choose_spec capEx).2)
  rw [← Nat.pow_add] at h
  exact Nat.lt_of_le_of_lt h (Nat.pow_lt_pow_right (by decide) (by omega))
/-- draws at a, l; which ones does not matter, but not more than k turns since t0 -/
def Dn (a l : Addr) (t0 k : Nat) (μ : Mu) : Prop := ∃ s : W.DS, okS s ∧ μ = Dw a l s ∧ s.t ≤ t0 + k
/-- at most k turns lie between -/
def Adv (k : Nat) (μ μ' : Mu) : Prop := ∃ (a l : Addr) (s s' : W.DS), μ = Dw a l s ∧ okS s' ∧ μ' = Dw a l s' ∧ s'.t ≤ s.t + k
/-- c turns can be taken -/
def Rdy (a l : Addr) (c : Nat) (μ : Mu) : Prop := ∃ s : W.DS, okS s ∧ μ = Dw a l s ∧ s.t + c ≤ capT
theorem Dn.mono {a l : Addr} {t0 j k : Nat} {μ : Mu} (h : Dn a l t0 j μ) (q : j ≤ k) : Dn a l t0 k μ := by
  obtain ⟨s, h1, h2, h3⟩ := h
  exact ⟨s, h1, h2, by omega⟩
theorem Adv.use {a l : Addr} {t0 j k : Nat} {μ μ' : Mu} (h : Adv k μ μ') (d : Dn a l t0 j μ) : Dn a l t0 (j + k) μ' := by
  obtain ⟨a2, l2, s, s', h1, h2, h3, h4⟩ := h
  obtain ⟨s2, q1, q2, q3⟩ := d
  rw [h1] at q2
  obtain ⟨rfl, rfl, rfl⟩ := dw_inj q2
  exact ⟨s', h2, h3, by omega⟩
theorem Rdy.dn {a l : Addr} {c : Nat} {μ : Mu} (h : Rdy a l c μ) : ∃ t0, t0 + c ≤ capT ∧ Dn a l t0 0 μ ∧ ∀ k μ', Dn a l t0 k μ' → Adv k μ μ' := by
  obtain ⟨s, h1, h2, h3⟩ := h
  refine ⟨s.t, h3, ⟨s, h1, h2, by omega⟩, fun k μ' h => ?_⟩
  obtain ⟨s', q1, q2, q3⟩ := h
  exact ⟨a, l, s, s', h2, q1, q2, q3⟩
theorem Dn.rdy {a l : Addr} {t0 k c : Nat} {μ : Mu} (h : Dn a l t0 k μ) (q : t0 + k + c ≤ capT) : Rdy a l c μ := by
  obtain ⟨s, h1, h2, h3⟩ := h
  exact ⟨s, h1, h2, by omega⟩
def PreD : List Sv → Mu → Prop := fun ss μ => ∃ (a l : Addr) (s : W.DS) (room : Nat), ss = [.val (.ref a), .dat (.int (room : Int))] ∧ 0 < room ∧ room < 2 ^ 64 ∧ okS s ∧ s.t + 1 ≤ capT ∧ μ = Dw a l s
def RD : List Sv → Mu → Sv → Mu → Prop := fun ss μ v μ' => ∃ (a l : Addr) (s : W.DS) (room : Nat), ss = [.val (.ref a), .dat (.int (room : Int))] ∧ μ = Dw a l s ∧ v = .dat (.int ((W.dr room s).1 : Nat)) ∧ μ' = Dw a l (W.dr room s).2
def PreP : List Sv → Mu → Prop := fun ss μ => ∃ (a l : Addr) (s : W.DS) (xs : List D), ss = [.val (.ref a), .dat (.list xs)] ∧ 0 < xs.length ∧ xs.length ≤ 1000 ∧ okS s ∧ s.t + 1 ≤ capT ∧ μ = Dw a l s
def RP : List Sv → Mu → Sv → Mu → Prop := fun ss μ v μ' => ∃ (a l : Addr) (s : W.DS) (xs : List D) (x : D), ss = [.val (.ref a), .dat (.list xs)] ∧ μ = Dw a l s ∧ xs[(W.dr xs.length s).1]? = some x ∧ v = .dat x ∧ μ' = Dw a l (W.dr xs.length s).2
theorem preD {a l : Addr} {t0 k : Nat} {μ : Mu} {room : Int} (h : Dn a l t0 k μ) (hc : t0 + k + 1 ≤ capT) (h0 : 0 < room) (h1 : room < 2 ^ 64) : PreD [.val (.ref a), .dat (.int room)] μ := by
  obtain ⟨s, q1, q2, q3⟩ := h
  exact ⟨a, l, s, room.toNat, by rw [Int.toNat_of_nonneg (by omega)], by omega, by omega, q1, by omega, q2⟩
theorem rDx {a l : Addr} {s : W.DS} {room : Nat} {μ' : Mu} {v : Sv} (q : RD [.val (.ref a), .dat (.int (room : Int))] (Dw a l s) v μ') : v = .dat (.int ((W.dr room s).1 : Nat)) ∧ μ' = Dw a l (W.dr room s).2 := by
  obtain ⟨a2, l2, s2, room2, e1, e2, h1, h2⟩ := q
  obtain ⟨rfl, rfl, rfl⟩ := dw_inj e2
  simp only [List.cons.injEq, Sv.dat.injEq, PyData.int.injEq, and_true, true_and] at e1
  have e1 : room = room2 := by omega
  subst e1
  exact ⟨h1, h2⟩
theorem rD {a l : Addr} {t0 k : Nat} {μ μ' : Mu} {room : Int} {v : Sv} (h : Dn a l t0 k μ) (h0 : 0 < room) (q : RD [.val (.ref a), .dat (.int room)] μ v μ') : ∃ z, v = .dat (.int z) ∧ 0 ≤ z ∧ z < room ∧ Dn a l t0 (k + 1) μ' := by
  obtain ⟨s, q1, rfl, q2⟩ := h
  obtain ⟨n, rfl⟩ : ∃ n : Nat, room = (n : Int) := ⟨room.toNat, by omega⟩
  obtain ⟨rfl, rfl⟩ := rDx q
  have := dr_room (room := n) (s := s) (by omega)
  have ht := (W.dr_t (room := n) (s := s)).2
  exact ⟨_, rfl, by omega, by omega, _, okS_dr q1, rfl, by omega⟩
theorem preP {a l : Addr} {t0 k : Nat} {μ : Mu} {xs : List D} (h : Dn a l t0 k μ) (hc : t0 + k + 1 ≤ capT) (h0 : 0 < xs.length) (h1 : xs.length ≤ 1000) : PreP [.val (.ref a), .dat (.list xs)] μ := by
  obtain ⟨s, q1, q2, q3⟩ := h
  exact ⟨a, l, s, xs, rfl, h0, h1, q1, by omega, q2⟩
theorem rPx {a l : Addr} {s : W.DS} {μ' : Mu} {xs : List D} {v : Sv} (q : RP [.val (.ref a), .dat (.list xs)] (Dw a l s) v μ') : ∃ x, xs[(W.dr xs.length s).1]? = some x ∧ v = .dat x ∧ μ' = Dw a l (W.dr xs.length s).2 := by
  obtain ⟨a2, l2, s2, xs2, x, e1, e2, h1, h2, h3⟩ := q
  obtain ⟨rfl, rfl, rfl⟩ := dw_inj e2
  simp only [List.cons.injEq, Sv.dat.injEq, PyData.list.injEq, and_true, true_and] at e1
  subst e1
  exact ⟨x, h1, h2, h3⟩
theorem rP {a l : Addr} {t0 k : Nat} {μ μ' : Mu} {xs : List D} {v : Sv} (h : Dn a l t0 k μ) (q : RP [.val (.ref a), .dat (.list xs)] μ v μ') : ∃ x, v = .dat x ∧ x ∈ xs ∧ Dn a l t0 (k + 1) μ' := by
  obtain ⟨s, q1, rfl, q2⟩ := h
  obtain ⟨x, h1, rfl, rfl⟩ := rPx q
  have ht := (W.dr_t (room := xs.length) (s := s)).2
  exact ⟨x, rfl, List.mem_of_getElem? h1, _, okS_dr q1, rfl, by omega⟩
/-- i ^ j, j small -/
def CPowW (i j : Int) : Prop := 0 ≤ j ∧ j ≤ 5 ∧ i.natAbs < 2 ^ 1000000
theorem powW_bits {i j : Int} (hc : CPowW i j) : (Builtin.Int.intBits i : Int) * j ≤ 2 ^ 27 := by
  have hb : Builtin.Int.intBits i ≤ 1000001 := by
    unfold Builtin.Int.intBits
    split
    · exact Nat.zero_le _
    · rename_i h0
      have := (Nat.log2_lt (n := i.natAbs) (k := 1000000) (fun z => h0 (by simpa using z))).mpr hc.2.2
      omega
  have h1 := hc.1
  have h5 := hc.2.1
  have := Int.mul_le_mul (Int.ofNat_le.mpr hb) h5 h1 (by decide)
  exact Int.le_trans this (by decide)
theorem op_powW {X : Cx} : OpR X (binaryOp .Pow) (rI CPowW fun i j => .int (i ^ j.toNat)) := opI fun _ _ _ _ _ _ _ hc q => pow_int hc.1 (powW_bits hc) q
section
variable {X : Cx} {M : List Addr} {σ : L2.St} {H : Hp} {a b : Expr} {i j : Int} {pos : Pos}
theorem jd_powW (ha : Jd X M a σ H (.int i)) (hb : Jd X M b σ H (.int j)) (hc : CPowW i j) : Jd X M (.BinOp a .Pow b pos) σ H (.int (i ^ j.toNat)) := jd_opI op_powW ha hb hc
end
section
variable {X : Cx} {B H : Hp} {M0 : List Addr} {ρ : Ro} {μD μ2 : Mu} {σ : L2.St} {ts : List Sv} {vs : List V} {e1 e2 : Expr} {p pos : Pos} {a l : Addr} {room : Int} {xs : List D} {s : W.DS} {n t0 kk : Nat}
/-- a draw -/
theorem sx_draw (S : Sx X.K B M0 ρ (μD ++ μ2) σ ts vs H) (Wf : Fd CX0 X.prog X.w X.K X.mg X.base 2 "_law_draw" ["state", "room"] (spM X.K 2 PreD RD noF)) (hr : Room 2 X.A) (hD : Dn a l t0 kk μD) (hcap : t0 + kk + 1 ≤ capT) (ha : Js X (adr M0 (μD ++ μ2)) e1 σ H (.val (.ref a))) (hb : Js X (adr M0 (μD ++ μ2)) e2 σ H (.dat (.int room))) (h0 : 0 < room) (h1 : room < 2 ^ 64) {Q : VK}
    (k : ∀ v z μ' H', 0 ≤ z → z < room → Dn a l t0 (kk + 1) μ' → Sx X.K B M0 ρ (μ' ++ μ2) σ (ts ++ [.dat (.int z)]) (vs ++ [v]) H' → Q v H') (hg : Gl X "_law_draw" := by rfl) (he : starEach [e1, e2] X.env = (false, eval e1 X.env) :: starEach [e2] X.env := by rfl) (he2 : starEach [e2] X.env = (false, eval e2 X.env) :: starEach [] X.env := by rfl) (hpl : (backTo pos (starEach [e2] X.env)).any (·.1) = false := by rfl) :
    tW X (.Call (.Name "_law_draw" p) [e1, e2] [] pos) σ H Q :=
  Sx.call S Wf hr (jsa_cons ha (jsa_cons hb jsa_nil he2) he) rfl (preD hD hcap h0 h1) (fun v s μ' H' hR S' => by
    obtain ⟨z, rfl, z0, z1, st⟩ := rD hD h0 hR
    exact k v z μ' H' z0 z1 st S') hg (by decide) he hpl
/-- .. which one is told -/
theorem sx_drawX (S : Sx X.K B M0 ρ (Dw a l s ++ μ2) σ ts vs H) (Wf : Fd CX0 X.prog X.w X.K X.mg X.base 2 "_law_draw" ["state", "room"] (spM X.K 2 PreD RD noF)) (hr : Room 2 X.A) (ok : okS s) (hcap : s.t + 1 ≤ capT) (ha : Js X (adr M0 (Dw a l s ++ μ2)) e1 σ H (.val (.ref a))) (hb : Js X (adr M0 (Dw a l s ++ μ2)) e2 σ H (.dat (.int (n : Int)))) (h0 : 0 < n) (h1 : n < 2 ^ 64) {Q : VK}
    (k : ∀ v H', Sx X.K B M0 ρ (Dw a l (W.dr n s).2 ++ μ2) σ (ts ++ [.dat (.int ((W.dr n s).1 : Nat))]) (vs ++ [v]) H' → Q v H') (hg : Gl X "_law_draw" := by rfl) (he : starEach [e1, e2] X.env = (false, eval e1 X.env) :: starEach [e2] X.env := by rfl) (he2 : starEach [e2] X.env = (false, eval e2 X.env) :: starEach [] X.env := by rfl) (hpl : (backTo pos (starEach [e2] X.env)).any (·.1) = false := by rfl) :
    tW X (.Call (.Name "_law_draw" p) [e1, e2] [] pos) σ H Q :=
  Sx.call S Wf hr (jsa_cons ha (jsa_cons hb jsa_nil he2) he) rfl ⟨a, l, s, n, rfl, h0, h1, ok, hcap, rfl⟩ (fun v s μ' H' hR S' => by
    obtain ⟨rfl, rfl⟩ := rDx hR
    exact k v H' S') hg (by decide) he hpl
theorem sx_pick (S : Sx X.K B M0 ρ (μD ++ μ2) σ ts vs H) (Wf : Fd CX0 X.prog X.w X.K X.mg X.base 3 "_law_pick" ["state", "some"] (spM X.K 2 PreP RP noF)) (hr : Room 3 X.A) (hD : Dn a l t0 kk μD) (hcap : t0 + kk + 1 ≤ capT) (ha : Js X (adr M0 (μD ++ μ2)) e1 σ H (.val (.ref a))) (hb : Js X (adr M0 (μD ++ μ2)) e2 σ H (.dat (.list xs))) (h0 : 0 < xs.length) (h1 : xs.length ≤ 1000) {Q : VK}
    (k : ∀ v x μ' H', x ∈ xs → Dn a l t0 (kk + 1) μ' → Sx X.K B M0 ρ (μ' ++ μ2) σ (ts ++ [.dat x]) (vs ++ [v]) H' → Q v H') (hg : Gl X "_law_pick" := by rfl) (he : starEach [e1, e2] X.env = (false, eval e1 X.env) :: starEach [e2] X.env := by rfl) (he2 : starEach [e2] X.env = (false, eval e2 X.env) :: starEach [] X.env := by rfl) (hpl : (backTo pos (starEach [e2] X.env)).any (·.1) = false := by rfl) :
    tW X (.Call (.Name "_law_pick" p) [e1, e2] [] pos) σ H Q :=
  Sx.call S Wf hr (jsa_cons ha (jsa_cons hb jsa_nil he2) he) rfl (preP hD hcap h0 h1) (fun v s μ' H' hR S' => by
    obtain ⟨x, rfl, hx, st⟩ := rP hD hR
    exact k v x μ' H' hx st S') hg (by decide) he hpl
/-- .. which one is told -/
theorem sx_pickX (S : Sx X.K B M0 ρ (Dw a l s ++ μ2) σ ts vs H) (Wf : Fd CX0 X.prog X.w X.K X.mg X.base 3 "_law_pick" ["state", "some"] (spM X.K 2 PreP RP noF)) (hr : Room 3 X.A) (ok : okS s) (hcap : s.t + 1 ≤ capT) (ha : Js X (adr M0 (Dw a l s ++ μ2)) e1 σ H (.val (.ref a))) (hb : Js X (adr M0 (Dw a l s ++ μ2)) e2 σ H (.dat (.list xs))) (h0 : 0 < xs.length) (h1 : xs.length ≤ 1000) {Q : VK}
    (k : ∀ (v : V) (x : D) (H' : Hp), xs[(W.dr xs.length s).1]? = some x → Sx X.K B M0 ρ (Dw a l (W.dr xs.length s).2 ++ μ2) σ (ts ++ [.dat x]) (vs ++ [v]) H' → Q v H') (hg : Gl X "_law_pick" := by rfl) (he : starEach [e1, e2] X.env = (false, eval e1 X.env) :: starEach [e2] X.env := by rfl) (he2 : starEach [e2] X.env = (false, eval e2 X.env) :: starEach [] X.env := by rfl) (hpl : (backTo pos (starEach [e2] X.env)).any (·.1) = false := by rfl) :
    tW X (.Call (.Name "_law_pick" p) [e1, e2] [] pos) σ H Q :=
  Sx.call S Wf hr (jsa_cons ha (jsa_cons hb jsa_nil he2) he) rfl ⟨a, l, s, xs, rfl, h0, h1, ok, hcap, rfl⟩ (fun v s μ' H' hR S' => by
    obtain ⟨x, h1, rfl, rfl⟩ := rPx hR
    exact k v x H' h1 S') hg (by decide) he hpl
theorem sx_draw0 (S : Sx X.K B M0 ρ μD σ ts vs H) (Wf : Fd CX0 X.prog X.w X.K X.mg X.base 2 "_law_draw" ["state", "room"] (spM X.K 2 PreD RD noF)) (hr : Room 2 X.A) (hD : Dn a l t0 kk μD) (hcap : t0 + kk + 1 ≤ capT) (ha : Js X (adr M0 μD) e1 σ H (.val (.ref a))) (hb : Js X (adr M0 μD) e2 σ H (.dat (.int room))) (h0 : 0 < room) (h1 : room < 2 ^ 64) {Q : VK}
    (k : ∀ v z μ' H', 0 ≤ z → z < room → Dn a l t0 (kk + 1) μ' → Sx X.K B M0 ρ μ' σ (ts ++ [.dat (.int z)]) (vs ++ [v]) H' → Q v H') (hg : Gl X "_law_draw" := by rfl) (he : starEach [e1, e2] X.env = (false, eval e1 X.env) :: starEach [e2] X.env := by rfl) (he2 : starEach [e2] X.env = (false, eval e2 X.env) :: starEach [] X.env := by rfl) (hpl : (backTo pos (starEach [e2] X.env)).any (·.1) = false := by rfl) :
    tW X (.Call (.Name "_law_draw" p) [e1, e2] [] pos) σ H Q :=
  sx_draw (μD := μD) (μ2 := []) (by rw [List.append_nil]; exact S) Wf hr hD hcap (by rw [List.append_nil]; exact ha) (by rw [List.append_nil]; exact hb) h0 h1 (fun v z μ' H' a b c S' => k v z μ' H' a b c (by rw [List.append_nil] at S'; exact S')) hg he he2 hpl
theorem sx_pick0 (S : Sx X.K B M0 ρ μD σ ts vs H) (Wf : Fd CX0 X.prog X.w X.K X.mg X.base 3 "_law_pick" ["state", "some"] (spM X.K 2 PreP RP noF)) (hr : Room 3 X.A) (hD : Dn a l t0 kk μD) (hcap : t0 + kk + 1 ≤ capT) (ha : Js X (adr M0 μD) e1 σ H (.val (.ref a))) (hb : Js X (adr M0 μD) e2 σ H (.dat (.list xs))) (h0 : 0 < xs.length) (h1 : xs.length ≤ 1000) {Q : VK}
    (k : ∀ v x μ' H', x ∈ xs → Dn a l t0 (kk + 1) μ' → Sx X.K B M0 ρ μ' σ (ts ++ [.dat x]) (vs ++ [v]) H' → Q v H') (hg : Gl X "_law_pick" := by rfl) (he : starEach [e1, e2] X.env = (false, eval e1 X.env) :: starEach [e2] X.env := by rfl) (he2 : starEach [e2] X.env = (false, eval e2 X.env) :: starEach [] X.env := by rfl) (hpl : (backTo pos (starEach [e2] X.env)).any (·.1) = false := by rfl) :
    tW X (.Call (.Name "_law_pick" p) [e1, e2] [] pos) σ H Q :=
  sx_pick (μD := μD) (μ2 := []) (by rw [List.append_nil]; exact S) Wf hr hD hcap (by rw [List.append_nil]; exact ha) (by rw [List.append_nil]; exact hb) h0 h1 (fun v z μ' H' a c S' => k v z μ' H' a c (by rw [List.append_nil] at S'; exact S')) hg he he2 hpl
end
/-- what is told of great cells -/
def greatF (n : Int) : Option D := if (10 : Int) ^ (18 : Int).toNat ≤ ((n.natAbs : Nat) : Int) then some (.int (((n.natAbs : Nat) : Int) - (10 : Int) ^ (18 : Int).toNat)) else none
theorem great_ints : ∀ ns : List Int, ∃ gs : List Nat, (ns.map greatF).filterMap id = (nI gs).map PyData.int ∧ gs.length ≤ ns.length
  | [] => ⟨[], rfl, Nat.le_refl _⟩
  | n :: r => by
    obtain ⟨gs, h1, h2⟩ := great_ints r
    by_cases q : (10 : Int) ^ (18 : Int).toNat ≤ ((n.natAbs : Nat) : Int)
    · have e : greatF n = some (.int (((n.natAbs : Nat) : Int) - (10 : Int) ^ (18 : Int).toNat)) := if_pos q
      refine ⟨(((n.natAbs : Nat) : Int) - (10 : Int) ^ (18 : Int).toNat).toNat :: gs, ?_, by simp; omega⟩
      have e2 : (((((n.natAbs : Nat) : Int) - (10 : Int) ^ (18 : Int).toNat).toNat : Nat) : Int) = ((n.natAbs : Nat) : Int) - (10 : Int) ^ (18 : Int).toNat := Int.toNat_of_nonneg (by omega)
      rw [List.map_cons, e]
      show _ :: _ = PyData.int (((((n.natAbs : Nat) : Int) - (10 : Int) ^ (18 : Int).toNat).toNat : Nat) : Int) :: (nI gs).map PyData.int
      rw [h1, e2]
    · have e : greatF n = none := if_neg q
      exact ⟨gs, by rw [List.map_cons, e, ← h1]; rfl, by simp; omega⟩
theorem fm_mapS {α : Type} (f : α → D) (l : List α) : (l.map fun a => some (f a)).filterMap id = l.map f := by
  induction l with
  | nil => rfl
  | cons a t ih => simp
theorem cmulL {i j : Int} (h : -(2 ^ 64) < i ∧ i < 2 ^ 64) : CMul i j := .inl h
theorem cmulR {i j : Int} (h : -(2 ^ 64) < j ∧ j < 2 ^ 64) : CMul i j := .inr h
/-- what the blend has come to behind so many primes -/
def blS (cs : List Nat) (t : Nat) : Nat → Nat
  | 0 => 0
  | 1 => W.bl W.pA cs t ^ 5 % W.pA
  | 2 => (W.bl W.pA cs t ^ 5 % W.pA) * W.mM + W.bl W.pB cs t ^ 5 % W.pB
  | _ => W.blN cs t
theorem snoc_cases {α : Type} : ∀ xs : List α, xs = [] ∨ ∃ ys y, xs = ys ++ [y]
  | [] => .inl rfl
  | x :: xs => by
    rcases snoc_cases xs with rfl | ⟨ys, y, rfl⟩
    · exact .inr ⟨[], x, rfl⟩
    · exact .inr ⟨x :: ys, y, rfl⟩
def pr (d : D) : D := .tuple [d, d]
theorem fm_some (l : List D) : (l.map some).filterMap id = l := by
  induction l with
  | nil => rfl
  | cons a t ih => simp
end J

set_option maxHeartbeats 4000000
namespace K58

open PySem PySem.Spec PyProof.Rows L2 J Evl
variable {P : Program} {w : World} {K : PySem.W.Frag} {mg : Str → Option Value} {base : Heap}
theorem fd_law_is_truth (T : Tx K mg) : Fd CX0 P w K mg base 1 "_law_is_truth" ["found", "due"] (spD K 2 fun ds r => ∃ a b : Bool, ds = [.bool a, .bool b] ∧ r = .bool (a == b)) := by
  obtain ⟨fd, F, hm⟩ := T.f_law_is_truth
  refine fd_mk F hm (ok_D F sc_law_is_truth rfl fun cdv A outer s H E M vs ds d D' hr hl hR S k _ => ?_) (fun _ _ _ _ _ _ us hl => match us, hl with | [_, _], _ => rfl)
  obtain ⟨a, b, rfl, rfl⟩ := hR
  refine sy_ret S (jd_if (k := b) (jt_val (S.at 1)) (fun h => ?_) fun h => ?_) fun v H' x _ p => k v H' x p
  · refine (jd_isB (S.at 0) jd_bl).is ?_
    subst h; cases a <;> rfl
  · refine (jd_isB (S.at 0) jd_bl).is ?_
    subst h; cases a <;> rfl
theorem fd_law_begun (T : Tx K mg) : Fd CX0 P w K mg base 1 "_law_begun" ["script"] (spM K 1 (fun ss μ => ∃ ns : List Int, ss = [.dat (.list (ns.map PyData.int))] ∧ ns.length ≤ 63 ∧ μ = []) (fun _ _ s μ' => ∃ a l, s = .val (.ref a) ∧ Dn a l 0 0 μ') noF) := by
  obtain ⟨fd, F, hm⟩ := T.f_law_begun
  refine fd_mk F hm (ok_M F sc_law_begun rfl fun cdv A outer s H E B M0 vs ss μ D' hr hl hP S k kn => ?_) (fun _ _ _ _ _ _ us hl => match us, hl with | [_], _ => rfl)
  obtain ⟨ns, rfl, hz, rfl⟩ := hP
  have pw : ∀ {X : Cx} {M σ H p1 p2 p3 k1 k2}, Jd X M (.BinOp (.Constant (.int 10) k1 p1) .Pow (.Constant (.int 18) k2 p2) p3) σ H (.int ((10 : Int) ^ (18 : Int).toNat)) := jd_pow jd_int jd_int ⟨by decide, by decide, by decide⟩
  refine tB_setLc 1 (lcN_own S (jw_lst (S.at 0)) (ns.map greatF) (by simp) (by simp; omega) (fun d ρ => ρ.set 2 (some (.dat d))) (js := [2]) (own := [("cell", 2)]) (by simp) ?_ ?_ ?_ fun l H1 S1 => ?_) (blkOk_by (by rfl)) rfl sc_law_begun.nd
  · rintro _ d ⟨s, H, C, cl, fp, rfl⟩ _
    exact jg_name 2 sc_law_begun.nd
  · rintro i d o _ B' M' σ' H' h1 h2 ⟨s, H, C, cl, fp, rfl⟩ S'
    rw [List.getElem?_map] at h1 h2
    obtain ⟨n, hn, rfl⟩ := Option.map_eq_some_iff.mp h1
    rw [hn] at h2
    cases h2
    refine jts_one (Jt.is (jt_ge (jd_abs T.n_abs (S'.at 2)) pw) ?_)
    show _ = (greatF n).isSome
    unfold greatF
    split
    · rename_i q; rw [decide_eq_true q]; rfl
    · rename_i q; rw [decide_eq_false q]; rfl
  · rintro i d x _ B' M' σ' H' h1 h2 ⟨s, H, C, cl, fp, rfl⟩ S'
    rw [List.getElem?_map] at h1 h2
    obtain ⟨n, hn, rfl⟩ := Option.map_eq_some_iff.mp h1
    rw [hn] at h2
    have h2 : greatF n = some x := Option.some.inj h2
    unfold greatF at h2
    split at h2
    · cases h2
      exact jd_sub (jd_abs T.n_abs (S'.at 2)) pw
    · cases h2
  · have S2 := S1.set 1 (s := .val (.ref l)) (v := .ref l) rfl
    obtain ⟨gs, hgs, hgl⟩ := great_ints ns
    rw [hgs] at S2
    refine sy_retE (jm_dict (hkl := (by decide : 4 ≤ 15)) (kvs := drK l (nI (ns.map Int.natAbs)) 0 0) S2 (pps_cons pe_str pe_W (pps_cons pe_str pe_W (pps_cons pe_str pe_W (pps_cons pe_str pe_W pps_nil)))) (fun p H3 S3 => ?_) fun a H3 S3 => k (.ref a) (.val (.ref a)) _ H3 ⟨a, l, rfl, ⟨gs, ns.map Int.natAbs, 0, 0⟩, ⟨by show gs.length ≤ 1000; omega, by show (ns.map Int.natAbs).length ≤ 63; simp; omega⟩, rfl, Nat.le_refl _⟩ (S3.one rfl))
    refine jps_cons (S3.atV 1).js (jps_cons (Jd.js ?_) (jps_cons jd_int.js (jps_cons jd_int.js jps_nil)))
    refine (sy_lc S3 (jw_lst (S3.at 0)) (ns.map fun n => some (.int ((n.natAbs : Nat) : Int))) (by simp) (by simp; omega) (fun d ρ => ρ.set 2 (some (.dat d))) (js := [2]) (own := [("cell", 2)]) (by simp) ?_ ?_ ?_ (blkOk_by (by rfl)) rfl sc_law_begun.nd).is ?_
    · rintro _ d ⟨s, H, C, cl, fp, rfl⟩ _
      exact jg_name 2 sc_law_begun.nd
    · rintro i d o _ B' M' σ' H' h1 h2 ⟨s, H, C, cl, fp, rfl⟩ S'
      rw [List.getElem?_map] at h1 h2
      obtain ⟨n, hn, rfl⟩ := Option.map_eq_some_iff.mp h1
      rw [hn] at h2
      cases h2
      exact jts_nil
    · rintro i d x _ B' M' σ' H' h1 h2 ⟨s, H, C, cl, fp, rfl⟩ S'
      rw [List.getElem?_map] at h1 h2
      obtain ⟨n, hn, rfl⟩ := Option.map_eq_some_iff.mp h1
      rw [hn] at h2
      cases h2
      exact jd_abs T.n_abs (S'.at 2)
    · rw [fm_mapS]; unfold nI; rw [List.map_map, List.map_map]; rfl
theorem bl_take {p t j c : Nat} {cs : List Nat} (h : cs[j]? = some c) : W.bl p (cs.take (j + 1)) t = (W.bl p (cs.take j) t * 69621 + c + t) % p := by
  unfold W.bl
  rw [List.take_add_one, h, List.foldl_append]
  rfl
def prI : Nat → Nat
  | 0 => W.pA
  | 1 => W.pB
  | _ => W.pC
theorem blS_succ {cs : List Nat} {t i : Nat} (h : i < 3) : blS cs t (i + 1) = blS cs t i * 2147483647 + W.bl (prI i) cs t ^ 5 % prI i := by
  match i, h with
  | 0, _ => show _ = 0 * 2147483647 + _; rw [Nat.zero_mul]; exact (Nat.zero_add _).symm
  | 1, _ => rfl
  | 2, _ => rfl
theorem prI_lt {i : Nat} (h : i < 3) : 0 < prI i ∧ prI i < 2 ^ 32 := by
  match i, h with
  | 0, _ => exact ⟨by decide, by decide⟩
  | 1, _ => exact ⟨by decide, by decide⟩
  | 2, _ => exact ⟨by decide, by decide⟩
theorem bl_le {p t : Nat} {cs : List Nat} (h : 0 < p) : W.bl p cs t ≤ 48271 * t + p / 53 + p := by
  unfold W.bl
  have key : ∀ (cs : List Nat) (x : Nat), cs.foldl (fun b c => (b * 69621 + c + t) % p) x ≤ x + p := fun cs => by
    induction cs with
    | nil => intro x; exact Nat.le_add_right _ _
    | cons c cs ih =>
      intro x
      rw [List.foldl_cons]
      cases cs with
      | nil => exact Nat.le_trans (Nat.le_of_lt (Nat.mod_lt _ h)) (Nat.le_add_left _ _)
      | cons c2 cs2 =>
        have hl : ∀ (cs : List Nat) (c : Nat) (y : Nat), (c :: cs).foldl (fun b c => (b * 69621 + c + t) % p) y < p := fun cs => by
          induction cs with
          | nil => intro c y; exact Nat.mod_lt _ h
          | cons c2 cs ih2 => intro c y; rw [List.foldl_cons]; exact ih2 _ _
        exact Nat.le_trans (Nat.le_of_lt (hl _ _ _)) (Nat.le_add_left _ _)
  exact key cs _
theorem bl_bits {p t : Nat} {cs : List Nat} (h : 0 < p) (h2 : p < 2 ^ 32) (hc : t ≤ capT) : ((W.bl p cs t : Nat) : Int).natAbs < 2 ^ 1000000 := by
  rw [Int.natAbs_natCast]
  have h1 := bl_le (t := t) (cs := cs) h
  have hb := capT_big
  have hb2 : 2 ^ 40 ≤ 2 ^ 1000 := Nat.pow_le_pow_right (by decide) (by decide)
  have h3 : W.bl p cs t ≤ capT * 2 ^ 20 := by
    have : p / 53 ≤ p := Nat.div_le_self _ _
    generalize (2:Nat) ^ 1000 = z at *
    omega
  exact Nat.lt_of_lt_of_le (capT_lt h3 (by decide)) (Nat.pow_le_pow_right (by decide) (by decide))
theorem fd_law_blended (T : Tx K mg) : Fd CX0 P w K mg base 1 "_law_blended" ["state"] (spM K 1 (fun ss μ => ∃ (a l : Addr) (gs : List Int) (cs : List Nat) (r : Int) (t : Nat), ss = [.val (.ref a)] ∧ t + 1 ≤ capT ∧ μ = Dr a l gs (nI cs) r t)
    (fun ss μ s μ' => ∃ (a l : Addr) (gs : List Int) (cs : List Nat) (r : Int) (t : Nat), ss = [.val (.ref a)] ∧ μ = Dr a l gs (nI cs) r t ∧ s = .dat (.int (W.blN cs (t + 1) : Nat)) ∧ μ' = Dr a l gs (nI cs) r ((t + 1 : Nat) : Int)) noF) := by
  obtain ⟨fd, F, hm⟩ := T.f_law_blended
  refine fd_mk F hm (ok_M F sc_law_blended rfl fun cdv A outer s H E B M0 vs ss μ D' hr hl hP S k kn => ?_) (fun _ _ _ _ _ _ us hl => match us, hl with | [_], _ => rfl)
  obtain ⟨a, l, gs, cs, r, t, rfl, hcap, rfl⟩ := hP
  have hu : (bodyX P w K mg base N_law_blended "_law_blended" s_law_blended (He.ga K "_law_blended") cdv A outer s H E).A.units + 1 < cLine := by have := hr.units; omega
  refine sy_par 2 3 S (jd_add (js_dget hu S (S.atV 0) (i := 0) rfl lk_turn) jd_int) jd_int (fun σ1 H1 S1 => ?_) rfl sc_law_blended.nd (by decide) rfl
  refine sy_dput hu S1 (S1.at 2).js (S1.atV 0) (i := 0) rfl (by decide : 4 < 1000) fun H2 S2 => ?_
  have S2 : Sy K B M0 [some (.val (.ref a)), none, some (.dat (.int ((t + 1 : Nat) : Int))), some (.dat (.int ((blS cs (t + 1) 0 : Nat) : Int))), none, none] (Dr a l gs (nI cs) r ((t + 1 : Nat) : Int)) σ1 H2 := S2
  refine sy_for S2 (jw_lst (jd_lst (ja_cons jd_int (ja_cons jd_int (ja_cons jd_int ja_nil))))) (fun d ρ => ρ.set 1 (some (.dat d))) (js := [1]) (fun d ρ' _ => jg_name 1 sc_law_blended.nd)
    (fun i ρ' μ' => μ' = Dr a l gs (nI cs) r ((t + 1 : Nat) : Int) ∧ ∃ o1 o4 o5, ρ' = [some (.val (.ref a)), o1, some (.dat (.int ((t + 1 : Nat) : Int))), some (.dat (.int ((blS cs (t + 1) i : Nat) : Int))), o4, o5]) ⟨rfl, _, _, _, rfl⟩ ?_ ?_ PassesOwn.never rfl
  · rintro i d ρ' μ' σ' H' B' hd ⟨rfl, o1, o4, o5, rfl⟩ hB S3
    have hi : i < 3 := by
      have := (List.getElem?_eq_some_iff.mp hd).1
      simpa using this
    obtain rfl : d = .int ((prI i : Nat) : Int) := by
      match i, hi, hd with
      | 0, _, hd => cases hd; rfl
      | 1, _, hd => cases hd; rfl
      | 2, _, hd => cases hd; rfl
    obtain ⟨p0, p1⟩ := prI_lt hi
    have hs := blS_succ (cs := cs) (t := t + 1) hi
    generalize prI i = p at *
    generalize t + 1 = t1 at *
    have e0 : (48271 : Int) * (t1 : Int) + (p : Int) / 53 = ((W.bl p (cs.take 0) t1 : Nat) : Int) := by
      show _ = ((48271 * t1 + p / 53 : Nat) : Int)
      rw [Int.natCast_add, Int.natCast_mul, Int.natCast_ediv]; rfl
    refine sy_set 4 S3 ((jd_add (jd_mulS jd_int (S3.at 2) (cmulL ⟨by decide, by decide⟩)) (jd_div (S3.at 1) jd_int (wide_div (b := 64) (by decide) (by omega) (by decide) (by decide)))).is (by rw [e0])) (fun σ4 H4 S4 => ?_) sc_law_blended.nd
    refine sy_for S4 (jw_lst (js_dget hu S4 (S4.atV 0) (i := 0) rfl lk_cells)) (fun d ρ => ρ.set 5 (some (.dat d))) (js := [5]) (fun d ρ' _ => jg_name 5 sc_law_blended.nd)
      (fun j ρ' μ' => μ' = Dr a l gs (nI cs) r (t1 : Int) ∧ ∃ o5, ρ' = [some (.val (.ref a)), some (.dat (.int (p : Int))), some (.dat (.int (t1 : Int))), some (.dat (.int ((blS cs t1 i : Nat) : Int))), some (.dat (.int ((W.bl p (cs.take j) t1 : Nat) : Int))), o5]) ⟨rfl, _, rfl⟩ ?_ ?_ PassesOwn.never rfl
    · rintro j d ρ' μ' σ' H' B' hd ⟨rfl, o5, rfl⟩ hB S5
      unfold nI at hd
      rw [List.map_map, List.getElem?_map] at hd
      obtain ⟨c, hc, rfl⟩ := Option.map_eq_some_iff.mp hd
      have S5 : Sy K B' M0 [some (.val (.ref a)), some (.dat (.int (p : Int))), some (.dat (.int (t1 : Int))), some (.dat (.int ((blS cs t1 i : Nat) : Int))), some (.dat (.int ((W.bl p (cs.take j) t1 : Nat) : Int))), some (.dat (.int (c : Int)))] (Dr a l gs (nI cs) r (t1 : Int)) σ' H' := S5
      have hb := bl_take (p := p) (t := t1) hc
      refine sy_set 4 S5 ((jd_mod (jd_int1 T.n_int (jd_add (jd_add (jd_mulS (S5.at 4) jd_int (cmulR ⟨by decide, by decide⟩)) (S5.at 5)) (S5.at 2))) (S5.at 1) (by omega)).is ?_) (fun σ6 H6 S6 => tB_nil ⟨_, _, ⟨rfl, _, rfl⟩, S6⟩) sc_law_blended.nd
      rw [hb, Int.natCast_emod, Int.natCast_add, Int.natCast_add, Int.natCast_mul]; rfl
    · rintro ρ' μ' σ' H' ⟨rfl, o5, rfl⟩ S5
      rw [show ((nI cs).map PyData.int).length = cs.length by simp [nI], List.take_length] at S5
      have bw := bl_bits (cs := cs) p0 p1 hcap
      refine sy_set 3 S5 ((jd_add (jd_mulS (S5.at 3) jd_int (cmulR ⟨by decide, by decide⟩)) (jd_mod (jd_int1 T.n_int (jd_powW (S5.at 4) jd_int ⟨by decide, by decide, bw⟩)) (S5.at 1) (by omega))).is ?_) (fun σ6 H6 S6 => tB_nil ⟨_, _, ⟨rfl, _, _, _, rfl⟩, S6⟩) sc_law_blended.nd
      rw [hs, Int.natCast_add, Int.natCast_mul, Int.natCast_emod, Int.natCast_pow]; rfl
  · rintro ρ' μ' σ' H' ⟨rfl, o1, o4, o5, rfl⟩ S3
    exact sy_retE (S3.ev (S3.at 3) fun v H6 S6 _ pv => k v _ _ H6 ⟨a, l, gs, cs, r, t, rfl, rfl, rfl, rfl⟩ (S6.one pv))
theorem fd_law_draw (T : Tx K mg) : Fd CX0 P w K mg base 2 "_law_draw" ["state", "room"] (spM K 2 PreD RD noF) := by
  have W := fd_law_blended (P := P) (w := w) (base := base) T
  obtain ⟨fd, F, hm⟩ := T.f_law_draw
  refine fd_mk F hm (ok_M F sc_law_draw rfl fun cdv A outer s H E B M0 vs ss μ D' hr hl hP S k kn => ?_) (fun _ _ _ _ _ _ us hl => match us, hl with | [_, _], _ => rfl)
  obtain ⟨a, l, ds, room, rfl, h0, h64, ok, hcap, rfl⟩ := hP
  have hu : (bodyX P w K mg base N_law_draw "_law_draw" s_law_draw (He.ga K "_law_draw") cdv A outer s H E).A.units + 1 < cLine := by have := hr.units; omega
  have hu64 := hr.units
  obtain ⟨gs, cs, r, t⟩ := ds
  -- behind the first statement
  have fin : ∀ (gs' : List Nat) (r' t' : Nat) (σ1 : L2.St) (H1 : Hp), _root_.W.dr room ⟨gs, cs, r, t⟩ = (r' % room, ⟨gs', cs, r' / room, t'⟩) → Sy K B M0 [some (.val (.ref a)), some (.dat (.int (room : Int))), none] (Dr a l (nI gs') (nI cs) (r' : Int) (t' : Int)) σ1 H1 →
      tB (bodyX P w K mg base N_law_draw "_law_draw" s_law_draw (He.ga K "_law_draw") cdv A outer s H E) ((defBody s_law_draw).drop 1) D' σ1 H1 := fun gs' r' t' σ1 H1 hd S1 => by
    refine sy_set 2 S1 ((jd_mod (jd_int1 T.n_int (js_dget hu S1 (S1.atV 0) (i := 0) rfl lk_rest)) (S1.at 1) (by omega)).is (by rw [← Int.natCast_emod])) (fun σ2 H2 S2 => ?_) sc_law_draw.nd
    refine sy_dput hu S2 (Jd.js ((jd_div (js_dget hu S2 (S2.atV 0) (i := 0) rfl lk_rest) (S2.at 1) (wide_div (b := 64) (by omega) (by omega) (by decide) (by decide))).is (by rw [← Int.natCast_ediv]))) (S2.atV 0) (i := 0) rfl (by decide : 4 < 1000) fun H3 S3 => ?_
    have S3 : Sy K B M0 [some (.val (.ref a)), some (.dat (.int (room : Int))), some (.dat (.int ((r' % room : Nat) : Int)))] (Dr a l (nI gs') (nI cs) ((r' / room : Nat) : Int) (t' : Int)) σ2 H3 := S3
    refine sy_retE (S3.ev (S3.at 2) fun v H6 S6 _ pv => k v (.dat (.int ((r' % room : Nat) : Int))) _ H6 ?_ (S6.one pv))
    exact ⟨a, l, ⟨gs, cs, r, t⟩, room, rfl, rfl, by rw [hd], by rw [hd]; rfl⟩
  have S : Sy K B M0 [some (.val (.ref a)), some (.dat (.int (room : Int))), none] (Dr a l (nI gs) (nI cs) (r : Int) (t : Int)) _ _ := S
  refine sy_when S (jt_eqI (js_dget hu S (S.atV 0) (i := 0) rfl lk_rest) jd_int) (fun hz H1 S1 => ?_) (fun hz H1 S1 => fin gs r t _ _ ?_ S1)
  rotate_left
  · have hz := of_decide_eq_false hz
    unfold _root_.W.dr
    rw [if_neg (show ¬ r = 0 by omega)]
  have hz : r = 0 := by have := of_decide_eq_true hz; omega
  subst hz
  refine sy_dputE hu (leW (pe_ifExp pt_T pe_W pe_W) ?_)
  have hsh : SeqAt.shaped (.list ((nI gs).map PyData.int)) = true := Lay.shaped (n := 1) (lay_lst.mpr fun x hx => by obtain ⟨i, _, rfl⟩ := List.mem_map.mp hx; exact lay_int) (by decide)
  refine S1.te (Jt.thaw (i := 1) (jt_ne hu64 (S1.frzE (i := 1) (js_dget hu S1 (S1.atV 0) (i := 0) rfl lk_great) rfl) (jd_lst ja_nil) hsh rfl)) fun H2 S2 _ => ?_
  rw [eqv_nil]
  cases gs with
  | nil =>
    show (if (!true) = true then _ else _)
    rw [if_neg (by decide)]
    refine jm_call (μ1 := Dr a l [] (nI cs) 0 t) (μ2 := []) S2 W (hr.mono (by decide)) (jsa_cons (S2.atV 0).js jsa_nil) rfl ⟨a, l, [], cs, 0, t, rfl, hcap, rfl⟩ fun v s' μ' H3 hR S3 hv => ?_
    obtain ⟨a2, l2, gs2, cs2, r2, t2, e1, e2, rfl, rfl⟩ := hR
    obtain ⟨rfl, rfl, rfl, q1, rfl, q2⟩ := dr_inj e2
    obtain rfl := nI_inj q1
    have q2 : t = t2 := by omega
    subst q2
    refine ⟨B, M0, _, Dr a l [] (nI cs) 0 ((t + 1 : Nat) : Int), .dat (.int ((_root_.W.blN cs (t + 1) : Nat) : Int)), 0, a, _, S3, hv, S3.atV 0, rfl, (by decide : 4 < 1000), fun H4 S4 => tB_nil (fin [] (_root_.W.blN cs (t + 1)) (t + 1) _ _ ?_ S4)⟩
    unfold _root_.W.dr
    rw [if_pos rfl]
  | cons g gs =>
    show (if (!false) = true then _ else _)
    rw [if_pos (by decide)]
    have g1 : gs.length < 1000 := by have := ok.1; simp at this; omega
    refine jm_pop0 (i := 1) (xs := iS (nI gs)) S2 (js_dget hu S2 (S2.atV 0) (i := 0) rfl lk_great) rfl (by unfold iS nI; simp; omega) fun v H3 S3 hv => ?_
    have S3 : Sy K B M0 _ (Dr a l (nI gs) (nI cs) 0 t) _ H3 := S3
    refine ⟨B, M0, _, Dr a l (nI gs) (nI cs) 0 t, .dat (.int (g : Int)), 0, a, _, S3, hv, S3.atV 0, rfl, (by decide : 4 < 1000), fun H4 S4 => tB_nil (fin gs g t _ _ ?_ S4)⟩
    unfold _root_.W.dr
    rw [if_pos rfl]
theorem fd_law_pick (T : Tx K mg) : Fd CX0 P w K mg base 3 "_law_pick" ["state", "some"] (spM K 2 PreP RP noF) := by
  have W := fd_law_draw (P := P) (w := w) (base := base) T
  obtain ⟨fd, F, hm⟩ := T.f_law_pick
  refine fd_mk F hm (ok_M F sc_law_pick rfl fun cdv A outer s H E B M0 vs ss μ D' hr hl hP S k kn => ?_) (fun _ _ _ _ _ _ us hl => match us, hl with | [_, _], _ => rfl)
  obtain ⟨a, l, ds, xs, rfl, h0, h1, ok, hcap, rfl⟩ := hP
  obtain ⟨v1, hv1, hd1⟩ := S.sl 1 _ rfl
  refine sy_retE (leW (pe_ix ix_list pe_W pe_W (by exact fun _ _ => rfl)) (S.evV (jv_var 1 hv1) fun H1 S1 x1 => ?_))
  refine jm_call1 S1 W (hr.mono (by decide)) (jsa_cons (S1.atV 0).js (jsa_cons (jd_len T.n_len (S1.at 1) (.inr rfl)).js jsa_nil)) rfl ⟨a, l, ds, xs.length, rfl, h0, by omega, ok, hcap, rfl⟩ fun w' s' μ' H3 hR S3 hv => ?_
  obtain ⟨rfl, rfl⟩ := rDx hR
  obtain ⟨v2, hv2, hd2⟩ := S3.sl 1 _ rfl
  rw [hv1] at hv2
  cases hv2
  obtain ⟨p, ys, rfl, e2, e3⟩ := dLst hd2
  have hi := dr_room (room := xs.length) (s := ds) h0
  obtain ⟨u, h4, h5⟩ := e3.get (List.getElem?_eq_getElem hi)
  exact ⟨p, ys, (((_root_.W.dr xs.length ds).1 : Nat) : Int), u, rfl, dInt hv, ex_l hid_le e2, atI_nat h4, k u (.dat xs[(_root_.W.dr xs.length ds).1]) _ H3 ⟨a, l, ds, xs, _, rfl, rfl, List.getElem?_eq_getElem hi, rfl, rfl⟩ (S3.one h5)⟩
theorem fd_law_same (T : Tx K mg) : Fd CX0 P w K mg base 2 "_law_same" ["found", "due"] (spD K 2 fun ds r => ∃ a, ds = [a, a] ∧ Lay 60 a ∧ sz a ≤ 80000 ∧ r = .bool true) := by
  have W := fd_law_is_truth (P := P) (w := w) (base := base) T
  obtain ⟨fd, F, hm⟩ := T.f_law_same
  refine fd_mk F hm (ok_D F sc_law_same rfl fun cdv A outer s H E M vs ds d D' hr hl hR S k _ => ?_) (fun _ _ _ _ _ _ us hl => match us, hl with | [_, _], _ => rfl)
  obtain ⟨a, rfl, hL, hz, rfl⟩ := hR
  have nd := sc_law_same.nd
  have hu := hr.units
  refine sy_setE 2 (S.evN (jn_lst (ja_cons (jd_tup (ja_cons (S.at 0) (ja_cons (S.at 1) ja_nil))) ja_nil)) fun c H1 S1 => ?_) nd
  have S1 := S1.set 2 (s := .val (.ref c)) (v := .ref c) rfl
  refine sy_while S1 (fun m ρ' μ' => ∃ ds, (∀ d ∈ ds, Lay 60 d) ∧ m = szs ds ∧ m ≤ 80000 ∧ μ' = [(c, .lst ((ds.map pr).map .dat))] ∧ ∃ o3 o4 o5 o6 o7 o8, ρ' = [some (.dat a), some (.dat a), some (.val (.ref c)), o3, o4, o5, o6, o7, o8]) (szs [a]) ⟨[a], by simpa using hL, rfl, by simpa [szs] using hz, rfl, _, _, _, _, _, _, rfl⟩ ?_ PassesOwn.never
  rintro m ρ' μ' σ' H' ⟨ds, hds, rfl, hm8, rfl, o3, o4, o5, o6, o7, o8, rfl⟩ S2
  have hsh : SeqAt.shaped (.list (ds.map pr)) = true := Lay.shaped (n := 62) (lay_lst.mpr fun x hx => by
    obtain ⟨d, hd, rfl⟩ := List.mem_map.mp hx
    refine lay_tup.mpr fun y hy => ?_
    have : y = d := by simpa using hy
    rw [this]; exact hds d hd) (by decide)
  refine ⟨_, Jt.thaw (i := 0) (jt_ne hu (S2.frzE (i := 0) (S2.atV 2).js rfl) (jd_lst ja_nil) hsh rfl), fun hp H3 S3 => ?_, fun hp H3 S3 => ?_⟩
  · rw [eqv_nil] at hp
    rcases snoc_cases ds with rfl | ⟨es, d, rfl⟩
    · cases hp
    have hd := hds d (by simp)
    have hes : ∀ e ∈ es, Lay 60 e := fun e he => hds e (by simp [he])
    have hsz : szs (es ++ [d]) = szs es + sz d := by rw [szs_app]; simp [szs]
    have dp := sz_pos d
    have S3 : Sy K H M [some (.dat a), some (.dat a), some (.val (.ref c)), o3, o4, o5, o6, o7, o8] [(c, .lst ((es.map pr).map .dat ++ [.dat (pr d)]))] σ' H3 := by
      have e : ((es ++ [d]).map pr).map Sv.dat = (es.map pr).map .dat ++ [.dat (pr d)] := by simp
      rw [← e]; exact S3
    refine sy_asgE (jm_pop (i := 0) (xs := (es.map pr).map .dat) (s := .dat (pr d)) S3 (S3.atV 2) rfl fun v H4 S4 hv => ?_)
    have hv : J.Dp K (hid (adr M [(c, .lst ((es.map pr).map .dat))]) H4) v (.tuple [d, d]) := hv
    refine (jg_tup rfl (jgs_cons (jg_name 3 nd) (jgs_cons (jg_name 4 nd) jgs_nil))) _ _ _ _ _ _ S4 hv _ fun σ5 S5 _ _ => ?_
    have S5 : Sy K H M [some (.dat a), some (.dat a), some (.val (.ref c)), some (.dat d), some (.dat d), o5, o6, o7, o8] [(c, .lst ((es.map pr).map .dat))] σ5 H4 := S5
    -- behind a turn that gives nothing new
    have fin : ∀ {σ6 H6 o5 o6 o7 o8}, Sy K H M [some (.dat a), some (.dat a), some (.val (.ref c)), some (.dat d), some (.dat d), o5, o6, o7, o8] [(c, .lst ((es.map pr).map .dat))] σ6 H6 → ∃ m2 ρ2 μ2, m2 < szs (es ++ [d]) ∧ (∃ ds, (∀ d ∈ ds, Lay 60 d) ∧ m2 = szs ds ∧ m2 ≤ 80000 ∧ μ2 = [(c, .lst ((ds.map pr).map .dat))] ∧ ∃ o3 o4 o5 o6 o7 o8, ρ2 = [some (.dat a), some (.dat a), some (.val (.ref c)), o3, o4, o5, o6, o7, o8]) ∧ Sy K H M ρ2 μ2 σ6 H6 :=
      fun S6 => ⟨_, _, _, by omega, ⟨es, hes, rfl, by omega, rfl, _, _, _, _, _, _, rfl⟩, S6⟩
    refine sy_if S5 (jt_or (jt_isN (S5.at 4)) fun _ => jt_val (jd_isi T.n_isinstance T.n_bool boot_bool (S5.at 4) (kit_bool d))) (fun h1 H6 S6 => ?_) (fun h1 H6 S6 => ?_)
    · refine sy_when (b := false) S6 (jt_if (jt_isN (S6.at 4)) (fun h => Jt.is (jt_notN (S6.at 3)) (by rw [h]; rfl)) (fun h => ?_)) (fun h => by cases h) fun _ H7 S7 => tB_nil (tB_nil (fin S7))
      cases d with
      | bool b => exact Jt.is (jt_not (jt_val (jd_call W (hr.mono (by decide)) (ja_cons (S6.at 3) (ja_cons (S6.at 4) ja_nil)) rfl ⟨b, b, rfl, rfl⟩))) (by cases b <;> rfl)
      | none => cases h
      | int i => cases h1
      | str x => cases h1
      | list x => cases h1
      | tuple x => cases h1
      | dict x => cases h1
    · refine sy_if S6 (jt_val (jd_isi2 T.n_isinstance T.n_int T.n_str boot_int (by decide +kernel) (S6.at 4) (kit_int d) (kit_str d))) (fun h2 H7 S7 => ?_) (fun h2 H7 S7 => ?_)
      · have hnb : dIsB d = false := by cases d <;> first | rfl | cases h1
        have hee : PyData.eqv d d = true := by
          cases d with
          | int i => simp [PyData.eqv]
          | str x => simp [PyData.eqv]
          | bool b => cases h1
          | none => cases h1
          | list x => cases h2
          | tuple x => cases h2
          | dict x => cases h2
        refine sy_when S7 (jt_or3 (jt_val (jd_isi T.n_isinstance T.n_bool boot_bool (S7.at 3) (kit_bool d))) (fun _ => jt_ne hu (jd_isi T.n_isinstance T.n_int boot_int (S7.at 3) (kit_int d)) (jd_isi T.n_isinstance T.n_int boot_int (S7.at 4) (kit_int d)) rfl rfl) (fun _ _ => jt_ne hu (S7.at 3) (S7.at 4) (hd.shaped (by decide)) (hd.shaped (by decide)))) (fun h => ?_) fun _ H8 S8 => tB_nil (tB_nil (tB_nil (fin S8)))
        rw [hnb, hee] at h
        cases q : dIsI d <;> rw [q] at h <;> cases h
      · refine sy_if S7 (jt_val (jd_isi T.n_isinstance T.n_dict (by decide +kernel) (S7.at 4) (kit_dict d))) (fun h3 H8 S8 => ?_) (fun h3 H8 S8 => ?_)
        · cases d with
          | dict x => exact absurd hd.1 (by simp [PyData.canLay0])
          | int i => cases h3
          | str x => cases h3
          | bool b => cases h3
          | none => cases h3
          | list x => cases h3
          | tuple x => cases h3
        · obtain ⟨xs, hx, hxs, hlen⟩ : ∃ xs, (d = .tuple xs ∨ d = .list xs) ∧ (∀ x ∈ xs, Lay 60 x) ∧ sz d = szs xs + 1 := by
            cases d with
            | list x => exact ⟨x, .inr rfl, fun y hy => (lay_lst.mp (hd.mono (by decide : 60 ≤ 59 + 2)) y hy).mono (by decide), rfl⟩
            | tuple x => exact ⟨x, .inl rfl, fun y hy => (lay_tup.mp (hd.mono (by decide : 60 ≤ 59 + 2)) y hy).mono (by decide), rfl⟩
            | dict x => cases h3
            | int i => cases h2
            | str x => cases h2
            | bool b => cases h1
            | none => cases h1
          have xl := szs_len xs
          have al := szs_len es
          have ia : ∀ {n : Nat} {x : Str} {p : Pos} (S : Sy K H M [some (.dat a), some (.dat a), some (.val (.ref c)), some (.dat d), some (.dat d), o5, o6, o7, o8] [(c, .lst ((es.map pr).map .dat))] σ5 H8), True := fun _ => trivial
          refine sy_set 5 S8 (jd_lst (ja_cons (jd_and (k := dIsT d) (d := .bool (dIsT d)) (jd_isi T.n_isinstance T.n_tuple boot_tuple (S8.at 3) (kit_tuple d)) (fun h => by rw [h]) fun h => Jd.is (jd_isi T.n_isinstance T.n_tuple boot_tuple (S8.at 4) (kit_tuple d)) (by rw [h]))
            (ja_cons (jd_and (k := dIsL d) (d := .bool (dIsL d)) (jd_isi T.n_isinstance T.n_list (by decide +kernel) (S8.at 3) (kit_list d)) (fun h => by rw [h]) fun h => Jd.is (jd_isi T.n_isinstance T.n_list (by decide +kernel) (S8.at 4) (kit_list d)) (by rw [h])) ja_nil))) (fun σ9 H9 S9 => ?_) nd
          refine sy_when S9 (jt_or (jt_notIn (by have := hr.un; omega) jd_bl (S9.at 5) rfl rfl rfl) fun _ => jt_neI (jd_len T.n_len (S9.at 3) hx) (jd_len T.n_len (S9.at 4) hx)) (fun h => ?_) fun _ H10 S10 => ?_
          · rcases hx with rfl | rfl <;> simp [dIsT, dIsL, PyData.eqv] at h
          · refine sy_ext S10 (S10.atV 2) (sy_lcN S10 (ds := xs.map pr) (by
                rw [show xs.map pr = zipD xs xs from (zip_same xs).symm]
                rcases hx with rfl | rfl
                · exact jw_zipT T.n_zip (S10.at 3) (S10.at 4)
                · exact jw_zipL T.n_zip (S10.at 3) (S10.at 4)) ((xs.map pr).map some) (by simp) (by simp; omega) (fun d ρ => match d with | .tuple [x, y] => (ρ.set 7 (some (.dat x))).set 8 (some (.dat y)) | _ => ρ) (js := [7, 8]) (own := [("left", 7), ("right", 8)]) (by simp) ?_ ?_ ?_ (blkOk_by (by rfl)) rfl nd) (i := 0) rfl (by simp; omega) fun H11 S11 => tB_nil (tB_nil (tB_nil (tB_nil ?_)))
            · rintro _ y ⟨s, H, C, cl, fp, rfl⟩ hy
              obtain ⟨x, _, rfl⟩ := List.mem_map.mp hy
              exact jg_tup rfl (jgs_cons (jg_name 7 nd) (jgs_cons (jg_name 8 nd) jgs_nil))
            · rintro i y o _ B' M' σ' H' h1 h2 ⟨s, H, C, cl, fp, rfl⟩ S'
              rw [List.getElem?_map, h1] at h2
              cases h2
              exact jts_nil
            · rintro i y x _ B' M' σ' H' h1 h2 ⟨s, H, C, cl, fp, rfl⟩ S'
              rw [List.getElem?_map, h1] at h2
              cases h2
              obtain ⟨x, _, rfl⟩ := List.mem_map.mp (List.mem_of_getElem? h1)
              exact jd_tup (ja_cons (S'.at 7) (ja_cons (S'.at 8) ja_nil))
            · have e : ((es ++ xs).map pr).map Sv.dat = (es.map pr).map .dat ++ ((((xs.map pr).map some).filterMap id).map .dat) := by rw [fm_some]; simp
              refine ⟨_, _, _, ?_, ⟨es ++ xs, fun e he => ?_, rfl, ?_, ?_, _, _, _, _, _, _, rfl⟩, S11⟩
              · rw [szs_app]; omega
              · rcases List.mem_append.mp he with he | he
                · exact hes e he
                · exact hxs e he
              · rw [szs_app]; omega
              · rw [e]; rfl
  · rw [eqv_nil] at hp
    exact sy_ret S3 jd_bl fun v H4 x _ p => k v H4 x p
end K58

set_option maxHeartbeats 4000000
/-! J39: words, plain; expressions that words are made by. -/
namespace J
open PySem PySem.Spec PyProof.Rows L2 Evl RZ
theorem str_ext {a b : Str} (h : a.cps.toList = b.cps.toList) : a = b := by
  cases a; cases b
  congr 1
  exact Array.ext' h
theorem wS_cps (w : List Nat) : (wS w).cps.toList = w.map (· + 97) := rfl
theorem wS_app (a b : List Nat) : wS a ++ wS b = wS (a ++ b) := by
  refine str_ext ?_
  show ((wS a).cps ++ (wS b).cps).toList = _
  rw [Array.toList_append, wS_cps, wS_cps, wS_cps, List.map_append]
theorem wS_join : ∀ w : List Nat, Txt.join ("" : Str) (w.map fun c => wS [c]) = wS w := fun w => by
  rw [show Txt.join ("" : Str) (w.map fun c => wS [c]) = Str.join ("" : Str) (w.map fun c => wS [c]) from StrLaws.glued_eq_join _ _]
  have key : ∀ w : List Nat, Str.join ("" : Str) (w.map fun c => wS [c]) = wS w := fun w => by
    induction w with
    | nil => rfl
    | cons c w ih =>
      cases w with
      | nil => rfl
      | cons c2 w =>
        have e : Str.join ("" : Str) ((c :: c2 :: w).map fun c => wS [c]) = wS [c] ++ ("" : Str) ++ Str.join ("" : Str) ((c2 :: w).map fun c => wS [c]) := rfl
        rw [e, ih]
        have e2 : wS [c] ++ ("" : Str) = wS [c] := by refine str_ext ?_; rfl
        rw [e2, wS_app]; rfl
  exact key w
theorem wS_cut (w : List Nat) : cutS (wS w) none (some 1) = wS (w.take 1) := by
  have h : PySem.StrLaws.sliceText (wS w) none (some 1) = cutS (wS w) none (some 1) := sliceText_cut _ _ _
  cases w with
  | nil => rfl
  | cons c w =>
    rw [← h, PySem.StrLaws.sliceText_to ⟨by decide, by simp [wS_cps]; omega⟩]
    refine str_ext ?_
    simp [wS_cps, wS]
theorem wS_q (n : Nat) : (⟨(List.replicate n ("q" : Str).cps.toList).flatten.toArray⟩ : Str) = wS (List.replicate n 16) := by
  refine str_ext ?_
  show (List.replicate n ("q" : Str).cps.toList).flatten = (List.replicate n 16).map (· + 97)
  have e : ("q" : Str).cps.toList = [113] := by decide +kernel
  rw [e, flat1, List.map_replicate]
theorem abc_letters : (("abcdefghijklmnopqrstuvwxyz" : Str).cps.toList.map fun c => PyData.str ⟨#[c]⟩) = (List.range 26).map fun c => wD [c] := by
  have e : ("abcdefghijklmnopqrstuvwxyz" : Str).cps.toList = (List.range 26).map (· + 97) := by decide +kernel
  rw [e, List.map_map]
  rfl
theorem wAny (F : List (List Nat)) (w : List Nat) : (F.map wD).any (fun z => PyData.eqv z (wD w)) = decide (w ∈ F) := by
  induction F with
  | nil => rfl
  | cons f F ih =>
    rw [List.map_cons, List.any_cons, ih, wS_dec]
    by_cases h : f = w
    · subst h; simp
    · rw [decide_eq_false h, Bool.false_or]
      exact decide_eq_decide.mpr ⟨fun q => List.mem_cons_of_mem _ q, fun q => (List.mem_cons.mp q).resolve_left fun e => h e.symm⟩
/-- what is a word -/
def WdOk (w : List Nat) : Prop := 1 ≤ w.length ∧ w.length ≤ 8 ∧ ∀ c ∈ w, c < 26
theorem lay_wD {n : Nat} {w : List Nat} (h : WdOk w) : Lay n (wD w) := ⟨by
  show PyData.strOk (wS w) = true
  unfold PyData.strOk
  rw [← Array.all_toList, wS_cps, List.all_map, List.all_eq_true]
  intro c hc
  have := h.2.2 c hc
  show decide (c + 97 < 0x110000) = true
  exact decide_eq_true (by omega), Nat.zero_le _⟩
theorem shaped_ws {F : List (List Nat)} (h : ∀ w ∈ F, WdOk w) : SeqAt.shaped (.list (F.map wD)) = true := Lay.shaped (n := 2) (lay_lst.mpr fun x hx => by obtain ⟨i, hi, rfl⟩ := List.mem_map.mp hx; exact lay_wD (h i hi)) (by decide)
theorem lets_ok : ∀ {n : Nat} {s : W.DS}, (W.lets n s).1.length = n ∧ ∀ c ∈ (W.lets n s).1, c < 26
  | 0, _ => ⟨rfl, fun _ h => nomatch h⟩
  | n + 1, s => by
    rw [W.lets_succ]
    have ih := lets_ok (n := n) (s := (W.dr 26 s).2)
    refine ⟨by simp [ih.1], fun c hc => ?_⟩
    rcases List.mem_cons.mp hc with rfl | hc
    · exact dr_room (by decide)
    · exact ih.2 c hc
theorem word_ok {s : W.DS} : WdOk (W.word s).1 := by
  rw [W.word_eq]
  have := lets_ok (n := 1 + (W.dr 8 s).1) (s := (W.dr 8 s).2)
  have h := dr_room (room := 8) (s := s) (by decide)
  exact ⟨by omega, by omega, this.2⟩
theorem lets_snoc : ∀ {n : Nat} {s : W.DS}, W.lets (n + 1) s = ((W.lets n s).1 ++ [(W.dr 26 (W.lets n s).2).1], (W.dr 26 (W.lets n s).2).2)
  | 0, _ => rfl
  | n + 1, s => by
    rw [W.lets_succ, lets_snoc (n := n), W.lets_succ n s]
    rfl
theorem lets_mono {i n : Nat} {s : W.DS} (h : i ≤ n) : (W.lets i s).2.t ≤ (W.lets n s).2.t := by
  induction n with
  | zero => rw [show i = 0 by omega]; exact Nat.le_refl _
  | succ n ih =>
    by_cases e : i = n + 1
    · subst e; exact Nat.le_refl _
    · refine Nat.le_trans (ih (by omega)) ?_
      rw [lets_snoc]
      exact W.dr_t.1
theorem okS_lets : ∀ {n : Nat} {s : W.DS}, okS s → okS (W.lets n s).2
  | 0, _, h => h
  | n + 1, s, h => by rw [lets_snoc]; exact okS_dr (okS_lets h)
theorem okS_word {s : W.DS} (h : okS s) : okS (W.word s).2 := by rw [W.word_eq]; exact okS_lets (okS_dr h)
theorem nxt_len (F : List (List Nat)) (w : List Nat) : (W.nxt F w).length ≤ F.length + 1 := by
  unfold W.nxt
  rw [List.length_append]
  split
  · simp
  · split <;> simp
/-- so far they are words, unlike -/
def WsOk (F : List (List Nat)) : Prop := F.Nodup ∧ ∀ w ∈ F, WdOk w
theorem nxt_ok {F : List (List Nat)} {w : List Nat} (h : WsOk F) (hw : WdOk w) : WsOk (W.nxt F w) := by
  have snoc : ∀ {v : List Nat}, v ∉ F → WdOk v → WsOk (F ++ [v]) := fun {v} hv ov => by
    refine ⟨?_, fun x hx => ?_⟩
    · rw [List.nodup_append]
      refine ⟨h.1, by simp, fun a ha b hb => ?_⟩
      rw [List.mem_singleton.mp hb]
      exact fun e => hv (e ▸ ha)
    · rcases List.mem_append.mp hx with q | q
      · exact h.2 x q
      · rw [List.mem_singleton.mp q]; exact ov
  unfold W.nxt
  split
  · rename_i q; exact snoc q hw
  · split
    · rename_i q1 q2
      refine snoc q2.1 ⟨?_, ?_, fun c hc => ?_⟩
      · have := hw.1; simp; omega
      · have := q2.2
        rw [List.length_append, List.length_replicate]
        have : (w.take 1).length ≤ 1 := List.length_take_le _ _
        omega
      · rcases List.mem_append.mp hc with q | q
        · exact hw.2.2 c (List.mem_of_mem_take q)
        · rw [(List.mem_replicate.mp q).2]; decide
    · rw [List.append_nil]; exact h
theorem run_t {many N m : Nat} {F : List (List Nat)} {s : W.DS} (h : W.Run many N m F s) : s.t ≤ N := by
  cases h with
  | done _ b => exact b
  | step _ b _ => exact b
/-! ### ascending -/
abbrev wLt (a b : List Nat) : Prop := (wS a).cps.toList < (wS b).cps.toList
def AscW (ws : List (List Nat)) : Prop := ws.Pairwise wLt
theorem wLt_tri {a b : List Nat} (h : ¬ wLt b a) (n : a ≠ b) : wLt a b := by
  by_cases q : wLt a b
  · exact q
  · have e : (wS a).cps.toList = (wS b).cps.toList := by
      have h1 : (wS a).cps.toList ≤ (wS b).cps.toList := h
      have h2 : (wS b).cps.toList ≤ (wS a).cps.toList := q
      exact List.le_antisymm h1 h2
    exact absurd (wS_inj (str_ext e)) n
theorem asc_of : ∀ {ws : List (List Nat)}, sortedS (ws.map wS) = true → ws.Nodup → AscW ws
  | [], _, _ => .nil
  | [_], _, _ => .cons (fun _ h => nomatch h) .nil
  | a :: b :: ws, h, nd => by
    have h : (!ltCps (wS b).cps.toList (wS a).cps.toList && risingS (wS b) (ws.map wS)) = true := h
    rw [Bool.and_eq_true] at h
    have ih := asc_of (ws := b :: ws) h.2 (List.nodup_cons.mp nd).2
    have hab : wLt a b := by
      refine wLt_tri (fun q => ?_) fun e => (List.nodup_cons.mp nd).1 (e ▸ List.mem_cons_self)
      have h1 := h.1
      rw [ltCps_eq, decide_eq_true q] at h1
      cases h1
    refine .cons (fun x hx => ?_) ih
    rcases List.mem_cons.mp hx with rfl | hx
    · exact hab
    · exact List.lt_trans hab ((List.pairwise_cons.mp ih).1 x hx)
def iw (z : Str) : List Nat := z.cps.toList.map (· - 97)
theorem iw_wS (w : List Nat) : iw (wS w) = w := by
  unfold iw
  rw [wS_cps, List.map_map]
  conv => rhs; rw [← List.map_id w]
  exact List.map_congr_left fun c _ => by show c + 97 - 97 = c; omega
theorem perm_ws {zs : List Str} {F : List (List Nat)} (h : zs.Perm (F.map wS)) : ∃ ws : List (List Nat), zs = ws.map wS ∧ ws.Perm F := by
  refine ⟨zs.map iw, ?_, ?_⟩
  · rw [List.map_map]
    conv => lhs; rw [← List.map_id zs]
    refine List.map_congr_left fun z hz => ?_
    obtain ⟨w, _, rfl⟩ := List.mem_map.mp (h.mem_iff.mp hz)
    show wS w = wS (iw (wS w))
    rw [iw_wS]
  · have := h.map iw
    rw [List.map_map] at this
    have e : F.map (iw ∘ wS) = F := by
      conv => rhs; rw [← List.map_id F]
      exact List.map_congr_left fun w _ => iw_wS w
    rwa [e] at this
section
variable {X : Cx} {M : List Addr} {σ : L2.St} {H : Hp} {a b c : Expr} {ds : List D} {pos : Pos}
/-- a if t else b, a new list -/
theorem jn_if {k : Bool} (hc : Jt X M c σ H k) (ha : k = true → Jn X M a σ H ds) (hb : k = false → Jn X M b σ H ds) : Jn X M (.IfExp c a b pos) σ H ds := fun al H1 x Q q =>
  leW (pe_ifExp pt_T pe_W pe_W) (hc al H1 x _ fun H2 y => by
    have fl : ∀ {u : Addr}, H2 u = none → H1 u = none := fun {u} h => by
      cases h0 : H1 u with
      | none => rfl
      | some o => rw [y _ _ h0] at h; cases h
    cases k with
    | true => rw [if_pos rfl]; exact ha rfl al H2 (x.trans y) _ fun u vs H3 z n h p => q u vs H3 (y.trans z) (fl n) h p
    | false => rw [if_neg Bool.false_ne_true]; exact hb rfl al H2 (x.trans y) _ fun u vs H3 z n h p => q u vs H3 (y.trans z) (fl n) h p)
end
/-- a def known by another name than its own -/
theorem fd_mkA {P : Program} {w : World} {K : PySem.W.Frag} {mg : Str → Option Value} {base : Heap} {x y : Str} {st : Stmt} {f : Addr} {fd : FuncData} {ps : List Str} {k : Nat} {sp : Sp} {CX : CXT} (F : FunD K x x (defArgs st) (defBody st) (defScope st) [] [] f fd) (hm : mg y = some (.ref f)) (ok : FnOk P w K mg base CX k f fd ps sp)
    (hb : ∀ (kV doc pm : Value) (an : Option Addr) (cdv ct : Value) (us : List Value), us.length = ps.length → bindArgs (PySem.W.fnOf x x (defArgs st) (defBody st) (defScope st) .none kV doc pm an cdv ct) ⟨us, []⟩ = pure (ps.zip us)) : Fd CX P w K mg base k y ps sp :=
  ⟨⟨f, fd, hm, F.kp, F.bindsN hb, ok⟩⟩
end J

set_option maxHeartbeats 4000000
/-! J40: texts walked, asked, compared; values of all kinds that are small. -/
namespace J
open PySem PySem.Spec PyProof.Rows L2 Evl RZ
/-- the signs of a text -/
abbrev sgs (z : Str) : List D := z.cps.toList.map fun c => PyData.str ⟨#[c]⟩
abbrev sLt (a b : Str) : Bool := decide (a.cps.toList < b.cps.toList)
section
variable {X : Cx} {M : List Addr} {σ : L2.St} {H : Hp} {a b e tg : Expr} {d : D} {pos p : Pos} {x z : Str} {c : Nat}
theorem yl_str {K : PySem.W.Frag} {G0 : Hp} {z : Str} : Yl K G0 (Its z) (sgs z) := ⟨_, _, by rw [List.length_map, Array.length_toList]; exact walk_str, fun _ _ => trivial, fun i H x H' _ _ y => by
  obtain ⟨rfl, c, e1, e2⟩ := y
  refine ⟨Ex.refl _, fun M _ _ d hd => ?_⟩
  rw [List.getElem?_map, Array.getElem?_toList, e1] at hd
  cases hd
  rw [e2]
  exact .str _⟩
/-- for x in z -/
theorem jw_str (h : Jd X M a σ H (.str z)) : Jw X M tg a σ H (sgs z) := fun al H1 x R k => leI (pi_str pe_W) (h al H1 x _ fun v H2 y q => ⟨z, dStr q, k _ H2 y yl_str⟩)
theorem jd_lenS (hm : X.mg "len" = none) (ha : Jd X M a σ H (.str z)) (hz : z.length ≤ 16777216) (hg : Gl X "len" := by rfl) (hs : starEach [a] X.env = (false, eval a X.env) :: starEach [] X.env := by rfl) :
    Jd X M (.Call (.Name "len" p) [a] [] pos) σ H (.int z.length) := fun al H1 x Q q =>
  leW (pe_callB call_len_str hg hm boot_len (pa_cons pe_W pa_nil hs) (by decide) (by decide) hs) (ha al H1 x _ fun v H2 y p => ⟨z, by rw [dStr p], by rw [sizeLine_eq]; exact hz, q _ H2 y (.int _)⟩)
theorem jd_ltS (ha : Jd X M a σ H (.str x)) (hb : Jd X M b σ H (.str z)) : Jd X M (.Compare a [.Lt] [b] pos) σ H (.bool (sLt x z)) := fun al H1 y Q q =>
  leW (pe_cmpR op_lt_str pe_W pe_W (nm b rfl rfl)) (ha al H1 y _ fun v H2 y2 p => hb al H2 (y.trans y2) _ fun w H3 y3 r => ⟨x, z, dStr p, dStr r, q _ H3 (y2.trans y3) (.bl _)⟩)
/-- one sign in a text -/
theorem jd_inS (ha : Jd X M a σ H (.str ⟨#[c]⟩)) (hb : Jd X M b σ H (.str z)) (hm : behindInMarks .In b = false) : Jd X M (.Compare a [.In] [b] pos) σ H (.bool (decide (c ∈ z.cps.toList))) := fun al H1 y Q q =>
  leW (pe_cmpR op_in_sign pe_W pe_W hm) (ha al H1 y _ fun v H2 y2 p => hb al H2 (y.trans y2) _ fun w H3 y3 r => ⟨c, z, dStr p, dStr r, q _ H3 (y2.trans y3) (.bl _)⟩)
/-- a text in, not in, a list or tuple of texts -/
theorem inV_strs (z : Str) (ys : List Str) : inV (.str z) (ys.map V.str) = decide (z ∈ ys) := by
  unfold inV
  rw [List.any_map]
  induction ys with
  | nil => rfl
  | cons y ys ih =>
    rw [List.any_cons, ih]
    show ((y == z) || _) = _
    by_cases h : y = z
    · subst h; simp
    · have h2 : ¬ z = y := fun e => h e.symm
      simp [h, h2]
theorem dSeqS {K : PySem.W.Frag} {G : Hp} {t : Bool} {v : V} {ys : List Str} (p : Dp K G v (seqD t (ys.map PyData.str))) : ∃ q, v = .ref q ∧ (SqL K G q (ys.map V.str) ∨ SqT K G q (ys.map V.str)) := by
  cases t with
  | true =>
    obtain ⟨q, xs, e1, e2, e3⟩ := dTup p
    exact ⟨q, e1, .inr (by rw [← dpStrsV e3]; exact e2)⟩
  | false =>
    obtain ⟨q, xs, e1, e2, e3⟩ := dLst p
    exact ⟨q, e1, .inl (by rw [← dpStrsV e3]; exact e2)⟩
theorem sq_le {K : PySem.W.Frag} {G G' : Hp} {q : Addr} {xs : List V} (e : Ex G G') (h : SqL K G q xs ∨ SqT K G q xs) : SqL K G' q xs ∨ SqT K G' q xs := h.imp (ex_l e) (ex_t e)
variable {ys : List Str} {t : Bool}
theorem jd_inT (ha : Jd X M a σ H (.str z)) (hb : Jd X M b σ H (seqD t (ys.map PyData.str))) (hm : behindInMarks .In b = false) : Jd X M (.Compare a [.In] [b] pos) σ H (.bool (decide (z ∈ ys))) := fun al H1 x Q q =>
  leW (pe_cmpR op_in_seq pe_W pe_W hm) (ha al H1 x _ fun v H2 y p => hb al H2 (x.trans y) _ fun w H3 y3 r => by
    obtain ⟨o, e1, e2⟩ := dSeqS r
    exact ⟨o, ys.map V.str, e1, sq_le hid_le e2, by rw [dStr p]; rfl, flat_strs ys, by rw [dStr p, inV_strs]; exact q _ H3 (y.trans y3) (.bl _)⟩)
theorem jt_inT (ha : Jd X M a σ H (.str z)) (hb : Jd X M b σ H (seqD t (ys.map PyData.str))) (hm : behindInMarks .In b = false) : Jt X M (.Compare a [.In] [b] pos) σ H (decide (z ∈ ys)) := fun al H1 x Q q =>
  leT (pt_cmpR op_in_seq pe_W pe_W hm) (ha al H1 x _ fun v H2 y p => hb al H2 (x.trans y) _ fun w H3 y3 r => by
    obtain ⟨o, e1, e2⟩ := dSeqS r
    exact ⟨o, ys.map V.str, e1, sq_le hid_le e2, by rw [dStr p]; rfl, flat_strs ys, _, rfl, by rw [dStr p, inV_strs]; exact q H3 (y.trans y3)⟩)
theorem jt_notInT (ha : Jd X M a σ H (.str z)) (hb : Jd X M b σ H (seqD t (ys.map PyData.str))) (hm : behindInMarks .NotIn b = false) : Jt X M (.Compare a [.NotIn] [b] pos) σ H (!decide (z ∈ ys)) := fun al H1 x Q q =>
  leT (pt_cmpR op_notIn_seq pe_W pe_W hm) (ha al H1 x _ fun v H2 y p => hb al H2 (x.trans y) _ fun w H3 y3 r => by
    obtain ⟨o, e1, e2⟩ := dSeqS r
    exact ⟨o, ys.map V.str, e1, sq_le hid_le e2, by rw [dStr p]; rfl, flat_strs ys, _, rfl, by
      show Q (!inV v (ys.map V.str)) H3
      rw [dStr p, inV_strs]; exact q H3 (y.trans y3)⟩)
end
/-! ### values of all kinds, small -/
mutual
def okV : D → Bool
  | .list l => decide (l.length ≤ 1000) && okVs l
  | .tuple l => decide (l.length ≤ 1000) && okVs l
  | .str z => decide (z.length ≤ 1000) && PyData.strOk z
  | .dict l => l.isEmpty
  | _ => true
def okVs : List D → Bool
  | [] => true
  | d :: ds => okV d && okVs ds
end
theorem okVs_iff : ∀ {l : List D}, okVs l = true ↔ ∀ x ∈ l, okV x = true
  | [] => by simp [okVs]
  | x :: l => by simp [okVs, okVs_iff (l := l)]
theorem okV_tup {l : List D} (h : okV (.tuple l) = true) : l.length ≤ 1000 ∧ ∀ x ∈ l, okV x = true := by
  simp only [okV, Bool.and_eq_true, decide_eq_true_eq] at h
  exact ⟨h.1, okVs_iff.mp h.2⟩
theorem okV_lst {l : List D} (h : okV (.list l) = true) : l.length ≤ 1000 ∧ ∀ x ∈ l, okV x = true := by
  simp only [okV, Bool.and_eq_true, decide_eq_true_eq] at h
  exact ⟨h.1, okVs_iff.mp h.2⟩
theorem okV_str {z : Str} (h : okV (.str z) = true) : z.length ≤ 1000 ∧ PyData.strOk z = true := by
  simp only [okV, Bool.and_eq_true, decide_eq_true_eq] at h
  exact h
theorem okT_of {l : List D} (h1 : l.length ≤ 1000) (h2 : ∀ x ∈ l, okV x = true) : okV (.tuple l) = true := by
  simp only [okV, Bool.and_eq_true, decide_eq_true_eq]
  exact ⟨h1, okVs_iff.mpr h2⟩
theorem okL_of {l : List D} (h1 : l.length ≤ 1000) (h2 : ∀ x ∈ l, okV x = true) : okV (.list l) = true := by
  simp only [okV, Bool.and_eq_true, decide_eq_true_eq]
  exact ⟨h1, okVs_iff.mpr h2⟩
theorem shS {z : Str} (h : PyData.strOk z = true) : SeqAt.shaped (.str z) = true := Lay.shaped (n := 1) ⟨h, Nat.zero_le _⟩ (by decide)
theorem allM {α : Type} (f : α → Bool) (l : List α) : (l.map f).all id = l.all f := by
  rw [List.all_map]; rfl
end J

set_option maxHeartbeats 4000000
/-! J41: a def that returns a new tuple of texts: it is known that the tuple has no dict, so that its method index can be called. -/
namespace J
open PySem PySem.Spec PyProof.Rows L2 Evl RZ
/-- at q: a tuple of these texts -/
def FrT (H : Hp) (q : Addr) (ys : List Str) : Prop := ∃ o : Obj, H q = some (.frz o (.tup (ys.map V.str))) ∧ o.cls = .type "tuple" ∧ o.dict = none
theorem FrT.ex {H H' : Hp} {q : Addr} {ys : List Str} (e : Ex H H') (h : FrT H q ys) : FrT H' q ys := let ⟨o, h1, h2⟩ := h; ⟨o, e _ _ h1, h2⟩
theorem FrT.sq {K : PySem.W.Frag} {H : Hp} {q : Addr} {ys : List Str} (h : FrT H q ys) : SqT K H q (ys.map V.str) := let ⟨o, h1, _⟩ := h; .inl (.inr ⟨o, h1⟩)
def spF (K : PySem.W.Frag) (n : Nat) (R : List D → List Str → Prop) : Sp := fun vs H Q _ => ∃ (M : List Addr) (ds : List D) (ys : List Str), ds.length = n ∧ Al M H ∧ DpAll K (hid M H) vs ds ∧ R ds ys ∧ ∀ q H2, Ex H H2 → H q = none → FrT H2 q ys → Q (.ref q) H2
section
variable {P : Program} {w : World} {K : PySem.W.Frag} {mg : Str → Option Value} {base : Heap} {x : Str} {st : Stmt} {f : Addr} {fd : FuncData} {N ps : List Str} {k n : Nat}
theorem ok_F {q : Str} {R : List D → List Str → Prop} (F : FunD K x q (defArgs st) (defBody st) (defScope st) [] [] f fd) (S : FnScope N ps (defScope st)) (hn : ps.length = n)
    (body : ∀ (cdv : Value) (A : Around) (outer : List Env) (s : Shared) (H : Hp) (E : XK) (M : List Addr) (vs : List V) (ds : List D) (ys : List Str) (D' : Ends), Room k (bodyX P w K mg base N q st f cdv A outer s H E).A → ds.length = n → R ds ys →
      Sy K H M (ds.map (fun d => some (Sv.dat d)) ++ List.replicate (N.length - ds.length) none) [] (L2.start N vs) H → (∀ q H', Ex H H' → H q = none → FrT H' q ys → D'.rt (.ref q) H') →
      tB (bodyX P w K mg base N q st f cdv A outer s H E) (defBody st) D' (L2.start N vs) H) : FnOk P w K mg base CX0 (k + 1) f fd ps (spF K n R) := by
  refine F.ok S (fun vs H Q E h => ?_) (fun cdv A outer s H vs Q E hr h => ?_)
  · obtain ⟨M, ds, ys, h1, h2, h3, _⟩ := h
    rw [h3.len, h1, hn]
  · obtain ⟨M, ds, ys, h1, al, h3, h4, h5⟩ := h
    exact ⟨_, PSs.nox pss_B, body cdv A outer s H E M vs ds ys _ hr h1 h4 (sy_start al h3) fun q H' x e p => h5 q H' x e p⟩
end
section
variable {X : Cx} {M : List Addr} {σ : L2.St} {H : Hp} {ds : List D} {ys : List Str} {k n j : Nat} {x z : Str} {ps : List Str} {R : List D → List Str → Prop} {a e e2 : Expr} {es : List Expr} {p pos apos : Pos}
/-- tuple(xs), xs a list of texts -/
def rTupF (K : PySem.W.Frag) : List V → Hp → VK → Prop := fun xs H Q => ∃ (p : Addr) (ys : List Str), xs = [.ref p] ∧ SqL K H p (ys.map V.str) ∧ ∀ l H', H l = none → Ex H H' → FrT H' l ys → Q (.ref l) H'
theorem call_tupF : CallR X (.type "tuple") (rTupF X.K) := by
  intro pins s σ H xs us Q I r h
  obtain ⟨p, ys, rfl, hq, q⟩ := h
  obtain ⟨u, rfl, rx⟩ := vals1 r
  cases rx
  obtain ⟨its, r', pl, hz⟩ := I.list hq
  have hlen := r'.length
  refine call_tuple_list pl.isList (fun h' kp => ?_) (by simp only [List.size_toArray] <;> omega)
  have I1 : Inv X pins σ H { s with heap := h' } := I.kept (t' := s.toks) kp
  have hn := I1.hok.fresh (Nat.le_refl _)
  have I2 : Inv X pins σ (upd H h'.objs.size (.frz { cls := .type "tuple", data := .seq its.toArray } (.tup (ys.map V.str)))) { s with heap := h'.push { cls := .type "tuple", data := .seq its.toArray } } :=
    I1.laid (t' := s.toks) (fun b o e => Heap.get?_push_of_some _ e) (Nat.le_refl _) (show ObjOk X.prog X.w _ _ _ (.frz _ (.tup (ys.map V.str))) from ⟨Heap.get?_push_size _ rfl, hz, its, r', IsTup.new _ _⟩)
  exact ⟨.ref h'.objs.size, _, I2, rfl, q _ _ hn (Ex.new hn) ⟨_, upd_same, rfl, rfl⟩⟩
theorem tW_tupF {Q : VK} (hm : X.mg "tuple" = none) (al : Al M H) (ha : Jd X M a σ H (.list (ys.map PyData.str))) (k : ∀ q H', Ex H H' → H q = none → FrT H' q ys → Q (.ref q) H') (hg : Gl X "tuple" := by rfl) (hs : starEach [a] X.env = (false, eval a X.env) :: starEach [] X.env := by rfl) : tW X (.Call (.Name "tuple" p) [a] [] pos) σ H Q :=
  leW (pe_callTy call_tupF hg hm boot_tuple (pa_cons pe_W pa_nil hs) (by decide) (by decide) hs) (ha al H (Ex.refl H) _ fun v H1 y r => by
    obtain ⟨t, xs, e1, e2, e3⟩ := dLst r
    refine ⟨t, ys, by rw [e1], by rw [← dpStrsV e3]; exact ex_l hid_le e2, fun l H' hl x f => k l H' (y.trans x) ?_ f⟩
    cases h0 : H l with
    | none => rfl
    | some o => rw [y _ _ h0] at hl; cases hl)
/-- what an expression makes: such a tuple -/
def Jf (X : Cx) (M : List Addr) (e : Expr) (σ : L2.St) (H : Hp) (ys : List Str) : Prop := Al M H → ∀ H1, Ex H H1 → ∀ Q : VK, (∀ q H2, Ex H1 H2 → H1 q = none → FrT H2 q ys → Q (.ref q) H2) → tW X e σ H1 Q
theorem jf_call (F : Fd CX0 X.prog X.w X.K X.mg X.base k x ps (spF X.K n R)) (hr : Room k X.A) (ha : Ja X M (e :: es) σ H ds) (hl : ds.length = n) (hR : R ds ys) (hg : Gl X x := by rfl) (hdb : (x == ("__debug__" : Str)) = false := by decide)
    (he : starEach (e :: es) X.env = (false, eval e X.env) :: starEach es X.env := by rfl) (hpl : (backTo pos (starEach es X.env)).any (·.1) = false := by rfl) : Jf X M (.Call (.Name x p) (e :: es) [] pos) σ H ys := fun al H1 y Q q => by
  obtain ⟨f, fd, hm, hk, hb, ok⟩ := F.ex
  refine leW (pe_call (E := E0) ok hr hg hm hk hb .nil pass0 pa_A hdb he hpl) (ha al H1 y _ fun vs H2 z r => ?_)
  show spF X.K n R (vs ++ []) H2 Q E0
  rw [List.append_nil]
  refine ⟨M, ds, ys, hl, (al.ex y).ex z, r, hR, fun u H3 v hn t => q u H3 (z.trans v) ?_ t⟩
  cases h0 : H1 u with
  | none => rfl
  | some o => rw [z _ _ h0] at hn; cases hn
theorem Jf.jd (h : Jf X M e σ H ys) : Jd X M e σ H (.tuple (ys.map PyData.str)) := fun al H1 y Q q => h al H1 y Q fun u H2 z hn f => by
  have nM : u ∉ M := (al.ex y).out hn
  obtain ⟨o, h1, _⟩ := f
  exact q _ H2 z (.tup (.inl (.inr ⟨o, by rw [hid_out nM]; exact h1⟩)) (dpStrs ys))
def tIdxF (K : PySem.W.Frag) (to : TE) (t : TA) : TE := fun σ H Q => to σ H fun v H1 => ∃ (q : Addr) (ys : List Str), v = .ref q ∧ FrT H1 q ys ∧ t σ H1 fun xs H2 => ∃ (z : Str) (j : Nat), xs = [.str z] ∧ SqT K H2 q (ys.map V.str) ∧ ys[j]? = some z ∧ (∀ m, m < j → ys[m]? ≠ some z) ∧ Q (.int (j : Nat)) H2
theorem pe_idxF {o : Expr} {to : TE} {t : TA} {cpos : Pos} (ho : PE X o to) (ha : PA X (e :: es) t) (hbase : attributeBase o "index" X.env (eval o X.env) = eval o X.env := by rfl)
    (hfew : ((backTo cpos (starEach (e :: es) X.env)).all (fun x => !x.1) && (backToKw cpos (keywordEach [] X.env)).all (fun x => x.1.isSome)
      && decide ((e :: es).length + ([] : List Keyword).length + (if ([] : List Keyword).isEmpty then 0 else 1) < 30)) = true := by rfl)
    (hline : (apos.endLine == cpos.line) = true := by rfl) (hs : starEach (e :: es) X.env = (false, eval e X.env) :: starEach es X.env := by rfl) (hplain : (backTo cpos (starEach es X.env)).any (·.1) = false := by rfl) :
    PE X (.Call (.Attribute o "index" apos) (e :: es) [] cpos) (tIdxF X.K to t) := by
  refine ⟨fun pins s σ H Q I h => ?_⟩
  refine wpAny_Call_method_late hbase hfew hline rfl (thn (ho.run pins s σ H _ I h) fun v s1 ⟨x, H1, I1, r1, q, ys, e1, f, q1⟩ => ?_)
  subst e1
  cases r1
  obtain ⟨o, f1, f2, f3⟩ := f
  have g := (I1.hok q _ f1).1
  refine ⟨"tuple", "tuple.index", PySem.F.plainAttrs_tuple, PySem.F.slot_tuple_index, PySem.F.type_tuple_index, ⟨o, g, f2⟩, fun a e2 => by cases e2; exact ⟨o, g, f3⟩, ?_⟩
  have hA := ha.run cpos pins s1 σ H1 _ I1 q1
  rw [hs] at hA ⊢
  refine Calls.callWith_builtin (by show (false || (backTo cpos (starEach es X.env)).any (·.1)) = false; rw [hplain] <;> rfl) (Calls.evalArgs_plain ?_)
  exact thn hA fun us s2 ⟨vs, H2, I2, r2, z, j, w1, w2, w3, w4, w5⟩ => mt_tup_index pins s2 σ H2 (.ref q) vs _ us Q I2 rfl r2 ⟨q, ys, z, j, rfl, w1, w2, w3, w4, w5⟩
/-- f(..).index(z) -/
theorem jd_idxF {o : Expr} (ho : Jf X M o σ H ys) (ha : Jd X M e σ H (.str z)) (hz : ys[j]? = some z) (hno : ∀ m, m < j → ys[m]? ≠ some z)
    (hbase : attributeBase o "index" X.env (eval o X.env) = eval o X.env := by rfl)
    (hfew : ((backTo pos (starEach [e] X.env)).all (fun x => !x.1) && (backToKw pos (keywordEach [] X.env)).all (fun x => x.1.isSome)
      && decide (([e] : List Expr).length + ([] : List Keyword).length + (if ([] : List Keyword).isEmpty then 0 else 1) < 30)) = true := by rfl)
    (hline : (apos.endLine == pos.line) = true := by rfl) (hs : starEach [e] X.env = (false, eval e X.env) :: starEach [] X.env := by rfl) (hplain : (backTo pos (starEach [] X.env)).any (·.1) = false := by rfl) :
    Jd X M (.Call (.Attribute o "index" apos) [e] [] pos) σ H (.int (j : Nat)) := fun al H1 x Q q =>
  leW (pe_idxF pe_W (pa_cons pe_W pa_nil hs) hbase hfew hline hs hplain) (ho al H1 x _ fun u H2 y hn f => ⟨u, ys, rfl, f, ha al H2 (x.trans y) _ fun w H3 y3 p3 => ⟨z, j, by rw [dStr p3], (f.ex y3).sq, hz, hno, q _ H3 (y.trans y3) (.int _)⟩⟩)
end
end J

set_option maxHeartbeats 4000000
/-! J42: places from the end; a loop over a list that is made with effects. -/
namespace J
open PySem PySem.Spec PyProof.Rows L2 Evl RZ
theorem ixN_of {n i : Nat} (h : i < n) : ixN n (i : Int) = some i := by
  unfold ixN
  rw [if_pos (Int.natCast_nonneg i), if_pos (by omega)]
  rfl
theorem ixN_last {n : Nat} (h : 0 < n) : ixN n (-1) = some (n - 1) := by
  unfold ixN
  rw [if_neg (by decide), if_pos (by omega)]
  congr 1
  omega
section
variable {X : Cx} {B H : Hp} {M0 : List Addr} {ρ : Ro} {μ : Mu} {σ : L2.St} {pos pos' : Pos} {o b e tg iter : Expr} {a : Addr} {i : Nat} {rest : List Stmt} {D' : Ends}
/-- n-th of one's own list, counted from whichever end -/
theorem js_ixZ {xs : List Sv} {n : Nat} {z : Int} {s : Sv} (S : Sy X.K B M0 ρ μ σ H) (ho : Js X (adr M0 μ) o σ H (.val (.ref a))) (hb : Jd X (adr M0 μ) b σ H (.int z)) (hi : μ[i]? = some (a, .lst xs)) (hz : ixN xs.length z = some n) (hn : xs[n]? = some s) (hx : PlainIx b := by exact fun _ _ => rfl) : Js X (adr M0 μ) (.Subscript o b pos) σ H s := fun al H1 x Q q =>
  leW (pe_ix ix_list pe_W pe_W hx) (ho al H1 x _ fun v H2 y p => hb al H2 (x.trans y) _ fun w H3 z' r => by
    have p : v = .ref a := p
    subst p
    have S3 := S.ex ((x.trans y).trans z')
    obtain ⟨vs, h1, h2⟩ := S3.own hi
    obtain ⟨u, h3, h4⟩ := paired_get h2 hn
    refine ⟨a, vs, z, u, rfl, dInt r, .inl (.inl h1), ?_, q u H3 (y.trans z') h4⟩
    unfold atI
    rw [← paired_len h2, hz]
    exact h3)
theorem sy_setIxZ (h : tW X e σ H fun v H1 => ∃ (B : Hp) (M0 : List Addr) (ρ : Ro) (μ : Mu) (s : Sv) (i : Nat) (a : Addr) (xs : List Sv) (n : Nat) (z : Int), Sy X.K B M0 ρ μ σ H1 ∧ s.holds X.K (hid (adr M0 μ) H1) v ∧ Jv X o σ H1 (.ref a) ∧ Jd X (adr M0 μ) b σ H1 (.int z) ∧ μ[i]? = some (a, .lst xs) ∧ ixN xs.length z = some n ∧
      ∀ H', Sy X.K B M0 ρ (μ.set i (a, .lst (xs.set n s))) σ H' → tB X rest D' σ H')
    (ha : ∀ v, assign (.Subscript o b pos') X.env v = (do
      let ov ← holding [v] (eval o X.env)
      let iv ← holding [v, ov] (eval b X.env)
      standAt pos'
      holding [v, ov, iv] (setItem ov iv v)
      release [v, ov, iv] []) := by intro _; rfl)
    (hs : swapsWithSole [.Subscript o b pos'] e pos.line X.env = pure false := by rfl) (hw : swappedStores [.Subscript o b pos'] e X.env = pure none := by rfl) (h1 : (assignEach [.Subscript o b pos'] X.env).map (·.2) = [assign (.Subscript o b pos') X.env] := by rfl) : tB X (.Assign [.Subscript o b pos'] e pos :: rest) D' σ H :=
  tB_cons (ps_asg pe_W (pg_sub pe_W pe_W set_list ha) hs hw h1) (tW_mono h fun v H1 ⟨B, M0, ρ, μ, s, i, a, xs, n, z, S1, p1, ho, hx, hi, hn, k⟩ => S1.evV ho fun H2 S2 x2 => S2.ev (hx.mono x2 S1.all) fun w H3 S3 x3 p3 => by
    obtain ⟨vs, h1, h2⟩ := S3.own hi
    exact ⟨a, vs, z, n, rfl, dInt p3, h1, by rw [← paired_len h2]; exact hn, k _ (S3.upd _ hi ⟨_, upd_same, paired_set (p1.ex (hid_ex (x2.trans x3))) h2⟩)⟩)
theorem tI_lstE {R : It → Hp → Prop} (h : tW X iter σ H fun v H2 => ∃ (M : List Addr) (ds : List D), Dp X.K (hid M H2) v (.list ds) ∧ ∀ J, Yl X.K (hid M H2) J ds → R J H2) : tI X tg iter σ H R :=
  leI (pi_list pe_W) (tW_mono h fun v H2 ⟨M, ds, q, k⟩ => by
    obtain ⟨t, xs, e1, e2, e3⟩ := dLst q
    exact ⟨t, e1, ⟨xs, ex_l hid_le e2⟩, k _ ⟨_, _, by rw [← e3.len]; exact walk_list, fun H3 g => ex_l g e2, yl_at e3⟩⟩)
end
end J

set_option maxHeartbeats 4000000
/-! J43: calls over values on the way; words. -/
namespace J
open PySem PySem.Spec PyProof.Rows L2 Evl RZ
def PreW : List Sv → Mu → Prop := fun ss μ => ∃ (a l : Addr) (many : Nat), ss = [.val (.ref a), .dat (.int (many : Int))] ∧ many ≤ 26 ∧ Rdy a l (cW) μ
def RW : List Sv → Mu → Sv → Mu → Prop := fun ss μ v μ' => ∃ (a : Addr) (many : Nat) (ws : List (List Nat)), ss = [.val (.ref a), .dat (.int (many : Int))] ∧ ws.length = many ∧ (∀ x ∈ ws, WdOk x) ∧ AscW ws ∧ v = .dat (.list (ws.map wD)) ∧ Adv (cW) μ μ'
section
variable {X : Cx} {B H : Hp} {M0 : List Addr} {ρ : Ro} {μ μ1 μ2 μD : Mu} {σ : L2.St} {ts ss : List Sv} {vs ws : List V} {v : V} {d : D} {e1 e2 e3 e4 : Expr} {p p1 p2 p3 p4 pos : Pos} {a l : Addr} {t0 kk k1 n : Nat} {room : Int} {Pre : List Sv → Mu → Prop} {R : List Sv → Mu → Sv → Mu → Prop} {Q : VK}
theorem Sx.lastD (S : Sx X.K B M0 ρ μ σ (ts ++ [.dat d]) (vs ++ [v]) H) : Dp X.K (hid (adr M0 μ) H) v d := by
  have hl : ts.length = vs.length := by have := S.len; simpa using this
  have := S.right hl
  cases this with | cons x _ => exact x
/-- a callee's promise: its arguments are the last values at hand -/
theorem Sx.callE (S : Sx X.K B M0 ρ (μ1 ++ μ2) σ (ts ++ ss) (vs ++ ws) H) (hl : ts.length = vs.length) (hn : ss.length = n) (hp : Pre ss μ1)
    (k : ∀ v s μ1' H', R ss μ1 s μ1' → Sx X.K B M0 ρ (μ1' ++ μ2) σ (ts ++ [s]) (vs ++ [v]) H' → Q v H') : spM X.K n Pre R noF ws H Q E0 :=
  callM (S.take hl).1 (S.right hl) hn hp (fun v s μ1' H' hR S' hv => k v s μ1' H' hR (Sx.push ⟨S', (S.take hl).2⟩ hv)) fun _ _ h => h.elim
/-- _law_words(draws, 1 + _law_draw(draws, room)) -/
theorem sx_words (S : Sx X.K B M0 ρ (μD ++ μ2) σ ts vs H) (Ww : Fd CX0 X.prog X.w X.K X.mg X.base 4 "_law_words" ["draws", "many"] (spM X.K 2 PreW RW noF)) (Wd : Fd CX0 X.prog X.w X.K X.mg X.base 2 "_law_draw" ["state", "room"] (spM X.K 2 PreD RD noF)) (hr : Room 4 X.A) (hD : Dn a l t0 kk μD) (hcap : t0 + kk + (cW + 1) ≤ capT)
    (ha : Js X (adr M0 (μD ++ μ2)) e1 σ H (.val (.ref a))) (ha3 : ∀ H1, Sy X.K B M0 ρ (μD ++ μ2) σ H1 → Js X (adr M0 (μD ++ μ2)) e3 σ H1 (.val (.ref a))) (hb : ∀ H1, Sy X.K B M0 ρ (μD ++ μ2) σ H1 → Js X (adr M0 (μD ++ μ2)) e4 σ H1 (.dat (.int room))) (h0 : 0 < room) (h1 : room ≤ 26)
    (k : ∀ v ws μ' H', 1 ≤ ws.length → (ws.length : Int) ≤ room → (∀ x ∈ ws, WdOk x) → AscW ws → Dn a l t0 (kk + (cW + 1)) μ' → Sx X.K B M0 ρ (μ' ++ μ2) σ (ts ++ [.dat (.list (ws.map wD))]) (vs ++ [v]) H' → Q v H')
    (hg : Gl X "_law_words" := by rfl) (hg2 : Gl X "_law_draw" := by rfl) (he : starEach [e1, .BinOp (.Constant (.int 1) k1 p1) .Add (.Call (.Name "_law_draw" p2) [e3, e4] [] p3) p4] X.env = (false, eval e1 X.env) :: starEach [.BinOp (.Constant (.int 1) k1 p1) .Add (.Call (.Name "_law_draw" p2) [e3, e4] [] p3) p4] X.env := by rfl)
    (he2 : starEach [.BinOp (.Constant (.int 1) k1 p1) .Add (.Call (.Name "_law_draw" p2) [e3, e4] [] p3) p4] X.env = (false, eval (.BinOp (.Constant (.int 1) k1 p1) .Add (.Call (.Name "_law_draw" p2) [e3, e4] [] p3) p4) X.env) :: starEach [] X.env := by rfl) (hpl : (backTo pos (starEach [.BinOp (.Constant (.int 1) k1 p1) .Add (.Call (.Name "_law_draw" p2) [e3, e4] [] p3) p4] X.env)).any (·.1) = false := by rfl)
    (he3 : starEach [e3, e4] X.env = (false, eval e3 X.env) :: starEach [e4] X.env := by rfl) (he4 : starEach [e4] X.env = (false, eval e4 X.env) :: starEach [] X.env := by rfl) (hpl3 : (backTo p3 (starEach [e4] X.env)).any (·.1) = false := by rfl) :
    tW X (.Call (.Name "_law_words" p) [e1, .BinOp (.Constant (.int 1) k1 p1) .Add (.Call (.Name "_law_draw" p2) [e3, e4] [] p3) p4] [] pos) σ H Q :=
  jm_callE Ww hr (tA_cons (S.ev ha fun v1 H1 S1 => tA_cons (leW (pe_op op_add pe_W pe_W) (S1.ev (Jd.js jd_int) fun v0 H2 S2 => sx_draw S2 Wd (hr.mono (by decide)) hD (by omega) (ha3 _ S2.base) (hb _ S2.base) h0 (by omega) (fun v2 z μ' H3 z0 z1 hD2 S3 => by
    have S3a := S3.take (ts := ts ++ [.val (.ref a)] ++ [.dat (.int 1)]) (vs := vs ++ [v1] ++ [v0]) (by have := S.len; simp [this])
    refine ⟨1, z, dInt S3a.lastD, dInt S3.lastD, tA_nil ?_⟩
    have S4 := (S3a.take (ts := ts ++ [.val (.ref a)]) (vs := vs ++ [v1]) (by have := S.len; simp [this])).push (s := .dat (.int (1 + z))) (v := .int (1 + z)) (.int _)
    rw [List.append_assoc, List.append_assoc] at S4
    refine Sx.callE (μ1 := μ') (n := 2) S4 S.len rfl ⟨a, l, (1 + z).toNat, by rw [Int.toNat_of_nonneg (by omega)]; rfl, by omega, hD2.rdy (by omega)⟩ (fun v s μ'' H4 hR S5 => ?_)
    obtain ⟨a2, many, ws, q1, q2, q3, q4, rfl, q6⟩ := hR
    simp only [List.cons_append, List.nil_append, List.cons.injEq, Sv.val.injEq, V.ref.injEq, Sv.dat.injEq, PyData.int.injEq, and_true] at q1
    exact k v ws μ'' H4 (by omega) (by omega) q3 q4 ((q6.use hD2).mono (by omega)) S5) hg2 he3 he4 hpl3)) he2) he) hg (by decide) he hpl
end
end J

set_option maxHeartbeats 4000000
namespace K58

open PySem PySem.Spec PyProof.Rows L2 J Evl
variable {P : Program} {w : World} {K : PySem.W.Frag} {mg : Str → Option Value} {base : Heap}
theorem dr8 : ∀ {s : W.DS}, (W.dr 8 s).1 < 8 := dr_room (by decide)
theorem rnd_lt : 26 * W.rnd + 1 ≤ cW := cW_ge
/-- so many letters stand -/
def InvW (a l c : Addr) (n : Nat) (s : W.DS) (x : List Sv) (i : Nat) (acc : List D) (μ : Mu) : Prop := acc = (W.lets i s).1.map (fun c => wD [c]) ∧ i ≤ n ∧ μ = Dw a l (W.lets i s).2 ++ [(c, .lst x)]
theorem fd_law_words (T : Tx K mg) : Fd CX0 P w K mg base 4 "_law_words" ["draws", "many"] (spM K 2 PreW RW noF) := by
  have Wd := fd_law_draw (P := P) (w := w) (base := base) T
  have Wp := fd_law_pick (P := P) (w := w) (base := base) T
  obtain ⟨fd, F, hm⟩ := T.f_law_words
  refine fd_mk F hm (ok_M F sc_law_words rfl fun cdv A outer s H E B M0 vs ss μ D' hr hl hP S k kn => ?_) (fun _ _ _ _ _ _ us hl => match us, hl with | [_, _], _ => rfl)
  obtain ⟨a, l, many, rfl, h26, s0, ok0, rfl, hcap⟩ := hP
  have nd := sc_law_words.nd
  have hu := hr.units
  obtain ⟨m0, N, hN, run0⟩ := W.run_ex h26 many [] s0 (by simp) ok0.2
  have hN1 : N + 1 ≤ capT := by
    have := rnd_lt
    have : many * W.rnd ≤ 26 * W.rnd := Nat.mul_le_mul_right _ h26
    omega
  refine sy_setE 2 (S.evN (jn_lst ja_nil) fun c H1 S1 => ?_) nd
  have S1 := (S1.set 2 (s := .val (.ref c)) (v := .ref c) rfl).perm (List.perm_append_comm (l₁ := Dw a l s0) (l₂ := [_]))
  have S1 : Sy K B M0 [some (.val (.ref a)), some (.dat (.int (many : Int))), some (.val (.ref c)), none, none] (Dw a l s0 ++ [(c, .lst ((([] : List (List Nat)).map wD).map .dat))]) _ H1 := S1
  refine sy_while S1 (fun m ρ' μ' => ∃ (F : List (List Nat)) (ds : W.DS) (c : Addr), W.Run many N m F ds ∧ WsOk F ∧ F.length ≤ many ∧ okS ds ∧ μ' = Dw a l ds ++ [(c, .lst ((F.map wD).map .dat))] ∧ ∃ o3 o4, ρ' = [some (.val (.ref a)), some (.dat (.int (many : Int))), some (.val (.ref c)), o3, o4]) m0 ⟨[], s0, c, run0, ⟨.nil, fun _ h => nomatch h⟩, by simp, ok0, rfl, _, _, rfl⟩ ?_ PassesOwn.never
  rintro m ρ' μ' σ' H' ⟨F, ds, c, run, okF, lF, okd, rfl, o3, o4, rfl⟩ S2
  have hix : ∀ {s : W.DS}, (Dw a l s ++ [(c, Mo.lst ((F.map wD).map .dat))])[2]? = some (c, .lst ((F.map wD).map .dat)) := rfl
  refine ⟨_, jt_lt (S2.lookL hix (jd_len T.n_len (S2.frzE (i := 2) (S2.atV 2).js hix) (.inr rfl)) rfl) (S2.at 1), fun hp H3 S3 => ?_, fun hp H3 S3 => ?_⟩
  · have hlt : F.length < many := by have := of_decide_eq_true hp; simp at this; exact this
    cases run with
    | done q _ => omega
    | step _ ht run =>
      have hwt := run_t run
      have ok1 := okS_dr (room := 8) okd
      have okw := okS_word okd
      rw [W.word_eq] at hwt
      -- the word
      refine sy_setE 3 (leW (pe_join pe_W pe_W) (S3.ev jd_str fun v1 H4 S4 x4 p4 => ⟨⟨_, dStr p4⟩, tW_lc (own := [("lap", 4)]) (lcE_eff (B := B) (M0 := M0) (ρ := [some (.val (.ref a)), some (.dat (.int (many : Int))), some (.val (.ref c)), o3, o4]) (js := [4]) (fun μ1 rs => μ1 = Dw a l (W.dr 8 ds).2 ++ [(c, .lst ((F.map wD).map .dat))] ∧ rs = rgD 0 (1 + (W.dr 8 ds).1)) (fun R hR0 => ?_) (fun d ρ => ρ.set 4 (some (.dat d))) (by simp)
        (fun _ _ => InvW a l c (1 + (W.dr 8 ds).1) (W.dr 8 ds).2 ((F.map wD).map .dat)) ?_ ?_ ?_ ?_ ?_) (blkOk_by (by rfl)) rfl nd⟩)) nd
      · refine leI (pi_range1 rfl T.n_range (pa_cons pe_W pa_nil rfl)) (leW (pe_op op_add pe_W pe_W) (S4.ev jd_int fun v5 H5 S5 x5 p5 => sx_drawX (ts := []) (vs := []) (n := 8) (s := ds) (μ2 := [(c, .lst ((F.map wD).map .dat))]) S5.sx Wd (hr.mono (by decide)) okd (by omega) (S5.atV 0).js (Jd.js jd_int) (by decide) (by decide) fun v6 H6 S6 => ?_))
        have hv := dInt (S6.dats (ds := [.int _]) |> fun h => by cases h with | cons p _ => exact p)
        have h8 := dr8 (s := ds)
        refine ⟨1, _, dInt p5, hv, _, rfl, by omega, by omega, hR0 _ _ _ _ ⟨rfl, ?_⟩ S6.base yl_rng⟩
        congr 1
      · rintro μ1 rs ⟨rfl, rfl⟩
        exact ⟨rfl, Nat.zero_le _, rfl⟩
      · rintro μ1 rs ⟨rfl, rfl⟩ i acc μ' ⟨e1, hi, e2⟩
        have := dr8 (s := ds)
        rw [e1, List.length_map, lets_ok.1]; omega
      · rintro _ d ⟨s, H, C, cl, fp, rfl⟩
        exact jg_name 4 nd
      · rintro μ1 rs ⟨rfl, rfl⟩ i d acc μ' _ B' M' σ' H' Q hd ⟨e1, hi, e2⟩ ⟨s, H, C, cl, fp, rfl⟩ S' kk
        obtain ⟨hi2, rfl⟩ := rgD_get hd
        subst e1 e2
        have okl := okS_lets (n := i) ok1
        have hm := lets_mono (i := i) (n := 1 + (W.dr 8 ds).1) (s := (W.dr 8 ds).2) (by omega)
        refine sx_pickX (ts := []) (vs := []) (xs := (List.range 26).map fun c => wD [c]) (μ2 := [(c, .lst ((F.map wD).map .dat))]) S'.sx Wp (hr.mono (by decide)) okl (by omega) (S'.atV 0).js (Jd.js (abc_letters ▸ (jn_listS rfl T.n_list jd_str (by decide +kernel)).jd)) (by simp) (by simp) fun v x H6 hx S6 => ?_
        have e26 : ((List.range 26).map fun c => wD [c]).length = 26 := by simp
        rw [e26] at hx S6
        have hx : x = wD [(W.dr 26 (W.lets i (W.dr 8 ds).2).2).1] := by
          rw [List.getElem?_map, List.getElem?_range (dr_room (by decide))] at hx
          exact (Option.some.inj hx).symm
        subst hx
        refine kk v _ _ H6 ⟨?_, by omega, ?_⟩ S6.base (S6.dats (ds := [_]) |> fun h => by cases h with | cons p _ => exact p)
        · rw [lets_snoc, List.map_append]; rfl
        · rw [lets_snoc]
      · rintro μ1 rs ⟨rfl, rfl⟩ p acc μ' H5 ⟨e1, hi, e2⟩ S5
        subst e1 e2
        rw [rgD_len] at S5
        rw [← W.word_eq] at S5
        have q4 := dStr p4
        obtain ⟨vs5, g1, g2⟩ := S5.own (i := 0) rfl
        have e5 : (W.word ds).1.map (fun c => wD [c]) = ((W.word ds).1.map (fun c => wS [c])).map PyData.str := by rw [List.map_map]; rfl
        have hvs : vs5 = ((W.word ds).1.map (fun c => wS [c])).map V.str := dpStrsV (dats_of (by rw [← e5]; exact g2))
        subst hvs
        have wok := word_ok (s := ds)
        refine ⟨_, p, (W.word ds).1.map (fun c => wS [c]), q4, rfl, .inl (SqL.of g1), ?_, ?_⟩
        · have : (((W.word ds).1.map fun c => wS [c]).map fun z : Str => z.length) = (W.word ds).1.map fun _ => 1 := by rw [List.map_map]; rfl
          rw [this, List.map_const', List.sum_replicate_nat, List.length_map]
          have := wok.2.1
          show (W.word ds).1.length * 1 + (W.word ds).1.length * 0 ≤ _
          omega
        rw [wS_join]
        generalize hwd : (W.word ds).1 = wd at *
        have S6 := S5.drop1.set 3 (s := .dat (wD wd)) (v := .str (wS wd)) (.str _)
        have S6 : Sy K B M0 [some (.val (.ref a)), some (.dat (.int (many : Int))), some (.val (.ref c)), some (.dat (wD wd)), o4] (Dw a l (W.word ds).2 ++ [(c, .lst ((F.map wD).map .dat))]) _ H5 := S6
        have h65 : (bodyX P w K mg base N_law_words "_law_words" s_law_words (He.ga K "_law_words") cdv A outer s H E).A.units + 65 < cLine := by have := hr.un; omega
        have S6d : Sy K B M0 [some (.val (.ref a)), some (.dat (.int (many : Int))), some (.val (.ref c)), some (.dat (wD wd)), o4] (Dw a l (W.word ds).2) _ H5 := Sy.dropAt (μa := Dw a l (W.word ds).2) (μb := []) S6
        have lF8 : F.length < 26 := by omega
        have okq : wd.take 1 ++ List.replicate F.length 16 ∉ F ∧ F.length < 8 → WdOk (wd.take 1 ++ List.replicate F.length 16) := fun h => by
          refine ⟨?_, ?_, fun c hc => ?_⟩
          · have := wok.1; simp; omega
          · have := h.2
            have : (wd.take 1).length ≤ 1 := List.length_take_le _ _
            rw [List.length_append, List.length_replicate]; omega
          · rcases List.mem_append.mp hc with q | q
            · exact wok.2.2 c (List.mem_of_mem_take q)
            · rw [(List.mem_replicate.mp q).2]; decide
        have eqq : cutS (wS wd) none (some 1) ++ (⟨(List.replicate F.length ("q" : Str).cps.toList).flatten.toArray⟩ : Str) = wS (wd.take 1 ++ List.replicate F.length 16) := by rw [wS_cut, wS_q, wS_app]
        have shq : SeqAt.shaped (wD (wd.take 1 ++ List.replicate F.length 16)) = true := by
          have : SeqAt.shaped (.list ([wd.take 1 ++ List.replicate F.length 16].map wD)) = true → True := fun _ => trivial
          refine Lay.shaped (n := 1) ⟨?_, Nat.zero_le _⟩ (by decide)
          show PyData.strOk _ = true
          unfold PyData.strOk
          rw [← Array.all_toList, wS_cps, List.all_map, List.all_eq_true]
          intro c hc
          show decide (c + 97 < 0x110000) = true
          refine decide_eq_true ?_
          rcases List.mem_append.mp hc with q | q
          · have := wok.2.2 c (List.mem_of_mem_take q); omega
          · rw [(List.mem_replicate.mp q).2]; decide
        refine sy_setE 2 (S6.evN (ds := (W.nxt F wd).map wD) (by
          have e : (W.nxt F wd).map wD = F.map wD ++ (if wd ∉ F then [wd] else if wd.take 1 ++ List.replicate F.length 16 ∉ F ∧ F.length < 8 then [wd.take 1 ++ List.replicate F.length 16] else []).map wD := by unfold W.nxt; rw [List.map_append]
          rw [e]
          refine jn_catO S6 (S6.atV 2) (i := 2) hix (jn_if (k := !decide (wd ∈ F)) (Jt.thaw (i := 2) (Jt.is (jt_notIn h65 (S6d.at 3) (S6.frzE (i := 2) (S6.atV 2).js hix) rfl ((lay_wD (n := 1) wok).shaped (by decide)) (shaped_ws okF.2)) (by rw [wAny]))) (fun h => ?_) fun h => jn_if (k := decide (wd.take 1 ++ List.replicate F.length 16 ∉ F ∧ F.length < 8)) (Jt.is (jt_and (Jt.thaw (i := 2) (jt_notIn h65 (Jd.is (jd_addS (jd_slS (S6d.at 3) jd_int ?_) (jd_mulS' jd_str (jd_len T.n_len (S6.frzE (i := 2) (S6.atV 2).js hix) (.inr rfl)) (by rw [List.length_map]) (by omega) rfl) ?_) (congrArg PyData.str eqq)) (S6.frzE (i := 2) (S6.atV 2).js hix) rfl shq (shaped_ws okF.2))) (fun _ => jt_lt (S6.lookL hix (jd_len T.n_len (S6.frzE (i := 2) (S6.atV 2).js hix) (.inr rfl)) rfl) jd_int)) ?_) (fun h2 => ?_) fun h2 => ?_) ?_
          · have hn : wd ∉ F := by simpa using h
            rw [if_pos hn]
            exact jn_lst (ja_cons (S6.at 3) ja_nil) (by simp)
          · have := wok.2.1; rw [wS_len]; omega
          · rw [wS_cut, wS_q, wS_len, wS_len, List.length_replicate]
            have : (wd.take 1).length ≤ 1 := List.length_take_le _ _
            omega
          · rw [wAny, List.length_map]
            by_cases q : wd.take 1 ++ List.replicate F.length 16 ∈ F
            · simp [q]
            · simp [q]; omega
          · have hm : wd ∈ F := by simpa using h
            have h2 := of_decide_eq_true h2
            rw [if_neg (fun z => z hm), if_pos h2]
            refine jn_lst (ja_cons (Jd.is (jd_addS (jd_slS (S6.at 3) jd_int ?_) (jd_mulS' jd_str (S6.lookL hix (jd_len T.n_len (S6.frzE (i := 2) (S6.atV 2).js hix) (.inr rfl)) rfl) (by rw [List.length_map]) (by omega) rfl) ?_) (congrArg PyData.str eqq)) ja_nil) (by simp)
            · have := wok.2.1; rw [wS_len]; omega
            · rw [wS_cut, wS_q, wS_len, wS_len, List.length_replicate]
              have : (wd.take 1).length ≤ 1 := List.length_take_le _ _
              omega
          · have hm : wd ∈ F := by simpa using h
            rw [if_neg (fun z => z hm), if_neg (of_decide_eq_false h2)]
            exact jn_lst ja_nil
          · rw [List.length_map, List.length_map]
            split
            · simp; omega
            · split
              · simp; omega
              · simp; omega) fun c2 H7 S7 => ?_) nd
        have S8 := S7.set 2 (s := .val (.ref c2)) (v := .ref c2) rfl
        have S8 : Sy K B M0 [some (.val (.ref a)), some (.dat (.int (many : Int))), some (.val (.ref c2)), some (.dat (wD wd)), o4] (((c2, .lst (((W.nxt F wd).map wD).map .dat)) :: Dw a l (W.word ds).2) ++ (c, .lst ((F.map wD).map .dat)) :: []) _ H7 := S8
        have S9 := (Sy.dropAt S8)
        rw [List.append_nil] at S9
        have S9 := S9.perm (List.perm_append_comm (l₁ := Dw a l (W.word ds).2) (l₂ := [_]))
        have hnl := nxt_len F wd
        exact tB_nil ⟨_, _, _, Nat.lt_succ_self _, ⟨W.nxt F wd, (W.word ds).2, c2, run, nxt_ok okF wok, by omega, okw, rfl, _, _, rfl⟩, S9⟩
  · have hge : many ≤ F.length := by have := of_decide_eq_false hp; simp at this; exact this
    have ht := run_t run
    have S4 := S3.frz 2 2 rfl hix
    have S4 : Sy K B M0 [some (.val (.ref a)), some (.dat (.int (many : Int))), some (.dat (.list (F.map wD))), o3, o4] (Dw a l ds) σ' H3 := S4
    have e5 : F.map wD = (F.map wS).map PyData.str := by rw [List.map_map]; rfl
    refine sy_retE (tW_sortedS T.n_sorted S4.all (Jd.is (S4.at 2) (congrArg PyData.list e5)) (by rw [List.length_map]; omega) fun zs v H6 pm so x6 pv => ?_)
    obtain ⟨ws, rfl, pw⟩ := perm_ws pm
    have ndw : ws.Nodup := pw.nodup_iff.mpr okF.1
    refine k v (.dat (.list (ws.map wD))) _ H6 ⟨a, many, ws, rfl, by rw [pw.length_eq]; omega, fun x hx => okF.2 x (pw.mem_iff.mp hx), asc_of so ndw, rfl, a, l, s0, ds, rfl, okd, rfl, ?_⟩ ((S4.ex x6).one (s := .dat (.list (ws.map wD))) (by
      have e6 : ws.map wD = (ws.map wS).map PyData.str := by rw [List.map_map]; rfl
      rw [e6]; exact pv))
    have := rnd_lt
    have : many * W.rnd ≤ 26 * W.rnd := Nat.mul_le_mul_right _ h26
    omega
end K58

set_option maxHeartbeats 4000000
namespace K58

open PySem PySem.Spec PyProof.Rows L2 J Evl
variable {P : Program} {w : World} {K : PySem.W.Frag} {mg : Str → Option Value} {base : Heap}
def isW : D → Bool
  | .int _ => true
  | _ => false
theorem fd_is_whole (T : Tx K mg) : Fd CX0 P w K mg base 1 "is_whole" ["value"] (spD K 1 fun ds d => ∃ a, ds = [a] ∧ d = .bool (isW a)) := by
  obtain ⟨fd, F, hm⟩ := T.f_is_whole
  refine fd_mk F hm (ok_D F sc_is_whole rfl fun cdv A outer s H E M vs ds d D' hr hl hR S k _ => ?_) (fun _ _ _ _ _ _ us hl => match us, hl with | [_], _ => rfl)
  obtain ⟨a, rfl, rfl⟩ := hR
  have e3 : isW a = (dIsI a && !dIsB a) := by cases a <;> rfl
  rw [e3] at k
  refine sy_ret S (jd_and (k := dIsI a) (jd_isi T.n_isinstance T.n_int boot_int (S.at 0) (kit_int a)) ?_ fun h => ?_) fun v H' _ => k v H'
  · intro h; rw [h]; rfl
  · rw [h, Bool.true_and]
    exact jd_not (jd_isi T.n_isinstance T.n_bool boot_bool (S.at 0) (kit_bool a))
/-- what may be asked of is_ratio -/
def Sh (a : D) : Prop := ∀ l, a = .tuple l → l.length ≤ 90000
theorem fd_is_ratio (T : Tx K mg) : Fd CX0 P w K mg base 2 "is_ratio" ["value"] (spD K 1 fun ds d => ∃ a, ds = [a] ∧ Sh a ∧ d = .bool (isR a)) := by
  have W := fd_is_whole (P := P) (w := w) (base := base) T
  obtain ⟨fd, F, hm⟩ := T.f_is_ratio
  refine fd_mk F hm (ok_D F sc_is_ratio rfl fun cdv A outer s H E M vs ds d D' hr hl hR S k _ => ?_) (fun _ _ _ _ _ _ us hl => match us, hl with | [_], _ => rfl)
  obtain ⟨a, rfl, hz, rfl⟩ := hR
  by_cases ht : dIsT a = true
  · obtain ⟨ts, rfl⟩ : ∃ ts, a = .tuple ts := by cases a <;> first | (cases ht; done) | exact ⟨_, rfl⟩
    have hz := hz ts rfl
    refine sy_when (b := !true || (!decide ((ts.length : Int) = 2) || !(ts.map isW).all id)) S (jt_or3 (jt_not (jt_val (jd_isi T.n_isinstance T.n_tuple boot_tuple (S.at 0) (kit_tuple (.tuple ts))))) (fun _ => jt_neI (jd_len T.n_len (S.at 0) (.inl rfl)) jd_int) fun _ _ => jt_not (jt_val (jd_all rfl T.n_all ?_))) (fun h H1 S1 => ?_) (fun h H1 S1 => ?_)
    · refine Jd.is (Jn.jd (sy_lcM (α := D) (g := id) S (by rw [List.map_id]; exact jw_tup (S.at 0)) (fun d => .bool (isW d)) hz (fun d ρ => ρ.set 1 (some (.dat d))) (js := [1]) (own := [("part", 1)]) (by simp) ?_ ?_ (blkOk_by (by rfl)) rfl sc_is_ratio.nd)) (by rw [List.map_map]; rfl)
      · rintro _ d ⟨s, H, C, cl, fp, rfl⟩ _
        exact jg_name 1 sc_is_ratio.nd
      · rintro i d _ B' M' σ' H' h1 ⟨s, H, C, cl, fp, rfl⟩ S'
        exact jd_call W (hr.mono (by decide)) (ja_cons (S'.at 1) ja_nil) rfl ⟨_, rfl, rfl⟩
    · refine sy_ret S1 (d := .bool (isR (.tuple ts))) (jd_bl.is ?_) fun v H' x _ p => k v H' x p
      congr 1
      cases hq : isR (.tuple ts) with
      | false => rfl
      | true =>
        match ts, hq with
        | [.int n, .int m], hq => simp [isW] at h
    · have : ∃ n m : Int, ts = [.int n, .int m] := by
        match ts, h with
        | [a, b], h =>
          have h2 : isW a = true ∧ isW b = true := by simpa using h
          obtain ⟨h3, h4⟩ := h2
          cases a <;> first | (cases h3; done) | (cases b <;> first | (cases h4; done) | exact ⟨_, _, rfl⟩)
        | [], h => simp at h
        | [_], h => simp at h
        | _ :: _ :: _ :: _, h => simp at h; omega
      obtain ⟨n, m, rfl⟩ := this
      refine sy_ret S1 (d := .bool (isR (.tuple [.int n, .int m]))) (jd_and (k := decide (0 < m)) (jd_gt (jd_ixT (n := 1) (S1.at 0) jd_int rfl rfl) jd_int) (fun h => ?_) fun h => ?_) fun v H' x _ p => k v H' x p
      · simp [isR, h]
      · refine (jd_eqI (jd_gcd T.i_gcd (jd_ixT (n := 0) (S1.at 0) jd_int rfl rfl) (jd_ixT (n := 1) (S1.at 0) jd_int rfl rfl)) jd_int).is ?_
        simp only [isR, h, Bool.true_and]
  · have ht : dIsT a = false := by simpa using ht
    refine sy_when (b := !(dIsT a) || (true || true)) S (jt_or3 (jt_not (jt_val (jd_isi T.n_isinstance T.n_tuple boot_tuple (S.at 0) (kit_tuple a)))) (fun z => ?_) fun z _ => ?_) (fun h H1 S1 => ?_) (fun h H1 S1 => ?_)
    · rw [ht] at z; cases z
    · rw [ht] at z; cases z
    · refine sy_ret S1 (d := .bool (isR a)) (jd_bl.is ?_) fun v H' x _ p => k v H' x p
      congr 1
      cases a <;> first | rfl | cases ht
    · rw [ht] at h; cases h
theorem isC_no {a : D} (h : isR a = false) : isC a = false := by unfold isC; rw [h]; rfl
theorem fd_is_chance (T : Tx K mg) : Fd CX0 P w K mg base 3 "is_chance" ["value"] (spD K 1 fun ds d => ∃ a, ds = [a] ∧ Sh a ∧ d = .bool (isC a)) := by
  have W := fd_is_ratio (P := P) (w := w) (base := base) T
  obtain ⟨fd, F, hm⟩ := T.f_is_chance
  refine fd_mk F hm (ok_D F sc_is_chance rfl fun cdv A outer s H E M vs ds d D' hr hl hR S k _ => ?_) (fun _ _ _ _ _ _ us hl => match us, hl with | [_], _ => rfl)
  obtain ⟨a, rfl, hz, rfl⟩ := hR
  refine sy_ret S (jd_and (k := isR a) (jd_call W (hr.mono (by decide)) (ja_cons (S.at 0) ja_nil) rfl ⟨_, rfl, hz, rfl⟩) (fun h => by rw [isC_no h]) fun h => ?_) fun v H' x _ p => k v H' x p
  obtain ⟨r, rfl⟩ := isR_of h
  refine Jd.is (jd_chain op_le op_le jd_int (jd_ixT (n := 0) (S.at 0) jd_int rfl rfl) (jd_ixT (n := 1) (S.at 0) jd_int rfl rfl) (by with_unfolding_all rfl)) ?_
  unfold isC
  rw [isR_dR, Bool.true_and]
def Bt (b : Nat) (x : Int) : Prop := x.natAbs < 2 ^ b
theorem fd_lowest (T : Tx K mg) : Fd CX0 P w K mg base 1 "lowest" ["n", "d"] (spD K 2 fun ds r => ∃ n d : Int, ds = [.int n, .int d] ∧ 0 < d ∧ Bt 9000 d ∧ r = dR (Rat.divInt n d)) := by
  obtain ⟨fd, F, hm⟩ := T.f_lowest
  refine fd_mk F hm (ok_D F sc_lowest rfl fun cdv A outer s H E M vs ds d D' hr hl hR S k _ => ?_) (fun _ _ _ _ _ _ us hl => match us, hl with | [_, _], _ => rfl)
  obtain ⟨n, m, rfl, h0, hb, rfl⟩ := hR
  have e : (decide (0 < m)) = true := decide_eq_true h0
  refine sy_set 2 S (d := .int ((Nat.gcd n.natAbs m.natAbs : Nat) : Int)) (jd_if (jt_gt (S.at 1) jd_int) (fun _ => jd_gcd T.i_gcd (S.at 0) (S.at 1)) fun h => ?_) (fun σ1 H1 S1 => ?_) sc_lowest.nd
  · rw [e] at h; cases h
  · have hg : 0 < Nat.gcd n.natAbs m.natAbs := Nat.gcd_pos_of_pos_right _ (by omega)
    have hle : Nat.gcd n.natAbs m.natAbs ≤ m.natAbs := Nat.gcd_le_right _ (by omega)
    have hc : CDivW n ((Nat.gcd n.natAbs m.natAbs : Nat) : Int) := wide_div (by omega) (b := 9000) (by show ((Nat.gcd n.natAbs m.natAbs : Nat) : Int).natAbs < _; unfold Bt at hb; omega) (by decide) (by decide)
    have hc2 : CDivW m ((Nat.gcd n.natAbs m.natAbs : Nat) : Int) := hc
    refine sy_ret S1 (Jd.is (jd_tup (ja_cons (jd_div (S1.at 0) (S1.at 2) hc) (ja_cons (jd_div (S1.at 1) (S1.at 2) hc2) ja_nil))) (low_div h0)) fun v H' x _ p => k v H' x p
theorem fd_law_q (T : Tx K mg) : Fd CX0 P w K mg base 1 "_law_q" ["n", "d"] (spD K 2 fun ds r => ∃ n d : Int, ds = [.int n, .int d] ∧ 0 < d ∧ Bt 9000 d ∧ r = dR (Rat.divInt n d)) := by
  obtain ⟨fd, F, hm⟩ := T.f_law_q
  refine fd_mk F hm (ok_D F sc_law_q rfl fun cdv A outer s H E M vs ds d D' hr hl hR S k _ => ?_) (fun _ _ _ _ _ _ us hl => match us, hl with | [_, _], _ => rfl)
  obtain ⟨n, m, rfl, h0, hb, rfl⟩ := hR
  refine sy_par 2 3 S (jd_abs T.n_abs (S.at 0)) (jd_abs T.n_abs (S.at 1)) (fun σ1 H1 S1 => ?_) rfl sc_law_q.nd (by decide) rfl
  refine sy_while S1 (fun b ρ' μ' => μ' = [] ∧ ∃ a : Nat, Nat.gcd a b = Nat.gcd n.natAbs m.natAbs ∧ ρ' = [some (.dat (.int n)), some (.dat (.int m)), some (.dat (.int (a : Int))), some (.dat (.int (b : Int)))]) m.natAbs ⟨rfl, _, rfl, rfl⟩ ?_ PassesOwn.never
  rintro b ρ' μ' σ' H' ⟨rfl, a, hg, rfl⟩ S2
  refine ⟨_, jt_gt (S2.at 3) jd_int, fun hp H3 S3 => ?_, fun hp H3 S3 => ?_⟩
  · have hb0 : 0 < b := by have := of_decide_eq_true hp; omega
    refine sy_par 2 3 S3 (S3.at 3) (jd_mod (jd_int1 T.n_int (S3.at 2)) (S3.at 3) (by omega)) (fun σ4 H4 S4 => tB_nil ?_) rfl sc_law_q.nd (by decide) rfl
    refine ⟨a % b, _, _, Nat.mod_lt _ hb0, ⟨rfl, b, ?_, ?_⟩, S4⟩
    · rw [← hg, Nat.gcd_comm a b, Nat.gcd_rec b a, Nat.gcd_comm]
    · rfl
  · have hb0 : b = 0 := by have := of_decide_eq_false hp; omega
    subst hb0
    rw [Nat.gcd_zero_right] at hg
    subst hg
    have e : (decide (0 < m)) = true := decide_eq_true h0
    have hg : 0 < Nat.gcd n.natAbs m.natAbs := Nat.gcd_pos_of_pos_right _ (by omega)
    have hle : Nat.gcd n.natAbs m.natAbs ≤ m.natAbs := Nat.gcd_le_right _ (by omega)
    have hc : CDivW n ((Nat.gcd n.natAbs m.natAbs : Nat) : Int) := wide_div (by omega) (b := 9000) (by show ((Nat.gcd n.natAbs m.natAbs : Nat) : Int).natAbs < _; unfold Bt at hb; omega) (by decide) (by decide)
    have hc2 : CDivW m ((Nat.gcd n.natAbs m.natAbs : Nat) : Int) := hc
    refine sy_ret S3 (jd_if (jt_gt (S3.at 1) jd_int) (fun _ => Jd.is (jd_tup (ja_cons (jd_div (S3.at 0) (S3.at 2) hc) (ja_cons (jd_div (S3.at 1) (S3.at 2) hc2) ja_nil))) (low_div h0)) fun h => ?_) fun v H' x _ p => k v H' x p
    rw [e] at h; cases h
/-- of two ratios -/
def opS (f : Rat → Rat → Rat) : List D → D → Prop := fun ds r => ∃ a b : Rat, ds = [dR a, dR b] ∧ Bz 4000 a ∧ Bz 4000 b ∧ r = dR (f a b)
theorem mulW {x y : Int} (h1 : Bt 4000 x) (h2 : Bt 4000 y) : CMulW x y := wide_mul h1 h2 (by decide) (by decide) (by decide)
theorem bzn {r : Rat} (h : Bz 4000 r) : Bt 4000 r.num := h.1
theorem bzd {r : Rat} (h : Bz 4000 r) : Bt 4000 (r.den : Int) := h.2
theorem up9 {x y : Int} (h1 : Bt 4000 x) (h2 : Bt 4000 y) : Bt 9000 (x * y) := Nat.lt_of_lt_of_le (wide_lt h1 h2) (Nat.pow_le_pow_right (by decide) (by decide))
theorem fd_plus (T : Tx K mg) : Fd CX0 P w K mg base 2 "plus" ["one", "other"] (spD K 2 (opS fun a b => a + b)) := by
  have W := fd_lowest (P := P) (w := w) (base := base) T
  obtain ⟨fd, F, hm⟩ := T.f_plus
  refine fd_mk F hm (ok_D F sc_plus rfl fun cdv A outer s H E M vs ds d D' hr hl hR S k _ => ?_) (fun _ _ _ _ _ _ us hl => match us, hl with | [_, _], _ => rfl)
  obtain ⟨a, b, rfl, ha, hb, rfl⟩ := hR
  exact sy_ret S (jd_call W (hr.mono (by decide)) (ja_cons (jd_add (jd_mul (jd_ixT (n := 0) (S.at 0) jd_int rfl rfl) (jd_ixT (n := 1) (S.at 1) jd_int rfl rfl) (mulW (bzn ha) (bzd hb))) (jd_mul (jd_ixT (n := 0) (S.at 1) jd_int rfl rfl) (jd_ixT (n := 1) (S.at 0) jd_int rfl rfl) (mulW (bzn hb) (bzd ha))))
    (ja_cons (jd_mul (jd_ixT (n := 1) (S.at 0) jd_int rfl rfl) (jd_ixT (n := 1) (S.at 1) jd_int rfl rfl) (mulW (bzd ha) (bzd hb))) ja_nil)) rfl ⟨_, _, rfl, Int.mul_pos (den_pos a) (den_pos b), up9 (bzd ha) (bzd hb), by rw [divInt_add]⟩) fun v H' x _ p => k v H' x p
theorem fd_times (T : Tx K mg) : Fd CX0 P w K mg base 2 "times" ["one", "other"] (spD K 2 (opS fun a b => a * b)) := by
  have W := fd_lowest (P := P) (w := w) (base := base) T
  obtain ⟨fd, F, hm⟩ := T.f_times
  refine fd_mkA F hm (ok_D F sc_times rfl fun cdv A outer s H E M vs ds d D' hr hl hR S k _ => ?_) (fun _ _ _ _ _ _ us hl => match us, hl with | [_, _], _ => rfl)
  obtain ⟨a, b, rfl, ha, hb, rfl⟩ := hR
  exact sy_ret S (jd_call W (hr.mono (by decide)) (ja_cons (jd_mul (jd_ixT (n := 0) (S.at 0) jd_int rfl rfl) (jd_ixT (n := 0) (S.at 1) jd_int rfl rfl) (mulW (bzn ha) (bzn hb)))
    (ja_cons (jd_mul (jd_ixT (n := 1) (S.at 0) jd_int rfl rfl) (jd_ixT (n := 1) (S.at 1) jd_int rfl rfl) (mulW (bzd ha) (bzd hb))) ja_nil)) rfl ⟨_, _, rfl, Int.mul_pos (den_pos a) (den_pos b), up9 (bzd ha) (bzd hb), by rw [divInt_mul]⟩) fun v H' x _ p => k v H' x p
theorem fd_law_plus (T : Tx K mg) : Fd CX0 P w K mg base 2 "_law_plus" ["one", "other"] (spD K 2 (opS fun a b => a + b)) := by
  have W := fd_law_q (P := P) (w := w) (base := base) T
  obtain ⟨fd, F, hm⟩ := T.f_law_plus
  refine fd_mk F hm (ok_D F sc_law_plus rfl fun cdv A outer s H E M vs ds d D' hr hl hR S k _ => ?_) (fun _ _ _ _ _ _ us hl => match us, hl with | [_, _], _ => rfl)
  obtain ⟨a, b, rfl, ha, hb, rfl⟩ := hR
  exact sy_ret S (jd_call W (hr.mono (by decide)) (ja_cons (jd_add (jd_mul (jd_ixT (n := 0) (S.at 0) jd_int rfl rfl) (jd_ixT (n := 1) (S.at 1) jd_int rfl rfl) (mulW (bzn ha) (bzd hb))) (jd_mul (jd_ixT (n := 0) (S.at 1) jd_int rfl rfl) (jd_ixT (n := 1) (S.at 0) jd_int rfl rfl) (mulW (bzn hb) (bzd ha))))
    (ja_cons (jd_mul (jd_ixT (n := 1) (S.at 0) jd_int rfl rfl) (jd_ixT (n := 1) (S.at 1) jd_int rfl rfl) (mulW (bzd ha) (bzd hb))) ja_nil)) rfl ⟨_, _, rfl, Int.mul_pos (den_pos a) (den_pos b), up9 (bzd ha) (bzd hb), by rw [divInt_add]⟩) fun v H' x _ p => k v H' x p
theorem fd_law_times (T : Tx K mg) : Fd CX0 P w K mg base 2 "_law_times" ["one", "other"] (spD K 2 (opS fun a b => a * b)) := by
  have W := fd_law_q (P := P) (w := w) (base := base) T
  obtain ⟨fd, F, hm⟩ := T.f_law_times
  refine fd_mk F hm (ok_D F sc_law_times rfl fun cdv A outer s H E M vs ds d D' hr hl hR S k _ => ?_) (fun _ _ _ _ _ _ us hl => match us, hl with | [_, _], _ => rfl)
  obtain ⟨a, b, rfl, ha, hb, rfl⟩ := hR
  exact sy_ret S (jd_call W (hr.mono (by decide)) (ja_cons (jd_mul (jd_ixT (n := 0) (S.at 0) jd_int rfl rfl) (jd_ixT (n := 0) (S.at 1) jd_int rfl rfl) (mulW (bzn ha) (bzn hb)))
    (ja_cons (jd_mul (jd_ixT (n := 1) (S.at 0) jd_int rfl rfl) (jd_ixT (n := 1) (S.at 1) jd_int rfl rfl) (mulW (bzd ha) (bzd hb))) ja_nil)) rfl ⟨_, _, rfl, Int.mul_pos (den_pos a) (den_pos b), up9 (bzd ha) (bzd hb), by rw [divInt_mul]⟩) fun v H' x _ p => k v H' x p
theorem jw_seq {X : Cx} {M : List Addr} {tg a : Expr} {σ : L2.St} {H : Hp} {b : Bool} {ds : List D} (h : Jd X M a σ H (seqD b ds)) : Jw X M tg a σ H ds := by
  cases b
  · exact jw_lst h
  · exact jw_tup h
/-- sums of beginnings, small enough -/
def SumOk (qs : List Rat) : Prop := (∀ x ∈ qs, Bz 4000 x) ∧ ∀ i, Bz 4000 (qs.take i).sum
theorem fd_total (T : Tx K mg) : Fd CX0 P w K mg base 3 "total" ["ratios"] (spD K 1 fun ds r => ∃ (b : Bool) (qs : List Rat), ds = [seqD b (qs.map dR)] ∧ SumOk qs ∧ r = dR qs.sum) := by
  have W := fd_plus (P := P) (w := w) (base := base) T
  obtain ⟨fd, F, hm⟩ := T.f_total
  refine fd_mk F hm (ok_D F sc_total rfl fun cdv A outer s H E M vs ds d D' hr hl hR S k _ => ?_) (fun _ _ _ _ _ _ us hl => match us, hl with | [_], _ => rfl)
  obtain ⟨b, qs, rfl, hs, rfl⟩ := hR
  refine sy_set 1 S (d := dR 0) (jd_glob T.c_ZERO.1 (v := .ref (He.ga K "ZERO")) rfl (.tup (T.c_ZERO.2 _) (.cons (.int 0) (.cons (.int 1) .nil)))) (fun σ1 H1 S1 => ?_) sc_total.nd
  refine sy_for S1 (jw_seq (b := b) (S1.at 0)) (fun d ρ => ρ.set 2 (some (.dat d))) (js := [2]) (fun d ρ' _ => jg_name 2 sc_total.nd)
    (fun i ρ' μ' => μ' = [] ∧ ∃ o, ρ' = [some (.dat (seqD b (qs.map dR))), some (.dat (dR (qs.take i).sum)), o]) ⟨rfl, _, rfl⟩ ?_ ?_ PassesOwn.never rfl
  · rintro i d ρ' μ' σ' H' B' hd ⟨rfl, o, rfl⟩ hB S2
    rw [List.getElem?_map] at hd
    obtain ⟨q, hq, rfl⟩ := Option.map_eq_some_iff.mp hd
    refine sy_set 1 S2 (jd_call W (hr.mono (by decide)) (ja_cons (S2.at 1) (ja_cons (S2.at 2) ja_nil)) rfl ⟨_, q, rfl, hs.2 i, hs.1 q (List.mem_of_getElem? hq), rfl⟩) (fun σ3 H3 S3 => tB_nil ?_) sc_total.nd
    exact ⟨_, _, ⟨rfl, _, by rw [rsum_take hq]; rfl⟩, S3⟩
  · rintro ρ' μ' σ' H' ⟨rfl, o, rfl⟩ S2
    have e : qs.take (qs.map dR).length = qs := by rw [List.length_map, List.take_length]
    rw [e] at S2
    exact sy_ret S2 (S2.at 1) fun v H' x _ p => k v H' x p
theorem fd_law_sum (T : Tx K mg) : Fd CX0 P w K mg base 3 "_law_sum" ["some"] (spD K 1 fun ds r => ∃ (b : Bool) (qs : List Rat), ds = [seqD b (qs.map dR)] ∧ SumOk qs ∧ r = dR qs.sum) := by
  have W := fd_law_plus (P := P) (w := w) (base := base) T
  obtain ⟨fd, F, hm⟩ := T.f_law_sum
  refine fd_mk F hm (ok_D F sc_law_sum rfl fun cdv A outer s H E M vs ds d D' hr hl hR S k _ => ?_) (fun _ _ _ _ _ _ us hl => match us, hl with | [_], _ => rfl)
  obtain ⟨b, qs, rfl, hs, rfl⟩ := hR
  refine sy_set 1 S (d := dR 0) (jd_tup (ja_cons jd_int (ja_cons jd_int ja_nil))) (fun σ1 H1 S1 => ?_) sc_law_sum.nd
  refine sy_for S1 (jw_seq (b := b) (S1.at 0)) (fun d ρ => ρ.set 2 (some (.dat d))) (js := [2]) (fun d ρ' _ => jg_name 2 sc_law_sum.nd)
    (fun i ρ' μ' => μ' = [] ∧ ∃ o, ρ' = [some (.dat (seqD b (qs.map dR))), some (.dat (dR (qs.take i).sum)), o]) ⟨rfl, _, rfl⟩ ?_ ?_ PassesOwn.never rfl
  · rintro i d ρ' μ' σ' H' B' hd ⟨rfl, o, rfl⟩ hB S2
    rw [List.getElem?_map] at hd
    obtain ⟨q, hq, rfl⟩ := Option.map_eq_some_iff.mp hd
    refine sy_set 1 S2 (jd_call W (hr.mono (by decide)) (ja_cons (S2.at 1) (ja_cons (S2.at 2) ja_nil)) rfl ⟨_, q, rfl, hs.2 i, hs.1 q (List.mem_of_getElem? hq), rfl⟩) (fun σ3 H3 S3 => tB_nil ?_) sc_law_sum.nd
    exact ⟨_, _, ⟨rfl, _, by rw [rsum_take hq]; rfl⟩, S3⟩
  · rintro ρ' μ' σ' H' ⟨rfl, o, rfl⟩ S2
    have e : qs.take (qs.map dR).length = qs := by rw [List.length_map, List.take_length]
    rw [e] at S2
    exact sy_ret S2 (S2.at 1) fun v H' x _ p => k v H' x p
end K58

set_option maxHeartbeats 4000000
namespace K58

open PySem PySem.Spec PyProof.Rows L2 J Evl
variable {P : Program} {w : World} {K : PySem.W.Frag} {mg : Str → Option Value} {base : Heap}
/-! ### words, counts, rows, tables -/
abbrev abc : Str := "abcdefghijklmnopqrstuvwxyz"
theorem boot_str : bootBuiltins "str" = some (.type "str") := by decide +kernel
def isWd : D → Bool
  | .str z => (decide ((1 : Int) ≤ z.length) && decide ((z.length : Int) ≤ 8)) && z.cps.toList.all fun c => decide (c ∈ abc.cps.toList)
  | _ => false
theorem fd_is_word (T : Tx K mg) : Fd CX0 P w K mg base 1 "is_word" ["value"] (spD K 1 fun ds d => ∃ a, ds = [a] ∧ okV a = true ∧ d = .bool (isWd a)) := by
  obtain ⟨fd, F, hm⟩ := T.f_is_word
  obtain ⟨tl, hml⟩ := T.c_LETTERS
  refine fd_mk F hm (ok_D F sc_is_word rfl fun cdv A outer s H E M vs ds d D' hr hl hR S k _ => ?_) (fun _ _ _ _ _ _ us hl => match us, hl with | [_], _ => rfl)
  obtain ⟨a, rfl, hok, rfl⟩ := hR
  have nd := sc_is_word.nd
  cases a with
  | str z =>
    have hz := okV_str hok
    have e0 : isWd (.str z) = ((decide ((1 : Int) ≤ z.length) && decide ((z.length : Int) ≤ 8)) && z.cps.toList.all fun c => decide (c ∈ abc.cps.toList)) := rfl
    refine sy_ret S (jd_and3 (k1 := true) (k2 := decide ((1 : Int) ≤ z.length) && decide ((z.length : Int) ≤ 8)) (jd_isi T.n_isinstance T.n_str boot_str (S.at 0) (kit_str (.str z))) (fun h => by cases h) (fun _ => jd_chain op_le op_le jd_int (jd_lenS T.n_len (S.at 0) (by omega)) jd_int (by with_unfolding_all rfl)) (fun _ h => by rw [e0, h]; rfl) (fun _ h => ?_)) fun v H' x _ p => k v H' x p
    have e : isWd (.str z) = (z.cps.toList.map fun c => decide (c ∈ abc.cps.toList)).all id := by
      rw [e0, h, Bool.true_and, List.all_map]
      rfl
    rw [e]
    refine jd_all rfl T.n_all (Jd.is (Jn.jd (sy_lcM (α := Nat) (g := fun c => .str ⟨#[c]⟩) (xs := z.cps.toList) S (jw_str (S.at 0)) (fun c => .bool (decide (c ∈ abc.cps.toList))) (by rw [Array.length_toList]; exact Nat.le_trans hz.1 (by decide)) (fun d ρ => ρ.set 1 (some (.dat d))) (js := [1]) (own := [("letter", 1)]) (by simp) ?_ ?_ (blkOk_by (by rfl)) rfl nd)) (by rw [List.map_map]; rfl))
    · rintro _ d ⟨s, H, C, cl, fp, rfl⟩ _
      exact jg_name 1 nd
    · rintro i d _ B' M' σ' H' h1 ⟨s, H, C, cl, fp, rfl⟩ S'
      exact jd_inS (S'.at 1) (jd_glob hml (v := .str abc) ⟨tl, rfl⟩ (.str abc)) rfl
  | _ => exact sy_ret S (jd_and3 (k1 := false) (k2 := false) (jd_isi T.n_isinstance T.n_str boot_str (S.at 0) (kit_str _)) (fun _ => rfl) (fun h => by cases h) (fun h => by cases h) (fun h => by cases h)) fun v H' x _ p => k v H' x p
def isCt : D → Bool
  | .int i => decide (0 ≤ i)
  | _ => false
theorem fd_is_count (T : Tx K mg) : Fd CX0 P w K mg base 2 "is_count" ["value"] (spD K 1 fun ds d => ∃ a, ds = [a] ∧ d = .bool (isCt a)) := by
  have W := fd_is_whole (P := P) (w := w) (base := base) T
  obtain ⟨fd, F, hm⟩ := T.f_is_count
  refine fd_mk F hm (ok_D F sc_is_count rfl fun cdv A outer s H E M vs ds d D' hr hl hR S k _ => ?_) (fun _ _ _ _ _ _ us hl => match us, hl with | [_], _ => rfl)
  obtain ⟨a, rfl, rfl⟩ := hR
  refine sy_ret S (jd_and (k := isW a) (jd_call W (hr.mono (by decide)) (ja_cons (S.at 0) ja_nil) rfl ⟨a, rfl, rfl⟩) (fun h => by cases a <;> first | rfl | cases h) fun h => ?_) fun v H' x _ p => k v H' x p
  cases a <;> first | (cases h; done) | exact jd_ge (S.at 0) jd_int
def iv : D → Int
  | .int i => i
  | _ => 0
def isRow : D → Bool
  | .tuple [a, b, c] => isWd a && (isCt b && (isCt c && decide (0 < iv b + iv c)))
  | _ => false
theorem isRow_eq (a b c : D) : isRow (.tuple [a, b, c]) = (isWd a && (isCt b && (isCt c && decide (0 < iv b + iv c)))) := rfl
theorem isCt_iv {a : D} (h : isCt a = true) : a = .int (iv a) ∧ 0 ≤ iv a := by
  cases a <;> first | (cases h; done) | exact ⟨rfl, of_decide_eq_true h⟩
theorem ne3 {l : List D} (h : ∀ a b c, l ≠ [a, b, c]) : decide ((l.length : Int) = 3) = false := by
  refine decide_eq_false fun z => ?_
  match l, z with
  | [a, b, c], _ => exact h a b c rfl
  | [], z => simp at z
  | [_], z => simp at z
  | [_, _], z => simp at z
  | _ :: _ :: _ :: _ :: _, z => simp at z; omega
theorem ne2 {l : List D} (h : ∀ a b, l ≠ [a, b]) : decide ((l.length : Int) = 2) = false := by
  refine decide_eq_false fun z => ?_
  match l, z with
  | [a, b], _ => exact h a b rfl
  | [], z => simp at z
  | [_], z => simp at z
  | _ :: _ :: _ :: _, z => simp at z; omega
/-- the word at the front -/
def wd1 : D → Str
  | .tuple (.str z :: _) => z
  | _ => Str.empty
def ascD (l : List D) : Bool := (l.zip l.tail).all fun p => sLt (wd1 p.1) (wd1 p.2)
def gd2 : D → Int
  | .tuple [_, b, _] => iv b
  | _ => 0
def bd2 : D → Int
  | .tuple [_, _, c] => iv c
  | _ => 0
theorem isRow_of {d : D} (h : isRow d = true) : ∃ (z : Str) (g b : Int), d = .tuple [.str z, .int g, .int b] ∧ 0 ≤ g ∧ 0 ≤ b ∧ 0 < g + b ∧ isWd (.str z) = true := by
  unfold isRow at h
  split at h
  · rename_i a b c
    simp only [Bool.and_eq_true, decide_eq_true_eq] at h
    obtain ⟨h1, h2, h3, h4⟩ := h
    obtain ⟨e2, g2⟩ := isCt_iv h2
    obtain ⟨e3, g3⟩ := isCt_iv h3
    cases a with
    | str z => exact ⟨z, iv b, iv c, by rw [← e2, ← e3], g2, g3, h4, h1⟩
    | _ => cases h1
  · cases h
def areRows : D → Bool
  | .tuple l => (decide (1 ≤ (l.length : Int)) && decide ((l.length : Int) ≤ 12)) && (l.all isRow && (ascD l && (decide (0 < (l.map gd2).sum) && decide (0 < (l.map bd2).sum))))
  | _ => false
theorem areRows_eq (l : List D) : areRows (.tuple l) = ((decide (1 ≤ (l.length : Int)) && decide ((l.length : Int) ≤ 12)) && (l.all isRow && (ascD l && (decide (0 < (l.map gd2).sum) && decide (0 < (l.map bd2).sum))))) := rfl
end K58

set_option maxHeartbeats 4000000
/-! J50: the module's names that are tuples of two tuples; xs[:-1] of a list. -/
namespace J
open PySem PySem.Spec PyProof.Rows L2 Evl
/-- where the i-th item of the module's name x lies -/
def itm (x : Str) (i : Nat) (K : PySem.W.Frag) : Addr := match K.lookup (He.ga K x) with
  | some ⟨_, _, .seq its _, _⟩ => match its.toList[i]? with
    | some (.ref a) => a
    | _ => He.ga K x
  | _ => He.ga K x
def tupA (K : PySem.W.Frag) (a : Addr) (vs : List He.Dv) : Bool := match K.lookup a with
  | some ⟨.type c, _, .seq its _, _⟩ => decide (c = "tuple") && (decide (its.size ≤ sizeLine) && He.relAll (vs.map (He.Dv.v K)) its.toList)
  | _ => false
theorem tupA_ok {K : PySem.W.Frag} {a : Addr} {vs : List He.Dv} (h : tupA K a vs = true) (H : Hp) : SqT K H a (vs.map (He.Dv.v K)) := by
  unfold tupA at h
  cases q : K.lookup a with
  | none =>
    rw [q] at h
    cases h
  | some o =>
    obtain ⟨oc, od, dt, osl⟩ := o
    rw [q] at h
    cases oc with
    | type c =>
      cases dt with
      | seq its n =>
        obtain ⟨h1, h2⟩ := Bool.and_eq_true_iff.mp (show (decide (c = "tuple") && (decide (its.size ≤ sizeLine) && He.relAll (vs.map (He.Dv.v K)) its.toList)) = true from h)
        obtain ⟨h3, h4⟩ := Bool.and_eq_true_iff.mp h2
        exact .inr ⟨_, its, n, q, congrArg Value.type (of_decide_eq_true h1), rfl, of_decide_eq_true h3, He.relAll_ok h4⟩
      | _ => cases h
    | _ => cases dt <;> cases h
/-- x = (a, b), both tuples -/
def tupP (K : PySem.W.Frag) (x : Str) (a b : List He.Dv) : Bool := tupA K (He.ga K x) [.adr (itm x 0), .adr (itm x 1)] && (tupA K (itm x 0 K) a && tupA K (itm x 1 K) b)
theorem tupP_ok {K : PySem.W.Frag} {x : Str} {a b : List He.Dv} (h : tupP K x a b = true) (H : Hp) : SqT K H (He.ga K x) [.ref (itm x 0 K), .ref (itm x 1 K)] ∧ SqT K H (itm x 0 K) (a.map (He.Dv.v K)) ∧ SqT K H (itm x 1 K) (b.map (He.Dv.v K)) := by
  obtain ⟨h1, h2⟩ := Bool.and_eq_true_iff.mp h
  obtain ⟨h3, h4⟩ := Bool.and_eq_true_iff.mp h2
  exact ⟨tupA_ok h1 H, tupA_ok h3 H, tupA_ok h4 H⟩
/-- xs[:-1] -/
theorem jd_slLInit {X : Cx} {M : List Addr} {σ : L2.St} {H : Hp} {a b : Expr} {ds : List D} {p2 pos : Pos} (ha : Jd X M a σ H (.list ds)) (hb : Jd X M b σ H (.int (-1))) (h : ds ≠ []) : Jd X M (.Subscript a (.Slice none (some b) none p2) pos) σ H (.list ds.dropLast) := fun al H1 x Q q =>
  leW (pe_slice sl_list pe_W po_none (po_some pe_W)) (ha al H1 x _ fun v H2 y p => hb al H2 (x.trans y) _ fun w H3 z r => by
    obtain ⟨t, xs, e1, e2, e3⟩ := dLst p
    have e3' := e3.ex (hid_ex (M := M) z)
    have hl := e3.len
    have hpos : 0 < ds.length := List.length_pos_iff.mpr h
    have es : HT.sIx xs.length xs.length (some (-1)) = ds.length - 1 := by
      show (if (-1 : Int) < 0 then ((-1 : Int) + (xs.length : Int)).toNat else min (-1 : Int).toNat xs.length) = _
      rw [if_pos (by decide)]; omega
    refine ⟨-1, dInt r, t, xs, e1, ex_l hid_le (ex_l (hid_ex z) e2), fun c hc => ?_⟩
    have up := hid_ex (M := M) (Ex.new (o := .lst (L2.cutV xs none (some (-1)))) hc)
    refine q _ _ ((y.trans z).trans (Ex.new hc)) (.lst (SqL.of ((al.ex ((x.trans y).trans z)).newEx hc)) ?_)
    have e : L2.cutV xs none (some (-1)) = xs.take (ds.length - 1) := by
      unfold L2.cutV
      rw [HT.sIx_none, es, List.drop_zero, Nat.sub_zero]
    rw [e] at up ⊢
    rw [List.dropLast_eq_take]
    exact dpTake _ (e3'.ex up))
end J

set_option maxHeartbeats 4000000
/-! J51: lists turned round: xs[::-1], xs[:0:-1]. -/
namespace J
open PySem PySem.Spec PyProof.Rows L2 Evl
section
variable {X : Cx} {M : List Addr} {σ : L2.St} {H : Hp} {a : Expr} {ds : List D} {p0 p1 p2 p3 pos : Pos}
theorem jd_revL {k : Nat} (ha : Jd X M a σ H (.list ds)) : Jd X M (.Subscript a (.Slice none none (some (.UnaryOp .USub (.Constant (.int 1) k p1) p2)) p3) pos) σ H (.list ds.reverse) := fun al H1 x Q q =>
  leW (pe_revL pe_W) (ha al H1 x _ fun v H2 y p => by
    obtain ⟨t, xs, e1, e2, e3⟩ := dLst p
    refine ⟨t, xs, e1, ex_l hid_le e2, fun c hc => ?_⟩
    have up := hid_ex (M := M) (Ex.new (o := .lst xs.reverse) hc)
    exact q _ _ (y.trans (Ex.new hc)) (.lst (SqL.of ((al.ex (x.trans y)).newEx hc)) (dpRev (e3.ex up))))
theorem tail_back (xs : Array Value) : slicePick xs none (some 0) (some (-1)) = (xs.toList.drop 1).reverse.toArray := by
  have hl : xs.toList.length = xs.size := Array.length_toList
  have e : ∀ n, n + 1 ≤ xs.size ∨ n = 0 → (List.range n).filterMap (fun k => xs[xs.size - 1 - k]?) = ((xs.toList.drop 1).reverse).take n := fun n => by
    induction n with
    | zero => intro _; simp
    | succ n ih =>
      intro hn
      have hn : n + 2 ≤ xs.size := by omega
      have hg : xs[xs.size - 1 - n]? = some (xs[xs.size - 1 - n]'(by omega)) := Array.getElem?_eq_getElem (by omega)
      rw [List.range_succ, List.filterMap_append, ih (by omega), List.take_add_one]
      congr 1
      rw [List.filterMap_cons, hg]
      have hr : (xs.toList.drop 1).reverse[n]? = some (xs[xs.size - 1 - n]'(by omega)) := by
        rw [List.getElem?_reverse (by rw [List.length_drop, hl]; omega), List.getElem?_drop, List.length_drop, hl, show 1 + (xs.size - 1 - 1 - n) = xs.size - 1 - n by omega]
        simpa using hg
      rw [hr]
      rfl
  unfold slicePick
  have eb : sliceBounds none (some 0) (some (-1)) xs.size = ((xs.size : Int) - 1, max (-1) (min 0 ((xs.size : Int) - 1)), -1) := by
    unfold sliceBounds
    simp
  rw [eb]
  congr 1
  show (sliceRange ((xs.size : Int) - 1) (max (-1) (min 0 ((xs.size : Int) - 1))) (-1)).filterMap (xs[·]?) = _
  have er : sliceRange ((xs.size : Int) - 1) (max (-1) (min 0 ((xs.size : Int) - 1))) (-1) = (List.range (xs.size - 1)).map fun k => xs.size - 1 - k := by
    unfold sliceRange
    have h1 : ¬ ((-1 : Int) > 0) := by decide
    have ec : (if (xs.size : Int) - 1 > max (-1) (min 0 ((xs.size : Int) - 1)) then ((xs.size : Int) - 1 - max (-1) (min 0 ((xs.size : Int) - 1)) - -1 - 1) / (- -1) else 0 : Int).toNat = xs.size - 1 := by
      rw [show (- -1 : Int) = 1 by decide, Int.ediv_one]
      split <;> omega
    simp only [h1, if_false]
    rw [ec]
    refine List.map_congr_left fun k hk => ?_
    have := List.mem_range.mp hk
    omega
  rw [er, List.filterMap_map]
  have := e (xs.size - 1) (by omega)
  rw [List.take_of_length_le (by rw [List.length_reverse, List.length_drop, hl]; omega)] at this
  exact this
def tTailB (K : PySem.W.Frag) (te : TE) : TE := fun σ H Q => te σ H fun x H1 => ∃ a xs, x = .ref a ∧ SqL K H1 a xs ∧ ∀ p, H1 p = none → Q (.ref p) (upd H1 p (.lst (xs.drop 1).reverse))
theorem pe_tailB {e : Expr} {te : TE} {k k0 : Nat} (he : PE X e te) : PE X (.Subscript e (.Slice none (some (.Constant (.int 0) k0 p0)) (some (.UnaryOp .USub (.Constant (.int 1) k p1) p2)) p3) pos) (tTailB X.K te) := by
  constructor
  intro pins s σ H Q I h
  refine Subscript_ (thn (he.run pins s σ H _ I h) fun v s1 ⟨x, H1, I1, r1, q1⟩ => ?_)
  obtain ⟨a, xs, ex, hx, q⟩ := q1
  subst ex
  cases r1
  have h0 : PO X (some (.Constant (.int 0) k0 p0)) (tPart (tC (.int 0))) := po_some pe_int
  have hst : PO X (some (.UnaryOp .USub (.Constant (.int 1) k p1) p2)) (tPart (tUn (rU fun i => .int (-i)) (tC (.int 1)))) := po_some (pe_un un_neg pe_int)
  refine wpAny_Slice (thn (po_none.run pins s1 σ H1 (fun o G => o = none ∧ G = H1) I1 ⟨rfl, rfl⟩) fun vl s2 ⟨l, G, I2, pl, el, eG⟩ => ?_)
  subst el eG
  refine thn (h0.run pins s2 σ G (fun o G' => o = some 0 ∧ G' = G) I2 ⟨0, rfl, rfl, rfl⟩) fun vu s3 ⟨u, G', I3, pu, eu, eG'⟩ => ?_
  subst eu eG'
  refine thn (hst.run pins s3 σ G' (fun o F => o = some (-1) ∧ F = G') I3 ⟨1, rfl, -1, rfl, rfl, rfl⟩) fun vs s4 ⟨o, F, I4, ps, eo, eF⟩ => ?_
  subst eo eF
  have I5 := I4.kept (t' := s4.toks) (h' := s4.heap.push { cls := .type "slice", data := .fields #[vl, vu, vs] }) fun b ob q => Heap.get?_push_of_some _ q
  obtain ⟨its, r, ht, hz⟩ := I5.list hx
  have hlen := r.length
  refine tail_any (ops := [.ref a, .ref s4.heap.objs.size]) ht.isList.typeIs (PySem.slot_list_getitem.lookup) (wpAny_getItem_list_slice ht.isList (Heap.IsSliceOf.new _ vl vu vs) pl pu ps (by decide) ?_ (by rw [List.size_toArray]; omega)) (by with_unfolding_all rfl)
  rw [tail_back]
  refine ⟨.ref _, _, I5.laid (t' := s4.toks) (o := .lst (xs.drop 1).reverse) (fun b ob q => Heap.get?_push_of_some _ q) (Nat.le_refl _) ?_, rfl, q _ (I5.hok.fresh (Nat.le_refl _))⟩
  exact ⟨by rw [List.length_reverse, List.length_drop]; omega, _, 0, (r.drop 1).reverse, Heap.get?_push_size _ rfl⟩
/-- xs[:0:-1] -/
theorem jd_tailB {k k0 : Nat} (ha : Jd X M a σ H (.list ds)) : Jd X M (.Subscript a (.Slice none (some (.Constant (.int 0) k0 p0)) (some (.UnaryOp .USub (.Constant (.int 1) k p1) p2)) p3) pos) σ H (.list (ds.drop 1).reverse) := fun al H1 x Q q =>
  leW (pe_tailB pe_W) (ha al H1 x _ fun v H2 y p => by
    obtain ⟨t, xs, e1, e2, e3⟩ := dLst p
    refine ⟨t, xs, e1, ex_l hid_le e2, fun c hc => ?_⟩
    have up := hid_ex (M := M) (Ex.new (o := .lst (xs.drop 1).reverse) hc)
    exact q _ _ (y.trans (Ex.new hc)) (.lst (SqL.of ((al.ex (x.trans y)).newEx hc)) (dpRev (dpDrop 1 (e3.ex up)))))
end
end J

set_option maxHeartbeats 4000000
/-! J57: sorted(xs), xs a list of tuples of a text and ints. -/
namespace J
open PySem PySem.Spec PyProof.Rows L2 Evl RZ
/-- a text and ints -/
abbrev KR := Str × List Int
def krV (k : KR) : List V := .str k.1 :: k.2.map V.int
abbrev krD (k : KR) : D := .tuple (.str k.1 :: k.2.map PyData.int)
def keyR (k : KR) : List (Int ⊕ List Nat) := Sum.inr k.1.cps.toList :: k.2.map Sum.inl
def leR (x y : KR) : Prop := lexLt itemOrd (keyR y) (keyR x) = false
theorem keyR_inj {x y : KR} (h : keyR x = keyR y) : x = y := by
  unfold keyR at h
  simp only [List.cons.injEq, Sum.inr.injEq] at h
  exact Prod.ext (str_ext h.1) ((List.map_inj_right fun a b e => by injection e).mp h.2)
theorem leR_anti {x y : KR} (h1 : leR x y) (h2 : leR y x) : x = y := keyR_inj (lex_total _ _ h2 h1)
theorem leR_trans {x y z : KR} (h1 : leR x y) (h2 : leR y z) : leR x z := by
  unfold leR at *
  cases e : lexLt itemOrd (keyR z) (keyR x) with
  | false => rfl
  | true =>
    rcases lex_negTrans _ (keyR y) _ e with q | q
    · rw [q] at h2; cases h2
    · rw [q] at h1; cases h1
theorem leR_total (x y : KR) : leR x y ∨ leR y x := by
  cases e : lexLt itemOrd (keyR y) (keyR x) with
  | false => exact .inl e
  | true =>
    refine .inr ?_
    unfold leR
    cases e2 : lexLt itemOrd (keyR x) (keyR y) with
    | false => rfl
    | true =>
      have := lex_trans _ _ _ e e2
      rw [lex_irrefl] at this
      cases this
def insR (k : KR) : List KR → List KR
  | [] => [k]
  | x :: l => if lexLt itemOrd (keyR x) (keyR k) = true then x :: insR k l else k :: x :: l
/-- ascending -/
def sortR : List KR → List KR
  | [] => []
  | k :: l => insR k (sortR l)
theorem insR_perm (k : KR) : ∀ l, (insR k l).Perm (k :: l)
  | [] => List.Perm.refl _
  | x :: l => by
    unfold insR
    split
    · exact ((insR_perm k l).cons x).trans (List.Perm.swap _ _ _)
    · exact List.Perm.refl _
theorem sortR_perm : ∀ l, (sortR l).Perm l
  | [] => List.Perm.refl _
  | k :: l => (insR_perm k _).trans ((sortR_perm l).cons k)
theorem insR_sorted (k : KR) : ∀ {l : List KR}, l.Pairwise leR → (insR k l).Pairwise leR
  | [], _ => List.pairwise_singleton _ _
  | x :: l, h => by
    obtain ⟨h1, h2⟩ := List.pairwise_cons.mp h
    unfold insR
    split
    · rename_i q
      refine List.pairwise_cons.mpr ⟨fun y hy => ?_, insR_sorted k h2⟩
      rcases List.mem_cons.mp ((insR_perm k l).mem_iff.mp hy) with rfl | hy
      · rcases leR_total x y with z | z
        · exact z
        · unfold leR at z; rw [q] at z; cases z
      · exact h1 y hy
    · rename_i q
      have hk : leR k x := by
        unfold leR
        cases e : lexLt itemOrd (keyR x) (keyR k) with
        | false => rfl
        | true => exact absurd e q
      refine List.pairwise_cons.mpr ⟨fun y hy => ?_, h⟩
      rcases List.mem_cons.mp hy with rfl | hy
      · exact hk
      · exact leR_trans hk (h1 y hy)
theorem sortR_sorted : ∀ l : List KR, (sortR l).Pairwise leR
  | [] => .nil
  | k :: l => insR_sorted k (sortR_sorted l)
theorem sorted_one : ∀ {l m : List KR}, l.Perm m → l.Pairwise leR → m.Pairwise leR → l = m
  | [], m, p, _, _ => by rw [List.nil_perm.mp p]
  | a :: l, [], p, _, _ => by cases p.length_eq
  | a :: l, b :: m, p, h1, h2 => by
    obtain ⟨a1, a2⟩ := List.pairwise_cons.mp h1
    obtain ⟨b1, b2⟩ := List.pairwise_cons.mp h2
    have e : a = b := by
      rcases List.mem_cons.mp (p.mem_iff.mp List.mem_cons_self) with q | q
      · exact q
      · rcases List.mem_cons.mp (p.mem_iff.mpr List.mem_cons_self) with z | z
        · exact z.symm
        · exact leR_anti (a1 b z) (b1 a q)
    subst e
    rw [sorted_one p.cons_inv a2 b2]
theorem sortR_eq {l m : List KR} (p : m.Perm l) (h : m.Pairwise leR) : m = sortR l := sorted_one (p.trans (sortR_perm l).symm) h (sortR_sorted l)
section
theorem vals_refs {α : Type} (f : α → Addr) : ∀ ys : List α, Vals (ys.map fun z => V.ref (f z)) (ys.map fun z => Value.ref (f z))
  | [] => .nil
  | y :: ys => .cons (show RelV (.ref (f y)) (.ref (f y)) from rfl) (vals_refs f ys)
theorem refs_eq {α : Type} (f : α → Addr) : ∀ {ys : List α} {us : List Value}, Vals (ys.map fun z => V.ref (f z)) us → us = ys.map fun z => Value.ref (f z)
  | [], _, .nil => rfl
  | y :: ys, _, .cons r t => by
    cases r
    rw [refs_eq f t]; rfl
abbrev shR : Nat → Bool := fun i => decide (i = 0)
theorem items_ints : ∀ {ns : List Int} {us : List Value} {i : Nat}, 1 ≤ i → Vals (ns.map V.int) us → tupItems shR i us = some (ns.map Sum.inl)
  | [], _, _, _, .nil => by simp [tupItems]
  | n :: ns, _, i, hi, .cons r t => by
    obtain ⟨k, rfl⟩ := r
    have ih := items_ints (i := i + 1) (by omega) t
    have h0 : shR i = false := decide_eq_false (by omega)
    simp only [tupItems, h0, Bool.false_eq_true, if_false, ih]
    rfl
theorem items_row {k : KR} {us : List Value} (r : Vals (krV k) us) : tupItems shR 0 us = some (keyR k) ∧ ∃ t, us[0]? = some (.str k.1 t) := by
  unfold krV at r
  cases r with
  | cons r t =>
    obtain ⟨u, rfl⟩ := r
    refine ⟨?_, u, rfl⟩
    have h0 : shR 0 = true := rfl
    simp only [tupItems, h0, if_true, items_ints (i := 1) (Nat.le_refl 1) t]
    rfl
theorem keyC_of {h : Heap} {a : Addr} {o : Obj} {xs : Array Value} {n : Nat} {l : List (Int ⊕ List Nat)} (ho : h.get? a = some o) (hc : o.cls = .type "tuple") (hd : o.data = .seq xs n) (hi : tupItems shR 0 xs.toList = some l) : G.tupKeyC h shR (.ref a) = some l := by
  unfold G.tupKeyC
  rw [if_pos (show G.isTupObj h (.ref a) = true by simp [G.isTupObj, ho, hc])]
  simp only [tupKey, ho, hd]
  exact hi
variable {X : Cx}
/-- sorted(xs): a new list of the same, ascending -/
def rSortedR (K : PySem.W.Frag) : List V → Hp → VK → Prop := fun vs H Q => ∃ (a : Addr) (zs : List (Addr × KR)), vs = [V.ref a] ∧ SqL K H a (zs.map fun z => V.ref z.1) ∧ (∀ z ∈ zs, SqT K H z.1 (krV z.2)) ∧ zs.length ≤ 60 ∧
  ∀ (ys : List (Addr × KR)) (p : Addr), ys.Perm zs → (ys.map (·.2)).Pairwise leR → H p = none → Q (.ref p) (upd H p (.lst (ys.map fun z => V.ref z.1)))
theorem tups_of {h : Heap} : ∀ zs : List (Addr × KR), (∀ z ∈ zs, ∃ (o : Obj) (xs : Array Value) (n : Nat) (t : Tok), h.get? z.1 = some o ∧ o.cls = .type "tuple" ∧ o.data = .seq xs n ∧ tupItems shR 0 xs.toList = some (keyR z.2) ∧ xs[0]? = some (.str z.2.1 t)) → ∃ fs, TupsOf h shR (zs.map fun z => Value.ref z.1) fs
  | [], _ => ⟨[], .nil⟩
  | z :: zs, hx => by
    obtain ⟨fs, k⟩ := tups_of zs fun y hy => hx y (List.mem_cons_of_mem _ hy)
    obtain ⟨o, xs, n, t, h1, h2, h3, _, h5⟩ := hx z List.mem_cons_self
    exact ⟨_ :: fs, .cons ⟨z.1, o, xs, n, rfl, h1, h2, h3, h5, ⟨fun e => absurd (show true = false from e) (by decide), fun _ => ⟨_, t, rfl⟩⟩⟩ k⟩
theorem cr_sortedR : CallR X (.builtin "sorted") (rSortedR X.K) := by
  intro pins s σ H vs us Q I r h
  obtain ⟨a, zs, rfl, hs, hx, h60, q⟩ := h
  obtain ⟨its, rv, hl, hz⟩ := I.list hs
  rw [Vals.ref1 r]
  have ei := refs_eq (fun z : Addr × KR => z.1) rv
  subst ei
  have hz2 : zs.length ≤ sizeLine := by rw [List.length_map] at hz; exact hz
  have raw : ∀ z ∈ zs, ∃ (o : Obj) (xs : Array Value) (n : Nat) (t : Tok), s.heap.get? z.1 = some o ∧ o.cls = .type "tuple" ∧ o.data = .seq xs n ∧ tupItems shR 0 xs.toList = some (keyR z.2) ∧ xs[0]? = some (.str z.2.1 t) := fun z hz => by
    obtain ⟨us, rz, ⟨o, ho, hc, n, hd⟩, _⟩ := I.tuple (hx z hz)
    obtain ⟨k1, t, k2⟩ := items_row rz
    exact ⟨o, us.toArray, n, t, ho, hc, hd, by simpa using k1, by simpa using k2⟩
  have key : ∀ z ∈ zs, G.tupKeyC s.heap shR (.ref z.1) = some (keyR z.2) := fun z hz => by
    obtain ⟨o, xs, n, t, h1, h2, h3, h4, _⟩ := raw z hz
    exact keyC_of h1 h2 h3 h4
  obtain ⟨fs, tt⟩ := tups_of zs raw
  refine G.sorted_tups hl.isList tt (fun v hv => ?_) (by rw [List.length_map]; exact hz2) fun st' hp hs' _ => ?_
  · obtain ⟨z, hz, rfl⟩ := List.mem_map.mp hv
    exact ⟨_, key z hz⟩
  · have hp' : (arrOf st').toList.Perm (zs.map fun z => ((Value.ref z.1, Value.ref z.1) : Value × Value)) := by
      have e := Array.perm_iff_toList_perm.mp hp
      rw [pairsOf_toList] at e
      refine e.trans (List.Perm.of_eq ?_)
      have : ∀ l : List (Addr × KR), (l.map fun z => Value.ref z.1).zip (l.map fun z => Value.ref z.1) = l.map fun z => (Value.ref z.1, Value.ref z.1) := fun l => by
        induction l with
        | nil => rfl
        | cons z l ih => rw [List.map_cons, List.zip_cons_cons, ih]; rfl
      exact this zs
    obtain ⟨ys, py, ey⟩ := perm_lift _ hp' zs rfl
    have eo : ((arrOf st').map (·.2)).toList = ys.map fun z => Value.ref z.1 := by rw [Array.toList_map, ← ey, List.map_map]; rfl
    obtain ⟨ep, he'⟩ := PyProof.Rows.sortedAll_at s.heap (zs.map fun z => Value.ref z.1) ((arrOf st').map (·.2))
    have hlen : (ys.map fun z => V.ref z.1).length ≤ sizeLine := by rw [List.length_map, py.length_eq]; exact hz2
    have so : (ys.map (·.2)).Pairwise leR := by
      rw [List.pairwise_map, List.pairwise_iff_getElem]
      intro i j hi hj hij
      have e1 : (arrOf st')[i]? = some (Value.ref ys[i].1, Value.ref ys[i].1) := by rw [← Array.getElem?_toList, ← ey, List.getElem?_map, List.getElem?_eq_getElem hi]; rfl
      have e2 : (arrOf st')[j]? = some (Value.ref ys[j].1, Value.ref ys[j].1) := by rw [← Array.getElem?_toList, ← ey, List.getElem?_map, List.getElem?_eq_getElem hj]; rfl
      have m1 := key _ (py.mem_iff.mp (List.getElem_mem hi))
      have m2 := key _ (py.mem_iff.mp (List.getElem_mem hj))
      have k1 : KK (G.tupKindC s.heap shR) (arrOf st') i = keyR ys[i].2 := by
        unfold KK; rw [e1]
        show (G.tupKeyC s.heap shR (Value.ref ys[i].1)).getD [] = _
        rw [m1]; rfl
      have k2 : KK (G.tupKindC s.heap shR) (arrOf st') j = keyR ys[j].2 := by
        unfold KK; rw [e2]
        show (G.tupKeyC s.heap shR (Value.ref ys[j].1)).getD [] = _
        rw [m2]; rfl
      have e := hs' i j (Nat.le_of_lt hij) (by rw [pairsOf_size, List.length_map, ← py.length_eq]; exact hj)
      rw [k1, k2] at e
      exact e
    refine ⟨.ref _, upd H (s.heap.objs.size + 1) (.lst (ys.map fun z => V.ref z.1)), I.laid (t' := s.toks) (fun _ _ => PyProof.Rows.sortedAll_old) (Nat.le_succ _) ⟨hlen, ((arrOf st').map (·.2)).toList, ep, ?_, he'⟩, rfl, q _ _ py so (I.hok.fresh (Nat.le_succ _))⟩
    rw [eo]
    exact vals_refs (fun z : Addr × KR => z.1) ys
end
section
variable {X : Cx} {M : List Addr} {σ : L2.St} {H : Hp} {a : Expr} {p pos : Pos}
theorem rowsV {K : PySem.W.Frag} {G : Hp} : ∀ {ks : List KR} {xs : List V}, DpAll K G xs (ks.map krD) → ∃ zs : List (Addr × KR), xs = zs.map (fun z => V.ref z.1) ∧ zs.map (·.2) = ks ∧ ∀ z ∈ zs, SqT K G z.1 (krV z.2)
  | [], _, h => by
    cases h
    exact ⟨[], rfl, rfl, fun _ h => nomatch h⟩
  | k :: ks, _, h => by
    cases h with
    | cons r t =>
      obtain ⟨zs, e1, e2, e3⟩ := rowsV t
      obtain ⟨b, us, rfl, hq, hd⟩ := dTup r
      refine ⟨(b, k) :: zs, by rw [e1]; rfl, by rw [← e2]; rfl, fun z hz => ?_⟩
      rcases List.mem_cons.mp hz with rfl | hz
      · cases hd with
        | cons r1 r2 =>
          rw [dStr r1, dIntsV r2] at hq
          exact hq
      · exact e3 z hz
theorem rowsD_of {K : PySem.W.Frag} {G : Hp} : ∀ {zs : List (Addr × KR)}, (∀ z ∈ zs, SqT K G z.1 (krV z.2)) → DpAll K G (zs.map fun z => V.ref z.1) ((zs.map (·.2)).map krD)
  | [], _ => .nil
  | z :: zs, h => .cons (.tup (h z List.mem_cons_self) (.cons (.str _) (dInts _))) (rowsD_of fun y hy => h y (List.mem_cons_of_mem _ hy))
/-- sorted(xs) -/
theorem jd_sortedR {ks : List KR} (hm : X.mg "sorted" = none) (ha : Jd X M a σ H (.list (ks.map krD))) (hz : ks.length ≤ 60) (hg : Gl X "sorted" := by rfl) (hs : starEach [a] X.env = (false, eval a X.env) :: starEach [] X.env := by rfl)
    (hpl : (backTo pos (starEach [] X.env)).any (·.1) = false := by rfl) : Jd X M (.Call (.Name "sorted" p) [a] [] pos) σ H (.list ((sortR ks).map krD)) := fun al H1 x Q q =>
  leW (pe_callB cr_sortedR hg hm (by decide +kernel) (pa_cons pe_W pa_nil hs) (by decide) (by decide) hs hpl) (ha al H1 x _ fun v H2 y r => by
    obtain ⟨t, xs, e1, e2, e3⟩ := dLst r
    obtain ⟨zs, rfl, ek, hk⟩ := rowsV e3
    refine ⟨t, zs, by rw [e1], ex_l hid_le e2, fun z hz => ex_t hid_le (hk z hz), by rw [← ek, List.length_map] at hz; exact hz, fun ys l pm so hl => ?_⟩
    have al2 := al.ex (x.trans y)
    have up := hid_ex (M := M) (Ex.new (o := .lst (ys.map fun z => V.ref z.1)) hl)
    have ek2 : ys.map (·.2) = sortR ks := by
      rw [← ek]
      exact sortR_eq (pm.map _) so
    refine q _ _ (y.trans (Ex.new hl)) (.lst (SqL.of (al2.newEx hl)) ?_)
    rw [← ek2]
    exact rowsD_of fun z hz => ex_t up (hk z (pm.mem_iff.mp hz)))
end
end J

set_option maxHeartbeats 4000000
/-! J58: [elt for a in xs for b in ys(a)]; sorted(xs) of texts as a datum. -/
namespace J
open PySem PySem.Spec PyProof.Rows L2 Evl RZ
theorem lc_in {J : It} {n : Nat} {G : Hp → Prop} {Y : Nat → Hp → V → Hp → Prop} (w : Walk J n G Y) {g : TG} {tt : TT} {te : TE} {vs : List Nat} {σ : L2.St} {H1 : Hp} {D : Addr} {Qd : Hp → Prop} (Pv : Nat → Hp → Prop) (h0 : Pv 0 H1) (hG : ∀ i H, i ≤ n → Pv i H → G H)
    (hs : ∀ i x H H', i < n → Pv i H → Y i H x H' → g x (L2.wipe σ vs) H' fun σ2 H2 => L2.wipe σ2 vs = L2.wipe σ vs ∧ tt σ2 H2 fun b H3 =>
      if b = true then te σ2 H3 fun y H4 => ∃ acc, H4 D = some (.lst acc) ∧ acc.length < sizeLine ∧ Pv (i + 1) (L2.upd H4 D (.lst (acc ++ [y]))) else Pv (i + 1) H3) (hd : ∀ H, Pv n H → Qd H) :
    ∃ W : Nat → Nat → Hp → Prop, (∃ m, W 0 m H1) ∧ ∀ i m H, W i m H →
      (J.stop i H ∧ Qd H) ∨ (J.go i H ∧ ∃ Nx : Hp → Prop, (∀ H', Nx H' → ∃ m', m' < m ∧ W (i + 1) m' H') ∧ ∀ x H', J.yld i H x H' → g x (L2.wipe σ vs) H' fun σ2 H2 => L2.wipe σ2 vs = L2.wipe σ vs ∧ tt σ2 H2 fun b H3 =>
        if b = true then te σ2 H3 fun y H4 => ∃ acc, H4 D = some (.lst acc) ∧ acc.length < sizeLine ∧ Nx (L2.upd H4 D (.lst (acc ++ [y]))) else Nx H3) := by
  refine ⟨fun i m H => m = n - i ∧ i ≤ n ∧ Pv i H, ⟨n, by simp, Nat.zero_le _, h0⟩, ?_⟩
  rintro i m H ⟨rfl, hi, p⟩
  have q := hG i H hi p
  by_cases hlt : i < n
  · refine .inr ⟨w.goes i H hlt q, Pv (i + 1), fun H' p' => ⟨n - (i + 1), by omega, rfl, hlt, p'⟩, fun x H' y => hs i x H H' hlt p (w.yields i H x H' hlt q y)⟩
  · have e : i = n := by omega
    subst e
    exact .inl ⟨w.stops H q, hd H p⟩
section
variable {X : Cx} {B H : Hp} {M0 : List Addr} {ρ : Ro} {μ : Mu} {σ : L2.St} {ds : List D} {pos : Pos} {tg iter tg1 iter1 elt : Expr} {scope : Scope} {own : List (Str × Nat)} {js js1 : List Nat}
def tIb (X : Cx) (scope : Scope) (tg iter : Expr) : TI := fun σ H R => ∀ X', Blk X scope X' → tI X' tg iter σ H R
theorem flat_take {β : Type} (F : D → List β) {ds : List D} {i : Nat} {d : D} (h : ds[i]? = some d) : (ds.take (i + 1)).flatMap F = (ds.take i).flatMap F ++ F d := by
  rw [List.take_add_one, h, List.flatMap_append]
  simp
theorem flat_len {F : D → List D} : ∀ (l : List D) (i : Nat), ((l.take i).flatMap F).length ≤ (l.flatMap F).length
  | [], i => by simp
  | d :: l, 0 => by simp
  | d :: l, i + 1 => by
    have := flat_len (F := F) l i
    simp only [List.take_succ_cons, List.flatMap_cons, List.length_append]
    omega
/-- [elt for tg in iter for tg1 in iter1] -/
theorem lc2_tree (S : Sy X.K B M0 ρ μ σ H) (hw : Jw X (adr M0 μ) tg iter σ H ds) (es : D → List D) (hh : D → D → D) (hz : (ds.flatMap fun d => (es d).map (hh d)).length ≤ 90000) (f f1 : D → Ro → Ro) (hjs : ∀ j ∈ js, j ∈ own.map (·.2))
    (hg : ∀ X' d, Blk X scope X' → d ∈ ds → Jg X' tg js d (wip ρ (own.map (·.2))) (f d (wip ρ (own.map (·.2)))))
    (hi1 : ∀ d X' B' M' σ' H', d ∈ ds → Blk X scope X' → Sy X'.K B' M' (f d (wip ρ (own.map (·.2)))) μ σ' H' → Jw X' (adr M' μ) tg1 iter1 σ' H' (es d))
    (hg1 : ∀ X' d e, Blk X scope X' → d ∈ ds → e ∈ es d → Jg X' tg1 js1 e (wip (f d (wip ρ (own.map (·.2)))) js1) (f1 e (wip (f d (wip ρ (own.map (·.2)))) js1)))
    (he : ∀ d e X' B' M' σ' H', d ∈ ds → e ∈ es d → Blk X scope X' → Sy X'.K B' M' (f1 e (wip (f d (wip ρ (own.map (·.2)))) js1)) μ σ' H' → Jd X' (adr M' μ) elt σ' H' (hh d e))
    {Q : VK} (k : ∀ a H', Sy X.K B M0 ρ ((a, .lst ((ds.flatMap fun d => (es d).map (hh d)).map .dat)) :: μ) σ H' → Q (.ref a) H') :
    tLc2 (tI X tg iter) (tGb X scope tg) (tTsb X scope []) (tIb X scope tg1 iter1) (tGb X scope tg1) (tTsb X scope []) (tWb X scope elt) (own.map (·.2)) js1 σ H Q := by
  refine hw S.all H (Ex.refl H) _ fun Jo H2 x2 yl Dl hD => ?_
  have S2 := S.ex x2
  obtain ⟨G, Y, w, hG, hY⟩ := yl
  obtain ⟨F, hF⟩ : ∃ F : D → List D, F = fun d => (es d).map (hh d) := ⟨_, rfl⟩
  rw [← hF] at hz k
  let Pw : Nat → Hp → Prop := fun i H' => Sy X.K (J.grd μ H2) M0 ρ (μ ++ [(Dl, .lst (((ds.take i).flatMap F).map .dat))]) σ H'
  have low : hid M0 (J.grd μ H2) = hid (adr M0 μ) H2 := grd_low
  have S0 : Sy X.K (J.grd μ H2) M0 ρ (μ ++ [(Dl, .lst ([] : List Sv))]) σ (L2.upd H2 Dl (.lst [])) := (S2.grd.newN (.lst []) (Ex.new hD) hD ⟨[], upd_same, .nil⟩).perm (List.perm_append_comm (l₁ := μ) (l₂ := [_]))
  have fl : ∀ i, ((ds.take i).flatMap F).length ≤ 90000 := fun i => Nat.le_trans (flat_len ds i) hz
  refine ⟨fun i m H' => m = ds.length - i ∧ i ≤ ds.length ∧ Pw i H', ⟨ds.length, by simp, Nat.zero_le _, S0⟩, ?_⟩
  rintro i m H' ⟨rfl, hi, S'⟩
  have S' : Sy X.K (J.grd μ H2) M0 ρ (μ ++ [(Dl, .lst (((ds.take i).flatMap F).map .dat))]) σ H' := S'
  have g0 : Ex (hid (adr M0 μ) H2) (hid (adr M0 (μ ++ [(Dl, .lst (((ds.take i).flatMap F).map .dat))])) H') := by rw [← low]; exact S'.low
  have gw : G H' := hG H' (g0.trans hid_le)
  by_cases hlt : i < ds.length
  · refine .inr ⟨w.goes i H' hlt gw, Pw (i + 1), fun H3 p' => ⟨ds.length - (i + 1), by omega, rfl, hlt, p'⟩, fun x H3 y => ?_⟩
    have y := w.yields i H' x H3 hlt gw y
    obtain ⟨x3, dx⟩ := hY i H' x H3 hlt (g0.trans hid_le) y
    have hdi : ds[i]? = some ds[i] := List.getElem?_eq_getElem hlt
    have hdm : ds[i] ∈ ds := List.getElem_mem hlt
    have q := dx _ S'.all g0 ds[i] hdi
    have S3 := S'.ex x3
    have S3w := (S3.wipe (own.map (·.2))).split
    rw [← adr_app] at q
    obtain ⟨acc, hacc⟩ : ∃ acc, acc = (ds.take i).flatMap F := ⟨_, rfl⟩
    have hal : acc.length ≤ 90000 := by rw [hacc]; exact fl i
    have hnx : (ds.take (i + 1)).flatMap F = acc ++ F ds[i] := by rw [hacc]; exact flat_take F hdi
    have hnl : (acc ++ F ds[i]).length ≤ 90000 := by rw [← hnx]; exact fl (i + 1)
    rw [← hacc] at S3 S3w q
    intro X' hX
    have eK : X'.K = X.K := by obtain ⟨_, _, _, _, _, rfl⟩ := hX; rfl
    refine hg X' ds[i] hX hdm _ _ _ _ _ _ (by rw [eK]; exact S3w) (by rw [eK]; exact q) _ fun σ4 S4 l4 o4 => ⟨?_, ?_⟩
    · rw [wipe_eq (vs := own.map (·.2)) l4 fun j hj => o4 j fun z => hj (hjs j z)]
      exact wipe_eq (wipe_length _ _) fun j hj => wipe_out hj
    · have S4k : Sy X.K (J.grd μ H3) (adr M0 [(Dl, .lst (acc.map .dat))]) (f ds[i] (wip ρ (own.map (·.2)))) μ σ4 H3 := by rw [← eK]; exact S4
      have S4j := (S3.joinX S4k)
      obtain ⟨ρ4, hρ4⟩ : ∃ ρ4, ρ4 = f ds[i] (wip ρ (own.map (·.2))) := ⟨_, rfl⟩
      rw [← hρ4] at S4j S4k
      intro X2 hX2
      have eK2 : X2.K = X.K := by obtain ⟨_, _, _, _, _, rfl⟩ := hX2; rfl
      refine jts_nil (M := adr (adr M0 [(Dl, .lst (acc.map .dat))]) μ) S4k.all H3 (Ex.refl H3) _ fun H5 x5 => ?_
      have S35 := S3.ex x5
      have S45 := S4j.ex x5
      rw [if_pos rfl]
      intro X4 hX4
      have eK4 : X4.K = X.K := by obtain ⟨_, _, _, _, _, rfl⟩ := hX4; rfl
      have Ss := S45.split
      refine hi1 ds[i] X4 _ _ σ4 H5 hdm hX4 (by rw [eK4, ← hρ4]; exact Ss) Ss.all H5 (Ex.refl H5) _ fun J1 H6 x6 yl1 => ?_
      obtain ⟨G1, Y1, w1, hG1, hY1⟩ := yl1
      have S36 := S35.ex x6
      have S46 := (S45.ex x6).grd
      obtain ⟨B6, hB6⟩ : ∃ B6, B6 = J.grd (μ ++ [(Dl, Mo.lst (acc.map .dat))]) H6 := ⟨_, rfl⟩
      have low6 : hid M0 B6 = hid (adr M0 (μ ++ [(Dl, Mo.lst (acc.map .dat))])) H6 := by rw [hB6]; exact grd_low
      rw [← hB6] at S46
      have ea : ∀ m : Mo, adr M0 (μ ++ [(Dl, m)]) = adr (adr M0 [(Dl, Mo.lst (acc.map .dat))]) μ := fun m => by
        rw [← adr_app]; rfl
      let Pj : Nat → Hp → Prop := fun j H' => Sy X.K (J.grd μ H2) M0 ρ (μ ++ [(Dl, .lst ((acc ++ ((es ds[i]).take j).map (hh ds[i])).map .dat))]) σ H' ∧ Sy X.K B6 M0 ρ4 (μ ++ [(Dl, .lst ((acc ++ ((es ds[i]).take j).map (hh ds[i])).map .dat))]) σ4 H'
      have g6 : ∀ {j H'}, Pj j H' → Ex (hid (adr (adr M0 [(Dl, Mo.lst (acc.map .dat))]) μ) H6) (hid (adr (adr M0 [(Dl, Mo.lst (acc.map .dat))]) μ) H') := fun {j H'} p => by
        have := p.2.low
        rw [low6, ea, ea] at this
        exact this
      refine lc_in w1 Pj ⟨by rw [List.take_zero, List.map_nil, List.append_nil]; exact S36, by rw [List.take_zero, List.map_nil, List.append_nil]; exact S46⟩ (fun j H' hj p => hG1 H' ((g6 p).trans hid_le)) (fun j y H' H7 hj p yy => ?_) (fun H' p => ?_)
      · obtain ⟨x7, dx7⟩ := hY1 j H' y H7 hj ((g6 p).trans hid_le) yy
        have hej : (es ds[i])[j]? = some (es ds[i])[j] := List.getElem?_eq_getElem hj
        have hem : (es ds[i])[j] ∈ es ds[i] := List.getElem_mem hj
        obtain ⟨p1, p2⟩ := id p
        have al7 : Al (adr (adr M0 [(Dl, Mo.lst (acc.map .dat))]) μ) H' := by rw [← ea]; exact p1.all
        have q7 := dx7 _ al7 (g6 p) _ hej
        obtain ⟨acc2, hacc2⟩ : ∃ acc2, acc2 = acc ++ ((es ds[i]).take j).map (hh ds[i]) := ⟨_, rfl⟩
        have hn2 : acc ++ ((es ds[i]).take (j + 1)).map (hh ds[i]) = acc2 ++ [hh ds[i] (es ds[i])[j]] := by rw [hacc2, List.take_add_one, hej, List.map_append, List.append_assoc]; rfl
        have hl2 : acc2.length < 90000 := by
          rw [hacc2]
          rw [hF, List.length_append, List.length_map] at hnl
          rw [List.length_append, List.length_map, List.length_take]
          omega
        rw [← hacc2] at p1 p2
        have p17 := p1.ex x7
        have p27 := p2.ex x7
        have S7w := (p27.wipe js1).split
        intro X5 hX5
        have eK5 : X5.K = X.K := by obtain ⟨_, _, _, _, _, rfl⟩ := hX5; rfl
        refine hg1 X5 ds[i] (es ds[i])[j] hX5 hdm hem _ _ _ _ _ _ (by rw [eK5, ← hρ4]; exact S7w) (by rw [eK5, ← eK4]; exact q7) _ fun σ8 S8 l8 o8 => ⟨?_, ?_⟩
        · rw [wipe_eq (vs := js1) l8 fun n hn => o8 n hn]
          exact wipe_eq (wipe_length _ _) fun n hn => wipe_out hn
        · intro X6 hX6
          have eK6 : X6.K = X.K := by obtain ⟨_, _, _, _, _, rfl⟩ := hX6; rfl
          refine jts_nil (M := adr (adr M0 [(Dl, .lst (acc2.map .dat))]) μ) S8.all H7 (Ex.refl H7) _ fun H9 x9 => ?_
          have S9 := S8.ex x9
          rw [if_pos rfl]
          intro X7 hX7
          have eK7 : X7.K = X.K := by obtain ⟨_, _, _, _, _, rfl⟩ := hX7; rfl
          refine he ds[i] (es ds[i])[j] X7 _ _ σ8 H9 hdm hem hX7 (by rw [eK7, ← eK5, ← hρ4] at *; exact S9) S9.all H9 (Ex.refl H9) _ fun v H10 x10 pv => ?_
          have T1 := p17.ex (x9.trans x10)
          have T2 := p27.ex (x9.trans x10)
          have hil : (μ ++ [(Dl, Mo.lst (acc2.map .dat))])[μ.length]? = some (Dl, .lst (acc2.map .dat)) := by simp
          obtain ⟨vs, a1, a2⟩ := T1.own hil
          have hl1 := paired_len a2
          rw [List.length_map] at hl1
          have pv' : Dp X.K (hid (adr M0 (μ ++ [(Dl, Mo.lst (acc2.map .dat))])) H10) v (hh ds[i] (es ds[i])[j]) := by rw [← adr_app, ← eK7]; exact pv
          have e : ∀ m : Mo, (μ ++ [(Dl, Mo.lst (acc2.map .dat))]).set μ.length (Dl, m) = μ ++ [(Dl, m)] := fun m => by simp
          refine ⟨vs, a1, sz_lt (by omega), ?_⟩
          have hm : (Mo.lst ((acc2 ++ [hh ds[i] (es ds[i])[j]]).map .dat)).holds X.K (hid (adr M0 (μ ++ [(Dl, Mo.lst (acc2.map .dat))])) H10) (L2.upd H10 Dl (.lst (vs ++ [v]))) Dl := ⟨vs ++ [v], upd_same, by rw [List.map_append]; exact paired_app a2 (.cons pv' .nil)⟩
          have U1 := T1.upd (.lst ((acc2 ++ [hh ds[i] (es ds[i])[j]]).map .dat)) (o := .lst (vs ++ [v])) hil hm
          have U2 := T2.upd (.lst ((acc2 ++ [hh ds[i] (es ds[i])[j]]).map .dat)) (o := .lst (vs ++ [v])) hil hm
          rw [e] at U1 U2
          show Pj (j + 1) _
          refine ⟨?_, ?_⟩
          · rw [hn2]; exact U1
          · rw [hn2]; exact U2
      · show Sy X.K (J.grd μ H2) M0 ρ (μ ++ [(Dl, .lst (((ds.take (i + 1)).flatMap F).map .dat))]) σ H'
        rw [hnx, hF]
        have := p.1
        rw [List.take_length] at this
        exact this
  · have e : i = ds.length := by omega
    subst e
    rw [List.take_length] at S'
    exact .inl ⟨w.stops H' gw, k Dl H' ((S'.base S2.grdB).perm (List.perm_append_comm (l₁ := [_]) (l₂ := μ)))⟩
/-- .. as a value -/
theorem tW_lc2 {Q : VK} (h : tLc2 (tI X tg iter) (tGb X scope tg) (tTsb X scope []) (tIb X scope tg1 iter1) (tGb X scope tg1) (tTsb X scope []) (tWb X scope elt) (own.map (·.2)) js1 σ H Q) (ok : BlkOk X.N X.env.scope scope own) (hc : X.calm = true) (hN : X.N.Nodup) (hv : ∀ i ∈ js1, i ∈ own.map (·.2))
    (hs : ∀ x, foldedSetIterable iter X.env x = pure x := by intro _; rfl) (hs1 : ∀ env x, foldedSetIterable iter1 env x = pure x := by intro _ _; rfl) : tW X (.ListComp elt [⟨tg, iter, [], 0⟩, ⟨tg1, iter1, [], 0⟩] scope pos) σ H Q :=
  leW (pe_lc2 (own := own) (vs1 := js1) (g := tGb X scope tg) (tt := tTsb X scope []) (wi1 := tIb X scope tg1 iter1) (g1 := tGb X scope tg1) (tt1 := tTsb X scope []) (te := tWb X scope elt) hc hN pi_I ok hv (fun s H C cl fp => ⟨fun pins s' σ' H' v u Q' I r h => h _ ⟨s, H, C, cl, fp, rfl⟩ pins s' u I r⟩)
    (fun s H C cl fp => ⟨fun pins s' σ' H' Q' I h => h _ ⟨s, H, C, cl, fp, rfl⟩ pins s' I⟩)
    (fun s H C cl fp => ⟨fun pins s' σ' H' Q' I h => h _ ⟨s, H, C, cl, fp, rfl⟩ pins s' I⟩)
    (fun s H C cl fp => ⟨fun pins s' σ' H' v u Q' I r h => h _ ⟨s, H, C, cl, fp, rfl⟩ pins s' u I r⟩)
    (fun s H C cl fp => ⟨fun pins s' σ' H' Q' I h => h _ ⟨s, H, C, cl, fp, rfl⟩ pins s' I⟩)
    (fun s H C cl fp => ⟨fun pins s' σ' H' Q' I h => h _ ⟨s, H, C, cl, fp, rfl⟩ pins s' I⟩) hs hs1) h
/-- name = .. on one line -/
theorem tB_setLc2 (n : Nat) {y : Str} {py spos : Pos} {rest : List Stmt} {D' : Ends} (h : tLc2 (tI X tg iter) (tGb X scope tg) (tTsb X scope []) (tIb X scope tg1 iter1) (tGb X scope tg1) (tTsb X scope []) (tWb X scope elt) (own.map (·.2)) js1 σ H fun v H' => tB X rest D' (σ.set n (some v)) H') (ok : BlkOk X.N X.env.scope scope own) (hc : X.calm = true) (hN : X.N.Nodup) (hv : ∀ i ∈ js1, i ∈ own.map (·.2))
    (hy : X.N[n]? = some y := by rfl) (hyl : X.env.scope.names.lookup y = some .local := by rfl) (hsw : swapsWith (.ListComp elt [⟨tg, iter, [], 0⟩, ⟨tg1, iter1, [], 0⟩] scope pos) (some (.Name y py)) spos.line X.env = pure true := by rfl) (hs : ∀ x, foldedSetIterable iter X.env x = pure x := by intro _; rfl) (hs1 : ∀ env x, foldedSetIterable iter1 env x = pure x := by intro _ _; rfl) :
    tB X (.Assign [.Name y py] (.ListComp elt [⟨tg, iter, [], 0⟩, ⟨tg1, iter1, [], 0⟩] scope pos) spos :: rest) D' σ H :=
  tB_cons (ps_setLc2 (own := own) (vs1 := js1) (g := tGb X scope tg) (tt := tTsb X scope []) (wi1 := tIb X scope tg1 iter1) (g1 := tGb X scope tg1) (tt1 := tTsb X scope []) (te := tWb X scope elt) hc hN hy hyl hsw pi_I ok hv (fun s H C cl fp => ⟨fun pins s' σ' H' v u Q' I r h => h _ ⟨s, H, C, cl, fp, rfl⟩ pins s' u I r⟩)
    (fun s H C cl fp => ⟨fun pins s' σ' H' Q' I h => h _ ⟨s, H, C, cl, fp, rfl⟩ pins s' I⟩)
    (fun s H C cl fp => ⟨fun pins s' σ' H' Q' I h => h _ ⟨s, H, C, cl, fp, rfl⟩ pins s' I⟩)
    (fun s H C cl fp => ⟨fun pins s' σ' H' v u Q' I r h => h _ ⟨s, H, C, cl, fp, rfl⟩ pins s' u I r⟩)
    (fun s H C cl fp => ⟨fun pins s' σ' H' Q' I h => h _ ⟨s, H, C, cl, fp, rfl⟩ pins s' I⟩)
    (fun s H C cl fp => ⟨fun pins s' σ' H' Q' I h => h _ ⟨s, H, C, cl, fp, rfl⟩ pins s' I⟩) hs hs1) h
end
end J

set_option maxHeartbeats 4000000
/-! J59: sorted(xs) of texts as a datum; lists of texts compared. -/
namespace J
open PySem PySem.Spec PyProof.Rows L2 Evl RZ
abbrev k0 (z : Str) : KR := (z, [])
theorem leR_k0 {a b : Str} : leR (k0 a) (k0 b) ↔ ¬ b.cps.toList < a.cps.toList := by
  have e : lexLt itemOrd (keyR (k0 b)) (keyR (k0 a)) = decide (b.cps.toList < a.cps.toList) := by
    show lexLt itemOrd [Sum.inr b.cps.toList] [Sum.inr a.cps.toList] = _
    rw [lex_cons]
    show (decide (b.cps.toList < a.cps.toList) || (!decide (a.cps.toList < b.cps.toList) && false)) = _
    rw [Bool.and_false, Bool.or_false]
  unfold leR
  rw [e, decide_eq_false_iff_not]
theorem sorted_k0 : ∀ {zs : List Str}, sortedS zs = true → (zs.map k0).Pairwise leR
  | [], _ => .nil
  | [_], _ => List.pairwise_singleton _ _
  | a :: b :: zs, h => by
    have h : (!ltCps b.cps.toList a.cps.toList && risingS b zs) = true := h
    rw [Bool.and_eq_true] at h
    have ih := sorted_k0 (zs := b :: zs) h.2
    have hab : leR (k0 a) (k0 b) := leR_k0.mpr fun q => by
      have h1 := h.1
      rw [ltCps_eq, decide_eq_true q] at h1
      cases h1
    refine List.pairwise_cons.mpr ⟨fun x hx => ?_, ih⟩
    have hx : x = k0 b ∨ x ∈ zs.map k0 := List.mem_cons.mp hx
    rcases hx with rfl | hx
    · exact hab
    · exact leR_trans hab ((List.pairwise_cons.mp ih).1 x hx)
/-- texts, ascending -/
def sortS (ys : List Str) : List Str := (sortR (ys.map k0)).map (·.1)
theorem map_k0 (ys : List Str) : (ys.map k0).map (·.1) = ys := by rw [List.map_map]; exact List.map_id _
theorem sortS_eq {zs ys : List Str} (p : zs.Perm ys) (h : sortedS zs = true) : zs = sortS ys := by
  have := sortR_eq (p.map k0) (sorted_k0 h)
  have e := congrArg (List.map (·.1)) this
  rw [map_k0] at e
  exact e
theorem sortS_perm (ys : List Str) : (sortS ys).Perm ys := by
  have := (sortR_perm (ys.map k0)).map (·.1)
  rw [map_k0] at this
  exact this
theorem sortS_iff {xs ys : List Str} : sortS xs = sortS ys ↔ xs.Perm ys := by
  constructor
  · intro e
    exact (sortS_perm xs).symm.trans ((List.Perm.of_eq e).trans (sortS_perm ys))
  · intro p
    have h1 : (sortR (xs.map k0)) = sortR (ys.map k0) := sortR_eq ((sortR_perm _).trans (p.map k0)) (sortR_sorted _)
    unfold sortS
    rw [h1]
theorem eqv_strs : ∀ {xs ys : List Str}, PyData.eqvAll (xs.map PyData.str) (ys.map PyData.str) = decide (xs = ys)
  | [], [] => rfl
  | [], _ :: _ => by rw [List.map_cons, List.map_nil]; simp [PyData.eqvAll]
  | _ :: _, [] => by rw [List.map_cons, List.map_nil]; simp [PyData.eqvAll]
  | x :: xs, y :: ys => by
    have ih := eqv_strs (xs := xs) (ys := ys)
    rw [List.map_cons, List.map_cons, PyData.eqvAll, ih]
    have e : PyData.eqv (.str x) (.str y) = decide (x = y) := by by_cases h : x = y <;> simp [PyData.eqv, h]
    rw [e]
    by_cases h : x = y <;> simp [h]
section
variable {X : Cx} {M : List Addr} {σ : L2.St} {H : Hp} {a : Expr} {p pos : Pos}
theorem jd_sortedS {ys : List Str} (hm : X.mg "sorted" = none) (ha : Jd X M a σ H (.list (ys.map PyData.str))) (hz : ys.length < 64) (hg : Gl X "sorted" := by rfl) (hs : starEach [a] X.env = (false, eval a X.env) :: starEach [] X.env := by rfl)
    (hpl : (backTo pos (starEach [] X.env)).any (·.1) = false := by rfl) : Jd X M (.Call (.Name "sorted" p) [a] [] pos) σ H (.list ((sortS ys).map PyData.str)) := fun al H1 x Q q =>
  tW_sortedS hm (al.ex x) (ha.mono x al) hz (fun zs v H2 pm so y pv => q v H2 y (by rw [← sortS_eq pm so]; exact pv)) hg hs hpl
end
end J

set_option maxHeartbeats 4000000
namespace K58

open PySem PySem.Spec PyProof.Rows L2 J Evl
variable {P : Program} {w : World} {K : PySem.W.Frag} {mg : Str → Option Value} {base : Heap}
/-! ### parts of words -/
def isNeT : D → Bool
  | .tuple es => !es.isEmpty
  | _ => false
def elems : D → List D
  | .tuple es => es
  | _ => []
def strD : D → Str
  | .str z => z
  | _ => ⟨#[]⟩
def listedD (l : List D) : List D := l.flatMap elems
/-- the parts are of these words, each once -/
def isPs (own : List Str) : D → Bool
  | .tuple l => !l.isEmpty && (l.all isNeT && ((listedD l).all dIsS && decide (sortS ((listedD l).map strD) = sortS own)))
  | _ => false
theorem eqv_empty (l : List D) : PyData.eqv (.tuple l) (.tuple []) = l.isEmpty := by
  cases l <;> simp [PyData.eqv, PyData.eqvAll]
theorem all_strs : ∀ {l : List D}, l.all dIsS = true → l = (l.map strD).map PyData.str
  | [], _ => rfl
  | d :: l, h => by
    rw [List.all_cons, Bool.and_eq_true] at h
    have ih := all_strs h.2
    cases d with
    | str z => rw [List.map_cons, List.map_cons, ← ih]; rfl
    | _ => cases h.1
theorem lay_tup_mem {n : Nat} {l : List D} (h : Lay (n + 1) (.tuple l)) : ∀ x ∈ l, Lay n x := lay_tup.mp h
end K58

set_option maxHeartbeats 4000000
/-! J44: tuple(..) of a new list made with effects; calls of data over values at hand. -/
namespace J
open PySem PySem.Spec PyProof.Rows L2 Evl RZ
section
variable {X : Cx} {B H : Hp} {M0 : List Addr} {ρ : Ro} {μ : Mu} {σ : L2.St} {ts : List Sv} {vs ws : List V} {ds : List D} {d : D} {e : Expr} {p0 pos : Pos} {n : Nat} {R : List D → D → Prop} {Q : VK} {E : XK}
theorem tW_tupOwn (hm : X.mg "tuple" = none) (h : tW X e σ H fun v H1 => ∃ (p : Addr) (ds : List D) (B : Hp) (M0 : List Addr) (ρ : Ro) (μ : Mu), v = .ref p ∧ Sy X.K B M0 ρ ((p, .lst (ds.map .dat)) :: μ) σ H1 ∧ ∀ u H2, Ex H1 H2 → Sy X.K B M0 ρ μ σ H2 → Dp X.K (hid (adr M0 μ) H2) u (.tuple ds) → Q u H2)
    (hg : Gl X "tuple" := by rfl) (hs : starEach [e] X.env = (false, eval e X.env) :: starEach [] X.env := by rfl) : tW X (.Call (.Name "tuple" p0) [e] [] pos) σ H Q :=
  leW (pe_callTy call_tuple_of hg hm boot_tuple (pa_cons pe_W pa_nil hs) (by decide) (by decide) hs) (tW_mono h fun v H1 ⟨p, ds, B, M0, ρ, μ, ev, S, k⟩ => by
    subst ev
    obtain ⟨us, g1, g2⟩ := S.own (i := 0) rfl
    have g1 : H1 p = some (.lst us) := g1
    refine ⟨p, us, rfl, .inl ⟨SqL.of g1, fun l hl => ?_⟩⟩
    have S2 := S.drop1.ex (Ex.new (o := .tup us) hl)
    refine k (.ref l) _ (Ex.new hl) S2 (.tup (SqT.of (S.drop1.all.newEx hl)) ?_)
    exact (dats_of g2).ex ((hid_sub fun b hb => List.mem_cons_of_mem _ hb).trans (hid_ex (Ex.new hl))))
/-- a def of data, called with the last values at hand -/
theorem sx_spd (S : Sx X.K B M0 ρ μ σ (ts ++ ds.map .dat) (vs ++ ws) H) (hl : ts.length = vs.length) (hn : ds.length = n) (hR : R ds d)
    (k : ∀ v H', Sx X.K B M0 ρ μ σ (ts ++ [.dat d]) (vs ++ [v]) H' → Q v H') : spD X.K n R ws H Q E :=
  ⟨adr M0 μ, ds, d, hn, S.1.all, dats_of (S.right hl), hR, fun v H2 x p => k v H2 (((S.take hl).ex x).push p)⟩
end
end J

set_option maxHeartbeats 4000000
/-! J45: three keywords, the last one first; a datum is equal to itself. -/
namespace J
open PySem PySem.Spec PyProof.Rows L2 Evl RZ
section
variable {X : Cx} {M : List Addr} {σ : L2.St} {H : Hp} {e1 e2 e3 : Expr} {pos p kp1 kp2 kp3 : Pos} {d d1 d2 d3 : D} {k : Nat} {x p1 p2 p3 : Str} {R : List D → D → Prop} {Fl : List D → Value → Prop} {f : Addr} {fd : FuncData}
theorem jd_callXK3 (ok : FnOk X.prog X.w X.K X.mg X.base (CX X.prog X.w) k f fd [p1, p2, p3] (spX X.K 3 R Fl)) (hm : X.mg x = some (.ref f)) (hk : PySem.W.keepIn X.K (.ref f) = true) (hb : KBn X.K fd [p1, p2, p3] 0 [p3, p2, p1] (fun us ws => us ++ ws.reverse) (fun vs zs => vs ++ zs.reverse)) (hr : Room k X.A)
    (h3 : Jd X M e3 σ H d3) (h2 : Jd X M e2 σ H d2) (h1 : Jd X M e1 σ H d1) (hR : R [d1, d2, d3] d) (hg : Gl X x := by rfl) (hdb : (x == ("__debug__" : Str)) = false := by decide)
    (hall : (backToKw pos (keywordEach [⟨some p3, e3, kp3⟩, ⟨some p2, e2, kp2⟩, ⟨some p1, e1, kp1⟩] X.env)).all (·.1.isSome) = true := by rfl) (hks : (backToKw pos (keywordEach [⟨some p3, e3, kp3⟩, ⟨some p2, e2, kp2⟩, ⟨some p1, e1, kp1⟩] X.env)).filterMap (·.1) = [p3, p2, p1] := by rfl)
    (hpl : ((backTo pos (starEach [] X.env)).any (·.1) || (backToKw pos (keywordEach [⟨some p3, e3, kp3⟩, ⟨some p2, e2, kp2⟩, ⟨some p1, e1, kp1⟩] X.env)).any (·.1.isNone)) = false := by rfl) : Jd X M (.Call (.Name x p) [] [⟨some p3, e3, kp3⟩, ⟨some p2, e2, kp2⟩, ⟨some p1, e1, kp1⟩] pos) σ H d := fun al H1 y Q q =>
  leW (pe_callK0 (E := E0) ok hr hg hm hk hb passE0 (pk_cons pe_W (pk_cons pe_W (pk_cons pe_W pk_nil))) hall hks hdb hpl) (h3 al H1 y _ fun v3 H2 z r3 => h2 al H2 (y.trans z) _ fun v2 H3 z1 r2 => h1 al H3 ((y.trans z).trans z1) _ fun v1 H4 z2 r1 => ⟨rfl, M, [d1, d2, d3], rfl, (((al.ex y).ex z).ex z1).ex z2, .cons r1 (.cons (r2.ex (hid_ex z2)) (.cons (r3.ex (hid_ex (z1.trans z2))) .nil)), .inl ⟨d, hR, fun v H5 u t => q v H5 (((z.trans z1).trans z2).trans u) t⟩⟩)
end
mutual
theorem eqvR : ∀ d : D, d.canLay0 = true → PyData.eqv d d = true
  | .none, _ => rfl
  | .bool b, _ => by cases b <;> rfl
  | .int i, _ => by simp [PyData.eqv]
  | .str x, _ => by simp [PyData.eqv]
  | .list ds, h => by rw [PyData.eqv]; exact eqvRs ds (by simpa [PyData.canLay0] using h)
  | .tuple ds, h => by rw [PyData.eqv]; exact eqvRs ds (by simpa [PyData.canLay0] using h)
  | .dict _, h => by simp [PyData.canLay0] at h
theorem eqvRs : ∀ ds : List D, PyData.canLayAll0 ds = true → PyData.eqvAll ds ds = true
  | [], _ => rfl
  | d :: ds, h => by
    have h2 : d.canLay0 = true ∧ PyData.canLayAll0 ds = true := by simpa [PyData.canLayAll0] using h
    rw [PyData.eqvAll, eqvR d h2.1, eqvRs ds h2.2]; rfl
end
end J

set_option maxHeartbeats 4000000
/-! J46: zip of three of lists and tuples; and of four as a value. -/
namespace J
open PySem PySem.Spec PyProof.Rows L2 Evl RZ
/-- three of them, the items in new tuples -/
def ItzC (b1 b2 b3 : Bool) (K : PySem.W.Frag) (a b c : Addr) : It :=
  ⟨fun i H => ∃ (xs ys zs : List V) (x y z : V), SqB b1 K H a xs ∧ SqB b2 K H b ys ∧ SqB b3 K H c zs ∧ xs[i]? = some x ∧ ys[i]? = some y ∧ zs[i]? = some z,
    fun i H v H' => ∃ T x y z, v = .ref T ∧ H T = none ∧ H' = upd H T (.tup [x, y, z]) ∧ (∀ xs, SqB b1 K H a xs → xs[i]? = some x) ∧ (∀ ys, SqB b2 K H b ys → ys[i]? = some y) ∧ ∀ zs, SqB b3 K H c zs → zs[i]? = some z,
    fun i H => ∃ xs ys zs : List V, SqB b1 K H a xs ∧ SqB b2 K H b ys ∧ SqB b3 K H c zs ∧ i ≤ xs.length ∧ i ≤ ys.length ∧ i ≤ zs.length ∧ (i = xs.length ∨ i = ys.length ∨ i = zs.length)⟩
theorem turn_zipC {P : Program} {w : World} {K : PySem.W.Frag} {elts : List Expr} {kk : Nat} {tpos : Pos} {b1 b2 b3 : Bool} {a b c0 z TI TO i1 i2 i3 : Addr} (D : ZipSep3 z TI TO i1 i2 i3 [i1, a] [i2, b] [i3, c0]) (na : a ≠ i1) (nb : b ≠ i2) (nc : c0 ≠ i3) :
    Turn P w K (.Tuple elts kk tpos) (ItzC b1 b2 b3 K a b c0) [z, TI, TO, i1, i2, i3] z (fun i h => IsZip h z TI TO .none ∧ IsTupOf3 h TI (.ref i1) (.ref i2) (.ref i3) ∧ (∃ x y u, IsTupOf3 h TO x y u) ∧ ItB b1 h i1 a i ∧ ItB b2 h i2 b i ∧ ItB b3 h i3 c0 i) where
  mem := by simp
  obj := fun i h st c hc => by
    obtain ⟨hz, hTI, ⟨x, y, u, hTO⟩, h1, h2, h3⟩ := st
    simp only [List.mem_cons, List.not_mem_nil, or_false] at hc
    rcases hc with rfl | rfl | rfl | rfl | rfl | rfl
    · exact ⟨_, hz, fun v q => nomatch q⟩
    · exact ⟨_, hTI, fun v q => nomatch q⟩
    · exact ⟨_, hTO, fun v q => nomatch q⟩
    · exact itB_obj h1
    · exact itB_obj h2
    · exact itB_obj h3
  keep := fun i h h' st k => by
    obtain ⟨hz, hTI, ⟨x, y, u, hTO⟩, h1, h2, h3⟩ := st
    exact ⟨k z (by simp) _ hz, k TI (by simp) _ hTI, ⟨x, y, u, k TO (by simp) _ hTO⟩, itB_at h1 fun o q => k i1 (by simp) o q, itB_at h2 fun o q => k i2 (by simp) o q, itB_at h3 fun o q => k i3 (by simp) o q⟩
  item := by
    intro X hP hw hK hc i pins s σ H E I hf st hg
    subst hP hw hK
    obtain ⟨hz, hTI, ⟨x0, y0, u0, hTO⟩, h1, h2, h3⟩ := st
    obtain ⟨xs, ys, zs, x, y, zz, hqx, hqy, hqz, hx, hy, hzz⟩ := hg
    obtain ⟨its, rv, p, pl⟩ := sqB_read I hqx
    obtain ⟨its2, rv2, p2, pl2⟩ := sqB_read I hqy
    obtain ⟨its3, rv3, p3, pl3⟩ := sqB_read I hqz
    obtain ⟨u, hu, ru⟩ := rv.get hx
    obtain ⟨u2, hu2, ru2⟩ := rv2.get hy
    obtain ⟨u3, hu3, ru3⟩ := rv3.get hzz
    have hzl : z < s.heap.objs.size := Heap.lt_size hz
    have l1 : i < its.toArray.size := by have := (List.getElem?_eq_some_iff.mp hu).1; simpa using this
    have l2 : i < its2.toArray.size := by have := (List.getElem?_eq_some_iff.mp hu2).1; simpa using this
    have l3 : i < its3.toArray.size := by have := (List.getElem?_eq_some_iff.mp hu3).1; simpa using this
    refine wpAny_pyNext_zipD3_item D (drawsB b1 (A := X.A.in1) (I.ok.hd hc) i1 a na its.toArray) (drawsB b2 (A := X.A.in1) (I.ok.hd hc) i2 b nb its2.toArray) (drawsB b3 (A := X.A.in1) (I.ok.hd hc) i3 c0 nc its3.toArray) hz hTI hTO ⟨h1, p⟩ ⟨h2, p2⟩ ⟨h3, p3⟩ l1 l2 l3 fun x1 x2 x3 h' tk e1 e2 e3 z' TO' st1 st2 st3 hT hsz hk => ?_
    have e1 : u = x1 := by
      have hu' : its.toArray[i]? = some u := by simpa using hu
      rw [hu'] at e1; exact Option.some.inj e1
    have e2 : u2 = x2 := by
      have hu' : its2.toArray[i]? = some u2 := by simpa using hu2
      rw [hu'] at e2; exact Option.some.inj e2
    have e3 : u3 = x3 := by
      have hu' : its3.toArray[i]? = some u3 := by simpa using hu3
      rw [hu'] at e3; exact Option.some.inj e3
    subst e1 e2 e3
    refine ⟨_, rfl, wpAny_letOwnedTupleGo_zip (s := { s with heap := h', toks := tk }) z' fun h'' z'' sb => ?_⟩
    have hT2 : h''.get? s.heap.objs.size = some { cls := .type "tuple", data := .seq #[u, u2, u3] } := (sb.2 _ (Nat.ne_of_gt hzl)).trans hT
    have new : ObjOk X.prog X.w (upd H s.heap.objs.size (.tup [x, y, zz])) h'' s.heap.objs.size (.tup [x, y, zz]) :=
      ⟨by show 3 ≤ sizeLine; decide, [u, u2, u3], .cons ru (.cons ru2 (.cons ru3 .nil)), ⟨_, hT2, rfl, _, rfl⟩⟩
    have I1 : Inv X pins σ (upd H s.heap.objs.size (.tup [x, y, zz])) { s with heap := h'', toks := tk } :=
      I.turnedNew (ch := [z, TI, TO, i1, i2, i3]) (fun c o hb q => (sb.2 c (fun q' => hb (by simp [q']))).trans (hk c o (fun q' => hb (by simp [q'])) (fun q' => hb (by simp [q'])) (fun q' => hb (by simp [q'])) (fun q' => hb (by simp [q'])) (fun q' => hb (by simp [q'])) q)) hf (Nat.le_refl _) new
    refine ⟨.ref s.heap.objs.size, _, I1, rfl, ⟨_, x, y, zz, rfl, I.hok.fresh (Nat.le_refl _), rfl, fun l hl => by rw [sqB_inj I hl hqx]; exact hx, fun l hl => by rw [sqB_inj I hl hqy]; exact hy, fun l hl => by rw [sqB_inj I hl hqz]; exact hzz⟩, ⟨z'', ?_, ⟨u, u2, u3, ?_⟩, ?_, ?_, ?_⟩, fun c hcm => ?_⟩
    · exact (sb.2 _ D.TIz).trans (hk _ _ D.TIz D.TITO D.TIi1 D.TIi2 D.TIi3 hTI)
    · exact (sb.2 _ D.TOz).trans TO'
    · exact itB_at st1.1 fun o q => (sb.2 _ (Ne.symm D.zi1)).trans q
    · exact itB_at st2.1 fun o q => (sb.2 _ (Ne.symm D.zi2)).trans q
    · exact itB_at st3.1 fun o q => (sb.2 _ (Ne.symm D.zi3)).trans q
    · have hlt : c < s.heap.objs.size := by
        simp only [List.mem_cons, List.not_mem_nil, or_false] at hcm
        rcases hcm with rfl | rfl | rfl | rfl | rfl | rfl
        · exact hzl
        · exact Heap.lt_size hTI
        · exact Heap.lt_size hTO
        · obtain ⟨_, e, _⟩ := itB_obj h1; exact Heap.lt_size e
        · obtain ⟨_, e, _⟩ := itB_obj h2; exact Heap.lt_size e
        · obtain ⟨_, e, _⟩ := itB_obj h3; exact Heap.lt_size e
      rw [upd_ne (Nat.ne_of_lt hlt)]
      exact (hf c hcm).1
  done := by
    intro X hP hw hK hc i pins s σ H E I hf st hg
    subst hP hw hK
    obtain ⟨hz, hTI, ⟨x0, y0, u0, hTO⟩, h1, h2, h3⟩ := st
    obtain ⟨xs, ys, zs, hqx, hqy, hqz, m1, m2, m3, hend⟩ := hg
    obtain ⟨its, rv, p, pl⟩ := sqB_read I hqx
    obtain ⟨its2, rv2, p2, pl2⟩ := sqB_read I hqy
    obtain ⟨its3, rv3, p3, pl3⟩ := sqB_read I hqz
    have l1 := rv.length
    have l2 := rv2.length
    have l3 := rv3.length
    exact wpAny_pyNext_zipD3_end D (drawsB b1 (A := X.A.in1) (I.ok.hd hc) i1 a na its.toArray) (drawsB b2 (A := X.A.in1) (I.ok.hd hc) i2 b nb its2.toArray) (drawsB b3 (A := X.A.in1) (I.ok.hd hc) i3 c0 nc its3.toArray) hz hTI hTO ⟨h1, p⟩ ⟨h2, p2⟩ ⟨h3, p3⟩ (by simp; omega) (by simp; omega) (by simp; omega) (by simp; omega) fun h' tk hk => ⟨rfl, by
      obtain ⟨f0, f1, f2, f3, f4, f5⟩ := hf z (by simp)
      exact I.turnedL (t' := tk) (ch := [z, TI, TO, i1, i2, i3]) (fun c o hb q => hk c o (fun q' => hb (by simp [q'])) (fun q' => hb (by simp [q'])) (fun q' => hb (by simp [q'])) (fun q' => hb (by simp [q'])) (fun q' => hb (by simp [q'])) q) hf⟩
  self := fun A i s Q E st h => wpAny_pyIter_zip st.1 h
def iZipC (K : PySem.W.Frag) (ta : TA) : TI := fun σ H R => ta σ H fun vs H1 => ∃ b1 b2 b3 a b c xs ys zs, vs = [.ref a, .ref b, .ref c] ∧ SqB b1 K H1 a xs ∧ SqB b2 K H1 b ys ∧ SqB b3 K H1 c zs ∧ R (ItzC b1 b2 b3 K a b c) H1
theorem pi_zipC {X : Cx} {e e2 e3 : Expr} {ta : TA} {p pos tpos : Pos} {elts : List Expr} {kk : Nat} (hg : Gl X "zip") (hm : X.mg "zip" = none) (ha : PA X [e, e2, e3] ta)
    (hs : starEach [e, e2, e3] X.env = (false, eval e X.env) :: starEach [e2, e3] X.env := by rfl) (hpl : (backTo pos (starEach [e2, e3] X.env)).any (·.1) = false := by rfl) :
    PI X (.Tuple elts kk tpos) (.Call (.Name "zip" p) [e, e2, e3] [] pos) (iZipC X.K ta) := by
  refine ⟨fun pins s σ H R I h => ?_⟩
  refine Call_ (ld_blt I hg hm PyProof.Rows.boot_zip (PyProof.Rows.callWith_type1 (thn (ha.run pos pins s σ H _ I h) fun us s1 ⟨vs, H1, I1, r1, q1⟩ => ?_) hs hpl))
  obtain ⟨b1, b2, b3, a, b, c0, xs, ys, zs, ex, hqx, hqy, hqz, q⟩ := q1
  subst ex
  cases r1 with
  | cons r rr =>
    cases rr with
    | cons r' rr =>
      cases rr with
      | cons r'' rr =>
        cases rr
        cases r
        cases r'
        cases r''
        obtain ⟨its, rv, p1, pl1⟩ := sqB_read I1 hqx
        obtain ⟨its2, rv2, p2, pl2⟩ := sqB_read I1 hqy
        obtain ⟨its3, rv3, p3, pl3⟩ := sqB_read I1 hqz
        refine zip_begins3 (beginsB b1 a its.toArray) (beginsB b2 b its2.toArray) (beginsB b3 c0 its3.toArray) p1 p2 p3 fun h' hz hTI hTO g1 g2 g3 hsz hk => wpAny_pyIter_zip hz ?_
        have I2 : Inv X pins σ H1 { s1 with heap := h' } := I1.kept (t' := s1.toks) hk
        refine ⟨s1.heap.objs.size + 5, [s1.heap.objs.size + 5, s1.heap.objs.size + 3, s1.heap.objs.size + 4, s1.heap.objs.size, s1.heap.objs.size + 1, s1.heap.objs.size + 2], _, _, H1, rfl, I2, turn_zipC (zip_sep3 (N := s1.heap.objs.size) (fp1 := [a]) (fp2 := [b]) (fp3 := [c0]) (fun c hc => by rw [List.mem_singleton.mp hc]; exact pl1) (fun c hc => by rw [List.mem_singleton.mp hc]; exact pl2) (fun c hc => by rw [List.mem_singleton.mp hc]; exact pl3)) (Nat.ne_of_lt pl1) (Nat.ne_of_lt (Nat.lt_succ_of_lt pl2)) (Nat.ne_of_lt (Nat.lt_succ_of_lt (Nat.lt_succ_of_lt pl3))), ⟨hz, hTI, ⟨_, _, _, hTO⟩, itB_new g1, itB_new g2, itB_new g3⟩, fun c hcm => ?_, q⟩
        have hle : s1.heap.objs.size ≤ c := by
          simp only [List.mem_cons, List.not_mem_nil, or_false] at hcm
          rcases hcm with rfl | rfl | rfl | rfl | rfl | rfl
          · exact Nat.le_add_right _ _
          · exact Nat.le_add_right _ _
          · exact Nat.le_add_right _ _
          · exact Nat.le_refl _
          · exact Nat.le_add_right _ _
          · exact Nat.le_add_right _ _
        exact I1.fpOk hle (I1.hok.fresh hle)
/-- a new tuple of three -/
def YTri (xs ys zs : Nat → Option V) : Nat → Hp → V → Hp → Prop := fun i H v H' => ∃ T x y z, v = .ref T ∧ H T = none ∧ H' = upd H T (.tup [x, y, z]) ∧ xs i = some x ∧ ys i = some y ∧ zs i = some z
theorem walk_zipC {K : PySem.W.Frag} {b1 b2 b3 : Bool} {a b c : Addr} {xs ys zs : List V} {n : Nat} (hn : n = min (min xs.length ys.length) zs.length) : Walk (ItzC b1 b2 b3 K a b c) n (fun H => SqB b1 K H a xs ∧ SqB b2 K H b ys ∧ SqB b3 K H c zs) (YTri (fun i => xs[i]?) (fun i => ys[i]?) (fun i => zs[i]?)) := by
  subst hn
  refine ⟨fun i _ hi q => ?_, fun _ q => ⟨xs, ys, zs, q.1, q.2.1, q.2.2, by omega, by omega, by omega, by omega⟩, fun i H v H' _ q y => ?_⟩
  · have h1 : i < xs.length := by omega
    have h2 : i < ys.length := by omega
    have h3 : i < zs.length := by omega
    exact ⟨xs, ys, zs, xs[i], ys[i], zs[i], q.1, q.2.1, q.2.2, by simp [h1], by simp [h2], by simp [h3]⟩
  · obtain ⟨T, x, u, z, h1, h2, h3, h4, h5, h6⟩ := y
    exact ⟨T, x, u, z, h1, h2, h3, h4 xs q.1, h5 ys q.2.1, h6 zs q.2.2⟩
def zip3D : List D → List D → List D → List D
  | d :: ds, e :: es, g :: gs => .tuple [d, e, g] :: zip3D ds es gs
  | _, _, _ => []
theorem zip3D_len : ∀ {ds es gs : List D}, (zip3D ds es gs).length = min (min ds.length es.length) gs.length
  | [], _, _ => by simp [zip3D]
  | _ :: _, [], _ => by simp [zip3D]
  | _ :: _, _ :: _, [] => by simp [zip3D]
  | d :: ds, e :: es, g :: gs => by simp only [zip3D, List.length_cons, zip3D_len (ds := ds) (es := es) (gs := gs)]; omega
theorem zip3D_get : ∀ {ds es gs : List D} {i : Nat} {d : D}, (zip3D ds es gs)[i]? = some d → ∃ a b c, ds[i]? = some a ∧ es[i]? = some b ∧ gs[i]? = some c ∧ d = .tuple [a, b, c]
  | [], _, _, _, _, h => by simp [zip3D] at h
  | _ :: _, [], _, _, _, h => by simp [zip3D] at h
  | _ :: _, _ :: _, [], _, _, h => by simp [zip3D] at h
  | d :: ds, e :: es, g :: gs, 0, z, h => by simp [zip3D] at h; exact ⟨d, e, g, rfl, rfl, rfl, h.symm⟩
  | d :: ds, e :: es, g :: gs, i + 1, z, h => by
    obtain ⟨a, b, c, h1, h2, h3, h4⟩ := zip3D_get (ds := ds) (es := es) (gs := gs) (i := i) (d := z) (by simpa [zip3D] using h)
    exact ⟨a, b, c, by simpa using h1, by simpa using h2, by simpa using h3, h4⟩
/-- .. of lists of the same kind of plain things -/
theorem zip3D_map {α β γ : Type} (f : α → D) (g : β → D) (h : γ → D) : ∀ (xs : List α) (ys : List β) (zs : List γ), zip3D (xs.map f) (ys.map g) (zs.map h) = (xs.zip (ys.zip zs)).map fun p => .tuple [f p.1, g p.2.1, h p.2.2]
  | [], _, _ => by simp [zip3D]
  | _ :: _, [], _ => by simp [zip3D]
  | _ :: _, _ :: _, [] => by simp [zip3D]
  | x :: xs, y :: ys, z :: zs => by simp only [List.map_cons, zip3D, List.zip_cons_cons, zip3D_map f g h xs ys zs]
theorem yl_tri {K : PySem.W.Frag} {G0 : Hp} {f g k : Nat → Option V} {ds es gs : List D} (hf : ∀ (i : Nat) (d : D), ds[i]? = some d → ∃ v, f i = some v ∧ Dp K G0 v d) (hg : ∀ (i : Nat) (d : D), es[i]? = some d → ∃ v, g i = some v ∧ Dp K G0 v d) (hk : ∀ (i : Nat) (d : D), gs[i]? = some d → ∃ v, k i = some v ∧ Dp K G0 v d) :
    ∀ i H x H', i < (zip3D ds es gs).length → Ex G0 H → YTri f g k i H x H' → Ex H H' ∧ ∀ M, Al M H → Ex G0 (hid M H) → ∀ d, (zip3D ds es gs)[i]? = some d → Dp K (hid M H') x d := fun i H x H' _ _ y => by
  obtain ⟨T, u, w, z, e1, e2, e3, e4, e5, e6⟩ := y
  subst e1 e3
  refine ⟨Ex.new e2, fun M al g0 d hd => ?_⟩
  obtain ⟨a, b, c, h1, h2, h3, h4⟩ := zip3D_get hd
  obtain ⟨v1, q1, q2⟩ := hf i a h1
  obtain ⟨v2, q3, q4⟩ := hg i b h2
  obtain ⟨v3, q5, q6⟩ := hk i c h3
  rw [e4] at q1
  rw [e5] at q3
  rw [e6] at q5
  cases q1
  cases q3
  cases q5
  rw [h4]
  have up := hid_ex (M := M) (Ex.new (o := .tup [u, w, z]) e2)
  exact .tup (SqT.of (al.newEx e2)) (.cons ((q2.ex g0).ex up) (.cons ((q4.ex g0).ex up) (.cons ((q6.ex g0).ex up) .nil)))
theorem jw_zipC {X : Cx} {M : List Addr} {a b c : Expr} {σ : L2.St} {H : Hp} {ds es gs : List D} {p pos : Pos} {b1 b2 b3 : Bool} {elts : List Expr} {kk : Nat} {tpos : Pos} (hm : X.mg "zip" = none) (h : Jd X M a σ H (seqD b1 ds)) (h2 : Jd X M b σ H (seqD b2 es)) (h3 : Jd X M c σ H (seqD b3 gs)) (hg : Gl X "zip" := by rfl) (hs : starEach [a, b, c] X.env = (false, eval a X.env) :: starEach [b, c] X.env := by rfl)
    (hs2 : starEach [b, c] X.env = (false, eval b X.env) :: starEach [c] X.env := by rfl) (hs3 : starEach [c] X.env = (false, eval c X.env) :: starEach [] X.env := by rfl) (hpl : (backTo pos (starEach [b, c] X.env)).any (·.1) = false := by rfl) : Jw X M (.Tuple elts kk tpos) (.Call (.Name "zip" p) [a, b, c] [] pos) σ H (zip3D ds es gs) := fun al H1 x R k =>
  leI (pi_zipC hg hm (pa_cons pe_W (pa_cons pe_W (pa_cons pe_W pa_nil hs3) hs2) hs) hs hpl) (h al H1 x _ fun v H2 y q => h2 al H2 (x.trans y) _ fun w H3 z r => h3 al H3 ((x.trans y).trans z) _ fun u H4 z2 r2 => by
    obtain ⟨t, xs, e1, e2, e3⟩ := dSeq q
    obtain ⟨s, ys, f1, f2, f3⟩ := dSeq r
    obtain ⟨o, zs, g1, g2, g3⟩ := dSeq r2
    have e2' := sqB_ex (hid_ex (M := M) (z.trans z2)) e2
    have e3' := e3.ex (hid_ex (M := M) (z.trans z2))
    have f2' := sqB_ex (hid_ex (M := M) z2) f2
    have f3' := f3.ex (hid_ex (M := M) z2)
    exact ⟨b1, b2, b3, t, s, o, xs, ys, zs, by rw [e1, f1, g1], sqB_ex hid_le e2', sqB_ex hid_le f2', sqB_ex hid_le g2, k _ H4 ((y.trans z).trans z2) ⟨_, _, walk_zipC (by rw [zip3D_len, e3.len, f3.len, g3.len]), fun H5 g => ⟨sqB_ex g e2', sqB_ex g f2', sqB_ex g g2⟩, yl_tri (fun i d hd => e3'.get hd) (fun i d hd => f3'.get hd) (fun i d hd => g3.get hd)⟩⟩)
/-- and of four, as a value -/
theorem jd_and4 {X : Cx} {M : List Addr} {σ : L2.St} {H : Hp} {a b c e : Expr} {d : D} {pos : Pos} {k1 k2 k3 : Bool} (ha : Jd X M a σ H (.bool k1)) (hf : k1 = false → d = .bool false) (hb : k1 = true → Jd X M b σ H (.bool k2)) (hf2 : k1 = true → k2 = false → d = .bool false) (hc : k1 = true → k2 = true → Jd X M c σ H (.bool k3)) (hf3 : k1 = true → k2 = true → k3 = false → d = .bool false) (he : k1 = true → k2 = true → k3 = true → Jd X M e σ H d) : Jd X M (.BoolOp .And [a, b, c, e] pos) σ H d := fun al H1 x Q q =>
  leW (pe_and pe_W (pe_and pe_W (pe_and pe_W (pe_one pe_W)))) (ha al H1 x _ fun v H2 y p => ⟨k1, dBl p, by
    cases k1 with
    | false => rw [if_neg Bool.false_ne_true]; rw [hf rfl] at q; exact q _ H2 y (.bl _)
    | true =>
      rw [if_pos rfl]
      exact hb rfl al H2 (x.trans y) _ fun w H3 z r => ⟨k2, dBl r, by
        cases k2 with
        | false => rw [if_neg Bool.false_ne_true]; rw [hf2 rfl rfl] at q; exact q _ H3 (y.trans z) (.bl _)
        | true =>
          rw [if_pos rfl]
          exact hc rfl rfl al H3 ((x.trans y).trans z) _ fun u H4 z2 r2 => ⟨k3, dBl r2, by
            cases k3 with
            | false => rw [if_neg Bool.false_ne_true]; rw [hf3 rfl rfl rfl] at q; exact q _ H4 ((y.trans z).trans z2) (.bl _)
            | true => rw [if_pos rfl]; exact he rfl rfl rfl al H4 (((x.trans y).trans z).trans z2) _ fun v H5 z3 => q v H5 (((y.trans z).trans z2).trans z3)⟩⟩⟩)
end J

set_option maxHeartbeats 4000000
/-! J47: c + a draw; xs + ys of a list that stands and a new one. -/
namespace J
open PySem PySem.Spec PyProof.Rows L2 Evl RZ
section
variable {X : Cx} {B H : Hp} {M M0 : List Addr} {ρ : Ro} {μD μ2 : Mu} {σ : L2.St} {ts : List Sv} {vs : List V} {a l : Addr} {t0 kk : Nat} {e1 e2 : Expr} {p1 p2 p4 pos : Pos} {k1 : Nat} {room i : Int}
/-- c + _law_draw(draws, room) -/
theorem sx_drawC (S : Sx X.K B M0 ρ (μD ++ μ2) σ ts vs H) (Wf : Fd CX0 X.prog X.w X.K X.mg X.base 2 "_law_draw" ["state", "room"] (spM X.K 2 PreD RD noF)) (hr : Room 2 X.A) (hD : Dn a l t0 kk μD) (hcap : t0 + kk + 1 ≤ capT) (ha : ∀ H1, Sy X.K B M0 ρ (μD ++ μ2) σ H1 → Js X (adr M0 (μD ++ μ2)) e1 σ H1 (.val (.ref a))) (hb : ∀ H1, Sy X.K B M0 ρ (μD ++ μ2) σ H1 → Js X (adr M0 (μD ++ μ2)) e2 σ H1 (.dat (.int room))) (h0 : 0 < room) (h1 : room < 2 ^ 64) {Q : VK}
    (k : ∀ v z μ' H', 0 ≤ z → z < room → Dn a l t0 (kk + 1) μ' → Sx X.K B M0 ρ (μ' ++ μ2) σ (ts ++ [.dat (.int (i + z))]) (vs ++ [v]) H' → Q v H') (hg : Gl X "_law_draw" := by rfl) (he : starEach [e1, e2] X.env = (false, eval e1 X.env) :: starEach [e2] X.env := by rfl) (he2 : starEach [e2] X.env = (false, eval e2 X.env) :: starEach [] X.env := by rfl) (hpl : (backTo pos (starEach [e2] X.env)).any (·.1) = false := by rfl) :
    tW X (.BinOp (.Constant (.int i) k1 p1) .Add (.Call (.Name "_law_draw" p2) [e1, e2] [] pos) p4) σ H Q :=
  leW (pe_op op_add pe_W pe_W) (S.ev (Jd.js jd_int) fun v0 H2 S2 => sx_draw S2 Wf hr hD hcap (ha _ S2.base) (hb _ S2.base) h0 h1 (fun v2 z μ' H3 z0 z1 hD2 S3 => by
    have S3a := S3.take (ts := ts ++ [.dat (.int i)]) (vs := vs ++ [v0]) (by have := S.len; simp [this])
    refine ⟨i, z, dInt S3a.lastD, dInt S3.lastD, ?_⟩
    exact k _ z μ' H3 z0 z1 hD2 ((S3a.take (ts := ts) (vs := vs) S.len).push (s := .dat (.int (i + z))) (v := .int (i + z)) (.int _))) hg he he2 hpl)
def rCatQ (K : PySem.W.Frag) : R2 := fun x y H Q => ∃ a b xs ys, x = .ref a ∧ y = .ref b ∧ SqL K H a xs ∧ SqL K H b ys ∧ xs.length + ys.length ≤ sizeLine ∧ ∀ p, H p = none → Q (.ref p) (upd H p (.lst (xs ++ ys)))
theorem op_catQ : OpR X (binaryOp .Add) (rCatQ X.K) := by
  intro pins s σ H x y v u Q I rx ry h
  obtain ⟨a, b, xs, ys, rfl, rfl, h1, h2, hz, q⟩ := h
  cases rx
  cases ry
  obtain ⟨its, r, p, _⟩ := I.list h1
  obtain ⟨its2, r2, p2, _⟩ := I.list h2
  obtain ⟨⟨cls, dd, data, sl⟩, n, ho, hc, hdd, hd⟩ := p
  obtain ⟨⟨cls2, dd2, data2, sl2⟩, n2, ho2, hc2, hdd2, hd2⟩ := p2
  simp only at hc hd hc2 hd2
  subst hc hd hc2 hd2
  have l1 := r.length
  have l2 := r2.length
  refine concat_meets ⟨_, ho, rfl⟩ ⟨_, ho2, rfl⟩ noFill_list_add seq_list_add PySem.F.slot_list_add PySem.F.entry_list_add (PySem.F.args_list_add_2 _ _) (list_addW a b its.toArray its2.toArray n n2 dd dd2 sl sl2 (by simp; omega)) ⟨ho, ho2, ?_⟩
  have ea : its.toArray ++ its2.toArray = (its ++ its2).toArray := by simp
  rw [ea]
  exact ⟨.ref _, _, I.lnew (t' := s.toks) (r.append r2) (by rw [List.length_append]; omega), rfl, q _ I.fresh⟩
/-- xs + ys, lists that stand -/
theorem jn_catL {x y : Expr} {ds es : List D} (ha : Jd X M x σ H (.list ds)) (hb : Jd X M y σ H (.list es)) (hz : ds.length + es.length ≤ 90000) : Jn X M (.BinOp x .Add y pos) σ H (ds ++ es) := fun al H1 x Q q =>
  leW (pe_op op_catQ pe_W pe_W) (ha al H1 x _ fun v H2 y p => hb al H2 (x.trans y) _ fun w H3 z r => by
    obtain ⟨t, xs, rfl, e2, e3⟩ := dLst p
    obtain ⟨u, ys, rfl, f2, f3⟩ := dLst r
    have e2' := ex_l (hid_ex (M := M) z) e2
    have e3' := e3.ex (hid_ex (M := M) z)
    refine ⟨t, u, xs, ys, rfl, rfl, ex_l hid_le e2', ex_l hid_le f2, sz_of (by rw [e3.len, f3.len]; omega), fun p hp => ?_⟩
    have n1 : H1 p = none := by
      cases q1 : H1 p with
      | none => rfl
      | some o => rw [(y.trans z) _ _ q1] at hp; cases hp
    refine q p (xs ++ ys) _ ((y.trans z).trans (Ex.new hp)) n1 upd_same ?_
    rw [hid_new hp]
    exact e3'.append f3)
end
end J

set_option maxHeartbeats 4000000
/-! J48: [elt for tg in iter if c], as a filter and a map; a datum that an expression makes, told without lists. -/
namespace J
open PySem PySem.Spec PyProof.Rows L2 Evl RZ
theorem fmf {α : Type} (p : α → Bool) (h : α → D) (l : List α) : (l.map fun a => if p a = true then some (h a) else none).filterMap id = (l.filter p).map h := by
  induction l with
  | nil => rfl
  | cons a t ih => by_cases hp : p a = true <;> simp [hp, ih]
variable {X : Cx} {B H : Hp} {M0 : List Addr} {ρ : Ro} {μ : Mu} {σ : L2.St} {pos : Pos} {tg iter elt : Expr} {scope : Scope} {own : List (Str × Nat)} {js : List Nat} {α : Type}
/-- [elt for tg in iter if c] -/
theorem sy_lcF (S : Sy X.K B M0 ρ μ σ H) {g : α → D} {xs : List α} {c : Expr} (hw : Jw X (adr M0 μ) tg iter σ H (xs.map g)) (p : α → Bool) (h : α → D) (hz : xs.length ≤ 90000) (f : D → Ro → Ro) (hjs : ∀ j ∈ js, j ∈ own.map (·.2))
    (hg : ∀ X' x, Blk X scope X' → x ∈ xs → Jg X' tg js (g x) (wip ρ (own.map (·.2))) (f (g x) (wip ρ (own.map (·.2)))))
    (ht : ∀ (i : Nat) (x : α) X' B' M' σ' H', xs[i]? = some x → Blk X scope X' → Sy X'.K B' M' (f (g x) (wip ρ (own.map (·.2)))) μ σ' H' → Jt X' (adr M' μ) c σ' H' (p x))
    (he : ∀ (i : Nat) (x : α) X' B' M' σ' H', xs[i]? = some x → p x = true → Blk X scope X' → Sy X'.K B' M' (f (g x) (wip ρ (own.map (·.2)))) μ σ' H' → Jd X' (adr M' μ) elt σ' H' (h x))
    (ok : BlkOk X.N X.env.scope scope own) (hc : X.calm = true) (hN : X.N.Nodup) (hs : ∀ x, foldedSetIterable iter X.env x = pure x := by intro _; rfl) :
    Jn X (adr M0 μ) (.ListComp elt [⟨tg, iter, [c], 0⟩] scope pos) σ H ((xs.filter p).map h) := by
  have z := sy_lcN (ifs := [c]) (elt := elt) (pos := pos) S hw (xs.map fun a => if p a = true then some (h a) else none) (by simp) (by simpa using hz) f hjs (fun X' d b hd => ?_) (fun i d o X' B' M' σ' H' h1 h2 b S' => ?_) (fun i d x X' B' M' σ' H' h1 h2 b S' => ?_) ok hc hN hs
  · rw [fmf] at z; exact z
  · obtain ⟨x, hx, rfl⟩ := List.mem_map.mp hd
    exact hg X' x b hx
  · rw [List.getElem?_map] at h1 h2
    obtain ⟨n, hn, rfl⟩ := Option.map_eq_some_iff.mp h1
    rw [hn] at h2
    cases h2
    refine jts_one (Jt.is (ht i n X' B' M' σ' H' hn b S') ?_)
    show p n = (if p n = true then some (h n) else none).isSome
    cases e : p n <;> simp
  · rw [List.getElem?_map] at h1 h2
    obtain ⟨n, hn, rfl⟩ := Option.map_eq_some_iff.mp h1
    rw [hn] at h2
    by_cases hp : p n = true
    · rw [Option.map_some, if_pos hp] at h2
      cases h2
      exact he i n X' B' M' σ' H' hn hp b S'
    · rw [Option.map_some, if_neg hp] at h2
      cases h2
theorem Js.jd {M : List Addr} {e : Expr} {d : D} (h : Js X M e σ H (.dat d)) : Jd X M e σ H d := fun al H1 x Q q => h al H1 x Q q
end J

set_option maxHeartbeats 4000000
/-! J60: name = [elt for tg in iter if c] on one line. -/
namespace J
open PySem PySem.Spec PyProof.Rows L2 Evl RZ
variable {X : Cx} {B H : Hp} {M0 : List Addr} {ρ : Ro} {μ : Mu} {σ : L2.St} {pos : Pos} {tg iter elt : Expr} {scope : Scope} {own : List (Str × Nat)} {js : List Nat} {α : Type} {rest : List Stmt} {D' : Ends}
theorem sy_setLcF (n : Nat) {y : Str} {py spos : Pos} (S : Sy X.K B M0 ρ μ σ H) {g : α → D} {xs : List α} {c : Expr} (hw : Jw X (adr M0 μ) tg iter σ H (xs.map g)) (p : α → Bool) (h : α → D) (hz : xs.length ≤ 90000) (f : D → Ro → Ro) (hjs : ∀ j ∈ js, j ∈ own.map (·.2))
    (hg : ∀ X' x, Blk X scope X' → x ∈ xs → Jg X' tg js (g x) (wip ρ (own.map (·.2))) (f (g x) (wip ρ (own.map (·.2)))))
    (ht : ∀ (i : Nat) (x : α) X' B' M' σ' H', xs[i]? = some x → Blk X scope X' → Sy X'.K B' M' (f (g x) (wip ρ (own.map (·.2)))) μ σ' H' → Jt X' (adr M' μ) c σ' H' (p x))
    (he : ∀ (i : Nat) (x : α) X' B' M' σ' H', xs[i]? = some x → p x = true → Blk X scope X' → Sy X'.K B' M' (f (g x) (wip ρ (own.map (·.2)))) μ σ' H' → Jd X' (adr M' μ) elt σ' H' (h x))
    (ok : BlkOk X.N X.env.scope scope own) (hc : X.calm = true) (hN : X.N.Nodup) (k : ∀ σ' H', Sy X.K B M0 (ρ.set n (some (.dat (.list ((xs.filter p).map h))))) μ σ' H' → tB X rest D' σ' H')
    (hy : X.N[n]? = some y := by rfl) (hyl : X.env.scope.names.lookup y = some .local := by rfl) (hsw : swapsWith (.ListComp elt [⟨tg, iter, [c], 0⟩] scope pos) (some (.Name y py)) spos.line X.env = pure true := by rfl) (hs : ∀ x, foldedSetIterable iter X.env x = pure x := by intro _; rfl) :
    tB X (.Assign [.Name y py] (.ListComp elt [⟨tg, iter, [c], 0⟩] scope pos) spos :: rest) D' σ H := by
  refine tB_setLc n (lcN_tree (ifs := [c]) (elt := elt) S hw (xs.map fun a => if p a = true then some (h a) else none) (by simp) (by simpa using hz) f hjs (fun X' d b hd => ?_) (fun i d o X' B' M' σ' H' h1 h2 b S' => ?_) (fun i d x X' B' M' σ' H' h1 h2 b S' => ?_) S.all (Ex.refl H) fun a vs H2 x hn h1 h2 => ?_) ok hc hN hy hyl hsw hs
  · obtain ⟨x, hx, rfl⟩ := List.mem_map.mp hd
    exact hg X' x b hx
  · rw [List.getElem?_map] at h1 h2
    obtain ⟨n, hn, rfl⟩ := Option.map_eq_some_iff.mp h1
    rw [hn] at h2
    cases h2
    refine jts_one (Jt.is (ht i n X' B' M' σ' H' hn b S') ?_)
    show p n = (if p n = true then some (h n) else none).isSome
    cases e : p n <;> simp
  · rw [List.getElem?_map] at h1 h2
    obtain ⟨n, hn, rfl⟩ := Option.map_eq_some_iff.mp h1
    rw [hn] at h2
    by_cases hp : p n = true
    · rw [Option.map_some, if_pos hp] at h2
      cases h2
      exact he i n X' B' M' σ' H' hn hp b S'
    · rw [Option.map_some, if_neg hp] at h2
      cases h2
  · rw [fmf] at h2
    have al := S.all
    exact k _ H2 ((S.ex x).set n (s := .dat (.list ((xs.filter p).map h))) (.lst (SqL.of (by rw [hid_out (al.out hn)]; exact h1)) (h2.ex (hid_sub fun b hb => List.mem_cons_of_mem _ hb))))
end J

set_option maxHeartbeats 4000000
/-! J61: o.pop(e), e made with effects. -/
namespace J
open PySem PySem.Spec PyProof.Rows L2 Evl RZ
variable {X : Cx} {B H : Hp} {M0 : List Addr} {ρ : Ro} {μ : Mu} {σ : L2.St} {pos apos : Pos} {o b : Expr} {a : Addr} {i : Nat}
theorem tW_popAtE {xs : List Sv} {Q : VK} (S : Sy X.K B M0 ρ μ σ H) (ho : Jv X o σ H (.ref a)) (hi : μ[i]? = some (a, .lst xs))
    (h : ∀ H1, Sy X.K B M0 ρ μ σ H1 → tW X b σ H1 fun v H2 => ∃ (B2 : Hp) (M2 : List Addr) (ρ2 : Ro) (μ2 : Mu) (i2 : Nat) (xs2 : List Sv) (n : Nat) (s : Sv), v = .int (n : Int) ∧ Sy X.K B2 M2 ρ2 μ2 σ H2 ∧ μ2[i2]? = some (a, .lst xs2) ∧ xs2[n]? = some s ∧ xs2.length ≤ 90000 ∧ ∀ u H3, Sy X.K B2 M2 ρ2 (μ2.set i2 (a, .lst (xs2.eraseIdx n))) σ H3 → s.holds X.K (hid (adr M2 (μ2.set i2 (a, .lst (xs2.eraseIdx n)))) H3) u → Q u H3)
    (hbase : attributeBase o "pop" X.env (eval o X.env) = eval o X.env := by rfl)
    (hfew : ((backTo pos (starEach [b] X.env)).all (fun x => !x.1) && (backToKw pos (keywordEach [] X.env)).all (fun x => x.1.isSome)
      && decide (([b] : List Expr).length + ([] : List Keyword).length + (if ([] : List Keyword).isEmpty then 0 else 1) < 30)) = true := by rfl)
    (hline : (apos.endLine == pos.line) = true := by rfl) (hs : starEach [b] X.env = (false, eval b X.env) :: starEach [] X.env := by rfl) (hplain : (backTo pos (starEach [] X.env)).any (·.1) = false := by rfl) : tW X (.Call (.Attribute o "pop" apos) [b] [] pos) σ H Q :=
  leW (pe_bm PySem.F.plainAttrs_list PySem.F.slot_list_pop PySem.F.type_list_pop mt_popAt pe_W (pa_cons pe_W pa_nil hs) hbase hfew hline hs hplain) (S.evV ho fun H1 S1 x1 => by
    obtain ⟨vs, h1, h2⟩ := S1.own hi
    refine ⟨.inl ⟨rfl, _, .inl (.inl h1)⟩, tW_mono (h H1 S1) ?_⟩
    rintro v H2 ⟨B2, M2, ρ2, μ2, i2, xs2, n, s, rfl, S2, hi2, hn, hl, k⟩
    obtain ⟨ws, g1, g2⟩ := S2.own hi2
    have hlen := paired_len g2
    have hnl := (List.getElem?_eq_some_iff.mp hn).1
    obtain ⟨y, hy, hyh⟩ := paired_get g2 hn
    refine ⟨a, ws, (n : Int), n, y, rfl, rfl, g1, by omega, by omega, ?_, hy, k y _ (S2.upd _ hi2 ⟨_, upd_same, paired_erase n g2⟩) ?_⟩
    · unfold seqIndex?; simp; omega
    · rw [adr_set hi2, hid_upd (Sy.inA hi2)]
      exact hyh)
end J

set_option maxHeartbeats 4000000
namespace K58

open PySem PySem.Spec PyProof.Rows L2 J Evl
variable {P : Program} {w : World} {K : PySem.W.Frag} {mg : Str → Option Value} {base : Heap}
/-! ### words shuffled, parts of words -/
theorem map_er {α β : Type} (f : α → β) : ∀ (l : List α) (j : Nat), (l.eraseIdx j).map f = (l.map f).eraseIdx j
  | [], _ => rfl
  | _ :: _, 0 => rfl
  | x :: l, j + 1 => by
    show f x :: (l.eraseIdx j).map f = f x :: (l.map f).eraseIdx j
    rw [map_er f l j]
theorem er_perm {α : Type} : ∀ {l : List α} {n : Nat} {x : α}, l[n]? = some x → (x :: l.eraseIdx n).Perm l
  | [], _, _, h => by simp at h
  | y :: l, 0, x, h => by
    have : y = x := by simpa using h
    subst this
    exact List.Perm.refl _
  | y :: l, n + 1, x, h => by
    have ih := er_perm (l := l) (n := n) (x := x) (by simpa using h)
    exact (List.Perm.swap _ _ _).trans (ih.cons y)
abbrev oL (a : Addr) (L : List (List Nat)) : Addr × Mo := (a, .lst ((L.map wD).map .dat))
end K58

set_option maxHeartbeats 4000000
namespace K58

open PySem PySem.Spec PyProof.Rows L2 J Evl
variable {P : Program} {w : World} {K : PySem.W.Frag} {mg : Str → Option Value} {base : Heap}
/-! ### strata, trials -/
def isSt : D → Bool
  | .tuple [z, a, b, c, d] => isWd z && ([a, b, c, d].all isCt && (decide (0 < iv a + iv b) && decide (0 < iv c + iv d)))
  | _ => false
theorem isSt_eq (z a b c d : D) : isSt (.tuple [z, a, b, c, d]) = (isWd z && ([a, b, c, d].all isCt && (decide (0 < iv a + iv b) && decide (0 < iv c + iv d)))) := rfl
theorem ne5 {l : List D} (h : ∀ z a b c d, l ≠ [z, a, b, c, d]) : decide ((l.length : Int) = 5) = false := by
  refine decide_eq_false fun e => ?_
  match l, e with
  | [z, a, b, c, d], _ => exact h z a b c d rfl
  | [], e => simp at e
  | [_], e => simp at e
  | [_, _], e => simp at e
  | [_, _, _], e => simp at e
  | [_, _, _, _], e => simp at e
  | _ :: _ :: _ :: _ :: _ :: _ :: _, e => simp at e; omega
theorem fd_is_stratum (T : Tx K mg) : Fd CX0 P w K mg base 3 "is_stratum" ["value"] (spD K 1 fun ds d => ∃ a, ds = [a] ∧ okV a = true ∧ d = .bool (isSt a)) := by
  have Ww := fd_is_word (P := P) (w := w) (base := base) T
  have Wc := fd_is_count (P := P) (w := w) (base := base) T
  obtain ⟨fd, F, hm⟩ := T.f_is_stratum
  refine fd_mk F hm (ok_D F sc_is_stratum rfl fun cdv A outer s H E M vs ds d D' hr hl hR S k _ => ?_) (fun _ _ _ _ _ _ us hl => match us, hl with | [_], _ => rfl)
  obtain ⟨y, rfl, hok, rfl⟩ := hR
  have nd := sc_is_stratum.nd
  by_cases ht : dIsT y = true
  · obtain ⟨ts, rfl⟩ : ∃ ts, y = .tuple ts := by cases y <;> first | (cases ht; done) | exact ⟨_, rfl⟩
    have hok := okV_tup hok
    have S : Sy K H M [some (.dat (.tuple ts)), none] [] _ _ := S
    by_cases h5 : ∃ z a b c d, ts = [z, a, b, c, d]
    · obtain ⟨z, a, b, c, d, rfl⟩ := h5
      refine sy_when (b := !true || (!decide (((([z, a, b, c, d] : List D).length : Nat) : Int) = 5) || !isWd z)) S (jt_or3 (jt_not (jt_val (jd_isi T.n_isinstance T.n_tuple boot_tuple (S.at 0) (kit_tuple (.tuple [z, a, b, c, d]))))) (fun _ => jt_neI (jd_len T.n_len (S.at 0) (.inl rfl)) jd_int) fun _ _ => jt_not (jt_val (jd_call Ww (hr.mono (by decide)) (ja_cons (jd_ixT (n := 0) (S.at 0) jd_int rfl rfl) ja_nil) rfl ⟨z, rfl, hok.2 z (by simp), rfl⟩))) (fun h H1 S1 => ?_) (fun h H1 S1 => ?_)
      · have hx : isWd z = false := by simpa using h
        exact sy_ret S1 (d := .bool (isSt (.tuple [z, a, b, c, d]))) (jd_bl.is (by rw [isSt_eq, hx]; rfl)) fun v H' x _ p => k v H' x p
      have hx : isWd z = true := by simpa using h
      refine sy_when (b := ![a, b, c, d].all isCt) S1 (jt_not (jt_val (Jd.is (jd_all (bs := [a, b, c, d].map isCt) rfl T.n_all (Jd.is (Jn.jd (sy_lcM (α := D) (g := id) (xs := [a, b, c, d]) S1 (by rw [List.map_id]; exact jw_tup (jd_slFrom (n := 1) (S1.at 0) jd_int rfl (by simp))) (fun x => .bool (isCt x)) (by simp) (fun d ρ => ρ.set 1 (some (.dat d))) (js := [1]) (own := [("count", 1)]) (by simp) ?c1 ?c2 (blkOk_by (by rfl)) rfl nd)) (by rw [List.map_map]; rfl))) (by rw [allM])))) (fun q H2 S2 => ?_) (fun q H2 S2 => ?_)
      case c1 =>
        rintro _ d ⟨s, H, C, cl, fp, rfl⟩ _
        exact jg_name 1 nd
      case c2 =>
        rintro j x _ B2 M2 σ2 H2 h1 ⟨s, H, C, cl, fp, rfl⟩ S'
        exact jd_call Wc (hr.mono (by decide)) (ja_cons (S'.at 1) ja_nil) rfl ⟨x, rfl, rfl⟩
      · have q : [a, b, c, d].all isCt = false := by cases e : [a, b, c, d].all isCt with | false => rfl | true => rw [e] at q; cases q
        exact sy_ret S2 (d := .bool (isSt (.tuple [z, a, b, c, d]))) (jd_bl.is (by rw [isSt_eq, hx, q]; rfl)) fun v H' x _ p => k v H' x p
      have q : [a, b, c, d].all isCt = true := by cases e : [a, b, c, d].all isCt with | true => rfl | false => rw [e] at q; cases q
      have qa := List.all_eq_true.mp q
      obtain ⟨ea, -⟩ := isCt_iv (qa a (by simp))
      obtain ⟨eb, -⟩ := isCt_iv (qa b (by simp))
      obtain ⟨ec, -⟩ := isCt_iv (qa c (by simp))
      obtain ⟨ed, -⟩ := isCt_iv (qa d (by simp))
      refine sy_ret S2 (d := .bool (isSt (.tuple [z, a, b, c, d]))) (jd_and (k := decide (0 < iv a + iv b)) (jd_gt (jd_add (jd_ixT (n := 1) (S2.at 0) jd_int rfl (by rw [← ea]; rfl)) (jd_ixT (n := 2) (S2.at 0) jd_int rfl (by rw [← eb]; rfl))) jd_int) (fun e => by rw [isSt_eq, hx, q, e]; rfl) (fun e => Jd.is (jd_gt (jd_add (jd_ixT (n := 3) (S2.at 0) jd_int rfl (by rw [← ec]; rfl)) (jd_ixT (n := 4) (S2.at 0) jd_int rfl (by rw [← ed]; rfl))) jd_int) (by rw [isSt_eq, hx, q, e]; rfl))) fun v H' x _ p => k v H' x p
    · have e : isSt (.tuple ts) = false := by
        unfold isSt
        split
        · rename_i e; injection e with e; exact absurd ⟨_, _, _, _, _, e⟩ h5
        · rfl
      rw [e] at k
      have hne : decide ((ts.length : Int) = 5) = false := ne5 fun z a b c d e => h5 ⟨z, a, b, c, d, e⟩
      refine sy_when (b := !true || (!false || true)) S (jt_or3 (k := !true) (l := !false) (m := true) (jt_not (jt_val (jd_isi T.n_isinstance T.n_tuple boot_tuple (S.at 0) (kit_tuple (.tuple ts))))) (fun _ => ?_) fun _ z => by cases z) (fun h H1 S1 => ?_) (fun h H1 S1 => by cases h)
      · exact Jt.is (jt_neI (jd_len T.n_len (S.at 0) (.inl rfl)) jd_int) (congrArg (! ·) hne)
      exact sy_ret S1 jd_bl fun v H' x _ p => k v H' x p
  · have ht : dIsT y = false := by simpa using ht
    have e : isSt y = false := by cases y <;> first | rfl | cases ht
    rw [e] at k
    refine sy_when (b := !(dIsT y) || (true || true)) S (jt_or3 (jt_not (jt_val (jd_isi T.n_isinstance T.n_tuple boot_tuple (S.at 0) (kit_tuple y)))) (fun z => ?_) fun z _ => ?_) (fun h H1 S1 => sy_ret S1 jd_bl fun v H' x _ p => k v H' x p) (fun h H1 S1 => ?_)
    · rw [ht] at z; cases z
    · rw [ht] at z; cases z
    · rw [ht] at h; cases h
def isTr : D → Bool
  | .tuple [.str z, .tuple l] => decide (z = "trial") && ((decide (1 ≤ (l.length : Int)) && decide ((l.length : Int) ≤ 8)) && (l.all isSt && ascD l))
  | _ => false
theorem isTr_eq (z : Str) (l : List D) : isTr (.tuple [.str z, .tuple l]) = (decide (z = "trial") && ((decide (1 ≤ (l.length : Int)) && decide ((l.length : Int) ≤ 8)) && (l.all isSt && ascD l))) := rfl
theorem eqv_str6 (x z : Str) : PyData.eqv (.str x) (.str z) = decide (x = z) := rfl
theorem isSt_of {d : D} (h : isSt d = true) : ∃ (z : Str) (a b c e : D), d = .tuple [.str z, a, b, c, e] := by
  unfold isSt at h
  split at h
  · rename_i z a b c e
    rw [Bool.and_eq_true] at h
    cases z with
    | str z => exact ⟨z, a, b, c, e, rfl⟩
    | _ => cases h.1
  · cases h
theorem fd_is_trial (T : Tx K mg) : Fd CX0 P w K mg base 4 "is_trial" ["value"] (spD K 1 fun ds d => ∃ a, ds = [a] ∧ okV a = true ∧ d = .bool (isTr a)) := by
  have Ws := fd_is_stratum (P := P) (w := w) (base := base) T
  obtain ⟨fd, F, hm⟩ := T.f_is_trial
  obtain ⟨tm, hmm⟩ := T.c_MOST_STRATA
  refine fd_mk F hm (ok_D F sc_is_trial rfl fun cdv A outer s H E M vs ds d D' hr hl hR S k _ => ?_) (fun _ _ _ _ _ _ us hl => match us, hl with | [_], _ => rfl)
  obtain ⟨a, rfl, hok, rfl⟩ := hR
  have nd := sc_is_trial.nd
  have hu := hr.units
  by_cases ht : ∃ z y, a = .tuple [.str z, y]
  · obtain ⟨z, y, rfl⟩ := ht
    have hok := okV_tup hok
    have hz := okV_str (hok.2 (.str z) (by simp))
    have hy := hok.2 y (by simp)
    refine sy_when S (jt_or4 (jt_not (jt_val (jd_isi T.n_isinstance T.n_tuple boot_tuple (S.at 0) (kit_tuple (.tuple [.str z, y]))))) (fun _ => jt_neI (jd_len T.n_len (S.at 0) (.inl rfl)) jd_int)
      (fun _ _ => jt_not (jt_val (jd_isi T.n_isinstance T.n_str boot_str (jd_ixT (n := 0) (S.at 0) jd_int rfl rfl) (kit_str (.str z))))) (fun _ _ _ => jt_ne hu (jd_ixT (n := 0) (S.at 0) jd_int rfl rfl) jd_str (shS hz.2) (shS (by decide +kernel)))) (fun h H1 S1 => ?_) (fun h H1 S1 => ?_)
    · rw [eqv_str6] at h
      have hn : ¬ z = "trial" := by simpa [dIsT, dIsS] using h
      have e : isTr (.tuple [.str z, y]) = false := by
        cases y <;> first | rfl | (rw [isTr_eq, decide_eq_false hn]; rfl)
      rw [e] at k
      exact sy_ret S1 jd_bl fun v H' x _ p => k v H' x p
    rw [eqv_str6] at h
    have hn : z = "trial" := by simpa [dIsT, dIsS] using h
    by_cases hyt : dIsT y = true
    · obtain ⟨l, rfl⟩ : ∃ ts, y = .tuple ts := by cases y <;> first | (cases hyt; done) | exact ⟨_, rfl⟩
      have hyk := okV_tup hy
      have e0 : isTr (.tuple [.str z, .tuple l]) = ((decide (1 ≤ (l.length : Int)) && decide ((l.length : Int) ≤ 8)) && (l.all isSt && ascD l)) := by rw [isTr_eq, decide_eq_true hn]; rfl
      rw [e0] at k
      refine sy_when S1 (jt_or (jt_not (jt_val (jd_isi T.n_isinstance T.n_tuple boot_tuple (jd_ixT (n := 1) (S1.at 0) jd_int rfl rfl) (kit_tuple (.tuple l))))) (fun _ => jt_not (jt_chain op_le op_le jd_int (jd_len T.n_len (jd_ixT (n := 1) (d := .tuple l) (S1.at 0) jd_int rfl rfl) (.inl rfl)) (jd_glob hmm (v := .int 8) ⟨tm, rfl⟩ (.int 8)) (by with_unfolding_all rfl)))) (fun h H2 S2 => ?_) (fun h H2 S2 => ?_)
      · have h2 : (decide (1 ≤ (l.length : Int)) && decide ((l.length : Int) ≤ 8)) = false := by
          cases q1 : (decide (1 ≤ (l.length : Int)) && decide ((l.length : Int) ≤ 8)) <;> simp_all [dIsT]
        rw [h2] at k
        exact sy_ret S2 jd_bl fun v H' x _ p => k v H' x p
      have h2 : (decide (1 ≤ (l.length : Int)) && decide ((l.length : Int) ≤ 8)) = true := by
        cases q1 : (decide (1 ≤ (l.length : Int)) && decide ((l.length : Int) ≤ 8)) <;> simp_all [dIsT]
      rw [h2] at k
      have hle : 1 ≤ l.length := by simp at h2; omega
      have S2 : Sy K H M [some (.dat (.tuple [.str z, .tuple l])), none, none, none] [] _ H2 := S2
      refine sy_when (b := !l.all isSt) S2 (jt_not (jt_val (Jd.is (jd_all (bs := l.map isSt) rfl T.n_all (Jd.is (Jn.jd (sy_lcM (α := D) (g := id) (xs := l) S2 (by rw [List.map_id]; exact jw_tup (jd_ixT (n := 1) (d := .tuple l) (S2.at 0) jd_int rfl rfl)) (fun x => .bool (isSt x)) (by omega) (fun d ρ => ρ.set 1 (some (.dat d))) (js := [1]) (own := [("row", 1)]) (by simp) ?c1 ?c2 (blkOk_by (by rfl)) rfl nd)) (by rw [List.map_map]; rfl))) (by rw [allM])))) (fun q H3 S3 => ?_) (fun q H3 S3 => ?_)
      case c1 =>
        rintro _ d ⟨s, H, C, cl, fp, rfl⟩ _
        exact jg_name 1 nd
      case c2 =>
        rintro j x _ B2 M2 σ2 H2 h1 ⟨s, H, C, cl, fp, rfl⟩ S'
        exact jd_call Ws (hr.mono (by decide)) (ja_cons (S'.at 1) ja_nil) rfl ⟨x, rfl, hyk.2 x (List.mem_of_getElem? h1), rfl⟩
      · have q : l.all isSt = false := by cases e : l.all isSt with | false => rfl | true => rw [e] at q; cases q
        rw [q] at k
        exact sy_ret S3 jd_bl fun v H' x _ p => k v H' x p
      have q : l.all isSt = true := by cases e : l.all isSt with | true => rfl | false => rw [e] at q; cases q
      rw [q] at k
      have e3 : (true && (true && ascD l)) = (((l.zip l.tail).map fun p => sLt (wd1 p.1) (wd1 p.2)).all id) := by rw [allM]; rfl
      rw [e3] at k
      have hgrp : ∀ x ∈ l, isSt x = true := List.all_eq_true.mp q
      refine sy_ret S3 (jd_all rfl T.n_all ?_) fun v H' x _ p => k v H' x p
      refine Jd.is (Jn.jd (sy_lcM (α := D × D) (xs := l.zip l.tail) (g := fun p => .tuple [p.1, p.2]) S3 ?_ (fun p => .bool (sLt (wd1 p.1) (wd1 p.2))) (by rw [List.length_zip]; omega) (fun d ρ => match d with | .tuple [x, y] => (ρ.set 2 (some (.dat x))).set 3 (some (.dat y)) | _ => ρ) (js := [2, 3]) (own := [("one", 2), ("other", 3)]) (by simp) ?_ ?_ (blkOk_by (by rfl)) rfl nd)) (by rw [List.map_map]; rfl)
      · have e2 : ((l.zip l.tail).map fun p => PyData.tuple [p.1, p.2]) = zipD l (l.drop 1) := by
          have := zipD_map (fun x : D => x) (fun x : D => x) l (l.drop 1)
          rw [List.map_id', List.map_id'] at this
          rw [this, List.drop_one]
        rw [e2]
        exact jw_zipT T.n_zip (jd_ixT (n := 1) (d := .tuple l) (S3.at 0) jd_int rfl rfl) (jd_slFrom (n := 1) (jd_ixT (n := 1) (d := .tuple l) (S3.at 0) jd_int rfl rfl) jd_int rfl hle)
      · rintro _ d ⟨s, H, C, cl, fp, rfl⟩ _
        exact jg_tup rfl (jgs_cons (jg_name 2 nd) (jgs_cons (jg_name 3 nd) jgs_nil))
      · rintro i ⟨x, y⟩ _ B' M' σ' H' h1 ⟨s, H, C, cl, fp, rfl⟩ S'
        have hm := List.of_mem_zip (List.mem_of_getElem? h1)
        obtain ⟨z1, a1, b1, c1, e1, rfl⟩ := isSt_of (hgrp x hm.1)
        obtain ⟨z2, a2, b2, c2, e2, rfl⟩ := isSt_of (hgrp y (List.mem_of_mem_tail hm.2))
        exact jd_ltS (jd_ixT (n := 0) (S'.at 2) jd_int rfl rfl) (jd_ixT (n := 0) (S'.at 3) jd_int rfl rfl)
    · have hyt : dIsT y = false := by simpa using hyt
      have e : isTr (.tuple [.str z, y]) = false := by cases y <;> first | rfl | cases hyt
      rw [e] at k
      refine sy_when (b := !(dIsT y) || true) S1 (jt_or (jt_not (jt_val (jd_isi T.n_isinstance T.n_tuple boot_tuple (jd_ixT (n := 1) (S1.at 0) jd_int rfl rfl) (kit_tuple y)))) (fun z => ?_)) (fun h H2 S2 => ?_) (fun h H2 S2 => ?_)
      · rw [hyt] at z; cases z
      · exact sy_ret S2 jd_bl fun v H' x _ p => k v H' x p
      · rw [hyt] at h; cases h
  · have e : isTr a = false := by
      unfold isTr
      split
      · exact absurd ⟨_, _, rfl⟩ ht
      · rfl
    rw [e] at k
    cases a with
    | tuple ts =>
      have hok := okV_tup hok
      by_cases h2 : ∃ x y, ts = [x, y]
      · obtain ⟨x, y, rfl⟩ := h2
        have hx : dIsS x = false := by
          cases x with
          | str z => exact absurd ⟨z, y, rfl⟩ ht
          | _ => rfl
        refine sy_when S (jt_or4 (m := !(dIsS x)) (n := true) (jt_not (jt_val (jd_isi T.n_isinstance T.n_tuple boot_tuple (S.at 0) (kit_tuple (.tuple [x, y]))))) (fun _ => jt_neI (jd_len T.n_len (S.at 0) (.inl rfl)) jd_int)
          (fun _ _ => jt_not (jt_val (jd_isi T.n_isinstance T.n_str boot_str (jd_ixT (n := 0) (S.at 0) jd_int rfl rfl) (kit_str x)))) (fun _ _ z => ?_)) (fun h H1 S1 => ?_) (fun h H1 S1 => ?_)
        · rw [hx] at z; cases z
        · exact sy_ret S1 jd_bl fun v H' x _ p => k v H' x p
        · rw [hx] at h; simp at h
      · have hne : decide ((ts.length : Int) = 2) = false := ne2 fun a b z => h2 ⟨a, b, z⟩
        refine sy_when (b := !true || (!false || (true || true))) S (jt_or4 (jt_not (jt_val (jd_isi T.n_isinstance T.n_tuple boot_tuple (S.at 0) (kit_tuple (.tuple ts))))) (fun _ => Jt.is (jt_neI (jd_len T.n_len (S.at 0) (.inl rfl)) jd_int) (by rw [hne])) (fun _ z => by cases z) (fun _ z => by cases z)) (fun h H4 S4 => ?_) (fun h H4 S4 => by cases h)
        exact sy_ret S4 jd_bl fun v H' x _ p => k v H' x p
    | _ =>
      refine sy_when (b := !false || (true || (true || true))) S (jt_or4 (jt_not (jt_val (jd_isi T.n_isinstance T.n_tuple boot_tuple (S.at 0) (kit_tuple _)))) (fun z => by cases z) (fun z => by cases z) (fun z => by cases z)) (fun h H4 S4 => ?_) (fun h H4 S4 => by cases h)
      exact sy_ret S4 jd_bl fun v H' x _ p => k v H' x p
theorem fd_need_trial (T : Tx K mg) : Fd (CX P w) P w K mg base 5 "need_trial" ["trial"] (spX K 1 (fun ds d => ∃ a, ds = [a] ∧ okV a = true ∧ isTr a = true ∧ d = .none) fun ds c => ∃ a, ds = [a] ∧ okV a = true ∧ isTr a = false ∧ c = .ref (He.ga K "BadTrial")) := by
  have W := fd_is_trial (P := P) (w := w) (base := base) T
  obtain ⟨fd, F, hm⟩ := T.f_need_trial
  refine fd_mk F hm (ok_X F sc_need_trial rfl fun cdv A outer s H E M vs ds D' hr hl S hR => ?_) (fun _ _ _ _ _ _ us hl => match us, hl with | [_], _ => rfl)
  rcases hR with ⟨d, ⟨a, rfl, h2, h3, rfl⟩, _, kn⟩ | ⟨c, ⟨a, rfl, h2, h3, rfl⟩, kE⟩
  · refine sy_when S (jt_not (jt_val (jd_call W (hr.mono (by decide)) (ja_cons (S.at 0) ja_nil) rfl ⟨a, rfl, h2, rfl⟩))) (fun h H1 S1 => ?_) (fun h H1 S1 => ?_)
    · rw [h3] at h; cases h
    · exact tB_nil (kn rfl _ _ S1.bs)
  · refine sy_when S (jt_not (jt_val (jd_call W (hr.mono (by decide)) (ja_cons (S.at 0) ja_nil) rfl ⟨a, rfl, h2, rfl⟩))) (fun h H1 S1 => ?_) (fun h H1 S1 => ?_)
    · exact tB_raiseV T.x_BadTrial T.g_BadTrial bodyE_tk (kE H1 S1.bs)
    · rw [h3] at h; cases h
end K58

set_option maxHeartbeats 4000000
/-! J62: range with a step. -/
namespace J
open PySem PySem.Spec PyProof.Rows L2 Evl RZ
def rgC (lo c : Int) (n : Nat) : List D := (List.range n).map fun i : Nat => PyData.int (lo + (i : Int) * c)
theorem rgC_len {lo c : Int} {n : Nat} : (rgC lo c n).length = n := by simp [rgC]
theorem rgC_get {lo c : Int} {n i : Nat} {d : D} (h : (rgC lo c n)[i]? = some d) : i < n ∧ d = .int (lo + (i : Int) * c) := by
  unfold rgC at h
  rw [List.getElem?_map] at h
  obtain ⟨j, hj, rfl⟩ := Option.map_eq_some_iff.mp h
  obtain ⟨h1, h2⟩ := List.getElem?_eq_some_iff.mp hj
  rw [List.getElem_range] at h2
  subst h2
  exact ⟨by simpa using h1, rfl⟩
theorem yl_rngC {K : PySem.W.Frag} {G0 : Hp} {lo c : Int} {n : Nat} : Yl K G0 (Itc lo c n) (rgC lo c n) := ⟨_, _, by rw [rgC_len]; exact walk_rangeC, fun _ _ => trivial, fun i H x H' _ _ y => by
  obtain ⟨rfl, e⟩ := y
  refine ⟨Ex.refl _, fun M _ _ d hd => ?_⟩
  obtain ⟨_, e2⟩ := rgC_get hd
  rw [e, e2]
  exact .int _⟩
section
variable {X : Cx} {M : List Addr} {tg a b c : Expr} {σ : L2.St} {H : Hp} {p pos : Pos}
theorem jw_rng3 {lo hi st : Int} {n : Nat} (hm : X.mg "range" = none) (h : Jd X M a σ H (.int lo)) (h2 : Jd X M b σ H (.int hi)) (h3 : Jd X M c σ H (.int st)) (hn : RgC lo hi st n) (hg : Gl X "range" := by rfl)
    (hs : starEach [a, b, c] X.env = (false, eval a X.env) :: starEach [b, c] X.env := by rfl) (hs2 : starEach [b, c] X.env = (false, eval b X.env) :: starEach [c] X.env := by rfl) (hs3 : starEach [c] X.env = (false, eval c X.env) :: starEach [] X.env := by rfl) (hpl : (backTo pos (starEach [b, c] X.env)).any (·.1) = false := by rfl) : Jw X M tg (.Call (.Name "range" p) [a, b, c] [] pos) σ H (rgC lo st n) := fun al H1 x R k =>
  leI (pi_range3 hg hm (pa_cons pe_W (pa_cons pe_W (pa_cons pe_W pa_nil hs3) hs2) hs) hs hpl) (h al H1 x _ fun v H2 y q => h2 al H2 (x.trans y) _ fun w H3 z r => h3 al H3 ((x.trans y).trans z) _ fun u H4 z2 r2 => ⟨lo, hi, st, n, by rw [dInt q, dInt r, dInt r2], hn, k _ H4 ((y.trans z).trans z2) yl_rngC⟩)
end
end J

set_option maxHeartbeats 4000000
namespace K58

open PySem PySem.Spec PyProof.Rows L2 J Evl
variable {P : Program} {w : World} {K : PySem.W.Frag} {mg : Str → Option Value} {base : Heap}
/-! ### strata as data -/
abbrev St := List Nat × Int × Int × Int × Int
abbrev stD (s : St) : D := .tuple [wD s.1, .int s.2.1, .int s.2.2.1, .int s.2.2.2.1, .int s.2.2.2.2]
abbrev ssD (b : Bool) (l : List St) : D := seqD b (l.map stD)
abbrev trD (l : List St) : D := .tuple [.str "trial", .tuple (l.map stD)]
/-- the k-th count, from 1 on -/
def cnt (k : Nat) (s : St) : Int := match k with
  | 1 => s.2.1
  | 2 => s.2.2.1
  | 3 => s.2.2.2.1
  | _ => s.2.2.2.2
theorem cnt_at {k : Nat} (h1 : 1 ≤ k) (h4 : k ≤ 4) (s : St) : ([wD s.1, .int s.2.1, .int s.2.2.1, .int s.2.2.2.1, .int s.2.2.2.2] : List D)[k]? = some (.int (cnt k s)) := by
  match k, h1, h4 with
  | 1, _, _ => rfl
  | 2, _, _ => rfl
  | 3, _, _ => rfl
  | 4, _, _ => rfl
def cS (k : Nat) (l : List St) : Int := (l.map (cnt k)).sum
def cC : Int := 2 ^ 40
def StOk (s : St) : Prop := WdOk s.1 ∧ (∀ k, 0 ≤ cnt k s ∧ cnt k s ≤ cC) ∧ 0 < cnt 1 s + cnt 2 s ∧ 0 < cnt 3 s + cnt 4 s
/-- some strata -/
def SsOk (l : List St) : Prop := l.length ≤ 8 ∧ ∀ s ∈ l, StOk s
theorem cnt_sum6 {f : St → Int} {c : Int} (hc : 0 ≤ c) : ∀ {l : List St}, (∀ x ∈ l, 0 ≤ f x ∧ f x ≤ c) → 0 ≤ (l.map f).sum ∧ (l.map f).sum ≤ c * l.length
  | [], _ => by simp
  | x :: l, h => by
    have ih := cnt_sum6 hc (l := l) fun y hy => h y (List.mem_cons_of_mem _ hy)
    have hx := h x List.mem_cons_self
    simp only [List.map_cons, List.sum_cons, List.length_cons]
    have e : c * ((l.length + 1 : Nat) : Int) = c * l.length + c := by rw [Int.natCast_add, Int.mul_add]; simp
    rw [e]
    omega
theorem cS_bd {l : List St} (h : SsOk l) (k : Nat) : 0 ≤ cS k l ∧ cS k l ≤ cC * 8 := by
  have h1 := cnt_sum6 (f := cnt k) (c := cC) (by decide) (l := l) fun x hx => (h.2 x hx).2.1 k
  have h8 : ((l.length : Nat) : Int) ≤ 8 := by have := h.1; omega
  exact ⟨h1.1, Int.le_trans h1.2 (Int.mul_le_mul_of_nonneg_left h8 (by decide))⟩
theorem cS_pos {l : List St} (h : SsOk l) (hne : l ≠ []) : 0 < cS 1 l + cS 2 l ∧ 0 < cS 3 l + cS 4 l := by
  cases l with
  | nil => exact absurd rfl hne
  | cons s l =>
    have hs := h.2 s List.mem_cons_self
    have hl : SsOk l := ⟨by have := h.1; simp at this; omega, fun x hx => h.2 x (List.mem_cons_of_mem _ hx)⟩
    have e : ∀ k, cS k (s :: l) = cnt k s + cS k l := fun k => rfl
    have b1 := cS_bd hl 1
    have b2 := cS_bd hl 2
    have b3 := cS_bd hl 3
    have b4 := cS_bd hl 4
    rw [e, e, e, e]
    exact ⟨by have := hs.2.2.1; omega, by have := hs.2.2.2; omega⟩
theorem bt6 {n : Int} (h0 : 0 ≤ n) (h1 : n ≤ cC * 8 + cC * 8) : Bt 9000 n := by
  have e : cC = 1099511627776 := by decide
  rw [e] at h1
  have e2 : (2 : Nat) ^ 46 = 70368744177664 := by decide
  have h2 : n.natAbs < 2 ^ 46 := by omega
  exact Nat.lt_of_lt_of_le h2 (Nat.pow_le_pow_right (by decide) (by decide))
theorem dvI (n m : Int) : Rat.divInt n m = (n : Rat) / (m : Rat) := Rat.divInt_eq_div n m
/-- a share of two counts -/
def qS (a b : Int) : Rat := (a : Rat) / ((a + b : Int) : Rat)
def rtS (s : St) : D := .tuple [dR (qS (cnt 1 s) (cnt 2 s)), dR (qS (cnt 3 s) (cnt 4 s))]
def whD (l : List St) : D := .tuple [dR (qS (cS 1 l) (cS 2 l)), dR (qS (cS 3 l) (cS 4 l))]
theorem cC_le : cC ≤ cC * 8 := by decide
theorem fd_rates_in (T : Tx K mg) : Fd CX0 P w K mg base 2 "rates_in" ["strata"] (spD K 1 fun ds d => ∃ (b : Bool) (l : List St), ds = [ssD b l] ∧ SsOk l ∧ d = .tuple (l.map rtS)) := by
  have W := fd_lowest (P := P) (w := w) (base := base) T
  obtain ⟨fd, F, hm⟩ := T.f_rates_in
  refine fd_mk F hm (ok_D F sc_rates_in rfl fun cdv A outer s H E M vs ds d D' hr hl hR S k _ => ?_) (fun _ _ _ _ _ _ us hl => match us, hl with | [_], _ => rfl)
  obtain ⟨b, l, rfl, h, rfl⟩ := hR
  have nd := sc_rates_in.nd
  have h8 := h.1
  refine sy_ret S (jd_tupOf T.n_tuple (Jn.jd (sy_lcM (α := St) (g := stD) (xs := l) S (jw_seq (b := b) (S.at 0)) rtS (by omega) (fun d ρ => ρ.set 1 (some (.dat d))) (js := [1]) (own := [("row", 1)]) (by simp) ?_ ?_ (blkOk_by (by rfl)) rfl nd))) fun v H' x _ p => k v H' x p
  · rintro _ d ⟨s, H, C, cl, fp, rfl⟩ _
    exact jg_name 1 nd
  · rintro j s _ B2 M2 σ2 H2 h1 ⟨s', H, C, cl, fp, rfl⟩ S'
    have hs := h.2 s (List.mem_of_getElem? h1)
    have b1 := hs.2.1 1
    have b2 := hs.2.1 2
    have b3 := hs.2.1 3
    have b4 := hs.2.1 4
    have cc := cC_le
    exact jd_tup (ja_cons (Jd.is (jd_call W (hr.mono (by decide)) (ja_cons (jd_ixT (n := 1) (d := .int (cnt 1 s)) (S'.at 1) jd_int rfl rfl) (ja_cons (jd_add (jd_ixT (n := 1) (d := .int (cnt 1 s)) (S'.at 1) jd_int rfl rfl) (jd_ixT (n := 2) (d := .int (cnt 2 s)) (S'.at 1) jd_int rfl rfl)) ja_nil)) rfl ⟨_, _, rfl, hs.2.2.1, bt6 (by omega) (by omega), rfl⟩) (by rw [dvI]; rfl)) (ja_cons (Jd.is (jd_call W (hr.mono (by decide)) (ja_cons (jd_ixT (n := 3) (d := .int (cnt 3 s)) (S'.at 1) jd_int rfl rfl) (ja_cons (jd_add (jd_ixT (n := 3) (d := .int (cnt 3 s)) (S'.at 1) jd_int rfl rfl) (jd_ixT (n := 4) (d := .int (cnt 4 s)) (S'.at 1) jd_int rfl rfl)) ja_nil)) rfl ⟨_, _, rfl, hs.2.2.2, bt6 (by omega) (by omega), rfl⟩) (by rw [dvI]; rfl)) ja_nil))
theorem fd_law_sr_rates (T : Tx K mg) : Fd CX0 P w K mg base 2 "_law_sr_rates" ["strata"] (spD K 1 fun ds d => ∃ (b : Bool) (l : List St), ds = [ssD b l] ∧ SsOk l ∧ d = .list (l.map rtS)) := by
  have W := fd_law_q (P := P) (w := w) (base := base) T
  obtain ⟨fd, F, hm⟩ := T.f_law_sr_rates
  refine fd_mk F hm (ok_D F sc_law_sr_rates rfl fun cdv A outer s H E M vs ds d D' hr hl hR S k _ => ?_) (fun _ _ _ _ _ _ us hl => match us, hl with | [_], _ => rfl)
  obtain ⟨b, l, rfl, h, rfl⟩ := hR
  have nd := sc_law_sr_rates.nd
  have h8 := h.1
  refine sy_ret S (Jn.jd (sy_lcM (α := St) (g := stD) (xs := l) S (jw_seq (b := b) (S.at 0)) rtS (by omega) (fun d ρ => ρ.set 1 (some (.dat d))) (js := [1]) (own := [("row", 1)]) (by simp) ?_ ?_ (blkOk_by (by rfl)) rfl nd)) fun v H' x _ p => k v H' x p
  · rintro _ d ⟨s, H, C, cl, fp, rfl⟩ _
    exact jg_name 1 nd
  · rintro j s _ B2 M2 σ2 H2 h1 ⟨s', H, C, cl, fp, rfl⟩ S'
    have hs := h.2 s (List.mem_of_getElem? h1)
    have b1 := hs.2.1 1
    have b2 := hs.2.1 2
    have b3 := hs.2.1 3
    have b4 := hs.2.1 4
    have cc := cC_le
    exact jd_tup (ja_cons (Jd.is (jd_call W (hr.mono (by decide)) (ja_cons (jd_ixT (n := 1) (d := .int (cnt 1 s)) (S'.at 1) jd_int rfl rfl) (ja_cons (jd_add (jd_ixT (n := 1) (d := .int (cnt 1 s)) (S'.at 1) jd_int rfl rfl) (jd_ixT (n := 2) (d := .int (cnt 2 s)) (S'.at 1) jd_int rfl rfl)) ja_nil)) rfl ⟨_, _, rfl, hs.2.2.1, bt6 (by omega) (by omega), rfl⟩) (by rw [dvI]; rfl)) (ja_cons (Jd.is (jd_call W (hr.mono (by decide)) (ja_cons (jd_ixT (n := 3) (d := .int (cnt 3 s)) (S'.at 1) jd_int rfl rfl) (ja_cons (jd_add (jd_ixT (n := 3) (d := .int (cnt 3 s)) (S'.at 1) jd_int rfl rfl) (jd_ixT (n := 4) (d := .int (cnt 4 s)) (S'.at 1) jd_int rfl rfl)) ja_nil)) rfl ⟨_, _, rfl, hs.2.2.2, bt6 (by omega) (by omega), rfl⟩) (by rw [dvI]; rfl)) ja_nil))
theorem fd_whole_in (T : Tx K mg) : Fd CX0 P w K mg base 2 "whole_in" ["strata"] (spD K 1 fun ds d => ∃ (b : Bool) (l : List St), ds = [ssD b l] ∧ SsOk l ∧ l ≠ [] ∧ d = whD l) := by
  have W := fd_lowest (P := P) (w := w) (base := base) T
  obtain ⟨fd, F, hm⟩ := T.f_whole_in
  refine fd_mk F hm (ok_D F sc_whole_in rfl fun cdv A outer s H E M vs ds d D' hr hl hR S k _ => ?_) (fun _ _ _ _ _ _ us hl => match us, hl with | [_], _ => rfl)
  obtain ⟨b, l, rfl, h, hne, rfl⟩ := hR
  have nd := sc_whole_in.nd
  have h8 := h.1
  have hp := cS_pos h hne
  have b1 := cS_bd h 1
  have b2 := cS_bd h 2
  have b3 := cS_bd h 3
  have b4 := cS_bd h 4
  have S : Sy K H M [some (.dat (ssD b l)), none, none, none] [] _ _ := S
  refine sy_setLcM 1 (α := Nat) (g := fun k => .int (k : Int)) (xs := [1, 2, 3, 4]) S (jw_rng2 T.n_range jd_int jd_int ⟨⟨by decide, by decide⟩, by decide, by decide⟩) (fun k => .int (cS k l)) (by simp) (fun d ρ => ρ.set 2 (some (.dat d))) (js := [2]) (own := [("at", 2)]) (by simp) ?_ ?_ (blkOk_by (by rfl)) rfl nd fun σ1 H1 S1 => ?_
  · rintro _ d ⟨s, H, C, cl, fp, rfl⟩ _
    exact jg_name 2 nd
  · rintro j kk _ B2 M2 σ2 H2 h1 ⟨s', H, C, cl, fp, rfl⟩ S'
    have hk : 1 ≤ kk ∧ kk ≤ 4 := by
      have := List.mem_of_getElem? h1
      simp only [List.mem_cons, List.not_mem_nil, or_false] at this
      omega
    refine jd_sum (ns := l.map (cnt kk)) rfl T.n_sum (Jd.is (Jn.jd (sy_lcM (α := St) (g := stD) (xs := l) S' (jw_seq (b := b) (S'.at 0)) (fun s => .int (cnt kk s)) (by omega) (fun d ρ => ρ.set 3 (some (.dat d))) (js := [3]) (own := [("row", 3)]) (by simp) ?_ ?_ (blkOk_by (by rfl)) rfl nd)) (by rw [List.map_map]; rfl))
    · rintro _ d ⟨s, H, C, cl, fp, rfl⟩ _
      exact jg_name 3 nd
    · rintro j2 s _ B3 M3 σ3 H3 h2 ⟨s', H, C, cl, fp, rfl⟩ S3
      exact jd_ixT (n := kk) (S3.at 3) (S3.at 2) rfl (cnt_at hk.1 hk.2 s)
  have S1 : Sy K H M [some (.dat (ssD b l)), some (.dat (.list [.int (cS 1 l), .int (cS 2 l), .int (cS 3 l), .int (cS 4 l)])), none, none] [] σ1 H1 := S1
  exact sy_ret S1 (jd_tup (ja_cons (Jd.is (jd_call W (hr.mono (by decide)) (ja_cons (jd_ixL (n := 0) (d := .int (cS 1 l)) (S1.at 1) jd_int rfl rfl) (ja_cons (jd_add (jd_ixL (n := 0) (d := .int (cS 1 l)) (S1.at 1) jd_int rfl rfl) (jd_ixL (n := 1) (d := .int (cS 2 l)) (S1.at 1) jd_int rfl rfl)) ja_nil)) rfl ⟨_, _, rfl, hp.1, bt6 (by omega) (by omega), rfl⟩) (by rw [dvI]; rfl)) (ja_cons (Jd.is (jd_call W (hr.mono (by decide)) (ja_cons (jd_ixL (n := 2) (d := .int (cS 3 l)) (S1.at 1) jd_int rfl rfl) (ja_cons (jd_add (jd_ixL (n := 2) (d := .int (cS 3 l)) (S1.at 1) jd_int rfl rfl) (jd_ixL (n := 3) (d := .int (cS 4 l)) (S1.at 1) jd_int rfl rfl)) ja_nil)) rfl ⟨_, _, rfl, hp.2, bt6 (by omega) (by omega), rfl⟩) (by rw [dvI]; rfl)) ja_nil))) fun v H' x _ p => k v H' x p
theorem fd_law_sr_whole (T : Tx K mg) : Fd CX0 P w K mg base 2 "_law_sr_whole" ["strata"] (spD K 1 fun ds d => ∃ (b : Bool) (l : List St), ds = [ssD b l] ∧ SsOk l ∧ l ≠ [] ∧ d = whD l) := by
  have W := fd_law_q (P := P) (w := w) (base := base) T
  obtain ⟨fd, F, hm⟩ := T.f_law_sr_whole
  refine fd_mk F hm (ok_D F sc_law_sr_whole rfl fun cdv A outer s H E M vs ds d D' hr hl hR S k _ => ?_) (fun _ _ _ _ _ _ us hl => match us, hl with | [_], _ => rfl)
  obtain ⟨b, l, rfl, h, hne, rfl⟩ := hR
  have nd := sc_law_sr_whole.nd
  have h8 := h.1
  have hp := cS_pos h hne
  have b1 := cS_bd h 1
  have b2 := cS_bd h 2
  have b3 := cS_bd h 3
  have b4 := cS_bd h 4
  have S : Sy K H M [some (.dat (ssD b l)), none, none, none] [] _ _ := S
  refine sy_setLcM 1 (α := Nat) (g := fun k => .int (k : Int)) (xs := [1, 2, 3, 4]) S (jw_rng2 T.n_range jd_int jd_int ⟨⟨by decide, by decide⟩, by decide, by decide⟩) (fun k => .int (cS k l)) (by simp) (fun d ρ => ρ.set 2 (some (.dat d))) (js := [2]) (own := [("at", 2)]) (by simp) ?_ ?_ (blkOk_by (by rfl)) rfl nd fun σ1 H1 S1 => ?_
  · rintro _ d ⟨s, H, C, cl, fp, rfl⟩ _
    exact jg_name 2 nd
  · rintro j kk _ B2 M2 σ2 H2 h1 ⟨s', H, C, cl, fp, rfl⟩ S'
    have hk : 1 ≤ kk ∧ kk ≤ 4 := by
      have := List.mem_of_getElem? h1
      simp only [List.mem_cons, List.not_mem_nil, or_false] at this
      omega
    refine jd_sum (ns := l.map (cnt kk)) rfl T.n_sum (Jd.is (Jn.jd (sy_lcM (α := St) (g := stD) (xs := l) S' (jw_seq (b := b) (S'.at 0)) (fun s => .int (cnt kk s)) (by omega) (fun d ρ => ρ.set 3 (some (.dat d))) (js := [3]) (own := [("row", 3)]) (by simp) ?_ ?_ (blkOk_by (by rfl)) rfl nd)) (by rw [List.map_map]; rfl))
    · rintro _ d ⟨s, H, C, cl, fp, rfl⟩ _
      exact jg_name 3 nd
    · rintro j2 s _ B3 M3 σ3 H3 h2 ⟨s', H, C, cl, fp, rfl⟩ S3
      exact jd_ixT (n := kk) (S3.at 3) (S3.at 2) rfl (cnt_at hk.1 hk.2 s)
  have S1 : Sy K H M [some (.dat (ssD b l)), some (.dat (.list [.int (cS 1 l), .int (cS 2 l), .int (cS 3 l), .int (cS 4 l)])), none, none] [] σ1 H1 := S1
  exact sy_ret S1 (jd_tup (ja_cons (Jd.is (jd_call W (hr.mono (by decide)) (ja_cons (jd_ixL (n := 0) (d := .int (cS 1 l)) (S1.at 1) jd_int rfl rfl) (ja_cons (jd_add (jd_ixL (n := 0) (d := .int (cS 1 l)) (S1.at 1) jd_int rfl rfl) (jd_ixL (n := 1) (d := .int (cS 2 l)) (S1.at 1) jd_int rfl rfl)) ja_nil)) rfl ⟨_, _, rfl, hp.1, bt6 (by omega) (by omega), rfl⟩) (by rw [dvI]; rfl)) (ja_cons (Jd.is (jd_call W (hr.mono (by decide)) (ja_cons (jd_ixL (n := 2) (d := .int (cS 3 l)) (S1.at 1) jd_int rfl rfl) (ja_cons (jd_add (jd_ixL (n := 2) (d := .int (cS 3 l)) (S1.at 1) jd_int rfl rfl) (jd_ixL (n := 3) (d := .int (cS 4 l)) (S1.at 1) jd_int rfl rfl)) ja_nil)) rfl ⟨_, _, rfl, hp.2, bt6 (by omega) (by omega), rfl⟩) (by rw [dvI]; rfl)) ja_nil))) fun v H' x _ p => k v H' x p
end K58

set_option maxHeartbeats 4000000
namespace K58

open PySem PySem.Spec PyProof.Rows L2 J Evl
variable {P : Program} {w : World} {K : PySem.W.Frag} {mg : Str → Option Value} {base : Heap}
theorem Jw.is3 {X : Cx} {M : List Addr} {tg iter : Expr} {σ : L2.St} {H : Hp} {ds es : List D} (h : Jw X M tg iter σ H ds) (e : ds = es) : Jw X M tg iter σ H es := e ▸ h
/-! ### shares of strata -/
def nS (k : Nat) (s : St) : Int := cnt k s + cnt (k + 1) s
def nT (k : Nat) (l : List St) : Int := (l.map (nS k)).sum
def shK (k : Nat) (l : List St) : D := .tuple (l.map fun s => dR ((nS k s : Rat) / (nT k l : Rat)))
def shD (l : List St) : D := .tuple [shK 1 l, shK 3 l]
theorem nT_eq (k : Nat) : ∀ l : List St, nT k l = cS k l + cS (k + 1) l
  | [] => rfl
  | s :: l => by
    have ih := nT_eq k l
    show nS k s + nT k l = (cnt k s + cS k l) + (cnt (k + 1) s + cS (k + 1) l)
    rw [ih]; unfold nS; omega
theorem fd_shares_in (T : Tx K mg) : Fd CX0 P w K mg base 2 "shares_in" ["strata"] (spD K 1 fun ds d => ∃ (b : Bool) (l : List St), ds = [ssD b l] ∧ SsOk l ∧ l ≠ [] ∧ d = shD l) := by
  have W := fd_lowest (P := P) (w := w) (base := base) T
  obtain ⟨fd, F, hm⟩ := T.f_shares_in
  refine fd_mk F hm (ok_D F sc_shares_in rfl fun cdv A outer s H E M vs ds d D' hr hl hR S k _ => ?_) (fun _ _ _ _ _ _ us hl => match us, hl with | [_], _ => rfl)
  obtain ⟨b, l, rfl, h, hne, rfl⟩ := hR
  have nd := sc_shares_in.nd
  have h8 := h.1
  have hp := cS_pos h hne
  have S : Sy K H M [some (.dat (ssD b l)), none, none, none, none, none] [] _ _ := S
  refine sy_setE 1 (S.evN (jn_lst ja_nil) fun a H1 S1 => ?_) nd
  have S1 := S1.set 1 (s := .val (.ref a)) (v := .ref a) rfl
  have S1 : Sy K H M [some (.dat (ssD b l)), some (.val (.ref a)), none, none, none, none] [(a, .lst (((([1, 3] : List Nat).take 0).map fun k => shK k l).map .dat))] _ H1 := S1
  refine sy_for S1 (ds := ([1, 3] : List Nat).map fun (k : Nat) => PyData.int (k : Int)) (Jw.is3 (jw_rng3 (n := 2) T.n_range jd_int jd_int jd_int ⟨by decide, by decide, by decide +kernel, by decide +kernel⟩) (by rfl)) (fun d ρ => ρ.set 2 (some (.dat d))) (js := [2]) (fun d ρ' _ => jg_name 2 nd)
    (fun i ρ' μ' => i ≤ 2 ∧ μ' = [(a, .lst (((([1, 3] : List Nat).take i).map fun k => shK k l).map .dat))] ∧ ∃ o2 o3, ρ' = [some (.dat (ssD b l)), some (.val (.ref a)), o2, o3, none, none]) ⟨by omega, rfl, _, _, rfl⟩ ?_ ?_ PassesOwn.never rfl
  · rintro i d ρ' μ' σ' H' B' hd ⟨hi, rfl, o2, o3, rfl⟩ hB S2
    rw [List.getElem?_map] at hd
    obtain ⟨kk, hk, rfl⟩ := Option.map_eq_some_iff.mp hd
    have hil := (List.getElem?_eq_some_iff.mp hk).1
    have hkk : kk = 1 ∨ kk = 3 := by
      have := List.mem_of_getElem? hk
      simpa using this
    have hb : 1 ≤ kk ∧ kk + 1 ≤ 4 := by omega
    have ht : 0 < nT kk l ∧ Bt 9000 (nT kk l) := by
      rw [nT_eq]
      have b1 := cS_bd h kk
      have b2 := cS_bd h (kk + 1)
      refine ⟨?_, bt6 (by omega) (by omega)⟩
      rcases hkk with rfl | rfl
      · exact hp.1
      · exact hp.2
    have S2 : Sy K B' M [some (.dat (ssD b l)), some (.val (.ref a)), some (.dat (.int (kk : Int))), o3, none, none] [(a, .lst (((([1, 3] : List Nat).take i).map fun k => shK k l).map .dat))] σ' H' := S2
    refine sy_set 3 S2 (Jn.jd (sy_lcM (α := St) (g := stD) (xs := l) S2 (jw_seq (b := b) (S2.at 0)) (fun s => .int (nS kk s)) (by omega) (fun d ρ => ρ.set 4 (some (.dat d))) (js := [4]) (own := [("row", 4)]) (by simp) ?_ ?_ (blkOk_by (by rfl)) rfl nd)) (fun σ3 H3 S3 => ?_) nd
    · rintro _ d ⟨s, H, C, cl, fp, rfl⟩ _
      exact jg_name 4 nd
    · rintro j s _ B2 M2 σ2 H2 h1 ⟨s', H, C, cl, fp, rfl⟩ S'
      exact jd_add (jd_ixT (n := kk) (S'.at 4) (S'.at 2) rfl (cnt_at hb.1 (by omega) s)) (jd_ixT (n := kk + 1) (S'.at 4) (jd_add (S'.at 2) jd_int) (by simp) (cnt_at (by omega) hb.2 s))
    have S3 : Sy K B' M [some (.dat (ssD b l)), some (.val (.ref a)), some (.dat (.int (kk : Int))), some (.dat (.list (l.map fun s => .int (nS kk s)))), none, none] [(a, .lst (((([1, 3] : List Nat).take i).map fun k => shK k l).map .dat))] σ3 H3 := S3
    refine sy_app S3 (S3.atV 1) (s := .dat (shK kk l)) (Jd.js (jd_tupOf T.n_tuple (Jn.jd (sy_lcM (α := St) (g := fun s => .int (nS kk s)) (xs := l) S3 (jw_lst (S3.at 3)) (fun s => dR ((nS kk s : Rat) / (nT kk l : Rat))) (by omega) (fun d ρ => ρ.set 5 (some (.dat d))) (js := [5]) (own := [("count", 5)]) (by simp) ?_ ?_ (blkOk_by (by rfl)) rfl nd)))) (i := 0) rfl (by simp; omega) fun H6 S6 => tB_nil ⟨_, _, ⟨by simp at hil; omega, ?_, _, _, rfl⟩, S6⟩
    · rintro _ d ⟨s, H, C, cl, fp, rfl⟩ _
      exact jg_name 5 nd
    · rintro j s _ B2 M2 σ2 H2 h1 ⟨s', H, C, cl, fp, rfl⟩ S'
      exact Jd.is (jd_call W (hr.mono (by decide)) (ja_cons (S'.at 5) (ja_cons (jd_sum (ns := l.map (nS kk)) rfl T.n_sum (Jd.is (S'.at 3) (by rw [List.map_map]; rfl))) ja_nil)) rfl ⟨nS kk s, nT kk l, rfl, ht.1, ht.2, rfl⟩) (by rw [dvI])
    · rw [List.take_add_one, hk, List.map_append, List.map_append]; rfl
  · rintro ρ' μ' σ' H' ⟨hi, rfl, o2, o3, rfl⟩ S2
    have S3 := S2.frz 1 0 (a := a) (ds := [shK 1 l, shK 3 l]) rfl rfl
    have S3 : Sy K H M [some (.dat (ssD b l)), some (.dat (.list [shK 1 l, shK 3 l])), o2, o3, none, none] [] σ' H' := S3
    exact sy_ret S3 (jd_tupOf T.n_tuple (S3.at 1)) fun v H' x _ p => k v H' x p
theorem fd_law_sr_shares (T : Tx K mg) : Fd CX0 P w K mg base 2 "_law_sr_shares" ["strata"] (spD K 1 fun ds d => ∃ (b : Bool) (l : List St), ds = [ssD b l] ∧ SsOk l ∧ l ≠ [] ∧ d = shD l) := by
  have W := fd_law_q (P := P) (w := w) (base := base) T
  obtain ⟨fd, F, hm⟩ := T.f_law_sr_shares
  refine fd_mk F hm (ok_D F sc_law_sr_shares rfl fun cdv A outer s H E M vs ds d D' hr hl hR S k _ => ?_) (fun _ _ _ _ _ _ us hl => match us, hl with | [_], _ => rfl)
  obtain ⟨b, l, rfl, h, hne, rfl⟩ := hR
  have nd := sc_law_sr_shares.nd
  have h8 := h.1
  have hp := cS_pos h hne
  have S : Sy K H M [some (.dat (ssD b l)), none, none, none, none, none] [] _ _ := S
  refine sy_setE 1 (S.evN (jn_lst ja_nil) fun a H1 S1 => ?_) nd
  have S1 := S1.set 1 (s := .val (.ref a)) (v := .ref a) rfl
  have S1 : Sy K H M [some (.dat (ssD b l)), some (.val (.ref a)), none, none, none, none] [(a, .lst (((([1, 3] : List Nat).take 0).map fun k => shK k l).map .dat))] _ H1 := S1
  refine sy_for S1 (ds := ([1, 3] : List Nat).map fun (k : Nat) => PyData.int (k : Int)) (jw_lst (jd_lst (ja_cons jd_int (ja_cons jd_int ja_nil)))) (fun d ρ => ρ.set 2 (some (.dat d))) (js := [2]) (fun d ρ' _ => jg_name 2 nd)
    (fun i ρ' μ' => i ≤ 2 ∧ μ' = [(a, .lst (((([1, 3] : List Nat).take i).map fun k => shK k l).map .dat))] ∧ ∃ o2 o3, ρ' = [some (.dat (ssD b l)), some (.val (.ref a)), o2, o3, none, none]) ⟨by omega, rfl, _, _, rfl⟩ ?_ ?_ PassesOwn.never rfl
  · rintro i d ρ' μ' σ' H' B' hd ⟨hi, rfl, o2, o3, rfl⟩ hB S2
    rw [List.getElem?_map] at hd
    obtain ⟨kk, hk, rfl⟩ := Option.map_eq_some_iff.mp hd
    have hil := (List.getElem?_eq_some_iff.mp hk).1
    have hkk : kk = 1 ∨ kk = 3 := by
      have := List.mem_of_getElem? hk
      simpa using this
    have hb : 1 ≤ kk ∧ kk + 1 ≤ 4 := by omega
    have ht : 0 < nT kk l ∧ Bt 9000 (nT kk l) := by
      rw [nT_eq]
      have b1 := cS_bd h kk
      have b2 := cS_bd h (kk + 1)
      refine ⟨?_, bt6 (by omega) (by omega)⟩
      rcases hkk with rfl | rfl
      · exact hp.1
      · exact hp.2
    have S2 : Sy K B' M [some (.dat (ssD b l)), some (.val (.ref a)), some (.dat (.int (kk : Int))), o3, none, none] [(a, .lst (((([1, 3] : List Nat).take i).map fun k => shK k l).map .dat))] σ' H' := S2
    refine sy_set 3 S2 (Jn.jd (sy_lcM (α := St) (g := stD) (xs := l) S2 (jw_seq (b := b) (S2.at 0)) (fun s => .int (nS kk s)) (by omega) (fun d ρ => ρ.set 4 (some (.dat d))) (js := [4]) (own := [("row", 4)]) (by simp) ?_ ?_ (blkOk_by (by rfl)) rfl nd)) (fun σ3 H3 S3 => ?_) nd
    · rintro _ d ⟨s, H, C, cl, fp, rfl⟩ _
      exact jg_name 4 nd
    · rintro j s _ B2 M2 σ2 H2 h1 ⟨s', H, C, cl, fp, rfl⟩ S'
      exact jd_add (jd_ixT (n := kk) (S'.at 4) (S'.at 2) rfl (cnt_at hb.1 (by omega) s)) (jd_ixT (n := kk + 1) (S'.at 4) (jd_add (S'.at 2) jd_int) (by simp) (cnt_at (by omega) hb.2 s))
    have S3 : Sy K B' M [some (.dat (ssD b l)), some (.val (.ref a)), some (.dat (.int (kk : Int))), some (.dat (.list (l.map fun s => .int (nS kk s)))), none, none] [(a, .lst (((([1, 3] : List Nat).take i).map fun k => shK k l).map .dat))] σ3 H3 := S3
    refine sy_app S3 (S3.atV 1) (s := .dat (shK kk l)) (Jd.js (jd_tupOf T.n_tuple (Jn.jd (sy_lcM (α := St) (g := fun s => .int (nS kk s)) (xs := l) S3 (jw_lst (S3.at 3)) (fun s => dR ((nS kk s : Rat) / (nT kk l : Rat))) (by omega) (fun d ρ => ρ.set 5 (some (.dat d))) (js := [5]) (own := [("count", 5)]) (by simp) ?_ ?_ (blkOk_by (by rfl)) rfl nd)))) (i := 0) rfl (by simp; omega) fun H6 S6 => tB_nil ⟨_, _, ⟨by simp at hil; omega, ?_, _, _, rfl⟩, S6⟩
    · rintro _ d ⟨s, H, C, cl, fp, rfl⟩ _
      exact jg_name 5 nd
    · rintro j s _ B2 M2 σ2 H2 h1 ⟨s', H, C, cl, fp, rfl⟩ S'
      exact Jd.is (jd_call W (hr.mono (by decide)) (ja_cons (S'.at 5) (ja_cons (jd_sum (ns := l.map (nS kk)) rfl T.n_sum (Jd.is (S'.at 3) (by rw [List.map_map]; rfl))) ja_nil)) rfl ⟨nS kk s, nT kk l, rfl, ht.1, ht.2, rfl⟩) (by rw [dvI])
    · rw [List.take_add_one, hk, List.map_append, List.map_append]; rfl
  · rintro ρ' μ' σ' H' ⟨hi, rfl, o2, o3, rfl⟩ S2
    have S3 := S2.frz 1 0 (a := a) (ds := [shK 1 l, shK 3 l]) rfl rfl
    have S3 : Sy K H M [some (.dat (ssD b l)), some (.dat (.list [shK 1 l, shK 3 l])), o2, o3, none, none] [] σ' H' := S3
    exact sy_ret S3 (jd_tupOf T.n_tuple (S3.at 1)) fun v H' x _ p => k v H' x p
end K58

set_option maxHeartbeats 4000000
/-! J49: tests with effects that choose; several names at once of a datum made with effects. -/
namespace J
open PySem PySem.Spec PyProof.Rows L2 Evl RZ
variable {X : Cx} {σ : L2.St} {H : Hp} {a b c : Expr} {pos : Pos}
/-- == of two ints that are made with effects -/
theorem tT_eqI {Q : Bool → Hp → Prop} (h : tW X a σ H fun v H1 => tW X b σ H1 fun w H2 => ∃ i j : Int, v = .int i ∧ w = .int j ∧ Q (decide (i = j)) H2) : tT X (.Compare a [.Eq] [b] pos) σ H Q :=
  leT (pt_cmpR op_eq pe_W pe_W (nm b rfl rfl)) (tW_mono h fun v H1 q => tW_mono q fun w H2 ⟨i, j, e1, e2, q2⟩ => by
    subst e1; subst e2
    exact ⟨rfl, _, rfl, by rw [dec_eqI]; exact q2⟩)
/-- a if t else b, t with effects -/
theorem tW_if {Q : VK} (h : tT X c σ H fun k H1 => if k = true then tW X a σ H1 Q else tW X b σ H1 Q) : tW X (.IfExp c a b pos) σ H Q := leW (pe_ifExp pt_T pe_W pe_W) h
/-- tg = e, e made with effects: a datum that is taken apart -/
theorem sy_asgD {tg : Expr} {js : List Nat} {B : Hp} {M0 : List Addr} {rest : List Stmt} {D' : Ends} {e : Expr} (h : tW X e σ H fun v H1 => ∃ (d : D) (ρ ρ2 : Ro) (μ : Mu), Sy X.K B M0 ρ μ σ H1 ∧ Dp X.K (hid (adr M0 μ) H1) v d ∧ Jg X tg js d ρ ρ2 ∧ ∀ σ2, Sy X.K B M0 ρ2 μ σ2 H1 → tB X rest D' σ2 H1)
    (hs : swapsWithSole [tg] e pos.line X.env = pure false := by rfl) (hw : swappedStores [tg] e X.env = pure none := by rfl) (h1 : (assignEach [tg] X.env).map (·.2) = [assign tg X.env] := by rfl) : tB X (.Assign [tg] e pos :: rest) D' σ H :=
  sy_asgE (tW_mono h fun v H1 ⟨d, ρ, ρ2, μ, S, p, g, k⟩ => g B M0 μ σ H1 v S p _ fun σ2 S2 _ _ => k σ2 S2) hs hw h1
end J

set_option maxHeartbeats 4000000
namespace K58

open PySem PySem.Spec PyProof.Rows L2 J Evl
variable {P : Program} {w : World} {K : PySem.W.Frag} {mg : Str → Option Value} {base : Heap}
/-! ### drawn trials -/
/-- trials -/
def TrOk (l : List St) : Prop := 1 ≤ l.length ∧ AscW (l.map (·.1)) ∧ SsOk l
/-- small counts, so that eight of them together are still counts of a trial -/
def Sm1 (s : St) : Prop := ∀ k, cnt k s ≤ 360
abbrev oS (a : Addr) (l : List St) : Addr × Mo := (a, .lst ((l.map stD).map .dat))
theorem cC_40 : (40 : Int) ≤ cC := by decide
theorem fd_law_sr_trial (T : Tx K mg) : Fd CX0 P w K mg base 5 "_law_sr_trial" ["draws", "many", "size"] (spM K 3 (fun ss μ => ∃ (a l : Addr) (many size : Int), ss = [.val (.ref a), .dat (.int many), .dat (.int size)] ∧ 1 ≤ many ∧ many ≤ 8 ∧ 1 ≤ size ∧ size ≤ 40 ∧ Rdy a l (cW + 80) μ) (fun ss μ v μ' => ∃ ts : List St, (TrOk ts ∧ ∀ s ∈ ts, Sm1 s) ∧ v = .dat (trD ts) ∧ Adv (cW + 80) μ μ') noF) := by
  have Wd := fd_law_draw (P := P) (w := w) (base := base) T
  have Wp := fd_law_pick (P := P) (w := w) (base := base) T
  have Ww := fd_law_words (P := P) (w := w) (base := base) T
  obtain ⟨fd, F, hm⟩ := T.f_law_sr_trial
  refine fd_mk F hm (ok_M F sc_law_sr_trial rfl fun cdv A outer s H E B M0 vs ss μ D' hr hl hP S k kn => ?_) (fun _ _ _ _ _ _ us hl => match us, hl with | [_, _, _], _ => rfl)
  obtain ⟨a, l, many, size, rfl, m1, m8, s1, s40, hrdy⟩ := hP
  obtain ⟨t0, hcap, hD, adv⟩ := hrdy.dn
  have nd := sc_law_sr_trial.nd
  have S : Sy K B M0 [some (.val (.ref a)), some (.dat (.int many)), some (.dat (.int size)), none, none, none, none, none] μ _ _ := S
  refine sy_setE 3 (sx_words (ts := []) (vs := []) (μD := μ) (μ2 := []) (by rw [List.append_nil]; exact S.sx) Ww Wd (hr.mono (by decide)) hD (by omega) (by rw [List.append_nil]; exact (S.atV 0).js) (fun H2 S2 => (S2.atV 0).js) (fun H2 S2 => (S2.at 1).js) (by omega) (by omega) fun v ws μ1 H1 w1 w2 wk wa hD1 S1 => ?_) nd
  rw [List.append_nil] at S1
  have S2 := S1.base.set 3 (s := .dat (.list (ws.map wD))) (v := v) S1.lastD
  have S2 : Sy K B M0 [some (.val (.ref a)), some (.dat (.int many)), some (.dat (.int size)), some (.dat (.list (ws.map wD))), none, none, none, none] μ1 _ H1 := S2
  refine sy_setE 4 (S2.evN (jn_lst ja_nil) fun c H3 S3 => ?_) nd
  have S3 := (S3.set 4 (s := .val (.ref c)) (v := .ref c) rfl).perm (List.perm_append_comm (l₁ := μ1) (l₂ := [_]))
  have S3 : Sy K B M0 [some (.val (.ref a)), some (.dat (.int many)), some (.dat (.int size)), some (.dat (.list (ws.map wD))), some (.val (.ref c)), none, none, none] (μ1 ++ [oS c []]) _ H3 := S3
  have hix : ∀ {μx : Mu} {ts : List St}, (μx ++ [oS c ts])[μx.length]? = some (oS c ts) := by simp
  refine sy_for S3 (jw_lst (S3.at 3)) (fun d ρ => ρ.set 5 (some (.dat d))) (js := [5]) (fun d ρ' _ => jg_name 5 nd)
    (fun i ρ' μ' => ∃ (ts : List St) (μD : Mu), ts.map (fun s => wD s.1) = (ws.map wD).take i ∧ i ≤ 8 ∧ (∀ s ∈ ts, StOk s ∧ Sm1 s) ∧ Dn a l t0 (cW + 1 + i * 8) μD ∧ μ' = μD ++ [oS c ts] ∧ ∃ o5 o6 o7, ρ' = [some (.val (.ref a)), some (.dat (.int many)), some (.dat (.int size)), some (.dat (.list (ws.map wD))), some (.val (.ref c)), o5, o6, o7]) ⟨[], μ1, rfl, by omega, (fun _ h => nomatch h), hD1.mono (by omega), rfl, _, _, _, rfl⟩ ?_ ?_ PassesOwn.never rfl
  · rintro i d ρ' μ' σ' H' B' hd ⟨ts, μD, e1, i8, tk, hDi, rfl, o5, o6, o7, rfl⟩ hB S4
    have hdt := hd
    rw [List.getElem?_map] at hd
    obtain ⟨x, hx, rfl⟩ := Option.map_eq_some_iff.mp hd
    have hi : i < 8 := by have := (List.getElem?_eq_some_iff.mp hx).1; omega
    have htl : ts.length ≤ i := by
      have := congrArg List.length e1
      rw [List.length_map, List.length_take] at this; omega
    have S4 : Sy K B' M0 [some (.val (.ref a)), some (.dat (.int many)), some (.dat (.int size)), some (.dat (.list (ws.map wD))), some (.val (.ref c)), some (.dat (wD x)), o6, o7] (μD ++ [oS c ts]) σ' H' := S4
    refine tB_setLc 6 (own := [("lap", 7)]) (lcE_tree S4 (ds := rgD 0 4) (js := [7]) (jw_rng1 (n := 4) T.n_range jd_int ⟨by decide, by decide⟩) (fun d ρ => ρ.set 7 (some (.dat d))) (by simp)
      (fun j acc μ' => ∃ (ns : List Int) (μd : Mu), acc = ns.map PyData.int ∧ ns.length = j ∧ j ≤ 4 ∧ (∀ n ∈ ns, 0 ≤ n ∧ n ≤ 40) ∧ Dn a l t0 (cW + 1 + i * 8 + j * 2) μd ∧ μ' = μd ++ [oS c ts]) ⟨[], μD, rfl, rfl, by omega, (fun _ h => nomatch h), hDi, rfl⟩ ?_ ?_ ?_ ?_) (blkOk_by (by rfl)) rfl nd
    · rintro j acc μ' ⟨ns, μd, rfl, q2, q3, _⟩
      rw [List.length_map]; omega
    · rintro _ d ⟨s, H, C, cl, fp, rfl⟩ _
      exact jg_name 7 nd
    · rintro j d acc μ' _ B2 M2 σ2 H2 Q hd2 ⟨ns, μd, rfl, q2, q3, q4, hDj, rfl⟩ ⟨s, H, C, cl, fp, rfl⟩ S5 hQ
      have hj : j < 4 := (rgD_get hd2).1
      refine jm_callE Wd (hr.mono (by decide)) (tA_cons (S5.sx.ev (S5.atV 0).js fun v1 H6 S6 => tA_cons ?_))
      refine sx_pick (ts := [] ++ [.val (.ref a)]) (vs := [] ++ [v1]) (μD := μd) (μ2 := [oS c ts]) (xs := [.int 3, .int size, .int size]) S6 Wp (by exact hr.mono (by decide)) hDj (by omega) (S6.base.atV 0).js (Jd.js (jd_lst (ja_cons jd_int (ja_cons (S6.base.at 2) (ja_cons (S6.base.at 2) ja_nil))))) (by simp) (by simp) fun v2 y μ7 H7 hy hD7 S7 => tA_nil ?_
      obtain ⟨room, rfl, r1, r40⟩ : ∃ room : Int, y = .int room ∧ 1 ≤ room ∧ room ≤ 40 := by
        simp only [List.mem_cons, List.not_mem_nil, or_false] at hy
        rcases hy with rfl | rfl | rfl
        · exact ⟨3, rfl, by decide, by decide⟩
        · exact ⟨size, rfl, s1, s40⟩
        · exact ⟨size, rfl, s1, s40⟩
      refine Sx.callE (ts := []) (vs := []) (μ1 := μ7) (μ2 := [oS c ts]) (ss := [.val (.ref a), .dat (.int room)]) S7 rfl rfl (preD hD7 (by omega) (by omega) (by omega)) fun v8 s8 μ8 H8 hR8 S8 => ?_
      obtain ⟨z, rfl, z0, z1, hD8⟩ := rD hD7 (by omega) hR8
      refine hQ v8 (.int z) _ H8 ⟨ns ++ [z], μ8, by rw [List.map_append]; rfl, by simp; omega, by omega, fun n hn => ?_, hD8.mono (by omega), rfl⟩ S8.base S8.lastD
      rcases List.mem_append.mp hn with q | q
      · exact q4 n q
      · rw [List.mem_singleton.mp q]; omega
    · rintro p acc μ' H5 ⟨ns, μd, rfl, q2, q3, q4, hDj, rfl⟩ S5
      have q2 : ns.length = 4 := q2
      obtain ⟨c1, c2, c3, c4, rfl⟩ : ∃ c1 c2 c3 c4, ns = [c1, c2, c3, c4] := match ns, q2 with | [c1, c2, c3, c4], _ => ⟨c1, c2, c3, c4, rfl⟩
      have k1 := q4 c1 (by simp)
      have k2 := q4 c2 (by simp)
      have k3 := q4 c3 (by simp)
      have k4 := q4 c4 (by simp)
      have hDj : Dn a l t0 (cW + 1 + i * 8 + 8) μd := hDj
      have S6 := (S5.set 6 (s := .val (.ref p)) (v := .ref p) rfl).frz 6 0 (a := p) (ds := [.int c1, .int c2, .int c3, .int c4]) rfl rfl
      have S6 : Sy K B' M0 [some (.val (.ref a)), some (.dat (.int many)), some (.dat (.int size)), some (.dat (.list (ws.map wD))), some (.val (.ref c)), some (.dat (wD x)), some (.dat (.list [.int c1, .int c2, .int c3, .int c4])), o7] (μd ++ [oS c ts]) _ H5 := S6
      obtain ⟨b1, hb1⟩ : ∃ b1, b1 = if c1 + c2 = 0 then 1 else c1 := ⟨_, rfl⟩
      obtain ⟨b4, hb4⟩ : ∃ b4, b4 = if c3 + c4 = 0 then 1 else c4 := ⟨_, rfl⟩
      refine sy_set 6 S6 (d := .list [.int b1, .int c2, .int c3, .int c4]) (jd_if (k := decide (c1 + c2 = 0)) (jt_eqI (jd_add (jd_ixL (n := 0) (d := .int c1) (S6.at 6) jd_int rfl rfl) (jd_ixL (n := 1) (d := .int c2) (S6.at 6) jd_int rfl rfl)) jd_int) (fun h => Jd.is (Jn.jd (jn_catL (ds := [.int 1]) (es := [.int c2, .int c3, .int c4]) (jd_lst (ja_cons jd_int ja_nil)) (Jd.is (jd_slLFrom (n := 1) (S6.at 6) jd_int rfl (by simp)) rfl) (by simp))) (by rw [hb1, if_pos (of_decide_eq_true h)]; rfl)) (fun h => Jd.is (S6.at 6) (by rw [hb1, if_neg (of_decide_eq_false h)]))) (fun σ7 H7 S7 => ?_) nd
      have S7 : Sy K B' M0 [some (.val (.ref a)), some (.dat (.int many)), some (.dat (.int size)), some (.dat (.list (ws.map wD))), some (.val (.ref c)), some (.dat (wD x)), some (.dat (.list [.int b1, .int c2, .int c3, .int c4])), o7] (μd ++ [oS c ts]) σ7 H7 := S7
      refine sy_app S7 (S7.atV 4) (s := .dat (stD (x, b1, c2, c3, b4))) (Jd.js (Jd.is (jd_cat (ds := [wD x]) (es := [.int b1, .int c2, .int c3, .int b4]) (jd_tup (ja_cons (S7.at 5) ja_nil)) (jd_tupOf T.n_tuple (jd_if (k := decide (c3 + c4 = 0)) (jt_eqI (jd_add (jd_ixL (n := 2) (d := .int c3) (S7.at 6) jd_int rfl rfl) (jd_ixL (n := 3) (d := .int c4) (S7.at 6) jd_int rfl rfl)) jd_int) (fun h => Jd.is (Jn.jd (jn_catL (ds := [.int b1, .int c2, .int c3]) (es := [.int 1]) (Jd.is (jd_slLTo (n := 3) (S7.at 6) jd_int rfl) rfl) (jd_lst (ja_cons jd_int ja_nil)) (by simp))) (by rw [hb4, if_pos (of_decide_eq_true h)]; rfl)) (fun h => Jd.is (S7.at 6) (by rw [hb4, if_neg (of_decide_eq_false h)])))) (by simp)) rfl)) hix (by rw [List.length_map, List.length_map]; omega) fun H8 S8 => tB_nil ⟨_, _, ⟨ts ++ [(x, b1, c2, c3, b4)], μd, ?_, by omega, ?_, hDj.mono (by omega), ?_, _, _, _, rfl⟩, S8⟩
      · rw [List.map_append, e1, List.take_add_one, hdt]; rfl
      · intro s hs
        rcases List.mem_append.mp hs with q | q
        · exact tk s q
        · rw [List.mem_singleton.mp q]
          have hc := cC_40
          have hb1' : 0 ≤ b1 ∧ b1 ≤ 40 ∧ 0 < b1 + c2 := by rw [hb1]; split <;> omega
          have hb4' : 0 ≤ b4 ∧ b4 ≤ 40 ∧ 0 < c3 + b4 := by rw [hb4]; split <;> omega
          refine ⟨⟨wk x (List.mem_of_getElem? hx), fun k => ?_, hb1'.2.2, hb4'.2.2⟩, fun k => ?_⟩
          · match k with
            | 1 => show 0 ≤ b1 ∧ b1 ≤ cC; omega
            | 2 => show 0 ≤ c2 ∧ c2 ≤ cC; omega
            | 3 => show 0 ≤ c3 ∧ c3 ≤ cC; omega
            | 0 => show 0 ≤ b4 ∧ b4 ≤ cC; omega
            | _ + 4 => show 0 ≤ b4 ∧ b4 ≤ cC; omega
          · match k with
            | 1 => show b1 ≤ 360; omega
            | 2 => show c2 ≤ 360; omega
            | 3 => show c3 ≤ 360; omega
            | 0 => show b4 ≤ 360; omega
            | _ + 4 => show b4 ≤ 360; omega
      · have : ((ts.map stD).map Sv.dat) ++ [.dat (stD (x, b1, c2, c3, b4))] = ((ts ++ [(x, b1, c2, c3, b4)]).map stD).map Sv.dat := by rw [List.map_append, List.map_append]; rfl
        rw [this]; simp
  · rintro ρ' μ' σ' H' ⟨ts, μD, e1, i8, tk, hDi, rfl, o5, o6, o7, rfl⟩ S4
    rw [List.length_map] at hDi i8
    rw [List.length_map, ← List.length_map (f := wD), List.take_length] at e1
    have ew : ts.map (·.1) = ws := by
      have inj : ∀ a b : List Nat, wD a = wD b → a = b := fun a b h => by
        simp only [PyData.str.injEq] at h
        exact wS_inj h
      have : (ts.map (·.1)).map wD = ws.map wD := by rw [List.map_map]; exact e1
      exact (List.map_inj_right inj).mp this
    have htl : ts.length = ws.length := by rw [← ew, List.length_map]
    have S5 := S4.frz 4 μD.length (a := c) (ds := ts.map stD) rfl hix
    have he : (μD ++ [oS c ts]).eraseIdx μD.length = μD := by rw [List.eraseIdx_append_of_length_le (by omega)]; simp
    rw [he] at S5
    have S5 : Sy K B M0 [some (.val (.ref a)), some (.dat (.int many)), some (.dat (.int size)), some (.dat (.list (ws.map wD))), some (.dat (.list (ts.map stD))), o5, o6, o7] μD σ' H' := S5
    exact sy_retE (S5.ev (jd_tup (ja_cons jd_str (ja_cons (jd_tupOf T.n_tuple (S5.at 4)) ja_nil))) fun v H6 S6 x p => k v (.dat (trD ts)) μD H6 ⟨ts, ⟨⟨by omega, by rw [ew]; exact wa, by omega, fun s hs => (tk s hs).1⟩, fun s hs => (tk s hs).2⟩, rfl, adv _ _ (hDi.mono (by omega))⟩ (S6.one p))
end K58

set_option maxHeartbeats 4000000
namespace K58

open PySem PySem.Spec PyProof.Rows L2 J Evl
variable {P : Program} {w : World} {K : PySem.W.Frag} {mg : Str → Option Value} {base : Heap}
/-- all strata tell one thing -/
def Told (l : List St) : Prop := (∀ s ∈ l, cnt 3 s * (cnt 1 s + cnt 2 s) < cnt 1 s * (cnt 3 s + cnt 4 s)) ∨ (∀ s ∈ l, cnt 1 s * (cnt 3 s + cnt 4 s) < cnt 3 s * (cnt 1 s + cnt 2 s))
def mkT (z : Bool) (x : List Nat) (a b c d : Int) : St := if z then (x, a, b, c, d) else (x, c, d, a, b)
theorem pick4 {y : D} (h : y ∈ ([.int 1, .int 2, .int 10, .int 30] : List D)) : ∃ z : Int, y = .int z ∧ 1 ≤ z ∧ z ≤ 30 := by
  simp only [List.mem_cons, List.not_mem_nil, or_false] at h
  rcases h with rfl | rfl | rfl | rfl <;> exact ⟨_, rfl, by decide, by decide⟩
theorem fd_law_sr_told (T : Tx K mg) : Fd CX0 P w K mg base 5 "_law_sr_told" ["draws", "many"] (spM K 2 (fun ss μ => ∃ (a l : Addr) (many : Int), ss = [.val (.ref a), .dat (.int many)] ∧ 1 ≤ many ∧ many ≤ 8 ∧ Rdy a l (cW + 50) μ) (fun ss μ v μ' => ∃ ts : List St, (TrOk ts ∧ ∀ s ∈ ts, Sm1 s) ∧ Told ts ∧ v = .dat (trD ts) ∧ Adv (cW + 50) μ μ') noF) := by
  have Wd := fd_law_draw (P := P) (w := w) (base := base) T
  have Wp := fd_law_pick (P := P) (w := w) (base := base) T
  have Ww := fd_law_words (P := P) (w := w) (base := base) T
  obtain ⟨fd, F, hm⟩ := T.f_law_sr_told
  refine fd_mk F hm (ok_M F sc_law_sr_told rfl fun cdv A outer s H E B M0 vs ss μ D' hr hl hP S k kn => ?_) (fun _ _ _ _ _ _ us hl => match us, hl with | [_, _], _ => rfl)
  obtain ⟨a, l, many, rfl, m1, m8, hrdy⟩ := hP
  obtain ⟨t0, hcap, hD, adv⟩ := hrdy.dn
  have nd := sc_law_sr_told.nd
  have S : Sy K B M0 [some (.val (.ref a)), some (.dat (.int many)), none, none, none, none, none, none, none, none, none] μ _ _ := S
  refine sy_setE 2 (sx_words (ts := []) (vs := []) (μD := μ) (μ2 := []) (by rw [List.append_nil]; exact S.sx) Ww Wd (hr.mono (by decide)) hD (by omega) (by rw [List.append_nil]; exact (S.atV 0).js) (fun H2 S2 => (S2.atV 0).js) (fun H2 S2 => (S2.at 1).js) (by omega) (by omega) fun v ws μ1 H1 w1 w2 wk wa hD1 S1 => ?_) nd
  rw [List.append_nil] at S1
  have S2 := S1.base.set 2 (s := .dat (.list (ws.map wD))) (v := v) S1.lastD
  have S2 : Sy K B M0 [some (.val (.ref a)), some (.dat (.int many)), some (.dat (.list (ws.map wD))), none, none, none, none, none, none, none, none] μ1 _ H1 := S2
  refine sy_parE 4 5 (tA_cc (sx_draw0 S2.sx Wd (hr.mono (by decide)) hD1 (by omega) (S2.atV 0).js (Jd.js jd_int) (by decide) (by decide) fun v1 sd μ2 H3 d0 d1 hD2 S3 => tA_cc (S3.evN (jn_lst ja_nil) fun c H4 S4 => tA_nil ⟨v1, .ref c, rfl, ?_⟩))) rfl nd (by decide) (by kernel_rfl)
  have p1 := (S4.take (ts := [] ++ [.dat (.int sd)]) (vs := [] ++ [v1]) rfl).lastD
  have S5 := ((S4.base.set 4 (s := .dat (.int sd)) (v := v1) p1).set 5 (s := .val (.ref c)) (v := .ref c) rfl).perm (List.perm_append_comm (l₁ := μ2) (l₂ := [_]))
  have S5 : Sy K B M0 [some (.val (.ref a)), some (.dat (.int many)), some (.dat (.list (ws.map wD))), none, some (.dat (.int sd)), some (.val (.ref c)), none, none, none, none, none] (μ2 ++ [oS c []]) _ H4 := S5
  have hix : ∀ {μx : Mu} {ts : List St}, (μx ++ [oS c ts])[μx.length]? = some (oS c ts) := by simp
  refine sy_for S5 (jw_lst (S5.at 2)) (fun d ρ => ρ.set 3 (some (.dat d))) (js := [3]) (fun d ρ' _ => jg_name 3 nd)
    (fun i ρ' μ' => ∃ (ts : List St) (μD : Mu), ts.map (fun s => wD s.1) = (ws.map wD).take i ∧ i ≤ 8 ∧ (∀ s ∈ ts, (StOk s ∧ Sm1 s) ∧ ∃ (x : List Nat) (lo gp on ot : Int), 1 ≤ gp ∧ 1 ≤ on ∧ 1 ≤ ot ∧ s = mkT (decide (sd = 0)) x ((lo + gp) * on) ((12 - lo - gp) * on) (lo * ot) ((12 - lo) * ot)) ∧ Dn a l t0 (cW + 2 + i * 4) μD ∧ μ' = μD ++ [oS c ts] ∧ ∃ o3 o6 o7 o8 o9 o10, ρ' = [some (.val (.ref a)), some (.dat (.int many)), some (.dat (.list (ws.map wD))), o3, some (.dat (.int sd)), some (.val (.ref c)), o6, o7, o8, o9, o10]) ⟨[], μ2, rfl, by omega, (fun _ h => nomatch h), hD2.mono (by omega), rfl, _, _, _, _, _, _, rfl⟩ ?_ ?_ PassesOwn.never rfl
  · rintro i d ρ' μ' σ' H' B' hd ⟨ts, μD, e1, i8, tk, hDi, rfl, o3, o6, o7, o8, o9, o10, rfl⟩ hB S6
    have hdt := hd
    rw [List.getElem?_map] at hd
    obtain ⟨x, hx, rfl⟩ := Option.map_eq_some_iff.mp hd
    have hi : i < 8 := by have := (List.getElem?_eq_some_iff.mp hx).1; omega
    have htl : ts.length ≤ i := by
      have := congrArg List.length e1
      rw [List.length_map, List.length_take] at this; omega
    have S6 : Sy K B' M0 [some (.val (.ref a)), some (.dat (.int many)), some (.dat (.list (ws.map wD))), some (.dat (wD x)), some (.dat (.int sd)), some (.val (.ref c)), o6, o7, o8, o9, o10] (μD ++ [oS c ts]) σ' H' := S6
    refine sy_parE 7 8 (tA_cc (sx_draw (ts := []) (vs := []) S6.sx Wd (hr.mono (by decide)) hDi (by omega) (S6.atV 0).js (Jd.js jd_int) (by decide) (by decide) fun v2 lo μ3 H5 l0 l1 hD3 S7 => tA_cc (leW (pe_op op_add pe_W pe_W) (S7.ev (Jd.js (jd_int (i := 1))) fun v3 H6 S8 => sx_draw S8 Wd (hr.mono (by decide)) hD3 (by omega) (S8.base.atV 0).js (Jd.js jd_int) (by decide) (by decide) fun v4 g μ4 H7 g0 g1 hD4 S9 => ?_)))) rfl nd (by decide) (by kernel_rfl)
    have S9a := S9.take (ts := [] ++ [.dat (.int lo)] ++ [.dat (.int 1)]) (vs := [] ++ [v2] ++ [v3]) rfl
    refine ⟨1, g, dInt S9a.lastD, dInt S9.lastD, tA_nil ⟨v2, .int (1 + g), rfl, ?_⟩⟩
    have p2 := (S9a.take (ts := [] ++ [.dat (.int lo)]) (vs := [] ++ [v2]) rfl).lastD
    have T1 := (S9.base.set 7 (s := .dat (.int lo)) (v := v2) p2).set 8 (s := .dat (.int (1 + g))) (v := .int (1 + g)) (.int _)
    have T1 : Sy K B' M0 [some (.val (.ref a)), some (.dat (.int many)), some (.dat (.list (ws.map wD))), some (.dat (wD x)), some (.dat (.int sd)), some (.val (.ref c)), o6, some (.dat (.int lo)), some (.dat (.int (1 + g))), o9, o10] (μ4 ++ [oS c ts]) _ H7 := T1
    refine sy_parE 9 10 (tA_cc (sx_pick (ts := []) (vs := []) (xs := [.int 1, .int 2, .int 10, .int 30]) T1.sx Wp (hr.mono (by decide)) hD4 (by omega) (T1.atV 0).js (Jd.js (jd_lst (ja_cons jd_int (ja_cons jd_int (ja_cons jd_int (ja_cons jd_int ja_nil)))))) (by decide) (by decide) fun v5 y μ5 H8 hy hD5 T2 => tA_cc (sx_pick (xs := [.int 1, .int 2, .int 10, .int 30]) T2 Wp (hr.mono (by decide)) hD5 (by omega) (T2.base.atV 0).js (Jd.js (jd_lst (ja_cons jd_int (ja_cons jd_int (ja_cons jd_int (ja_cons jd_int ja_nil)))))) (by decide) (by decide) fun v6 z μ6 H9 hz hD6 T3 => tA_nil ⟨v5, v6, rfl, ?_⟩))) rfl nd (by decide) (by kernel_rfl)
    obtain ⟨on, rfl, on1, on2⟩ := pick4 hy
    obtain ⟨ot, rfl, ot1, ot2⟩ := pick4 hz
    have p6 := T3.lastD
    have p5 := (T3.take (ts := [] ++ [.dat (.int on)]) (vs := [] ++ [v5]) rfl).lastD
    have T4 := (T3.base.set 9 (s := .dat (.int on)) (v := v5) p5).set 10 (s := .dat (.int ot)) (v := v6) p6
    have T4 : Sy K B' M0 [some (.val (.ref a)), some (.dat (.int many)), some (.dat (.list (ws.map wD))), some (.dat (wD x)), some (.dat (.int sd)), some (.val (.ref c)), o6, some (.dat (.int lo)), some (.dat (.int (1 + g))), some (.dat (.int on)), some (.dat (.int ot))] (μ6 ++ [oS c ts]) _ H9 := T4
    obtain ⟨n1, hn1⟩ : ∃ n1, n1 = (lo + (1 + g)) * on := ⟨_, rfl⟩
    obtain ⟨n2, hn2⟩ : ∃ n2, n2 = (12 - lo - (1 + g)) * on := ⟨_, rfl⟩
    obtain ⟨n3, hn3⟩ : ∃ n3, n3 = lo * ot := ⟨_, rfl⟩
    obtain ⟨n4, hn4⟩ : ∃ n4, n4 = (12 - lo) * ot := ⟨_, rfl⟩
    refine sy_set 6 T4 (d := .list [.int n1, .int n2, .int n3, .int n4]) (jd_lst (ja_cons (Jd.is (jd_mulS (jd_add (T4.at 7) (T4.at 8)) (T4.at 9) (cmulR ⟨by omega, by omega⟩)) (by rw [hn1])) (ja_cons (Jd.is (jd_mulS (jd_sub (jd_sub jd_int (T4.at 7)) (T4.at 8)) (T4.at 9) (cmulR ⟨by omega, by omega⟩)) (by rw [hn2])) (ja_cons (Jd.is (jd_mulS (T4.at 7) (T4.at 10) (cmulR ⟨by omega, by omega⟩)) (by rw [hn3])) (ja_cons (Jd.is (jd_mulS (jd_sub jd_int (T4.at 7)) (T4.at 10) (cmulR ⟨by omega, by omega⟩)) (by rw [hn4])) ja_nil))))) (fun σ7 H10 T5 => ?_) nd
    have T5 : Sy K B' M0 [some (.val (.ref a)), some (.dat (.int many)), some (.dat (.list (ws.map wD))), some (.dat (wD x)), some (.dat (.int sd)), some (.val (.ref c)), some (.dat (.list [.int n1, .int n2, .int n3, .int n4])), some (.dat (.int lo)), some (.dat (.int (1 + g))), some (.dat (.int on)), some (.dat (.int ot))] (μ6 ++ [oS c ts]) σ7 H10 := T5
    have emk : stD (mkT (decide (sd = 0)) x n1 n2 n3 n4) = .tuple ([wD x] ++ (if sd = 0 then [.int n1, .int n2, .int n3, .int n4] else [.int n3, .int n4, .int n1, .int n2])) := by
      unfold mkT
      by_cases h : sd = 0 <;> simp [h]
    refine sy_app T5 (T5.atV 5) (s := .dat (stD (mkT (decide (sd = 0)) x n1 n2 n3 n4))) (Jd.js (Jd.is (jd_cat (ds := [wD x]) (es := if sd = 0 then [.int n1, .int n2, .int n3, .int n4] else [.int n3, .int n4, .int n1, .int n2]) (jd_tup (ja_cons (T5.at 3) ja_nil)) (jd_tupOf T.n_tuple (jd_if (k := decide (sd = 0)) (jt_eqI (T5.at 4) jd_int) (fun h => Jd.is (T5.at 6) (by rw [if_pos (of_decide_eq_true h)])) (fun h => Jd.is (Jn.jd (jn_catL (ds := [.int n3, .int n4]) (es := [.int n1, .int n2]) (Jd.is (jd_slLFrom (n := 2) (T5.at 6) jd_int rfl (by simp)) rfl) (Jd.is (jd_slLTo (n := 2) (T5.at 6) jd_int rfl) rfl) (by simp))) (by rw [if_neg (of_decide_eq_false h)]; rfl)))) (by split <;> simp)) emk.symm)) hix (by rw [List.length_map, List.length_map]; omega) fun H11 T6 => tB_nil ⟨_, _, ⟨ts ++ [mkT (decide (sd = 0)) x n1 n2 n3 n4], μ6, ?_, by omega, ?_, hD6.mono (by omega), ?_, _, _, _, _, _, _, rfl⟩, T6⟩
    · rw [List.map_append, e1, List.take_add_one, hdt]
      have : (mkT (decide (sd = 0)) x n1 n2 n3 n4).1 = x := by unfold mkT; split <;> rfl
      rw [List.map_cons, this]; rfl
    · intro s hs
      rcases List.mem_append.mp hs with q | q
      · exact tk s q
      · rw [List.mem_singleton.mp q]
        refine ⟨?_, x, lo, 1 + g, on, ot, by omega, on1, ot1, by rw [hn1, hn2, hn3, hn4]⟩
        have hc : (360 : Int) ≤ cC := by decide
        have a1 : 0 ≤ n1 ∧ n1 ≤ 360 := by
          rw [hn1]
          exact ⟨Int.mul_nonneg (by omega) (by omega), Int.le_trans (Int.mul_le_mul (show lo + (1 + g) ≤ 12 by omega) on2 (by omega) (by decide)) (by decide)⟩
        have a2 : 0 < n2 ∧ n2 ≤ 360 := by
          rw [hn2]
          exact ⟨Int.mul_pos (by omega) (by omega), Int.le_trans (Int.mul_le_mul (show 12 - lo - (1 + g) ≤ 12 by omega) on2 (by omega) (by decide)) (by decide)⟩
        have a3 : 0 ≤ n3 ∧ n3 ≤ 360 := by
          rw [hn3]
          exact ⟨Int.mul_nonneg (by omega) (by omega), Int.le_trans (Int.mul_le_mul (show lo ≤ 12 by omega) ot2 (by omega) (by decide)) (by decide)⟩
        have a4 : 0 < n4 ∧ n4 ≤ 360 := by
          rw [hn4]
          exact ⟨Int.mul_pos (by omega) (by omega), Int.le_trans (Int.mul_le_mul (show 12 - lo ≤ 12 by omega) ot2 (by omega) (by decide)) (by decide)⟩
        have hw := wk x (List.mem_of_getElem? hx)
        have ok4 : ∀ {p q r s : Int}, 0 ≤ p ∧ p ≤ 360 → 0 < q ∧ q ≤ 360 → 0 ≤ r ∧ r ≤ 360 → 0 < s ∧ s ≤ 360 → StOk (x, p, q, r, s) ∧ Sm1 (x, p, q, r, s) := fun {p q r s} hp hq hr hs => by
          refine ⟨⟨hw, fun k => ?_, by show 0 < p + q; omega, by show 0 < r + s; omega⟩, fun k => ?_⟩
          · match k with
            | 1 => show 0 ≤ p ∧ p ≤ cC; omega
            | 2 => show 0 ≤ q ∧ q ≤ cC; omega
            | 3 => show 0 ≤ r ∧ r ≤ cC; omega
            | 0 => show 0 ≤ s ∧ s ≤ cC; omega
            | _ + 4 => show 0 ≤ s ∧ s ≤ cC; omega
          · match k with
            | 1 => show p ≤ 360; omega
            | 2 => show q ≤ 360; omega
            | 3 => show r ≤ 360; omega
            | 0 => show s ≤ 360; omega
            | _ + 4 => show s ≤ 360; omega
        unfold mkT
        split
        · exact ok4 a1 a2 a3 a4
        · exact ok4 a3 a4 a1 a2
    · have : ((ts.map stD).map Sv.dat) ++ [.dat (stD (mkT (decide (sd = 0)) x n1 n2 n3 n4))] = ((ts ++ [mkT (decide (sd = 0)) x n1 n2 n3 n4]).map stD).map Sv.dat := by rw [List.map_append, List.map_append]; rfl
      rw [this]; simp
  · rintro ρ' μ' σ' H' ⟨ts, μD, e1, i8, tk, hDi, rfl, o3, o6, o7, o8, o9, o10, rfl⟩ S6
    rw [List.length_map] at hDi i8
    rw [List.length_map, ← List.length_map (f := wD), List.take_length] at e1
    have ew : ts.map (·.1) = ws := by
      have inj : ∀ a b : List Nat, wD a = wD b → a = b := fun a b h => by
        simp only [PyData.str.injEq] at h
        exact wS_inj h
      have : (ts.map (·.1)).map wD = ws.map wD := by rw [List.map_map]; exact e1
      exact (List.map_inj_right inj).mp this
    have htl : ts.length = ws.length := by rw [← ew, List.length_map]
    have S7 := S6.frz 5 μD.length (a := c) (ds := ts.map stD) rfl hix
    have he : (μD ++ [oS c ts]).eraseIdx μD.length = μD := by rw [List.eraseIdx_append_of_length_le (by omega)]; simp
    rw [he] at S7
    have S7 : Sy K B M0 [some (.val (.ref a)), some (.dat (.int many)), some (.dat (.list (ws.map wD))), o3, some (.dat (.int sd)), some (.dat (.list (ts.map stD))), o6, o7, o8, o9, o10] μD σ' H' := S7
    have told : Told ts := by
      have key : ∀ lo gp on ot : Int, 1 ≤ gp → 1 ≤ on → 1 ≤ ot → lo * ot * ((lo + gp) * on + (12 - lo - gp) * on) < (lo + gp) * on * (lo * ot + (12 - lo) * ot) := fun lo gp on ot h1 h2 h3 => by
        have e : (lo + gp) * on * (lo * ot + (12 - lo) * ot) - lo * ot * ((lo + gp) * on + (12 - lo - gp) * on) = 12 * gp * on * ot := by grind
        have p : 0 < 12 * gp * on * ot := Int.mul_pos (Int.mul_pos (by omega) (by omega)) (by omega)
        omega
      by_cases h : sd = 0
      · refine .inl fun s hs => ?_
        obtain ⟨_, x, lo, gp, on, ot, g1, o1, o2, rfl⟩ := tk s hs
        unfold mkT
        rw [if_pos (decide_eq_true h)]
        exact key lo gp on ot g1 o1 o2
      · refine .inr fun s hs => ?_
        obtain ⟨_, x, lo, gp, on, ot, g1, o1, o2, rfl⟩ := tk s hs
        unfold mkT
        rw [if_neg (by rw [decide_eq_false h]; exact Bool.false_ne_true)]
        exact key lo gp on ot g1 o1 o2
    exact sy_retE (S7.ev (jd_tup (ja_cons jd_str (ja_cons (jd_tupOf T.n_tuple (S7.at 5)) ja_nil))) fun v H8 S8 x p => k v (.dat (trD ts)) μD H8 ⟨ts, ⟨⟨by omega, by rw [ew]; exact wa, by omega, fun s hs => (tk s hs).1.1⟩, fun s hs => (tk s hs).1.2⟩, told, rfl, adv _ _ (hDi.mono (by omega))⟩ (S8.one p))
end K58

set_option maxHeartbeats 4000000
namespace K58

open PySem PySem.Spec PyProof.Rows L2 J Evl
variable {P : Program} {w : World} {K : PySem.W.Frag} {mg : Str → Option Value} {base : Heap}
/-! ### drawn trials are trials -/
theorem isWd_wD {w : List Nat} (h : WdOk w) : isWd (wD w) = true := by
  show ((decide ((1 : Int) ≤ (wS w).length) && decide (((wS w).length : Int) ≤ 8)) && (wS w).cps.toList.all fun c => decide (c ∈ abc.cps.toList)) = true
  rw [wS_len, Bool.and_eq_true, Bool.and_eq_true]
  refine ⟨⟨decide_eq_true (by have := h.1; omega), decide_eq_true (by have := h.2.1; omega)⟩, ?_⟩
  rw [wS_cps, List.all_map, List.all_eq_true]
  intro c hc
  have := h.2.2 c hc
  refine decide_eq_true ?_
  have e : abc.cps.toList = (List.range 26).map (· + 97) := by decide +kernel
  rw [e]
  exact List.mem_map.mpr ⟨c, List.mem_range.mpr this, rfl⟩
theorem asc_pairs {α : Type} (f : α → List Nat) (g : α → D) (hg : ∀ x, wd1 (g x) = wS (f x)) : ∀ {l : List α}, AscW (l.map f) → ascD (l.map g) = true
  | [], _ => rfl
  | [_], _ => rfl
  | a :: b :: l, h => by
    have h : (f a :: f b :: l.map f).Pairwise wLt := h
    have ih := asc_pairs f g hg (l := b :: l) (List.pairwise_cons.mp h).2
    have hab := (List.pairwise_cons.mp h).1 (f b) List.mem_cons_self
    unfold ascD at ih ⊢
    show (sLt (wd1 (g a)) (wd1 (g b)) && _) = true
    rw [Bool.and_eq_true]
    refine ⟨?_, ih⟩
    show decide _ = true
    rw [hg, hg]
    exact decide_eq_true hab
theorem isSt_stD {s : St} (h : StOk s) : isSt (stD s) = true := by
  rw [isSt_eq, isWd_wD h.1]
  have c1 : (0 : Int) ≤ s.2.1 := (h.2.1 1).1
  have c2 : (0 : Int) ≤ s.2.2.1 := (h.2.1 2).1
  have c3 : (0 : Int) ≤ s.2.2.2.1 := (h.2.1 3).1
  have c4 : (0 : Int) ≤ s.2.2.2.2 := (h.2.1 4).1
  have p1 : (0 : Int) < s.2.1 + s.2.2.1 := h.2.2.1
  have p2 : (0 : Int) < s.2.2.2.1 + s.2.2.2.2 := h.2.2.2
  show (true && ((decide (0 ≤ s.2.1) && (decide (0 ≤ s.2.2.1) && (decide (0 ≤ s.2.2.2.1) && (decide (0 ≤ s.2.2.2.2) && true)))) && (decide (0 < s.2.1 + s.2.2.1) && decide (0 < s.2.2.2.1 + s.2.2.2.2)))) = true
  rw [decide_eq_true c1, decide_eq_true c2, decide_eq_true c3, decide_eq_true c4, decide_eq_true p1, decide_eq_true p2]
  rfl
theorem isTr_trD {l : List St} (h : TrOk l) : isTr (trD l) = true := by
  obtain ⟨h1, h2, h3, h4⟩ := h
  show isTr (.tuple [.str "trial", .tuple (l.map stD)]) = true
  rw [isTr_eq, List.length_map, asc_pairs (·.1) stD (fun _ => rfl) h2]
  have a1 : (l.map stD).all isSt = true := List.all_eq_true.mpr fun x hx => by
    obtain ⟨s, hs, rfl⟩ := List.mem_map.mp hx
    exact isSt_stD (h4 s hs)
  rw [a1, decide_eq_true (show (1 : Int) ≤ l.length by omega), decide_eq_true (show (l.length : Int) ≤ 8 by omega)]
  rfl
theorem okV_wD {w : List Nat} (h : WdOk w) : okV (wD w) = true := by
  show (decide ((wS w).length ≤ 1000) && PyData.strOk (wS w)) = true
  rw [wS_len, decide_eq_true (by have := h.2.1; omega)]
  exact (lay_wD (n := 0) h).1
theorem okV_trD {l : List St} (h : TrOk l) : okV (trD l) = true := by
  refine okT_of (by simp) fun x hx => ?_
  simp only [List.mem_cons, List.not_mem_nil, or_false] at hx
  rcases hx with rfl | rfl
  · decide +kernel
  · refine okT_of (by rw [List.length_map]; have := h.2.2.1; omega) fun x hx => ?_
    obtain ⟨s, hs, rfl⟩ := List.mem_map.mp hx
    have hs := h.2.2.2 s hs
    refine okT_of (by simp) fun x hx => ?_
    simp only [List.mem_cons, List.not_mem_nil, or_false] at hx
    rcases hx with rfl | rfl | rfl | rfl | rfl
    · exact okV_wD hs.1
    · rfl
    · rfl
    · rfl
    · rfl
/-! ### words, wholes -/
def AskT (f : List St → D) : List D → D → Prop := fun ds d => ∃ l : List St, ds = [trD l] ∧ TrOk l ∧ d = f l
def FlT (K : PySem.W.Frag) : List D → Value → Prop := fun ds c => ∃ a : D, ds = [a] ∧ okV a = true ∧ isTr a = false ∧ c = .ref (He.ga K "BadTrial")
theorem TrOk.ne {l : List St} (h : TrOk l) : l ≠ [] := fun e => by have := h.1; rw [e] at this; simp at this
theorem ok_whole_rates (T : Tx K mg) : ∃ fd, FnOk P w K mg base (CX P w) 6 (He.ga K "whole_rates") fd ["trial"] (spX K 1 (AskT whD) (FlT K)) ∧ FnP K "whole_rates" "whole_rates" s_whole_rates (He.ga K "whole_rates") fd ∧ mg "whole_rates" = some (.ref (He.ga K "whole_rates")) := by
  have Wt := fd_need_trial (P := P) (w := w) (base := base) T
  have Wa := fd_whole_in (P := P) (w := w) (base := base) T
  obtain ⟨fd, F, hm⟩ := T.f_whole_rates
  refine ⟨fd, ok_X F sc_whole_rates rfl fun cdv A outer s H E M vs ds D' hr hl S hR => ?_, F, hm⟩
  rcases hR with ⟨d, ⟨l, rfl, hT, rfl⟩, k, _⟩ | ⟨c, ⟨a, rfl, h1, h2, rfl⟩, kE⟩
  · refine sy_expr S (jd_callX Wt (hr.mono (by decide)) (ja_cons (S.at 0) ja_nil) rfl ⟨_, rfl, okV_trD hT, isTr_trD hT, rfl⟩) fun H1 S1 => ?_
    exact sy_ret S1 (jd_call Wa (hr.mono (by decide)) (ja_cons (jd_ixT (n := 1) (d := .tuple (l.map stD)) (S1.at 0) jd_int rfl rfl) ja_nil) rfl ⟨true, l, rfl, hT.2.2, hT.ne, rfl⟩) fun v H' x _ p => k v H' x p
  · exact tB_exprX (jx_call Wt (hr.mono (by decide)) bodyE_tk S.all (ja_cons (S.at 0) ja_nil) rfl ⟨a, rfl, h1, h2, rfl⟩ fun H' x => kE H' (S.bs.trans x))
end K58

set_option maxHeartbeats 4000000
namespace K58

open PySem PySem.Spec PyProof.Rows L2 J Evl
variable {P : Program} {w : World} {K : PySem.W.Frag} {mg : Str → Option Value} {base : Heap}
/-- values that are no trials -/
abbrev oddA : List D := [.none, .bool true, .int 0, .int 5, .str "", .str "people", .tuple [], .list [], .dict [], .tuple [.tuple [.int 0, .int 1], .tuple [.int 1, .int 1]], .tuple [.str "people"], .tuple [.str "people", .tuple []], .tuple [.str "rule", .tuple []], .tuple [.str "rule"]]
abbrev oddB : List D := [.tuple [.str "people", .tuple [.tuple [.str "g", .tuple []]]], .tuple [.str "people", .tuple [.tuple [.str "g", .tuple [.tuple [.str "a", .int 1, .int 0]]]]], .tuple [.str "people", .list [.tuple [.str "g", .tuple [.tuple [.str "a", .int 1, .int 1]]]]]]
theorem oddL_ok : ((oddA ++ oddB).all fun d => okV d && !isTr d) = true := by decide +kernel
theorem oddL_no {d : D} (h : d ∈ oddA ++ oddB) : okV d = true ∧ isTr d = false := by
  have := List.all_eq_true.mp oddL_ok d h
  simpa using this
theorem fd_law_odd (T : Tx K mg) : Fd CX0 P w K mg base 4 "_law_odd" ["draws"] (spM K 1 (fun ss μ => ∃ (a l : Addr), ss = [.val (.ref a)] ∧ Rdy a l 1 μ) (fun _ μ v μ' => ∃ d, (okV d = true ∧ isTr d = false) ∧ v = .dat d ∧ Adv 1 μ μ') noF) := by
  have Wp := fd_law_pick (P := P) (w := w) (base := base) T
  obtain ⟨fd, F, hm⟩ := T.f_law_odd
  refine fd_mk F hm (ok_M F sc_law_odd rfl fun cdv A outer s H E B M0 vs ss μ D' hr hl hP S k kn => ?_) (fun _ _ _ _ _ _ us hl => match us, hl with | [_], _ => rfl)
  obtain ⟨a, l, rfl, hrdy⟩ := hP
  obtain ⟨t0, hcap, hD, adv⟩ := hrdy.dn
  have nd := sc_law_odd.nd
  have S : Sy K B M0 [some (.val (.ref a)), none] μ _ _ := S
  refine @sy_setE _ _ _ _ _ _ _ 1 _ _ ?_ nd rfl (Or.inl rfl) (by kernel_rfl) (Or.inl rfl)
  refine @Sy.ev _ _ _ _ _ _ _ (.list oddA) _ S ?_ _ (fun v1 H1 S1 x1 p1 => ?_)
  · refine @jd_lst _ _ _ _ _ _ _ ?_ (by decide)
    repeat' (first | exact @jd_non _ _ _ _ _ _ | exact @jd_bl _ _ _ _ _ _ _ | exact @jd_int _ _ _ _ _ _ _ | exact @jd_str _ _ _ _ _ _ _ | exact @jd_dict0 _ _ _ _ _ | exact @ja_nil _ _ _ _ | refine @jd_tup _ _ _ _ _ _ _ _ ?_ (by decide) | refine @jd_lst _ _ _ _ _ _ _ ?_ (by decide) | refine @ja_cc _ _ _ _ _ _ _ _ ?_ ?_ rfl)
  have S1 := S1.set 1 (s := .dat (.list oddA)) (v := v1) p1
  have S1 : Sy K B M0 [some (.val (.ref a)), some (.dat (.list oddA))] μ _ H1 := S1
  have hb : ∀ {a : List D}, a.length ≤ 1000 → a.length + oddB.length ≤ 90000 := fun h => by show _ + 3 ≤ 90000; omega
  have hcap1 : t0 + 0 + 1 ≤ capT := hcap
  refine @sy_retE _ _ _ _ _ _ _ (@sx_pick0 _ _ _ _ _ _ _ _ _ _ _ _ _ _ _ (oddA ++ oddB) _ _ S1.sx Wp (hr.mono (by decide)) hD hcap1 (S1.atV 0).js (@Jd.js _ _ _ _ _ _ (@Jn.jd _ _ _ _ _ _ (@jn_catL _ _ _ _ _ _ _ _ _ (S1.at 1) (@jd_lst _ _ _ _ _ _ _ ?_ (by decide)) (hb (by decide))))) (by decide) (by decide) _ (fun v x μ2 H2 hx hD2 S2 => ?_) rfl (by kernel_rfl) (by kernel_rfl) (by kernel_rfl))
  · repeat' (first | exact @jd_non _ _ _ _ _ _ | exact @jd_bl _ _ _ _ _ _ _ | exact @jd_int _ _ _ _ _ _ _ | exact @jd_str _ _ _ _ _ _ _ | exact @jd_dict0 _ _ _ _ _ | exact @ja_nil _ _ _ _ | refine @jd_tup _ _ _ _ _ _ _ _ ?_ (by decide) | refine @jd_lst _ _ _ _ _ _ _ ?_ (by decide) | refine @ja_cc _ _ _ _ _ _ _ _ ?_ ?_ rfl)
  exact k v (.dat x) μ2 H2 ⟨x, oddL_no hx, rfl, adv _ _ hD2⟩ (S2.base.one (Sx.lastD (ts := []) (vs := []) S2))
end K58

set_option maxHeartbeats 4000000
/-! J67: [elt for tg in iter if c], c and elt made with effects. -/
namespace J
open PySem PySem.Spec PyProof.Rows L2 Evl
section
variable {X : Cx} {B H : Hp} {M0 : List Addr} {ρ : Ro} {μ : Mu} {σ : L2.St} {tg iter elt c : Expr} {scope : Scope} {ds : List D} {own : List (Str × Nat)} {js : List Nat}
theorem lcG_tree (S : Sy X.K B M0 ρ μ σ H) (hw : Jw X (adr M0 μ) tg iter σ H ds) (f : D → Ro → Ro) (hjs : ∀ j ∈ js, j ∈ own.map (·.2)) (I : Nat → List D → Mu → Prop) (Z : Nat → D → List D → Mu → Prop) (h0 : I 0 [] μ) (hlen : ∀ i d acc μ', Z i d acc μ' → acc.length ≤ 90000)
    (hg : ∀ X' d, Blk X scope X' → d ∈ ds → Jg X' tg js d (wip ρ (own.map (·.2))) (f d (wip ρ (own.map (·.2)))))
    (ht : ∀ (i : Nat) (d : D) (acc : List D) (μ' : Mu) X' B' M' σ' H' (Q : Bool → Hp → Prop), ds[i]? = some d → I i acc μ' → Blk X scope X' → Sy X'.K B' M' (f d (wip ρ (own.map (·.2)))) μ' σ' H' →
      (∀ μ'' H'', I (i + 1) acc μ'' → Sy X'.K B' M' (f d (wip ρ (own.map (·.2)))) μ'' σ' H'' → Q false H'') → (∀ μ'' H'', Z i d acc μ'' → Sy X'.K B' M' (f d (wip ρ (own.map (·.2)))) μ'' σ' H'' → Q true H'') → tT X' c σ' H' Q)
    (he : ∀ (i : Nat) (d : D) (acc : List D) (μ' : Mu) X' B' M' σ' H' (Q : VK), ds[i]? = some d → Z i d acc μ' → Blk X scope X' → Sy X'.K B' M' (f d (wip ρ (own.map (·.2)))) μ' σ' H' →
      (∀ v x μ'' H'', I (i + 1) (acc ++ [x]) μ'' → Sy X'.K B' M' (f d (wip ρ (own.map (·.2)))) μ'' σ' H'' → Dp X'.K (hid (adr M' μ'') H'') v x → Q v H'') → tW X' elt σ' H' Q)
    {Q : VK} (k : ∀ a acc μ' H', I ds.length acc μ' → Sy X.K B M0 ρ ((a, .lst (acc.map .dat)) :: μ') σ H' → Q (.ref a) H') :
    tLc (tI X tg iter) (tGb X scope tg) (tTsb X scope [c]) (tWb X scope elt) (own.map (·.2)) σ H Q := by
  refine hw S.all H (Ex.refl H) _ fun Jt2 H2 x2 yl Dl hD => ?_
  have S2 := S.ex x2
  obtain ⟨G, Y, w, hG, hY⟩ := yl
  let Pv : Nat → Hp → Prop := fun i H' => ∃ acc μ', I i acc μ' ∧ Sy X.K (J.grd μ H2) M0 ρ (μ' ++ [(Dl, .lst (acc.map .dat))]) σ H'
  have low : hid M0 (J.grd μ H2) = hid (adr M0 μ) H2 := grd_low
  have S0 : Sy X.K (J.grd μ H2) M0 ρ (μ ++ [(Dl, .lst ([] : List Sv))]) σ (L2.upd H2 Dl (.lst [])) := (S2.grd.newN (.lst []) (Ex.new hD) hD ⟨[], upd_same, .nil⟩).perm (List.perm_append_comm (l₁ := μ) (l₂ := [_]))
  refine lc_it w Pv ⟨[], μ, h0, S0⟩ (fun i H' hi p => hG H' ?_) (fun i x H' H3 hi p y => ?_) (fun H' p => ?_)
  · obtain ⟨acc, μ', _, S'⟩ := p
    rw [← low]; exact S'.low.trans hid_le
  · obtain ⟨acc, μ', hI, S'⟩ := p
    have g0 : Ex (hid (adr M0 μ) H2) (hid (adr M0 (μ' ++ [(Dl, .lst (acc.map .dat))])) H') := by rw [← low]; exact S'.low
    obtain ⟨x3, dx⟩ := hY i H' x H3 hi (g0.trans hid_le) y
    have hdi : ds[i]? = some ds[i] := List.getElem?_eq_getElem hi
    have q := dx _ S'.all g0 ds[i] hdi
    have S3 := S'.ex x3
    have S3w := (S3.wipe (own.map (·.2))).split
    rw [← adr_app] at q
    intro X' hX
    have eK : X'.K = X.K := by obtain ⟨_, _, _, _, _, rfl⟩ := hX; rfl
    refine hg X' ds[i] hX (List.getElem_mem hi) _ _ _ _ _ _ (by rw [eK]; exact S3w) (by rw [eK]; exact q) _ fun σ4 S4 l4 o4 => ⟨?_, ?_⟩
    · rw [wipe_eq (vs := own.map (·.2)) l4 fun j hj => o4 j fun z => hj (hjs j z)]
      exact wipe_eq (wipe_length _ _) fun j hj => wipe_out hj
    · intro X2 hX2
      have eK2 : X2.K = X'.K := by obtain ⟨_, _, _, _, _, rfl⟩ := hX2; exact eK.symm
      have eKK : X2.K = X.K := eK2.trans eK
      have S5' : Sy X2.K (J.grd μ' H3) (adr M0 [(Dl, .lst (acc.map .dat))]) (f ds[i] (wip ρ (own.map (·.2)))) μ' σ4 H3 := by
        rw [eK2]
        exact S4.grd
      refine fun pins s' Iv => (pts_one pt_T).run pins s' σ4 H3 _ Iv (ht i ds[i] acc μ' X2 _ _ σ4 H3 _ hdi hI hX2 S5' (fun μ'' H6 hI6 S6 => ?_) fun μ'' H6 hZ6 S6 => ?_)
      · rw [if_neg (by decide)]
        have S6' : Sy X.K (J.grd μ' H3) (adr M0 [(Dl, .lst (acc.map .dat))]) (f ds[i] (wip ρ (own.map (·.2)))) μ'' σ4 H6 := by rw [← eKK]; exact S6
        exact ⟨acc, μ'', hI6, S3.keep S6'⟩
      · have S6' : Sy X.K (J.grd μ' H3) (adr M0 [(Dl, .lst (acc.map .dat))]) (f ds[i] (wip ρ (own.map (·.2)))) μ'' σ4 H6 := by rw [← eKK]; exact S6
        have S36 := S3.keep S6'
        rw [if_pos rfl]
        intro X3 hX3
        have eK3 : X3.K = X2.K := by obtain ⟨_, _, _, _, _, rfl⟩ := hX3; exact eKK.symm
        have eKK3 : X3.K = X.K := eK3.trans eKK
        have S7' : Sy X3.K (J.grd μ'' H6) (adr M0 [(Dl, .lst (acc.map .dat))]) (f ds[i] (wip ρ (own.map (·.2)))) μ'' σ4 H6 := by
          rw [eKK3]
          exact S6'.grd
        refine he i ds[i] acc μ'' X3 _ _ σ4 H6 _ hdi hZ6 hX3 S7' fun v z μ3 H7 hI7 S7 pv => ?_
        have S8' : Sy X.K (J.grd μ'' H6) (adr M0 [(Dl, .lst (acc.map .dat))]) (f ds[i] (wip ρ (own.map (·.2)))) μ3 σ4 H7 := by rw [← eKK3]; exact S7
        have S9 := S36.keep S8'
        have hil : (μ3 ++ [(Dl, Mo.lst (acc.map .dat))])[μ3.length]? = some (Dl, .lst (acc.map .dat)) := by simp
        obtain ⟨vs, a1, a2⟩ := S9.own hil
        have hl1 := paired_len a2
        rw [List.length_map] at hl1
        refine ⟨vs, a1, sz_lt (by have := hlen _ _ _ _ hZ6; omega), acc ++ [z], μ3, hI7, ?_⟩
        have pv' : Dp X.K (hid (adr M0 (μ3 ++ [(Dl, .lst (acc.map .dat))])) H7) v z := by rw [← adr_app, ← eKK3]; exact pv
        have S10 := S9.upd (.lst ((acc ++ [z]).map .dat)) (o := .lst (vs ++ [v])) hil ⟨vs ++ [v], upd_same, by rw [List.map_append]; exact paired_app a2 (.cons pv' .nil)⟩
        have e : (μ3 ++ [(Dl, Mo.lst (acc.map .dat))]).set μ3.length (Dl, .lst ((acc ++ [z]).map .dat)) = μ3 ++ [(Dl, .lst ((acc ++ [z]).map .dat))] := by simp
        rw [e] at S10
        exact S10
  · obtain ⟨acc, μ', hI, S'⟩ := p
    exact k Dl acc μ' H' hI ((S'.base S2.grdB).perm (List.perm_append_comm (l₁ := [_]) (l₂ := μ')))
end
end J

set_option maxHeartbeats 4000000
/-! J68: sorted(set(xs)), xs a list of texts. -/
namespace J
open PySem PySem.Spec PyProof.Rows L2 Evl RZ PySem.Froz
/-! ### the set -/
theorem tail_ris {ep : Nat} {es1 : Array (Int × Value)} {t2 : SetTable} {wd : Bool} (r : Ris t2.place.toList) : Ris (tailTx ep es1 t2 wd).2.2.place.toList := by
  unfold tailTx
  split
  · exact (relayAll_ris t2 es1 _)
  · exact r
theorem tail_led {ep : Nat} {es1 : Array (Int × Value)} {t2 : SetTable} {wd : Bool} : (tailTx ep es1 t2 wd).2.2.led = t2.led := by
  unfold tailTx
  split
  · exact (relayAll_led t2 es1 _)
  · rfl
theorem addTx_ris {h : Int} {v : Value} {D : SD} (r : Ris D.2.2.place.toList) : Ris (addTx h v D).2.2.place.toList := by
  unfold addTx
  refine tail_ris ?_
  split <;> exact layNew_ris _ _ _ _ r
theorem addTx_led {h : Int} {v : Value} {D : SD} : (addTx h v D).2.2.led = D.2.2.led := by
  unfold addTx
  rw [tail_led]
  split <;> exact layNew_led _ _ _ _
/-- the set of the texts l at a -/
def SetX (P : Program) (w : World) (h : Heap) (a : Addr) (l : List Str) : Prop :=
  ∃ D : SD, h.get? a = some (sObj "set" D) ∧ TxOk P w D l ∧ Ris D.2.2.place.toList ∧ (w.params.followText "set-order" = true ∨ D.2.2.led = true) ∧ l.Nodup
section
variable {P : Program} {w : World} {A : Around} {E : Value → Shared → Prop} {s : Shared} {a : Addr} {l : List Str} {k : Str} {u : Tok}
theorem SetX.at {h h' : Heap} (R : SetX P w h a l) (q : ∀ o, h.get? a = some o → h'.get? a = some o) : SetX P w h' a l := by
  obtain ⟨D, ho, r⟩ := R
  exact ⟨D, q _ ho, r⟩
theorem stay_x {T : String} {D : SD} {Q : Bool → Shared → Prop} (ho : s.heap.get? a = some (sObj T D)) (F : TxOk P w D l) (hk : k ∈ l) (hb : l.length < scanBound) (h : Q false s) :
    wpAny (model P w) A (setAddHashed a (.str k u) (hashStr w k)) Q E s := by
  obtain ⟨es, ep, t⟩ := D
  have hd : (sObj T (es, ep, t)).data = .set es ep t := rfl
  have hf : t.fits es.size = true := F.fit
  have hel : ElemsOf (PySem.strKind P w) es.toList := F.el
  have hsz : es.size = l.length := F.sz
  have hb0 : es.size < scanBound := by omega
  have hkey : (PySem.strKind P w).is k (.str k u) = true := is_str k u
  unfold setAddHashed setAddHashedIn
  refine wpAny_holding (wpAny_bind (wpAny_setState_of ho hd hf ?_))
  dsimp only
  rw [byScan_of rfl hb0 hel]
  simp only [↓reduceIte]
  unfold setAddByScan
  refine wpAny_bind ?_
  refine wpAny_bind (wpAny_rule ?_)
  refine wpAny_bind (wpAny_setScan_of (knd := PySem.strKind P w) (k := k) hkey ho hd hf hel ?_)
  cases hfi : List.findIdx? (fun e => (PySem.strKind P w).is k e.2) es.toList with
  | some j =>
    dsimp only
    exact wpAny_pure (wpAny_pure h)
  | none =>
    obtain ⟨e, he, q⟩ := (F.mem k).mp hk
    have c := List.findIdx?_eq_none_iff.mp hfi e he
    rw [q] at c
    cases c
theorem setX_add {Q : Bool → Shared → Prop} (R : SetX P w s.heap a l) (room : l.length + 1 < scanBound)
    (hQ : ∀ (b : Bool) (h' : Heap) (l' : List Str), Heap.SameBut a s.heap h' → SetX P w h' a l' → (∀ z, z ∈ l' ↔ z ∈ l ∨ z = k) → l'.length ≤ l.length + 1 → Q b { s with heap := h' }) :
    wpAny (model P w) A (setAddHashed a (.str k u) (hashStr w k)) Q E s := by
  obtain ⟨D, ho, F, r, hl, nd⟩ := R
  by_cases hk : k ∈ l
  · refine stay_x ho F hk (by omega) ?_
    exact hQ false s.heap l (Heap.SameBut.refl a s.heap) ⟨D, ho, F, r, hl, nd⟩ (fun z => ⟨.inl, fun q => q.elim id fun e => e ▸ hk⟩) (by omega)
  · refine add_x ho F hk room ?_
    refine hQ true _ (k :: l) (Heap.SameBut.update s.heap a _) ⟨_, get_upd _ ho rfl, add_ok u F, addTx_ris r, ?_, List.nodup_cons.mpr ⟨hk, nd⟩⟩ (fun z => ?_) (by simp)
    · exact hl.imp id fun z => by rw [addTx_led]; exact z
    · rw [List.mem_cons]; exact Or.comm
theorem set_update_strs {I : Addr} {fp wr : List Addr} {G : Array GenState → Array GenState → Prop} {n : Nat} {Pv : Nat → Value → Prop} {St : Nat → Shared → Prop} {R : Result → Shared → Prop}
    (W : WalksS P w A.in1 I fp wr G n Pv St) (S : Addr) (hSf : S ∉ fp) (ns : List Str) (hn : n = ns.length) (hb : ns.length + 1 < scanBound) (hval : ∀ i v, Pv i v → ∃ k t, ns[i]? = some k ∧ v = .str k t) :
    ∀ (k i : Nat) (s : Shared), n - i = k → i ≤ n → St i s → (∃ c, c.length ≤ i ∧ (∀ z, z ∈ c ↔ z ∈ ns.take i) ∧ SetX P w s.heap S c) →
      (∀ s' c, Moved (S :: wr) G s s' → c.length ≤ n → (∀ z, z ∈ c ↔ z ∈ ns) → SetX P w s'.heap S c → R (.ok (.ret .none)) s') →
      codeAny (model P w) A (.builtin "set.update.loop" ⟨[.ref S, .ref I], []⟩) R s := by
  have hSw : S ∉ wr := fun h => hSf (W.sub _ h)
  have hsub : ∀ b ∈ wr, b ∈ S :: wr := fun b hb => List.mem_cons_of_mem _ hb
  intro k
  induction k with
  | zero =>
    intro i s hk' hi hst ⟨c, hc, hm, hS⟩ hR
    have hin : i = n := by omega
    subst hin
    refine codeAny_builtin F.entry_set_update_loop ?_
    rw [Around.under_plainId F.plain_set_update_loop _]
    show wpAny _ A.in1 (pyNext (.ref I) >>= _) _ _ s
    refine wpAny_bind (W.done s _ _ hst fun s' hmv => ?_)
    show wpAny _ A.in1 (ret Value.none) _ _ s'
    have e : ns.take i = ns := List.take_of_length_le (by omega)
    rw [e] at hm
    exact wpAny_pure (hR s' c (hmv.mono hsub) hc hm (hS.at fun o e => hmv.heap S o hSw e))
  | succ k ih =>
    intro i s hk' hi hst ⟨c, hc, hm, hS⟩ hR
    have hlt : i < n := by omega
    refine codeAny_builtin F.entry_set_update_loop ?_
    rw [Around.under_plainId F.plain_set_update_loop _]
    show wpAny _ A.in1 (pyNext (.ref I) >>= _) _ _ s
    refine wpAny_bind (W.item i s _ _ hlt hst fun v s' hP hst' hmv => ?_)
    obtain ⟨z, t, hz, rfl⟩ := hval i v hP
    have hS' : SetX P w s'.heap S c := hS.at fun o e => hmv.heap S o hSw e
    show wpAny _ A.in1 (holding [Value.str z t] (setAdd S (.str z t)) >>= _) _ _ s'
    refine wpAny_bind (wpAny_holding ?_)
    unfold setAdd
    refine wpAny_holding ?_
    refine wpAny_bind ((PySem.strKind P w).pyHash (k := z) (strKind_is _ _ _ _) ?_)
    refine setX_add (s := { s' with toks := s'.toks + 1 }) hS' (by omega) fun b h' l' hsb hS2 hm2 hl2 => ?_
    refine wpAny_pure ⟨plainId_quiet F.plain_set_update_loop _, ih (i + 1) _ (by omega) hlt (W.frame _ s' _ _ hst' (Nat.le_succ _) fun b hb o e => ?_) ⟨l', by omega, fun y => ?_, hS2⟩ fun s'' c2 hm'' hc'' hmm hS'' => ?_⟩
    · rw [hsb.2 b (fun h : b = S => hSf (by rw [← h]; exact hb))]; exact e
    · rw [hm2, List.take_add_one, hz, hm]
      simp [List.mem_append]
    · refine hR s'' c2 (Moved.trans W.gtrans ((hmv.mono hsub).then_heap (Nat.le_succ _) fun b o hb e => ?_) hm'') hc'' hmm hS''
      rw [hsb.2 b (fun h : b = S => hb (by rw [h]; exact List.mem_cons_self))]; exact e
theorem setX_new {h : Heap} (ho : h.get? a = some { cls := .type "set", dict := none, data := .set #[] 0 (.fresh 0 0 (!w.params.followText "set-order")) }) : SetX P w h a [] :=
  ⟨(#[], 0, _), ho, TxOk.nil (by rfl), List.Pairwise.nil, by
    show _ ∨ (!w.params.followText "set-order") = true
    cases w.params.followText "set-order"
    · exact .inr rfl
    · exact .inl rfl, List.nodup_nil⟩
set_option maxHeartbeats 3200000 in
theorem call_set_listX {l : Addr} {items : Array Value} (ns : List Str) {Q : Value → Shared → Prop} (hh : A.handled = none) (hl : s.heap.IsList l items) (hit : StrsAre items.toList ns) (hb : ns.length + 1 < scanBound)
    (h : ∀ (h' : Heap) (tk : Nat) (c : List Str), SetX P w h' s.heap.objs.size c → c.length ≤ ns.length → (∀ z, z ∈ c ↔ z ∈ ns) → (∀ b o, s.heap.get? b = some o → h'.get? b = some o) → Q (.ref s.heap.objs.size) { s with heap := h', toks := tk }) :
    wpAny (model P w) A (call (.type "set") [.ref l]) Q E s := by
  have hisz : items.size = ns.length := by
    have q := StrsAre.len_eq hit
    rw [Array.length_toList] at q
    exact q
  obtain ⟨c, tl, hmro⟩ := F.called_set.mro
  have hmade := F.called_set.made
  have hsub := F.called_set.sub
  refine wpAny_call (codeAny_of_tree ?_)
  show wpAny _ _ (callAny (.type "set") _) _ _ _
  refine wpAny_pure ⟨Code.quiet_builtin _ (by decide +kernel), codeAny_builtin F.entry_type_call ?_⟩
  rw [Around.under_plain (weight_type_call_type "set" [.ref l] []) rfl]
  have h1 := F.called_set.notType
  have h2 := F.called_set.canCreate
  have hct := F.typeCall_set_1 (.ref l)
  repeat (any_goals (first | assumption | wp_step))
  refine codeAny_mono (code_set_led1 (.ref l) (E := E) (Q₁ := fun obj s₁ => obj = .ref s.heap.objs.size ∧ s₁ = { s with heap := s.heap.push { cls := .type "set", dict := none, data := .set #[] 0 (.fresh 0 0 (!w.params.followText "set-order")) } }) ⟨rfl, rfl⟩) fun r s₁ hr => ?_
  cases r with
  | error e => exact hr
  | ok fl =>
    cases fl with
    | ret obj =>
      obtain ⟨rfl, rfl⟩ := hr
      have hS : (s.heap.push { cls := .type "set", dict := none, data := .set #[] 0 (.fresh 0 0 (!w.params.followText "set-order")) }).get? s.heap.objs.size = some { cls := .type "set", dict := none, data := .set #[] 0 (.fresh 0 0 (!w.params.followText "set-order")) } := Heap.get?_push_size _ rfl
      have hT : Shared.TypeIs { s with heap := s.heap.push { cls := .type "set", dict := none, data := .set #[] 0 (.fresh 0 0 (!w.params.followText "set-order")) } } (.ref s.heap.objs.size) "set" := ⟨_, hS, rfl⟩
      have hli := F.called_set.init.lookup
      have hbi := F.called_set.init.bind (.ref s.heap.objs.size)
      repeat (any_goals (first | assumption | wp_step))
      refine codeAny_mono (codeAny_call_builtin (R := wants (fun r s₂ => r = .none ∧ ∃ h' tk c, s₂ = { s with heap := h', toks := tk } ∧ SetX P w h' s.heap.objs.size c ∧ c.length ≤ ns.length ∧ (∀ z, z ∈ c ↔ z ∈ ns) ∧
          (∀ b o, s.heap.get? b = some o → h'.get? b = some o)) E) F.called_set.init.plain F.entry_set_init (check_set_init_1 hT ?_)) fun r₂ s₂ hr₂ => ?_
      · obtain ⟨ol, hol, hcl, nl, hdl⟩ := hl
        obtain ⟨ocls, odict, odata, oslots⟩ := ol
        simp only at hcl hdl
        subst hcl; subst hdl
        have hol' : (s.heap.push { cls := .type "set", dict := none, data := .set #[] 0 (.fresh 0 0 (!w.params.followText "set-order")) }).get? l = some { cls := .type "list", dict := odict, data := .seq items nl, slots := oslots } := Heap.get?_push_of_some _ hol
        have hsls := F.sub_list_set
        have hslf := F.sub_list_frozenset
        have hne : (Value.type "list" == Value.type "dict") = false := by decide
        have hl1 : (s.heap.push { cls := .type "set", dict := none, data := .set #[] 0 (.fresh 0 0 (!w.params.followText "set-order")) }).IsList l items := ⟨_, hol', rfl, nl, rfl⟩
        unfold Builtin.«set.__init__» noKeywords Builtin.Frozenset.updateFrom
        generalize hPI : pyIter = PI
        wp_walk
        subst hPI
        refine wpAny_pyIter_list hl1 ?_
        refine wpAny_bind (wpAny_runValue ?_)
        have hlS : l < s.heap.objs.size := Heap.lt_size hol
        have hh3 : A.in1.in1.in1.handled = none := by simp [hh]
        have hneI : l ≠ (s.heap.push { cls := .type "set", dict := none, data := .set #[] 0 (.fresh 0 0 (!w.params.followText "set-order")) }).objs.size := by
          rw [Heap.size_push]; exact Nat.ne_of_lt (Nat.lt_succ_of_lt hlS)
        have hSf : s.heap.objs.size ∉ [(s.heap.push { cls := .type "set", dict := none, data := .set #[] 0 (.fresh 0 0 (!w.params.followText "set-order")) }).objs.size, l] := by
          rw [Heap.size_push]; simp only [List.mem_cons, List.mem_singleton, List.not_mem_nil, or_false, not_or]
          exact ⟨Nat.ne_of_lt (Nat.lt_succ_self _), Nat.ne_of_gt hlS⟩
        have hval : ∀ (i : Nat) (v : Value), items[i]? = some v → ∃ k t, ns[i]? = some k ∧ v = .str k t := fun i v hv => by
          have hi : i < ns.length := by rw [← hisz]; exact (Array.getElem?_eq_some_iff.mp hv).1
          obtain ⟨t, e⟩ := SS.strs_at hit i v (by rw [Array.getElem?_toList]; exact hv)
          refine ⟨ns[i], t, List.getElem?_eq_getElem hi, ?_⟩
          rw [e, List.getD_eq_getElem?_getD, List.getElem?_eq_getElem hi] <;> rfl
        refine set_update_strs ((Walks.list hh3 _ l hneI items).toS) s.heap.objs.size
          hSf ns hisz hb hval (items.size - 0) 0 _ (by omega) (Nat.zero_le _)
          ⟨⟨_, Heap.get?_push_size _ rfl, rfl, rfl⟩, (hl1.push _)⟩ ?hS0 ?hR
        case hS0 =>
          have hget : ((s.heap.push { cls := .type "set", dict := none, data := .set #[] 0 (.fresh 0 0 (!w.params.followText "set-order")) }).push { cls := .type "list_iterator", data := .fields #[.ref l, .int 0 0] }).get? s.heap.objs.size
              = some { cls := .type "set", dict := none, data := .set #[] 0 (.fresh 0 0 (!w.params.followText "set-order")) } := Heap.get?_push_of_some _ hS
          exact ⟨[], Nat.le_refl 0, fun z => by simp, setX_new hget⟩
        case hR =>
          intro s' c' hm hc' hmm hS'
          obtain ⟨h', g2, d', tk', os'⟩ := s'
          have eg : g2 = s.gens := hm.gens
          have ed : d' = s.drawn := hm.drawn
          have eo : os' = s.os := hm.os
          subst eg; subst ed; subst eo
          show wpAny _ _ _ _ _ _
          refine wpAny_pure ?_
          show wpAny _ _ (ret Value.none) _ _ _
          rw [hisz] at hc'
          refine wpAny_pure ⟨rfl, h', tk', c', rfl, hS', hc', hmm, fun b o e => ?_⟩
          have hb0 : b < s.heap.objs.size := Heap.lt_size e
          have hb1 : b ≠ s.heap.objs.size := Nat.ne_of_lt hb0
          have hb2 : b ≠ (s.heap.push { cls := .type "set", dict := none, data := .set #[] 0 (.fresh 0 0 (!w.params.followText "set-order")) }).objs.size := by
            rw [Heap.size_push]; exact Nat.ne_of_lt (Nat.lt_succ_of_lt hb0)
          exact hm.heap b o (by simp only [List.mem_cons, List.mem_singleton, List.not_mem_nil, or_false, not_or]; exact ⟨hb1, hb2⟩) (Heap.get?_push_of_some _ (Heap.get?_push_of_some _ e))
      · cases r₂ with
        | error e => exact hr₂
        | ok fl₂ =>
          cases fl₂ with
          | ret r =>
            obtain ⟨rfl, h', tk, c', rfl, hS', hc', hmm, hk'⟩ := hr₂
            repeat (any_goals (first | assumption | wp_step))
            exact h _ _ _ hS' hc' hmm hk'
          | _ => exact hr₂.elim
    | _ => exact hr.elim
theorem perm_of_sub {α : Type} [DecidableEq α] : ∀ {l m : List α}, l.Nodup → (∀ x ∈ l, x ∈ m) → m.length = l.length → m.Perm l
  | [], m, _, _, h => by
    rw [List.length_nil, List.length_eq_zero_iff] at h
    rw [h]
  | x :: l, m, nd, hs, h => by
    have hx := hs x List.mem_cons_self
    obtain ⟨h1, h2⟩ := List.nodup_cons.mp nd
    have p := List.perm_cons_erase hx
    refine p.trans ((perm_of_sub h2 (fun y hy => ?_) ?_).cons x)
    · have : y ≠ x := fun e => h1 (e ▸ hy)
      exact (List.mem_erase_of_ne this).mpr (hs y (List.mem_cons_of_mem _ hy))
    · have := p.length_eq
      rw [List.length_cons] at this h
      omega
/-- sorted(set) -/
theorem sorted_setX {Q : Value → Shared → Prop} (R : SetX P w s.heap a l) (hh : A.handled = none) (h64 : l.length < 64)
    (hQ : ∀ s' p (out : Array Value) (c : Nat) (zs : List Str), (∀ b o, s.heap.get? b = some o → s'.heap.get? b = some o) → s'.gens = s.gens → s'.os = s.os → s.heap.objs.size ≤ p →
      s'.heap.get? p = some (seqObj "list" out c) → StrsAre out.toList zs → zs.Perm l → sortedS zs = true → Q (.ref p) s') :
    wpAny (model P w) A (call (.builtin "sorted") [.ref a]) Q E s := by
  obtain ⟨⟨es, ep, t⟩, ho, F, r, hl, nd⟩ := R
  have hel : ElemsOf (PySem.strKind P w) es.toList := F.el
  have hsz : es.size = l.length := F.sz
  have hf : t.fits es.size = true := F.fit
  have hmem : ∀ k : Str, k ∈ l ↔ ∃ e ∈ es.toList, (PySem.strKind P w).is k e.2 = true := F.mem
  have hr : Ris t.place.toList := r
  have hl' : w.params.followText "set-order" = true ∨ t.led = true := hl
  refine Calls.call_function_entry kind_sorted plain_sorted entry_sorted (args_sorted1 _) ?_
  unfold Builtin.«sorted»
  refine wpAny_bind (m := checkCount "sorted" 1 1 _) (wpAny_pure ?_)
  refine wpAny_bind (collect_set (A := A.in1) hh ⟨_, ho, rfl, rfl⟩ hf (by rw [hsz]; unfold scanBound; omega) hr hl' fun s1 vs k1 hz g1 o1 pm => ?_)
  have hvl : vs.length = l.length := by rw [pm.length_eq, List.length_map, Array.length_toList]; exact hsz
  have hst : ∀ v ∈ vs, ∃ x t, v = Value.str x t := fun v hv => by
    obtain ⟨e, he, q⟩ := List.mem_map.mp (pm.mem_iff.mp hv)
    obtain ⟨⟨k, hk, _⟩, _⟩ := hel e he
    obtain ⟨t, ht⟩ := Value.isStrOf_shape (show Value.isStrOf k e.2 = true from hk)
    exact ⟨k, t, by rw [← q]; exact ht⟩
  have hS := strsAre_map vs hst
  have pl : (vs.map strOf).Perm l := by
    refine perm_of_sub nd (fun z hz => ?_) (by rw [List.length_map, hvl])
    obtain ⟨e, he, q⟩ := (hmem z).mp hz
    obtain ⟨t, ht⟩ := Value.isStrOf_shape (show Value.isStrOf z e.2 = true from q)
    refine List.mem_map.mpr ⟨e.2, pm.mem_iff.mpr (List.mem_map.mpr ⟨e, he, rfl⟩), ?_⟩
    rw [ht]; rfl
  refine wpAny_bind (wpAny_newList ?_ (by rw [hvl, sizeLine_eq]; omega))
  have hoL : (s1.heap.push (seqObj "list" vs.toArray 0)).get? s1.heap.objs.size = some (seqObj "list" vs.toArray 0) := Heap.get?_push_size _ rfl
  refine wpAny_bind (wpAny_holding (wpAny_call_entry slot_list_sort ⟨_, hoL, rfl⟩ entry_list_sort (list_sort_treeK strKind_oneLt hoL hS.keysOf (fun v₁ v₂ rest e => keyKind_strs (by rw [← e]; exact hS)) (by rw [hvl]; exact h64) fun st' hp hs => ⟨_, rfl, ?_⟩) (args_list_sort _)))
  obtain ⟨zs, a1, a2, a3⟩ := sorted_out_str hS hp hs
  obtain ⟨c, hc⟩ := sortedHeap_at (vs := vs) (out := (arrOf st').map (·.2)) hoL
  refine wpAny_pure ⟨_, rfl, hQ _ s1.heap.objs.size _ c zs (fun b u e => ?_) g1 o1 hz hc a1 (a2.trans pl) a3⟩
  have q := k1 b u e
  have hlt := Heap.lt_size q
  show (sortedHeap (s1.heap.push (seqObj "list" vs.toArray 0)) s1.heap.objs.size vs _).get? b = some u
  rw [sortedHeap_old (Nat.ne_of_lt hlt) (by rw [size_push']; exact Nat.lt_succ_of_lt hlt)]
  exact Heap.get?_push_of_some _ q
end
/-! ### as rules -/
def SetXO (P : Program) (w : World) (a : Addr) (l : List Str) : HO := .ext fun h => SetX P w h a l
theorem setXO_new {w : World} {P : Program} {H : Hp} {h : Heap} {a : Addr} {l : List Str} (R : SetX P w h a l) : ObjOk P w H h a (SetXO P w a l) := by
  have ⟨D, ho, _⟩ := R
  exact ⟨R, ⟨_, ho⟩, fun h1 h2 p k => SetX.at p k⟩
section
variable {X : Cx} {M : List Addr} {σ : L2.St} {H : Hp} {a : Expr} {p p2 pos pos2 : Pos}
/-- set(xs) -/
def rSetX (K : PySem.W.Frag) (P : Program) (w : World) : List V → Hp → VK → Prop := fun xs H Q => ∃ (l : Addr) (ys : List Str), xs = [V.ref l] ∧ SqL K H l (ys.map V.str) ∧ ys.length < 64 ∧
  ∀ a zs, H a = none → zs.length ≤ ys.length → (∀ z, z ∈ zs ↔ z ∈ ys) → zs.Nodup → Q (.ref a) (upd H a (SetXO P w a zs))
theorem cr_setX (hc : X.calm = true) : CallR X (.type "set") (rSetX X.K X.prog X.w) := by
  intro pins s σ H xs us Q I r h
  obtain ⟨l, ys, rfl, hl, hf, q⟩ := h
  rw [Vals.ref1 r]
  obtain ⟨its, rv, pl, hz⟩ := I.list hl
  have hn : H s.heap.objs.size = none := I.hok.fresh (Nat.le_refl _)
  refine call_set_listX (P := X.prog) (w := X.w) ys (I.ok.hd hc) pl.isList (by simpa using rv.strs) (by unfold scanBound; omega) fun h' tk c R hlc hm k => ?_
  exact ⟨.ref s.heap.objs.size, upd H s.heap.objs.size (SetXO X.prog X.w s.heap.objs.size c), I.laid (t' := tk) k (Nat.le_refl _) (setXO_new R), rfl, q _ c hn hlc hm R.choose_spec.2.2.2.2⟩
/-- sorted(set) -/
def rSortedX (P : Program) (w : World) : List V → Hp → VK → Prop := fun vs H Q => ∃ (a : Addr) (l : List Str), vs = [V.ref a] ∧ H a = some (SetXO P w a l) ∧ l.length < 64 ∧
  ∀ (zs : List Str) (p : Addr), zs.Perm l → sortedS zs = true → H p = none → Q (.ref p) (upd H p (.lst (zs.map V.str)))
theorem cr_sortedX (hc : X.calm = true) : CallR X (.builtin "sorted") (rSortedX X.prog X.w) := by
  intro pins s σ H vs us Q I r h
  obtain ⟨a, l, rfl, ha, h64, q⟩ := h
  have R : SetX X.prog X.w s.heap a l := (I.hok a _ ha).1
  rw [Vals.ref1 r]
  refine sorted_setX R (I.ok.hd hc) h64 fun s' p out c zs k g o hp hg hi pm hs => ?_
  have hlen : (zs.map V.str).length ≤ sizeLine := by rw [List.length_map, pm.length_eq, sizeLine_eq]; omega
  have hn : H p = none := I.hok.fresh hp
  have J : Inv X pins σ (upd H p (.lst (zs.map V.str))) { s with heap := s'.heap, gens := s'.gens, drawn := s'.drawn, toks := s'.toks } :=
    I.call (ch := []) (Un.laid k hp hn) (I.hok.laid k hp ⟨hlen, out.toList, c, vals_of_strs hi, hg⟩) (by rw [g]; exact I.bare) (fun _ z => nomatch z)
  have e : s' = { s with heap := s'.heap, gens := s'.gens, drawn := s'.drawn, toks := s'.toks } := by
    cases s'
    cases s
    cases o
    rfl
  rw [e]
  exact ⟨.ref p, _, J, rfl, q zs p pm hs hn⟩
/-- each once -/
def ddS : List Str → List Str
  | [] => []
  | y :: ys => if y ∈ ys then ddS ys else y :: ddS ys
theorem mem_ddS {z : Str} : ∀ {ys : List Str}, z ∈ ddS ys ↔ z ∈ ys
  | [] => Iff.rfl
  | y :: ys => by
    unfold ddS
    by_cases h : y ∈ ys
    · rw [if_pos h, mem_ddS, List.mem_cons]
      exact ⟨.inr, fun q => q.elim (fun e => e ▸ h) id⟩
    · rw [if_neg h, List.mem_cons, List.mem_cons, mem_ddS]
theorem nd_ddS : ∀ ys : List Str, (ddS ys).Nodup
  | [] => List.nodup_nil
  | y :: ys => by
    unfold ddS
    by_cases h : y ∈ ys
    · rw [if_pos h]; exact nd_ddS ys
    · rw [if_neg h]; exact List.nodup_cons.mpr ⟨fun q => h (mem_ddS.mp q), nd_ddS ys⟩
theorem ddS_le : ∀ ys : List Str, (ddS ys).length ≤ ys.length
  | [] => Nat.le_refl _
  | y :: ys => by
    have := ddS_le ys
    unfold ddS
    by_cases h : y ∈ ys
    · rw [if_pos h, List.length_cons]; omega
    · rw [if_neg h, List.length_cons, List.length_cons]; omega
theorem ddS_nd : ∀ {ys : List Str}, ys.Nodup → ddS ys = ys
  | [], _ => rfl
  | y :: ys, h => by
    obtain ⟨h1, h2⟩ := List.nodup_cons.mp h
    unfold ddS
    rw [if_neg h1, ddS_nd h2]
theorem sx_perm {zs ys : List Str} (nd : zs.Nodup) (hm : ∀ z, z ∈ zs ↔ z ∈ ys) : zs.Perm (ddS ys) :=
  (List.perm_ext_iff_of_nodup nd (nd_ddS ys)).mpr fun z => (hm z).trans mem_ddS.symm
/-- sorted(set(xs)) of texts: each once, ascending -/
abbrev ascS (ys : List Str) : List Str := sortS (ddS ys)
theorem jd_sortedSet {ys : List Str} (hc : X.calm = true) (hm : X.mg "sorted" = none) (hm2 : X.mg "set" = none) (ha : Jd X M a σ H (.list (ys.map PyData.str))) (hz : ys.length < 64) (hg : Gl X "sorted" := by rfl) (hg2 : Gl X "set" := by rfl)
    (hs : starEach [a] X.env = (false, eval a X.env) :: starEach [] X.env := by rfl)
    (hs2 : starEach [.Call (.Name "set" p2) [a] [] pos2] X.env = (false, eval (.Call (.Name "set" p2) [a] [] pos2) X.env) :: starEach [] X.env := by rfl)
    (hpl : (backTo pos (starEach [] X.env)).any (·.1) = false := by rfl) (hpl2 : (backTo pos2 (starEach [] X.env)).any (·.1) = false := by rfl) :
    Jd X M (.Call (.Name "sorted" p) [.Call (.Name "set" p2) [a] [] pos2] [] pos) σ H (.list ((ascS ys).map PyData.str)) := fun al H1 x Q q =>
  leW (pe_callB (cr_sortedX hc) hg hm (by decide +kernel) (pa_cons (pe_callTy (cr_setX hc) hg2 hm2 (by decide +kernel) (pa_cons pe_W pa_nil hs) (by decide) (by decide) hs hpl2) pa_nil hs2) (by decide) (by decide) hs2 hpl)
    (ha al H1 x _ fun v H2 y r => by
      obtain ⟨t, xs, e1, e2, e3⟩ := dLst r
      refine ⟨t, ys, by rw [e1], by rw [← dpStrsV e3]; exact ex_l hid_le e2, hz, fun a2 l hn hl hmm nd => ⟨a2, l, rfl, upd_same, by omega, fun zs p3 pm so hn3 => ?_⟩⟩
      have e : zs = ascS ys := sortS_eq (pm.trans (sx_perm nd hmm)) so
      subst e
      have y1 : Ex H1 (upd H2 a2 (SetXO X.prog X.w a2 l)) := y.trans (Ex.new hn)
      have y2 : Ex H1 (upd (upd H2 a2 (SetXO X.prog X.w a2 l)) p3 (.lst ((ascS ys).map V.str))) := y1.trans (Ex.new hn3)
      exact q _ _ y2 (.lst (SqL.of ((al.ex (x.trans y1)).newEx hn3)) (dpStrs _)))
end
end J

set_option maxHeartbeats 4000000
/-! J69: name = {k: v for tg in iter}, its length, the list of its keys. -/
namespace J
open PySem PySem.Spec PyProof.Rows L2 Evl RZ
theorem ps_setDc {X : Cx} {i : Nat} {y : Str} {py : Pos} {kx vx tg iter : Expr} {ifs : List Expr} {scope : Scope} {own : List (Str × Nat)} {pos spos : Pos} {wi : TI} {g : TG} {tt : TT} {tk tv : TE} (hc : X.calm = true) (hN : X.N.Nodup) (hy : X.N[i]? = some y) (hyl : X.env.scope.names.lookup y = some .local)
    (hsw : swapsWith (.DictComp kx vx [⟨tg, iter, ifs, 0⟩] scope pos) (some (.Name y py)) spos.line X.env = pure true) (hi : PI X tg iter wi) (ok : BlkOk X.N X.env.scope scope own)
    (hg : ∀ (s : Shared) (H : Hp) (C : Addr) (cl : List (Str × Addr)) (fp : List Addr), PG (X.blk s H scope (compEnvC scope cl C X.env) fp) tg g) (ht : ∀ (s : Shared) (H : Hp) (C : Addr) (cl : List (Str × Addr)) (fp : List Addr), PTs (X.blk s H scope (compEnvC scope cl C X.env) fp) ifs tt)
    (hk : ∀ (s : Shared) (H : Hp) (C : Addr) (cl : List (Str × Addr)) (fp : List Addr), PE (X.blk s H scope (compEnvC scope cl C X.env) fp) kx tk)
    (he : ∀ (s : Shared) (H : Hp) (C : Addr) (cl : List (Str × Addr)) (fp : List Addr), PE (X.blk s H scope (compEnvC scope cl C X.env) fp) vx tv) (hs : ∀ x, foldedSetIterable iter X.env x = pure x := by intro _; rfl) :
    PS X (.Assign [.Name y py] (.DictComp kx vx [⟨tg, iter, ifs, 0⟩] scope pos) spos) (tAsg (tDc wi g tt tk tv (own.map (·.2))) (gName i)) := by
  refine ⟨fun pins s σ H D I h => ?_⟩
  rw [exec_Assign_Name_used _ _ _ _ hsw]
  refine wpAny_bind (wpAny_standAt (wpAny_bind ?_))
  show wpAny _ X.A (do let _ ← comprehension (.DictComp kx vx [⟨tg, iter, ifs, 0⟩] scope pos) scope X.env (firstIterPos [⟨tg, iter, ifs, 0⟩] pos) newDict false (eval iter X.env) (some (assign (.Name y py) X.env))) _ _ s
  have h : tDc wi g tt tk tv (own.map (·.2)) σ H (fun x H1 => gName i x σ H1 D.nx) := h
  refine wpAny_bind (thn (dc_core (Qf := fun _ s' => SP X pins D .next s') hc hN I hi ok hg ht hk he hs h fun L C s' m H' I' q hn f => ?_) fun _ s' hq => wpAny_pure (wpAny_pure hq))
  show wpAny _ _ (assign (.Name y py) X.env (.ref L)) _ _ _
  refine wpAny_assign_Name (store_ok2 (v := V.ref L) I' hN hy (.inl hyl) rfl (fun s2 I2 ⟨a, sb, ha⟩ => ?_) (.inr hyl))
  obtain ⟨f0, f1, f2, f3, f4, f5⟩ := f
  have haC : C ≠ a := by
    rcases ha with z | z
    · rw [z]; exact f1
    · exact fun e => f4 y a z e.symm
  refine ⟨m, hn.sameBut sb haC, fun h3 sb3 => ?_⟩
  exact ⟨_, H', I2.turned (t' := s2.toks) (fun b o hb e => (sb3.2 b hb).trans e) f0 f1 f3 f4 f5, q⟩
theorem dc_it {J : It} {n : Nat} {G : Hp → Prop} {Y : Nat → Hp → V → Hp → Prop} (w : Walk J n G Y) {g : TG} {tt : TT} {tk tv : TE} {vs : List Nat} {σ : L2.St} {H1 : Hp} {D : Addr} {Qd : Hp → Prop} (Pv : Nat → Hp → Prop) (h0 : Pv 0 (L2.upd H1 D (.dK []))) (hG : ∀ i H, i ≤ n → Pv i H → G H)
    (hs : ∀ i x H H', i < n → Pv i H → Y i H x H' → g x (L2.wipe σ vs) H' fun σ2 H2 => L2.wipe σ2 vs = L2.wipe σ vs ∧ tt σ2 H2 fun b H3 =>
      if b = true then tk σ2 H3 fun y H4 => tv σ2 H4 fun z H5 => ∃ kvs k, y = kV k ∧ H5 D = some (.dK kvs) ∧ kvs.length < sizeLine ∧ Pv (i + 1) (L2.upd H5 D (.dK (putK kvs k z))) else Pv (i + 1) H3) (hd : ∀ H, Pv n H → Qd H) :
    ∃ W : Nat → Nat → Hp → Prop, (∃ m, W 0 m (L2.upd H1 D (.dK []))) ∧ ∀ i m H, W i m H →
      (J.stop i H ∧ Qd H) ∨ (J.go i H ∧ ∃ Nx : Hp → Prop, (∀ H', Nx H' → ∃ m', m' < m ∧ W (i + 1) m' H') ∧ ∀ x H', J.yld i H x H' → g x (L2.wipe σ vs) H' fun σ2 H2 => L2.wipe σ2 vs = L2.wipe σ vs ∧ tt σ2 H2 fun b H3 =>
        if b = true then tk σ2 H3 fun y H4 => tv σ2 H4 fun z H5 => ∃ kvs k, y = kV k ∧ H5 D = some (.dK kvs) ∧ kvs.length < sizeLine ∧ Nx (L2.upd H5 D (.dK (putK kvs k z))) else Nx H3) := by
  refine ⟨fun i m H => m = n - i ∧ i ≤ n ∧ Pv i H, ⟨n, by simp, Nat.zero_le _, h0⟩, ?_⟩
  rintro i m H ⟨rfl, hi, p⟩
  have q := hG i H hi p
  by_cases hlt : i < n
  · refine .inr ⟨w.goes i H hlt q, Pv (i + 1), fun H' p' => ⟨n - (i + 1), by omega, rfl, hlt, p'⟩, fun x H' y => hs i x H H' hlt p (w.yields i H x H' hlt q y)⟩
  · have e : i = n := by omega
    subst e
    exact .inl ⟨w.stops H q, hd H p⟩
/-- {k: True for k in ks} -/
def dkS (ks : List Int) : List (Key × Sv) := ks.foldl (fun m k => putS m (.inl k) (.dat (.bool true))) []
theorem dkS_snoc (ks : List Int) (k : Int) : dkS (ks ++ [k]) = putS (dkS ks) (.inl k) (.dat (.bool true)) := by
  unfold dkS
  rw [List.foldl_append]
  rfl
theorem putS_le {κ : Type} [DecidableEq κ] (m : List (κ × Sv)) (k : κ) (s : Sv) : (putS m k s).length ≤ m.length + 1 := by
  unfold putS
  split
  · rw [List.length_map]; omega
  · rw [List.length_append]; exact Nat.le_refl _
theorem fold_put_le : ∀ (ks : List Int) (m : List (Key × Sv)), (ks.foldl (fun m k => putS m (.inl k) (.dat (.bool true))) m).length ≤ m.length + ks.length
  | [], m => by simp
  | k :: ks, m => by
    have h1 := fold_put_le ks (putS m (.inl k) (.dat (.bool true)))
    have h2 := putS_le m (.inl k) (.dat (.bool true))
    rw [List.foldl_cons, List.length_cons]
    omega
theorem dkS_le (ks : List Int) : (dkS ks).length ≤ ks.length := by
  have := fold_put_le ks []
  unfold dkS
  simpa using this
section
variable {X : Cx} {B H : Hp} {M0 : List Addr} {ρ : Ro} {μ : Mu} {σ : L2.St} {pos p : Pos} {tg iter kx vx elt e : Expr} {scope : Scope} {own : List (Str × Nat)} {js : List Nat} {α : Type} {rest : List Stmt} {D' : Ends} {a : Addr} {kvs : List (Key × Sv)} {ks : List Int}
theorem dc_tree (S : Sy X.K B M0 ρ μ σ H) {g : α → D} {xs : List α} (hw : Jw X (adr M0 μ) tg iter σ H (xs.map g)) (h : α → Int) (hz : xs.length ≤ 90000) (f : D → Ro → Ro) (hjs : ∀ j ∈ js, j ∈ own.map (·.2))
    (hg : ∀ X' x, Blk X scope X' → x ∈ xs → Jg X' tg js (g x) (wip ρ (own.map (·.2))) (f (g x) (wip ρ (own.map (·.2)))))
    (hk : ∀ (i : Nat) (x : α) X' B' M' μ' σ' H', xs[i]? = some x → Blk X scope X' → Sy X'.K B' M' (f (g x) (wip ρ (own.map (·.2)))) μ' σ' H' → Jd X' (adr M' μ') kx σ' H' (.int (h x)))
    (hv : ∀ (i : Nat) (x : α) X' B' M' μ' σ' H', xs[i]? = some x → Blk X scope X' → Sy X'.K B' M' (f (g x) (wip ρ (own.map (·.2)))) μ' σ' H' → Jd X' (adr M' μ') vx σ' H' (.bool true))
    {Q : VK} (k : ∀ a H', Sy X.K B M0 ρ ((a, .dct (dkS (xs.map h))) :: μ) σ H' → Q (.ref a) H') :
    tDc (tI X tg iter) (tGb X scope tg) (tTsb X scope []) (tWb X scope kx) (tWb X scope vx) (own.map (·.2)) σ H Q := by
  refine hw S.all H (Ex.refl H) _ fun Jt2 H2 x2 yl Dl hD => ?_
  have S2 := S.ex x2
  obtain ⟨G, Y, w, hG, hY⟩ := yl
  let Pv : Nat → Hp → Prop := fun i H' => Sy X.K (J.grd μ H2) M0 ρ (μ ++ [(Dl, .dct (dkS ((xs.take i).map h)))]) σ H'
  have low : hid M0 (J.grd μ H2) = hid (adr M0 μ) H2 := grd_low
  have S0 : Sy X.K (J.grd μ H2) M0 ρ (μ ++ [(Dl, .dct (dkS []))]) σ (L2.upd H2 Dl (.dK [])) := (S2.grd.newN (.dct []) (Ex.new hD) hD ⟨[], upd_same, .nil⟩).perm (List.perm_append_comm (l₁ := μ) (l₂ := [_]))
  refine dc_it w Pv S0 (fun i H' hi p => hG H' ?_) (fun i x H' H3 hi S' y => ?_) (fun H' p => ?_)
  · have S' : Sy X.K (J.grd μ H2) M0 ρ (μ ++ [(Dl, .dct (dkS ((xs.take i).map h)))]) σ H' := p
    rw [← low]; exact S'.low.trans hid_le
  · have S' : Sy X.K (J.grd μ H2) M0 ρ (μ ++ [(Dl, .dct (dkS ((xs.take i).map h)))]) σ H' := S'
    have g0 : Ex (hid (adr M0 μ) H2) (hid (adr M0 (μ ++ [(Dl, .dct (dkS ((xs.take i).map h)))])) H') := by rw [← low]; exact S'.low
    obtain ⟨x3, dx⟩ := hY i H' x H3 hi (g0.trans hid_le) y
    have hi' : i < xs.length := by rw [List.length_map] at hi; exact hi
    have hxi : xs[i]? = some xs[i] := List.getElem?_eq_getElem hi'
    have hdi : (xs.map g)[i]? = some (g xs[i]) := by rw [List.getElem?_map, hxi]; rfl
    have q := dx _ S'.all g0 _ hdi
    have S3 := S'.ex x3
    have S3w := S3.wipe (own.map (·.2))
    intro X' hX
    have eK : X'.K = X.K := by obtain ⟨_, _, _, _, _, rfl⟩ := hX; rfl
    refine hg X' xs[i] hX (List.getElem_mem hi') _ _ _ _ _ _ (by rw [eK]; exact S3w) (by rw [eK]; exact q) _ fun σ4 S4 l4 o4 => ⟨?_, ?_⟩
    · rw [wipe_eq (vs := own.map (·.2)) l4 fun j hj => o4 j fun z => hj (hjs j z)]
      exact wipe_eq (wipe_length _ _) fun j hj => wipe_out hj
    · intro X2 hX2
      have eK2 : X2.K = X'.K := by obtain ⟨_, _, _, _, _, rfl⟩ := hX2; exact eK.symm
      refine jts_nil (M := adr M0 (μ ++ [(Dl, .dct (dkS ((xs.take i).map h)))])) S4.all H3 (Ex.refl H3) _ fun H5 x5 => ?_
      have S5 := S4.ex x5
      have S35 := S3.ex x5
      rw [if_pos rfl]
      intro X3 hX3
      have eK3 : X3.K = X2.K := by obtain ⟨_, _, _, _, _, rfl⟩ := hX3; exact eK.symm.trans eK2.symm
      have eKK : X3.K = X'.K := eK3.trans eK2
      have S5' : Sy X3.K (J.grd μ H2) M0 (f (g xs[i]) (wip ρ (own.map (·.2)))) (μ ++ [(Dl, .dct (dkS ((xs.take i).map h)))]) σ4 H5 := by rw [eKK]; exact S5
      refine hk i xs[i] X3 _ _ _ σ4 H5 hxi hX3 S5' S5'.all H5 (Ex.refl H5) _ fun v H6 x6 pv => ?_
      intro X4 hX4
      have eK4 : X4.K = X3.K := by obtain ⟨_, _, _, _, _, rfl⟩ := hX4; obtain ⟨_, _, _, _, _, rfl⟩ := hX3; rfl
      have S6 : Sy X4.K (J.grd μ H2) M0 (f (g xs[i]) (wip ρ (own.map (·.2)))) (μ ++ [(Dl, .dct (dkS ((xs.take i).map h)))]) σ4 H6 := by rw [eK4]; exact S5'.ex x6
      refine hv i xs[i] X4 _ _ _ σ4 H6 hxi hX4 S6 S6.all H6 (Ex.refl H6) _ fun v2 H7 x7 pv2 => ?_
      have S7 := (S35.ex x6).ex x7
      have hil : (μ ++ [(Dl, Mo.dct (dkS ((xs.take i).map h)))])[μ.length]? = some (Dl, .dct (dkS ((xs.take i).map h))) := by simp
      obtain ⟨vs, a1, a2⟩ := S7.own hil
      have hl1 := paired_len a2
      have hl2 := dkS_le ((xs.take i).map h)
      rw [List.length_map, List.length_take] at hl2
      refine ⟨vs, .inl (h xs[i]), dInt pv, a1, sz_lt (by omega), ?_⟩
      have hb : (Sv.dat (.bool true)).holds X.K (hid (adr M0 (μ ++ [(Dl, .dct (dkS ((xs.take i).map h)))])) H7) v2 := by
        have e : X4.K = X.K := (eK4.trans eKK).trans eK
        rw [← e]; exact pv2
      have S8 := S7.upd (.dct (putS (dkS ((xs.take i).map h)) (.inl (h xs[i])) (.dat (.bool true)))) (o := .dK (putK vs (.inl (h xs[i])) v2)) hil ⟨_, upd_same, prk_put hb a2⟩
      have e1 : (μ ++ [(Dl, Mo.dct (dkS ((xs.take i).map h)))]).set μ.length (Dl, .dct (putS (dkS ((xs.take i).map h)) (.inl (h xs[i])) (.dat (.bool true)))) = μ ++ [(Dl, .dct (dkS ((xs.take (i + 1)).map h)))] := by
        rw [List.take_add_one, hxi, List.map_append]
        show _ = μ ++ [(Dl, Mo.dct (dkS ((xs.take i).map h ++ [h xs[i]])))]
        rw [dkS_snoc]
        simp
      rw [e1] at S8
      exact S8
  · have S' : Sy X.K (J.grd μ H2) M0 ρ (μ ++ [(Dl, .dct (dkS ((xs.take (xs.map g).length).map h)))]) σ H' := p
    rw [List.length_map, List.take_length] at S'
    exact k Dl H' ((S'.base S2.grdB).perm (List.perm_append_comm (l₁ := [_]) (l₂ := μ)))
/-- name = {kx: True for tg in iter}, keys ints -/
theorem sy_setDc (n : Nat) {y : Str} {py spos : Pos} (S : Sy X.K B M0 ρ μ σ H) {g : α → D} {xs : List α} (hw : Jw X (adr M0 μ) tg iter σ H (xs.map g)) (h : α → Int) (hz : xs.length ≤ 90000) (f : D → Ro → Ro) (hjs : ∀ j ∈ js, j ∈ own.map (·.2))
    (hg : ∀ X' x, Blk X scope X' → x ∈ xs → Jg X' tg js (g x) (wip ρ (own.map (·.2))) (f (g x) (wip ρ (own.map (·.2)))))
    (hk : ∀ (i : Nat) (x : α) X' B' M' μ' σ' H', xs[i]? = some x → Blk X scope X' → Sy X'.K B' M' (f (g x) (wip ρ (own.map (·.2)))) μ' σ' H' → Jd X' (adr M' μ') kx σ' H' (.int (h x)))
    (hv : ∀ (i : Nat) (x : α) X' B' M' μ' σ' H', xs[i]? = some x → Blk X scope X' → Sy X'.K B' M' (f (g x) (wip ρ (own.map (·.2)))) μ' σ' H' → Jd X' (adr M' μ') vx σ' H' (.bool true))
    (ok : BlkOk X.N X.env.scope scope own) (hc : X.calm = true) (hN : X.N.Nodup)
    (k : ∀ a H', Sy X.K B M0 (ρ.set n (some (.val (.ref a)))) ((a, .dct (dkS (xs.map h))) :: μ) (σ.set n (some (.ref a))) H' → tB X rest D' (σ.set n (some (.ref a))) H')
    (hy : X.N[n]? = some y := by rfl) (hyl : X.env.scope.names.lookup y = some .local := by rfl) (hsw : swapsWith (.DictComp kx vx [⟨tg, iter, [], 0⟩] scope pos) (some (.Name y py)) spos.line X.env = pure true := by rfl) (hs : ∀ x, foldedSetIterable iter X.env x = pure x := by intro _; rfl) :
    tB X (.Assign [.Name y py] (.DictComp kx vx [⟨tg, iter, [], 0⟩] scope pos) spos :: rest) D' σ H :=
  tB_cons (ps_setDc (own := own) (g := tGb X scope tg) (tt := tTsb X scope []) (tk := tWb X scope kx) (tv := tWb X scope vx) hc hN hy hyl hsw pi_I ok (fun s H C cl fp => ⟨fun pins s' σ' H' v u Q' I r h => h _ ⟨s, H, C, cl, fp, rfl⟩ pins s' u I r⟩)
    (fun s H C cl fp => ⟨fun pins s' σ' H' Q' I h => h _ ⟨s, H, C, cl, fp, rfl⟩ pins s' I⟩) (fun s H C cl fp => ⟨fun pins s' σ' H' Q' I h => h _ ⟨s, H, C, cl, fp, rfl⟩ pins s' I⟩) (fun s H C cl fp => ⟨fun pins s' σ' H' Q' I h => h _ ⟨s, H, C, cl, fp, rfl⟩ pins s' I⟩) hs)
    (dc_tree S hw h hz f hjs hg hk hv fun a H' S' => k a H' (S'.set n (s := .val (.ref a)) rfl))
/-- len(d), d one's own dict -/
theorem jd_lenK (S : Sy X.K B M0 ρ μ σ H) {i : Nat} (hm : X.mg "len" = none) (he : Jv X e σ H (.ref a)) (hi : μ[i]? = some (a, .dct kvs)) (hg : Gl X "len" := by rfl) (hs : starEach [e] X.env = (false, eval e X.env) :: starEach [] X.env := by rfl) (hpl : (backTo pos (starEach [] X.env)).any (·.1) = false := by rfl) :
    Jd X (adr M0 μ) (.Call (.Name "len" p) [e] [] pos) σ H (.int kvs.length) := fun al H1 x Q q =>
  leW (pe_callB call_lenD hg hm (by decide +kernel) (pa_cons pe_W pa_nil hs) (by decide) (by decide) hs hpl) (he H1 x _ fun H2 y => by
    obtain ⟨vs, h1, h2⟩ := S.own hi
    refine ⟨a, vs, rfl, y _ _ (x _ _ h1), q _ H2 y ?_⟩
    rw [← paired_len h2]
    exact .int _)
theorem Sy.lock {m : Mo} (S : Sy X.K B M0 ρ ((a, m) :: μ) σ H) (u : HO) : Sy X.K B M0 ρ μ σ (L2.upd H a u) := by
  have na : a ∉ adr M0 μ := fun z => by
    rcases List.mem_append.mp z with z | z
    · exact (List.nodup_cons.mp S.dj.1).1 z
    · exact S.dj.2 _ List.mem_cons_self z
  have ee : Ex (hid (adr M0 ((a, m) :: μ)) H) (hid (adr M0 μ) (L2.upd H a u)) := fun b o q => by
    by_cases hb : b ∈ adr M0 ((a, m) :: μ)
    · rw [hid_in hb] at q; cases q
    · have hb1 : b ≠ a := fun z => hb (by rw [z]; exact List.mem_cons_self)
      have hb2 : b ∉ adr M0 μ := fun z => hb (List.mem_cons_of_mem _ z)
      rw [hid_out hb] at q
      rw [hid_out hb2, upd_ne hb1]; exact q
  refine ⟨fun i s h => let ⟨v, h1, h2⟩ := S.sl i s h; ⟨v, h1, h2.ex ee⟩, S.ln, fun q hq => ?_, fun b hb z => ?_, fun b o q => ?_, fun q hq => S.nb _ (List.mem_cons_of_mem _ hq), (List.nodup_cons.mp S.dj.1).2, fun q hq => S.dj.2 _ (List.mem_cons_of_mem _ hq)⟩
  · refine (S.ob _ (List.mem_cons_of_mem _ hq)).mono ee (upd_ne fun z => na ?_)
    rw [← z]; exact List.mem_append_left _ (List.mem_map.mpr ⟨q, hq, rfl⟩)
  · have hb1 : b ≠ a := fun z => na (by rw [← z]; exact List.mem_append_right _ hb)
    rw [upd_ne hb1] at z
    exact S.al b hb z
  · have hb1 : b ≠ a := fun z => by
      have := S.nb _ List.mem_cons_self
      rw [z] at q
      exact absurd (q.symm.trans this) (by simp)
    rw [upd_ne hb1]; exact S.bs b o q
theorem kV_ints {kvs : List (Key × Sv)} {vs : List (Key × V)} {G : Hp} {K : PySem.W.Frag} (h : Paired (PrK K G) kvs vs) : vs.map (·.1) = kvs.map (·.1) := by
  induction h with
  | nil => rfl
  | cons h1 h2 ih => rw [List.map_cons, List.map_cons, ih, h1.1]
/-- [y for y in d], d one's own dict with ints as keys, the one made last -/
theorem jd_keysL (S : Sy X.K B M0 ρ ((a, .dct kvs) :: μ) σ H) (he : ∀ H, Jv X e σ H (.ref a)) (hkv : kvs.map (·.1) = ks.map Sum.inl) (hz : ks.length ≤ 90000) (f : D → Ro → Ro) (hjs : ∀ j ∈ js, j ∈ own.map (·.2))
    (hg : ∀ X' d, Blk X scope X' → Jg X' tg js d (wip ρ (own.map (·.2))) (f d (wip ρ (own.map (·.2)))))
    (hel : ∀ (d : D) X' B' M' μ' σ' H', Blk X scope X' → Sy X'.K B' M' (f d (wip ρ (own.map (·.2)))) μ' σ' H' → Jd X' (adr M' μ') elt σ' H' d)
    (ok : BlkOk X.N X.env.scope scope own) (hc : X.calm = true) (hN : X.N.Nodup) (hs : ∀ x, foldedSetIterable e X.env x = pure x := by intro _; rfl) :
    Jd X (adr M0 ((a, .dct kvs) :: μ)) (.ListComp elt [⟨tg, e, [], 0⟩] scope pos) σ H (.list (ks.map PyData.int)) := fun al H1 x1 Q q => by
  have S1 := S.ex x1
  obtain ⟨vs, h1, h2⟩ := S1.own (i := 0) rfl
  have hvk : vs.map (·.1) = ks.map Sum.inl := (kV_ints h2).trans hkv
  have hvl : vs.length = ks.length := by
    have := congrArg List.length hvk
    rw [List.length_map, List.length_map] at this
    exact this
  have na : a ∉ adr M0 μ := fun z => by
    rcases List.mem_append.mp z with z | z
    · exact (List.nodup_cons.mp S.dj.1).1 z
    · exact S.dj.2 _ List.mem_cons_self z
  refine leW (pe_lock (pe_lc (own := own) (g := tGb X scope tg) (tt := tTsb X scope []) (te := tWb X scope elt) hc hN pi_I ok (fun s H C cl fp => ⟨fun pins s' σ' H' v u Q' I r h => h _ ⟨s, H, C, cl, fp, rfl⟩ pins s' u I r⟩)
    (fun s H C cl fp => ⟨fun pins s' σ' H' Q' I h => h _ ⟨s, H, C, cl, fp, rfl⟩ pins s' I⟩) (fun s H C cl fp => ⟨fun pins s' σ' H' Q' I h => h _ ⟨s, H, C, cl, fp, rfl⟩ pins s' I⟩) hs)) ⟨a, .dK vs, h1, True.intro, fun od => ?_⟩
  have Sf := S1.lock (.frz od (.dK vs))
  have hw : Jw X (adr M0 μ) tg e σ (L2.upd H1 a (.frz od (.dK vs))) (ks.map PyData.int) := fun al2 H3 x3 R kk => leI (pi_keys pe_W) (he H3 H3 (Ex.refl _) _ fun H4 y4 => by
    have ha : H4 a = some (.frz od (.dK vs)) := y4 _ _ (x3 _ _ upd_same)
    refine ⟨a, od, rfl, .inl ⟨vs, ha, kk _ H4 y4 ⟨_, _, by rw [List.length_map, ← hvl]; exact walk_keys, fun H5 g => g _ _ (by rw [hid_out na]; exact ha), fun i H5 x H6 hi g y => ?_⟩⟩⟩
    obtain ⟨rfl, k0, v0, e1, e2⟩ := y
    refine ⟨Ex.refl _, fun M _ _ d hd => ?_⟩
    have e3 : (vs.map (·.1))[i]? = some k0 := by rw [List.getElem?_map, e1]; rfl
    rw [hvk, List.getElem?_map] at e3
    rw [List.getElem?_map] at hd
    cases hk : ks[i]? with
    | none => rw [hk] at hd; cases hd
    | some n =>
      rw [hk] at e3 hd
      cases e3
      cases hd
      rw [e2]
      exact .int _)
  refine lcN_tree (own := own) Sf hw (ks.map fun n => some (.int n)) (by simp) (by simpa using hz) f hjs (fun X' d b hd => hg X' d b) (fun i d o X' B' M' σ' H' h3 h4 b S' => ?_) (fun i d x X' B' M' σ' H' h3 h4 b S' => ?_) Sf.all (Ex.refl _) fun pa vs2 H2 x hn ha2 pd => ?_
  · rw [List.getElem?_map] at h4
    cases hk : ks[i]? with
    | none => rw [hk] at h4; cases h4
    | some n => rw [hk] at h4; cases h4; exact jts_nil
  · rw [List.getElem?_map] at h3 h4
    cases hk : ks[i]? with
    | none => rw [hk] at h4; cases h4
    | some n =>
      rw [hk] at h3 h4
      cases h3
      cases h4
      exact hel _ X' B' M' μ σ' H' b S'
  · have hfa : H2 a = some (.frz od (.dK vs)) := x _ _ upd_same
    refine ⟨hfa, ?_⟩
    have hpa : pa ≠ a := fun z => by
      rw [z, upd_same] at hn
      cases hn
    have hpn : H1 pa = none := by rw [upd_ne hpa] at hn; exact hn
    have hids : (ks.map fun n => some (PyData.int n)).filterMap id = ks.map PyData.int := by
      rw [List.filterMap_map]
      exact List.filterMap_eq_map (f := PyData.int) ▸ rfl
    rw [hids] at pd
    have hv := dIntsV pd
    subst hv
    have y2 : Ex H1 (L2.upd H2 a (.dK vs)) := fun b o qb => by
      by_cases hb : b = a
      · subst hb
        rw [upd_same, ← qb, h1]
      · rw [upd_ne hb]
        exact x _ _ (by rw [upd_ne hb]; exact qb)
    refine q _ _ y2 (.lst (SqL.of ?_) (dInts ks))
    have hM : pa ∉ adr M0 ((a, .dct kvs) :: μ) := S1.all.out hpn
    rw [hid_out hM, upd_ne hpa]
    exact ha2
end
end J

set_option maxHeartbeats 4000000
namespace K58
open PySem PySem.Spec PyProof.Rows L2 J Evl LamX NdefX
variable {P : Program} {w : World} {K : PySem.W.Frag} {mg : Str → Option Value} {base : Heap}
/-! ### signs -/
theorem bz_qS {a b : Int} (a0 : 0 ≤ a) (a1 : a ≤ cC * 8) (b1 : b ≤ cC * 8) (h : 0 < a + b) : Bz 46 (qS a b) := by
  unfold qS
  rw [← dvI]
  have e : cC = 1099511627776 := by decide
  rw [e] at a1 b1
  have e2 : (2 : Nat) ^ 46 = 70368744177664 := by decide
  exact bz_of h (by decide) (by omega) (by omega)
theorem bz_wh {l : List St} (h : SsOk l) (hne : l ≠ []) : Bz 46 (qS (cS 1 l) (cS 2 l)) ∧ Bz 46 (qS (cS 3 l) (cS 4 l)) := by
  have hp := cS_pos h hne
  exact ⟨bz_qS (cS_bd h 1).1 (cS_bd h 1).2 (cS_bd h 2).2 hp.1, bz_qS (cS_bd h 3).1 (cS_bd h 3).2 (cS_bd h 4).2 hp.2⟩
def ra (s : St) : Rat := qS (cnt 1 s) (cnt 2 s)
def rb (s : St) : Rat := qS (cnt 3 s) (cnt 4 s)
theorem rtS_eq (s : St) : rtS s = .tuple [dR (ra s), dR (rb s)] := rfl
theorem bz_st {s : St} (h : StOk s) : Bz 46 (ra s) ∧ Bz 46 (rb s) := by
  have b1 := h.2.1 1
  have b2 := h.2.1 2
  have b3 := h.2.1 3
  have b4 := h.2.1 4
  have cc := cC_le
  exact ⟨bz_qS b1.1 (by omega) (by omega) h.2.2.1, bz_qS b3.1 (by omega) (by omega) h.2.2.2⟩
/-- 1, -1, 0: the first is greater, less, neither -/
def sgR (a b : Rat) : Int := if b < a then 1 else if a < b then -1 else 0
def sgS (s : St) : Int := sgR (ra s) (rb s)
/-- what all strata tell -/
def tellS : List St → Int
  | [] => 0
  | s :: r => if r.all (fun x => decide (sgS x = sgS s)) = true then sgS s else 0
theorem fd_is_less (T : Tx K mg) : Fd CX0 P w K mg base 2 "is_less" ["one", "other"] (spD K 2 fun ds d => ∃ a b : Rat, ds = [dR a, dR b] ∧ Bz 4000 a ∧ Bz 4000 b ∧ d = .bool (decide (a < b))) := by
  obtain ⟨fd, F, hm⟩ := T.f_is_less
  refine fd_mk F hm (ok_D F sc_is_less rfl fun cdv A outer s H E M vs ds d D' hr hl hR S k _ => ?_) (fun _ _ _ _ _ _ us hl => match us, hl with | [_, _], _ => rfl)
  obtain ⟨a, b, rfl, ha, hb, rfl⟩ := hR
  exact sy_ret S (jd_lt (jd_mul (jd_ixT (n := 0) (S.at 0) jd_int rfl rfl) (jd_ixT (n := 1) (S.at 1) jd_int rfl rfl) (mulW (bzn ha) (bzd hb))) (jd_mul (jd_ixT (n := 0) (S.at 1) jd_int rfl rfl) (jd_ixT (n := 1) (S.at 0) jd_int rfl rfl) (mulW (bzn hb) (bzd ha)))) fun v H' x _ p => k v H' x (by rw [← dec_lt]; exact p)
theorem fd_law_less (T : Tx K mg) : Fd CX0 P w K mg base 2 "_law_less" ["one", "other"] (spD K 2 fun ds d => ∃ a b : Rat, ds = [dR a, dR b] ∧ Bz 4000 a ∧ Bz 4000 b ∧ d = .bool (decide (a < b))) := by
  obtain ⟨fd, F, hm⟩ := T.f_law_less
  refine fd_mk F hm (ok_D F sc_law_less rfl fun cdv A outer s H E M vs ds d D' hr hl hR S k _ => ?_) (fun _ _ _ _ _ _ us hl => match us, hl with | [_, _], _ => rfl)
  obtain ⟨a, b, rfl, ha, hb, rfl⟩ := hR
  exact sy_ret S (jd_lt (jd_mul (jd_ixT (n := 0) (S.at 0) jd_int rfl rfl) (jd_ixT (n := 1) (S.at 1) jd_int rfl rfl) (mulW (bzn ha) (bzd hb))) (jd_mul (jd_ixT (n := 0) (S.at 1) jd_int rfl rfl) (jd_ixT (n := 1) (S.at 0) jd_int rfl rfl) (mulW (bzn hb) (bzd ha)))) fun v H' x _ p => k v H' x (by rw [← dec_lt]; exact p)
theorem sgR_1 {a b : Rat} (h : decide (b < a) = true) : (1 : Int) = sgR a b := by unfold sgR; rw [if_pos (of_decide_eq_true h)]
theorem sgR_2 {a b : Rat} (h : decide (b < a) = false) (h2 : decide (a < b) = true) : (-1 : Int) = sgR a b := by unfold sgR; rw [if_neg (of_decide_eq_false h), if_pos (of_decide_eq_true h2)]
theorem sgR_3 {a b : Rat} (h : decide (b < a) = false) (h2 : decide (a < b) = false) : (0 : Int) = sgR a b := by unfold sgR; rw [if_neg (of_decide_eq_false h), if_neg (of_decide_eq_false h2)]
theorem fd_sign_of (T : Tx K mg) : Fd CX0 P w K mg base 3 "sign_of" ["one", "other"] (spD K 2 fun ds d => ∃ a b : Rat, ds = [dR a, dR b] ∧ Bz 4000 a ∧ Bz 4000 b ∧ d = .int (sgR a b)) := by
  have W := fd_is_less (P := P) (w := w) (base := base) T
  obtain ⟨fd, F, hm⟩ := T.f_sign_of
  refine fd_mk F hm (ok_D F sc_sign_of rfl fun cdv A outer s H E M vs ds d D' hr hl hR S k _ => ?_) (fun _ _ _ _ _ _ us hl => match us, hl with | [_, _], _ => rfl)
  obtain ⟨a, b, rfl, ha, hb, rfl⟩ := hR
  exact sy_ret S (jd_if (k := decide (b < a)) (jt_val (jd_call W (hr.mono (by decide)) (ja_cons (S.at 1) (ja_cons (S.at 0) ja_nil)) rfl ⟨b, a, rfl, hb, ha, rfl⟩)) (fun h => jd_int.is (congrArg PyData.int (sgR_1 h))) (fun h => jd_if (k := decide (a < b)) (jt_val (jd_call W (hr.mono (by decide)) (ja_cons (S.at 0) (ja_cons (S.at 1) ja_nil)) rfl ⟨a, b, rfl, ha, hb, rfl⟩)) (fun h2 => (jd_neg jd_int).is (congrArg PyData.int (sgR_2 h h2))) fun h2 => jd_int.is (congrArg PyData.int (sgR_3 h h2)))) fun v H' x _ p => k v H' x p
theorem fd_law_sr_sign (T : Tx K mg) : Fd CX0 P w K mg base 3 "_law_sr_sign" ["one", "other"] (spD K 2 fun ds d => ∃ a b : Rat, ds = [dR a, dR b] ∧ Bz 4000 a ∧ Bz 4000 b ∧ d = .int (sgR a b)) := by
  have W := fd_law_less (P := P) (w := w) (base := base) T
  obtain ⟨fd, F, hm⟩ := T.f_law_sr_sign
  refine fd_mk F hm (ok_D F sc_law_sr_sign rfl fun cdv A outer s H E M vs ds d D' hr hl hR S k _ => ?_) (fun _ _ _ _ _ _ us hl => match us, hl with | [_, _], _ => rfl)
  obtain ⟨a, b, rfl, ha, hb, rfl⟩ := hR
  exact sy_ret S (jd_if (k := decide (b < a)) (jt_val (jd_call W (hr.mono (by decide)) (ja_cons (S.at 1) (ja_cons (S.at 0) ja_nil)) rfl ⟨b, a, rfl, hb, ha, rfl⟩)) (fun h => jd_int.is (congrArg PyData.int (sgR_1 h))) (fun h => jd_if (k := decide (a < b)) (jt_val (jd_call W (hr.mono (by decide)) (ja_cons (S.at 0) (ja_cons (S.at 1) ja_nil)) rfl ⟨a, b, rfl, ha, hb, rfl⟩)) (fun h2 => (jd_neg jd_int).is (congrArg PyData.int (sgR_2 h h2))) fun h2 => jd_int.is (congrArg PyData.int (sgR_3 h h2)))) fun v H' x _ p => k v H' x p
/-! ### the dict of signs -/
theorem put_same (k : Int) : putS [((.inl k : Key), Sv.dat (.bool true))] (.inl k) (.dat (.bool true)) = [(.inl k, .dat (.bool true))] := by simp [putS]
theorem put_other {k x : Int} (h : x ≠ k) : putS [((.inl k : Key), Sv.dat (.bool true))] (.inl x) (.dat (.bool true)) = [(.inl k, .dat (.bool true)), (.inl x, .dat (.bool true))] := by
  have h2 : ¬ k = x := fun e => h e.symm
  simp [putS, h2]
theorem putS_ge {κ : Type} [DecidableEq κ] (m : List (κ × Sv)) (k : κ) (s : Sv) : m.length ≤ (putS m k s).length := by
  unfold putS
  split
  · rw [List.length_map]; exact Nat.le_refl _
  · rw [List.length_append]; omega
theorem fold_put_ge : ∀ (ks : List Int) (m : List (Key × Sv)), m.length ≤ (ks.foldl (fun m k => putS m (.inl k) (.dat (.bool true))) m).length
  | [], m => Nat.le_refl _
  | k :: ks, m => Nat.le_trans (putS_ge m _ _) (fold_put_ge ks _)
theorem dk_same (k : Int) : ∀ ks : List Int, (∀ x ∈ ks, x = k) → ks.foldl (fun m k => putS m (.inl k) (.dat (.bool true))) [((.inl k : Key), Sv.dat (.bool true))] = [(.inl k, .dat (.bool true))]
  | [], _ => rfl
  | x :: ks, h => by
    have hx := h x List.mem_cons_self
    subst hx
    rw [List.foldl_cons, put_same]
    exact dk_same x ks fun y hy => h y (List.mem_cons_of_mem _ hy)
theorem dk_more (k : Int) : ∀ ks : List Int, (∃ x ∈ ks, x ≠ k) → 2 ≤ (ks.foldl (fun m k => putS m (.inl k) (.dat (.bool true))) [((.inl k : Key), Sv.dat (.bool true))]).length
  | [], ⟨x, hx, _⟩ => by cases hx
  | x :: ks, ⟨y, hy, hne⟩ => by
    rw [List.foldl_cons]
    by_cases hx : x = k
    · subst hx
      rw [put_same]
      rcases List.mem_cons.mp hy with e | e
      · exact absurd e hne
      · exact dk_more x ks ⟨y, e, hne⟩
    · rw [put_other hx]
      exact Nat.le_trans (Nat.le_refl 2) (fold_put_ge ks [((.inl k : Key), Sv.dat (.bool true)), (.inl x, .dat (.bool true))])
theorem dk_cons (k : Int) (ks : List Int) : dkS (k :: ks) = ks.foldl (fun m k => putS m (.inl k) (.dat (.bool true))) [((.inl k : Key), Sv.dat (.bool true))] := rfl
theorem dk_tell {l : List St} (hne : l ≠ []) : ((dkS (l.map sgS)).length = 1 → (dkS (l.map sgS)).map (·.1) = [tellS l].map Sum.inl) ∧ ((dkS (l.map sgS)).length ≠ 1 → tellS l = 0) := by
  cases l with
  | nil => exact absurd rfl hne
  | cons s r =>
    rw [List.map_cons, dk_cons]
    by_cases h : ∀ x ∈ r.map sgS, x = sgS s
    · rw [dk_same _ _ h]
      have e : tellS (s :: r) = sgS s := by
        show (if _ then _ else _) = _
        rw [if_pos (List.all_eq_true.mpr fun x hx => decide_eq_true (h _ (List.mem_map.mpr ⟨x, hx, rfl⟩)))]
      exact ⟨fun _ => by rw [e]; rfl, fun q => absurd rfl q⟩
    · have h2 : ∃ x ∈ r.map sgS, x ≠ sgS s := Classical.byContradiction fun q => h fun x hx => Classical.byContradiction fun z => q ⟨x, hx, z⟩
      have h3 := dk_more _ _ h2
      have e : tellS (s :: r) = 0 := by
        show (if _ then _ else _) = _
        rw [if_neg fun q => h fun x hx => ?_]
        obtain ⟨y, hy, rfl⟩ := List.mem_map.mp hx
        exact of_decide_eq_true (List.all_eq_true.mp q y hy)
      exact ⟨fun q => by omega, fun _ => e⟩
theorem fd_strata_sign (T : Tx K mg) : Fd CX0 P w K mg base 4 "strata_sign" ["trial"] (spD K 1 fun ds d => ∃ l : List St, ds = [trD l] ∧ SsOk l ∧ l ≠ [] ∧ d = .int (tellS l)) := by
  have Wr := fd_rates_in (P := P) (w := w) (base := base) T
  have Ws := fd_sign_of (P := P) (w := w) (base := base) T
  obtain ⟨fd, F, hm⟩ := T.f_strata_sign
  refine fd_mk F hm (ok_D F sc_strata_sign rfl fun cdv A outer s H E M vs ds d D' hr hl hR S k _ => ?_) (fun _ _ _ _ _ _ us hl => match us, hl with | [_], _ => rfl)
  obtain ⟨l, rfl, h, hne, rfl⟩ := hR
  have nd := sc_strata_sign.nd
  have h8 := h.1
  have S : Sy K H M [some (.dat (trD l)), none, none, none, none] [] _ _ := S
  refine sy_setDc 1 (α := St) (g := rtS) (xs := l) S (jw_tup (jd_call Wr (hr.mono (by decide)) (ja_cons (jd_ixT (n := 1) (d := .tuple (l.map stD)) (S.at 0) jd_int rfl rfl) ja_nil) rfl ⟨true, l, rfl, h, rfl⟩)) sgS (by omega) (fun d ρ => match d with | .tuple [x, y] => (ρ.set 2 (some (.dat x))).set 3 (some (.dat y)) | _ => ρ) (js := [2, 3]) (own := [("one", 2), ("other", 3)]) (by simp) ?_ ?_ ?_ (blkOk_by (by rfl)) rfl nd fun a H1 S1 => ?_
  · rintro _ d ⟨s, H, C, cl, fp, rfl⟩ _
    exact jg_tup rfl (jgs_cons (jg_name 2 nd) (jgs_cons (jg_name 3 nd) jgs_nil))
  · rintro j s _ B2 M2 μ2 σ2 H2 h1 ⟨s', H, C, cl, fp, rfl⟩ S'
    have hs := bz_st (h.2 s (List.mem_of_getElem? h1))
    exact (jd_call Ws (hr.mono (by decide)) (ja_cons (S'.at 2) (ja_cons (S'.at 3) ja_nil)) rfl ⟨ra s, rb s, rfl, hs.1.mono (by decide), hs.2.mono (by decide), rfl⟩)
  · rintro j s _ B2 M2 μ2 σ2 H2 h1 ⟨s', H, C, cl, fp, rfl⟩ S'
    exact jd_bl
  have S1 : Sy K H M [some (.dat (trD l)), some (.val (.ref a)), none, none, none] [(a, .dct (dkS (l.map sgS)))] _ H1 := S1
  obtain ⟨t1, t2⟩ := dk_tell hne
  obtain ⟨va, hva, ea⟩ := S1.sl 1 _ rfl
  have ea : va = V.ref a := ea
  subst ea
  refine sy_ret S1 (jd_if (k := decide (((dkS (l.map sgS)).length : Int) = 1)) (jt_eqI (jd_lenK S1 (i := 0) T.n_len (S1.atV 1) rfl) jd_int) (fun q => ?_) (fun q => ?_)) fun v H' x _ p => k v H' x p
  · have q := of_decide_eq_true q
    refine jd_ixL (n := 0) (d := .int (tellS l)) (jd_keysL (own := [("sign", 4)]) (js := [4]) S1 (fun _ => jv_var 1 hva) (t1 (by omega)) (by simp) (fun d ρ => ρ.set 4 (some (.dat d))) (by simp) ?_ ?_ (blkOk_by (by rfl)) rfl nd) jd_int rfl rfl
    · rintro _ d ⟨s, H, C, cl, fp, rfl⟩
      exact jg_name 4 nd
    · rintro d _ B2 M2 μ2 σ2 H2 ⟨s, H, C, cl, fp, rfl⟩ S'
      exact S'.at 4
  · have q := of_decide_eq_false q
    exact jd_int.is (by rw [t2 (by omega)])
theorem fd_law_sr_tell (T : Tx K mg) : Fd CX0 P w K mg base 4 "_law_sr_tell" ["strata"] (spD K 1 fun ds d => ∃ (b : Bool) (l : List St), ds = [ssD b l] ∧ SsOk l ∧ l ≠ [] ∧ d = .int (tellS l)) := by
  have Wr := fd_law_sr_rates (P := P) (w := w) (base := base) T
  have Ws := fd_law_sr_sign (P := P) (w := w) (base := base) T
  obtain ⟨fd, F, hm⟩ := T.f_law_sr_tell
  refine fd_mk F hm (ok_D F sc_law_sr_tell rfl fun cdv A outer s H E M vs ds d D' hr hl hR S k _ => ?_) (fun _ _ _ _ _ _ us hl => match us, hl with | [_], _ => rfl)
  obtain ⟨b, l, rfl, h, hne, rfl⟩ := hR
  have nd := sc_law_sr_tell.nd
  have h8 := h.1
  have S : Sy K H M [some (.dat (ssD b l)), none, none, none, none] [] _ _ := S
  refine sy_set 1 S (Jn.jd (sy_lcM (α := St) (g := rtS) (xs := l) S (jw_lst (jd_call Wr (hr.mono (by decide)) (ja_cons (S.at 0) ja_nil) rfl ⟨b, l, rfl, h, rfl⟩)) (fun s => .int (sgS s)) (by omega) (fun d ρ => match d with | .tuple [x, y] => (ρ.set 2 (some (.dat x))).set 3 (some (.dat y)) | _ => ρ) (js := [2, 3]) (own := [("one", 2), ("other", 3)]) (by simp) ?_ ?_ (blkOk_by (by rfl)) rfl nd)) (fun σ1 H1 S1 => ?_) nd
  · rintro _ d ⟨s, H, C, cl, fp, rfl⟩ _
    exact jg_tup rfl (jgs_cons (jg_name 2 nd) (jgs_cons (jg_name 3 nd) jgs_nil))
  · rintro j s _ B2 M2 σ2 H2 h1 ⟨s', H, C, cl, fp, rfl⟩ S'
    have hs := bz_st (h.2 s (List.mem_of_getElem? h1))
    exact (jd_call Ws (hr.mono (by decide)) (ja_cons (S'.at 2) (ja_cons (S'.at 3) ja_nil)) rfl ⟨ra s, rb s, rfl, hs.1.mono (by decide), hs.2.mono (by decide), rfl⟩)
  have S1 : Sy K H M [some (.dat (ssD b l)), some (.dat (.list (l.map fun s => .int (sgS s)))), none, none, none] [] σ1 H1 := S1
  cases l with
  | nil => exact absurd rfl hne
  | cons s0 r =>
    have hix : ∀ {X : Cx} {M : List Addr} {σ : L2.St} {H : Hp} {e i : Expr} {p : Pos}, Jd X M e σ H (.list ((s0 :: r).map fun s => .int (sgS s))) → Jd X M i σ H (.int 0) → NoSl i → Jd X M (.Subscript e i p) σ H (.int (sgS s0)) := fun h1 h2 h3 => jd_ixL (n := 0) (d := .int (sgS s0)) h1 h2 rfl rfl h3
    refine sy_ret S1 (jd_if (k := PyData.eqv (.list (((s0 :: r).filter fun s => !decide (sgS s = sgS s0)).map fun _ => PyData.int 1)) (.list [])) (jt_eq hr.units (Jn.jd (sy_lcF (α := St) (g := fun s => .int (sgS s)) (xs := s0 :: r) S1 (jw_lst (S1.at 1)) (fun s => !decide (sgS s = sgS s0)) (fun _ => .int 1) (by omega) (fun d ρ => ρ.set 4 (some (.dat d))) (js := [4]) (own := [("sign", 4)]) (by simp) ?c1 ?c2 ?c3 (blkOk_by (by rfl)) rfl nd)) (Jn.jd (jn_lst ja_nil)) ((lay_lst (n := 0).mpr fun x hx => by obtain ⟨y, _, rfl⟩ := List.mem_map.mp hx; exact lay_int).shaped (by decide)) rfl) (fun q => ?_) (fun q => ?_)) fun v H' x _ p => k v H' x p
    case c1 =>
      rintro _ d ⟨s, H, C, cl, fp, rfl⟩ _
      exact jg_name 4 nd
    case c2 =>
      rintro j s _ B2 M2 σ2 H2 h1 ⟨s', H, C, cl, fp, rfl⟩ S'
      exact jt_neI (S'.at 4) (jd_ixL (n := 0) (d := .int (sgS s0)) (S'.at 1) jd_int rfl rfl)
    case c3 =>
      rintro j s _ B2 M2 σ2 H2 h1 _ ⟨s', H, C, cl, fp, rfl⟩ S'
      exact jd_int
    · have e : tellS (s0 :: r) = sgS s0 := by
        show (if _ then _ else _) = _
        rw [if_pos (List.all_eq_true.mpr fun x hx => ?_)]
        by_cases c : sgS x = sgS s0
        · exact decide_eq_true c
        · have hm : x ∈ (s0 :: r).filter fun s => !decide (sgS s = sgS s0) := List.mem_filter.mpr ⟨List.mem_cons_of_mem _ hx, by rw [decide_eq_false c]; rfl⟩
          cases hf : (s0 :: r).filter fun s => !decide (sgS s = sgS s0) with
          | nil => rw [hf] at hm; cases hm
          | cons z zs => rw [hf] at q; simp [PyData.eqv, PyData.eqvAll] at q
      rw [e]
      exact jd_ixL (n := 0) (d := .int (sgS s0)) (S1.at 1) jd_int rfl rfl
    · have e : tellS (s0 :: r) = 0 := by
        show (if _ then _ else _) = _
        rw [if_neg fun c => ?_]
        have hf : (s0 :: r).filter (fun s => !decide (sgS s = sgS s0)) = [] := by
          rw [List.filter_eq_nil_iff]
          intro x hx
          rcases List.mem_cons.mp hx with rfl | hx
          · simp
          · rw [List.all_eq_true.mp c x hx]; decide
        rw [hf] at q
        cases q
      rw [e]
      exact jd_int
end K58

set_option maxHeartbeats 4000000
namespace K58
open PySem PySem.Spec PyProof.Rows L2 J Evl LamX NdefX
variable {P : Program} {w : World} {K : PySem.W.Frag} {mg : Str → Option Value} {base : Heap}
theorem sh_dR (r : Rat) : Sh (dR r) := fun l h => by cases h; show 2 ≤ 90000; omega
/-! ### means -/
def prods (ss rs : List Rat) : List Rat := (ss.zip rs).map fun p => p.1 * p.2
def dotR (ss rs : List Rat) : Rat := (prods ss rs).sum
def DotOk (ss rs : List Rat) : Prop := (∀ x ∈ ss, Bz 4000 x) ∧ (∀ x ∈ rs, Bz 4000 x) ∧ SumOk (prods ss rs) ∧ ss.length ≤ 1000
theorem zip_len {α β : Type} {xs : List α} {ys : List β} {n : Nat} (h : xs.length ≤ n) : (xs.zip ys).length ≤ n := by rw [List.length_zip]; omega
theorem fd_mean_of (T : Tx K mg) : Fd CX0 P w K mg base 4 "mean_of" ["ratios", "shares"] (spD K 2 fun ds r => ∃ (b1 b2 : Bool) (rs ss : List Rat), ds = [seqD b1 (rs.map dR), seqD b2 (ss.map dR)] ∧ DotOk ss rs ∧ r = dR (dotR ss rs)) := by
  have W1 := fd_total (P := P) (w := w) (base := base) T
  have W2 := fd_times (P := P) (w := w) (base := base) T
  obtain ⟨fd, F, hm⟩ := T.f_mean_of
  refine fd_mk F hm (ok_D F sc_mean_of rfl fun cdv A outer s H E M vs ds d D' hr hl hR S k _ => ?_) (fun _ _ _ _ _ _ us hl => match us, hl with | [_, _], _ => rfl)
  obtain ⟨b1, b2, rs, ss, rfl, ⟨h1, h2, h3, h4⟩, rfl⟩ := hR
  refine sy_ret S (jd_call W1 (hr.mono (by decide)) (ja_cons (Jn.jd (ds := (prods ss rs).map dR) ?_) ja_nil) rfl ⟨false, prods ss rs, rfl, h3, rfl⟩) fun v H' x _ p => k v H' x p
  unfold prods
  rw [List.map_map]
  refine sy_lcM (α := Rat × Rat) (xs := ss.zip rs) (g := fun p => .tuple [dR p.1, dR p.2]) S (by rw [← zipD_map]; exact jw_zipB (b1 := b2) (b2 := b1) T.n_zip (S.at 1) (S.at 0)) _ (zip_len (by omega)) (fun d ρ => match d with | .tuple [x, y] => (ρ.set 2 (some (.dat x))).set 3 (some (.dat y)) | _ => ρ) (js := [2, 3]) (own := [("share", 2), ("ratio_", 3)]) (by simp) ?_ ?_ (blkOk_by (by rfl)) rfl sc_mean_of.nd
  · rintro _ d ⟨s, H, C, cl, fp, rfl⟩ _
    exact jg_tup rfl (jgs_cons (jg_name 2 sc_mean_of.nd) (jgs_cons (jg_name 3 sc_mean_of.nd) jgs_nil))
  · rintro i ⟨x, y⟩ _ B' M' σ' H' hx ⟨s, H, C, cl, fp, rfl⟩ S'
    have m := List.mem_of_getElem? hx
    exact jd_call W2 (hr.mono (by decide)) (ja_cons (S'.at 2) (ja_cons (S'.at 3) ja_nil)) rfl ⟨x, y, rfl, h1 x (List.of_mem_zip m).1, h2 y (List.of_mem_zip m).2, rfl⟩
theorem fd_law_sr_dot (T : Tx K mg) : Fd CX0 P w K mg base 4 "_law_sr_dot" ["shares", "ratios"] (spD K 2 fun ds r => ∃ (b1 b2 : Bool) (rs ss : List Rat), ds = [seqD b2 (ss.map dR), seqD b1 (rs.map dR)] ∧ DotOk ss rs ∧ r = dR (dotR ss rs)) := by
  have W1 := fd_law_sum (P := P) (w := w) (base := base) T
  have W2 := fd_law_times (P := P) (w := w) (base := base) T
  obtain ⟨fd, F, hm⟩ := T.f_law_sr_dot
  refine fd_mk F hm (ok_D F sc_law_sr_dot rfl fun cdv A outer s H E M vs ds d D' hr hl hR S k _ => ?_) (fun _ _ _ _ _ _ us hl => match us, hl with | [_, _], _ => rfl)
  obtain ⟨b1, b2, rs, ss, rfl, ⟨h1, h2, h3, h4⟩, rfl⟩ := hR
  refine sy_ret S (jd_call W1 (hr.mono (by decide)) (ja_cons (Jn.jd (ds := (prods ss rs).map dR) ?_) ja_nil) rfl ⟨false, prods ss rs, rfl, h3, rfl⟩) fun v H' x _ p => k v H' x p
  unfold prods
  rw [List.map_map]
  refine sy_lcM (α := Rat × Rat) (xs := ss.zip rs) (g := fun p => .tuple [dR p.1, dR p.2]) S (by rw [← zipD_map]; exact jw_zipB (b1 := b2) (b2 := b1) T.n_zip (S.at 0) (S.at 1)) _ (zip_len (by omega)) (fun d ρ => match d with | .tuple [x, y] => (ρ.set 2 (some (.dat x))).set 3 (some (.dat y)) | _ => ρ) (js := [2, 3]) (own := [("share", 2), ("ratio", 3)]) (by simp) ?_ ?_ (blkOk_by (by rfl)) rfl sc_law_sr_dot.nd
  · rintro _ d ⟨s, H, C, cl, fp, rfl⟩ _
    exact jg_tup rfl (jgs_cons (jg_name 2 sc_law_sr_dot.nd) (jgs_cons (jg_name 3 sc_law_sr_dot.nd) jgs_nil))
  · rintro i ⟨x, y⟩ _ B' M' σ' H' hx ⟨s, H, C, cl, fp, rfl⟩ S'
    have m := List.mem_of_getElem? hx
    exact jd_call W2 (hr.mono (by decide)) (ja_cons (S'.at 2) (ja_cons (S'.at 3) ja_nil)) rfl ⟨x, y, rfl, h1 x (List.of_mem_zip m).1, h2 y (List.of_mem_zip m).2, rfl⟩
theorem prods_len (ss rs : List Rat) : (prods ss rs).length ≤ ss.length := by unfold prods; rw [List.length_map]; exact zip_len (Nat.le_refl _)
theorem sum_ok {qs : List Rat} {b n : Nat} (hq : ∀ x ∈ qs, Bz b x) (hl : qs.length ≤ n) (hn : n * (b + 1) + 1 ≤ 4000) (hb : b ≤ 4000) : SumOk qs := by
  refine ⟨fun x hx => (hq x hx).mono hb, fun i => ?_⟩
  have h1 : (qs.take i).sum = (qs.take (min i qs.length)).sum := by rw [List.take_eq_take_min]
  rw [h1]
  have h2 := bz_take (i := min i qs.length) hq
  refine h2.mono ?_
  have h3 : min i qs.length ≤ n := by omega
  have h4 : min i qs.length * (b + 1) ≤ n * (b + 1) := Nat.mul_le_mul_right _ h3
  omega
theorem dot_ok {ss rs : List Rat} (h1 : ∀ x ∈ ss, Bz 7 x) (h2 : ∀ x ∈ rs, Bz 46 x) (h8 : ss.length ≤ 8) : DotOk ss rs := by
  refine ⟨fun x hx => (h1 x hx).mono (by decide), fun x hx => (h2 x hx).mono (by decide), sum_ok (b := 54) (n := 8) (fun x hx => ?_) (Nat.le_trans (prods_len ss rs) h8) (by decide) (by decide), by omega⟩
  obtain ⟨p, hp, rfl⟩ := List.mem_map.mp hx
  have m := List.of_mem_zip hp
  exact bz_mul (h1 _ m.1) (h2 _ m.2)
/-! ### shares -/
/-- chances with the sum 1 -/
def GoodSh (n : Nat) (rs : List Rat) : Prop := rs.length = n ∧ (∀ x ∈ rs, 0 ≤ x ∧ x ≤ 1 ∧ Bz 7 x) ∧ rs.sum = 1
/-- of the kinds of values that are none -/
def BadSh (n : Nat) (d : D) : Prop := d = .none ∨ ∃ l : List D, d = .tuple l ∧ l.length ≤ 10 ∧ (l.length ≠ n ∨ (l.length = n ∧ l.all isC = false ∧ ∀ x ∈ l, Sh x))
theorem fd_are_shares (T : Tx K mg) : Fd CX0 P w K mg base 4 "are_shares" ["value", "many"] (spD K 2 fun ds d => ∃ n : Nat, n ≤ 8 ∧ ((∃ (b : Bool) (rs : List Rat), ds = [seqD b (rs.map dR), .int n] ∧ GoodSh n rs ∧ d = .bool true) ∨ ∃ y, ds = [y, .int n] ∧ BadSh n y ∧ d = .bool false)) := by
  have Wc := fd_is_chance (P := P) (w := w) (base := base) T
  have Wt := fd_total (P := P) (w := w) (base := base) T
  obtain ⟨fd, F, hm⟩ := T.f_are_shares
  refine fd_mk F hm (ok_D F sc_are_shares rfl fun cdv A outer s H E M vs ds d D' hr hl hR S k _ => ?_) (fun _ _ _ _ _ _ us hl => match us, hl with | [_, _], _ => rfl)
  have nd := sc_are_shares.nd
  have hu := hr.units
  obtain ⟨n, hn8, ⟨b, rs, rfl, hG, rfl⟩ | ⟨y, rfl, hB, rfl⟩⟩ := hR
  · have S : Sy K H M [some (.dat (seqD b (rs.map dR))), some (.dat (.int n)), none] [] _ _ := S
    have hlen := hG.1
    have hall : (rs.map fun r => isC (dR r)).all id = true := by
      rw [List.all_map]
      exact List.all_eq_true.mpr fun r hr => by show isC (dR r) = true; rw [isC_dR, decide_eq_true (hG.2.1 r hr).1, decide_eq_true (hG.2.1 r hr).2.1]; rfl
    have hty : (dIsL (seqD b (rs.map dR)) || dIsT (seqD b (rs.map dR))) = true := by cases b <;> rfl
    have e1 : decide ((((rs.map dR).length : Nat) : Int) = (n : Int)) = true := decide_eq_true (by rw [List.length_map, hlen])
    refine sy_when (b := !(dIsL (seqD b (rs.map dR)) || dIsT (seqD b (rs.map dR))) || (!decide ((((rs.map dR).length : Nat) : Int) = (n : Int)) || !(rs.map fun r => isC (dR r)).all id)) S (jt_or3 (jt_not (jt_val (jd_isi2 T.n_isinstance T.n_list T.n_tuple (by decide +kernel) boot_tuple (S.at 0) (kit_list _) (kit_tuple _)))) (fun _ => jt_neI (jd_len T.n_len (S.at 0) (by cases b <;> first | exact .inl rfl | exact .inr rfl)) (S.at 1)) fun _ _ => jt_not (jt_val (jd_all rfl T.n_all (Jd.is (Jn.jd (sy_lcM (α := Rat) (g := dR) (xs := rs) S (jw_seq (b := b) (S.at 0)) (fun r => .bool (isC (dR r))) (by omega) (fun d ρ => ρ.set 2 (some (.dat d))) (js := [2]) (own := [("share", 2)]) (by simp) ?c1 ?c2 (blkOk_by (by rfl)) rfl nd)) (by rw [List.map_map]; rfl))))) (fun h H1 S1 => ?_) (fun h H1 S1 => ?_)
    case c1 =>
      rintro _ d ⟨s, H, C, cl, fp, rfl⟩ _
      exact jg_name 2 nd
    case c2 =>
      rintro j r _ B2 M2 σ2 H2 h1 ⟨s, H, C, cl, fp, rfl⟩ S'
      exact (jd_call Wc (hr.mono (by decide)) (ja_cons (S'.at 2) ja_nil) rfl ⟨_, rfl, sh_dR r, rfl⟩)
    · rw [hty, e1, hall] at h; cases h
    refine sy_ret S1 (Jd.is (jd_eq hu (jd_call Wt (hr.mono (by decide)) (ja_cons (S1.at 0) ja_nil) rfl ⟨b, rs, rfl, sum_ok (b := 7) (n := 8) (fun x hx => (hG.2.1 x hx).2.2) (by omega) (by decide) (by decide), rfl⟩) (jd_glob T.c_ONE.1 (v := .ref (He.ga K "ONE")) (d := dR 1) rfl (.tup (T.c_ONE.2 _) (.cons (.int 1) (.cons (.int 1) .nil)))) (lay_dR.shaped (by decide)) (lay_dR.shaped (by decide))) (by rw [eqv_dR, hG.2.2]; rfl)) fun v H' x _ p => k v H' x p
  · have S : Sy K H M [some (.dat y), some (.dat (.int n)), none] [] _ _ := S
    rcases hB with rfl | ⟨l, rfl, h10, hB⟩
    · refine sy_when (b := !(false || false) || (true || true)) S (jt_or3 (jt_not (jt_val (jd_isi2 T.n_isinstance T.n_list T.n_tuple (by decide +kernel) boot_tuple (S.at 0) (kit_list .none) (kit_tuple .none)))) (fun z => by cases z) (fun z => by cases z)) (fun h H1 S1 => ?_) (fun h H1 S1 => by cases h)
      exact sy_ret S1 jd_bl fun v H' x _ p => k v H' x p
    · rcases hB with hne | ⟨he, hall, hsh⟩
      · have e1 : decide (((l.length : Nat) : Int) = (n : Int)) = false := decide_eq_false (by omega)
        refine sy_when (b := !(false || true) || (!false || true)) S (jt_or3 (k := !(false || true)) (l := !false) (m := true) (jt_not (jt_val (jd_isi2 T.n_isinstance T.n_list T.n_tuple (by decide +kernel) boot_tuple (S.at 0) (kit_list (.tuple l)) (kit_tuple (.tuple l))))) (fun _ => Jt.is (jt_neI (jd_len T.n_len (S.at 0) (.inl rfl)) (S.at 1)) (by rw [e1])) (fun _ z => by cases z)) (fun h H1 S1 => ?_) (fun h H1 S1 => by cases h)
        exact sy_ret S1 jd_bl fun v H' x _ p => k v H' x p
      · have e1 : decide (((l.length : Nat) : Int) = (n : Int)) = true := decide_eq_true (by omega)
        have e2 : (l.map isC).all id = false := by rw [List.all_map]; exact hall
        refine sy_when (b := !(false || true) || (!true || !false)) S (jt_or3 (k := !(false || true)) (l := !true) (m := !false) (jt_not (jt_val (jd_isi2 T.n_isinstance T.n_list T.n_tuple (by decide +kernel) boot_tuple (S.at 0) (kit_list (.tuple l)) (kit_tuple (.tuple l))))) (fun _ => Jt.is (jt_neI (jd_len T.n_len (S.at 0) (.inl rfl)) (S.at 1)) (by rw [e1])) (fun _ _ => jt_not (jt_val (Jd.is (jd_all (bs := l.map isC) rfl T.n_all (Jd.is (Jn.jd (sy_lcM (α := D) (g := id) (xs := l) S (by rw [List.map_id]; exact jw_tup (S.at 0)) (fun x => .bool (isC x)) (by omega) (fun d ρ => ρ.set 2 (some (.dat d))) (js := [2]) (own := [("share", 2)]) (by simp) ?d1 ?d2 (blkOk_by (by rfl)) rfl nd)) (by rw [List.map_map]; rfl))) (by rw [e2]))))) (fun h H1 S1 => ?_) (fun h H1 S1 => by cases h)
        case d1 =>
          rintro _ d ⟨s, H, C, cl, fp, rfl⟩ _
          exact jg_name 2 nd
        case d2 =>
          rintro j x _ B2 M2 σ2 H2 h1 ⟨s, H, C, cl, fp, rfl⟩ S'
          exact (jd_call Wc (hr.mono (by decide)) (ja_cons (S'.at 2) ja_nil) rfl ⟨x, rfl, hsh x (List.mem_of_getElem? h1), rfl⟩)
        exact sy_ret S1 jd_bl fun v H' x _ p => k v H' x p
theorem fd_need_shares (T : Tx K mg) : Fd (CX P w) P w K mg base 5 "need_shares" ["shares", "many"] (spX K 2 (fun ds d => ∃ (n : Nat) (b : Bool) (rs : List Rat), ds = [seqD b (rs.map dR), .int n] ∧ n ≤ 8 ∧ GoodSh n rs ∧ d = .none) fun ds c => ∃ (n : Nat) (y : D), ds = [y, .int n] ∧ n ≤ 8 ∧ BadSh n y ∧ c = .ref (He.ga K "BadShares")) := by
  have W := fd_are_shares (P := P) (w := w) (base := base) T
  obtain ⟨fd, F, hm⟩ := T.f_need_shares
  refine fd_mk F hm (ok_X F sc_need_shares rfl fun cdv A outer s H E M vs ds D' hr hl S hR => ?_) (fun _ _ _ _ _ _ us hl => match us, hl with | [_, _], _ => rfl)
  rcases hR with ⟨d, ⟨n, b, rs, rfl, h2, h3, rfl⟩, _, kn⟩ | ⟨c, ⟨n, y, rfl, h2, h3, rfl⟩, kE⟩
  · refine sy_when (b := !true) S (jt_not (jt_val (jd_call W (hr.mono (by decide)) (ja_cons (S.at 0) (ja_cons (S.at 1) ja_nil)) rfl ⟨n, h2, .inl ⟨b, rs, rfl, h3, rfl⟩⟩))) (fun h H1 S1 => by cases h) (fun h H1 S1 => ?_)
    exact tB_nil (kn rfl _ _ S1.bs)
  · refine sy_when (b := !false) S (jt_not (jt_val (jd_call W (hr.mono (by decide)) (ja_cons (S.at 0) (ja_cons (S.at 1) ja_nil)) rfl ⟨n, h2, .inr ⟨y, rfl, h3, rfl⟩⟩))) (fun h H1 S1 => ?_) (fun h H1 S1 => by cases h)
    exact tB_raiseV T.x_BadShares T.g_BadShares bodyE_tk (kE H1 S1.bs)
/-! ### what is asked of a trial -/
def ratesD (l : List St) : D := .tuple (l.map rtS)
def wholeS (l : List St) : Int := sgR (qS (cS 1 l) (cS 2 l)) (qS (cS 3 l) (cS 4 l))
def revS (l : List St) : Bool := !decide (tellS l = 0) && decide (wholeS l = -tellS l)
def stdR (l : List St) (rs : List Rat) : Rat × Rat := (dotR rs (l.map ra), dotR rs (l.map rb))
def stdD' (l : List St) (rs : List Rat) : D := .tuple [dR (stdR l rs).1, dR (stdR l rs).2]
theorem ok_arm_rates (T : Tx K mg) : ∃ fd, FnOk P w K mg base (CX P w) 6 (He.ga K "arm_rates") fd ["trial"] (spX K 1 (AskT ratesD) (FlT K)) ∧ FnP K "arm_rates" "arm_rates" s_arm_rates (He.ga K "arm_rates") fd ∧ mg "arm_rates" = some (.ref (He.ga K "arm_rates")) := by
  have Wt := fd_need_trial (P := P) (w := w) (base := base) T
  have Wa := fd_rates_in (P := P) (w := w) (base := base) T
  obtain ⟨fd, F, hm⟩ := T.f_arm_rates
  refine ⟨fd, ok_X F sc_arm_rates rfl fun cdv A outer s H E M vs ds D' hr hl S hR => ?_, F, hm⟩
  rcases hR with ⟨d, ⟨l, rfl, hT, rfl⟩, k, _⟩ | ⟨c, ⟨a, rfl, h1, h2, rfl⟩, kE⟩
  · refine sy_expr S (jd_callX Wt (hr.mono (by decide)) (ja_cons (S.at 0) ja_nil) rfl ⟨_, rfl, okV_trD hT, isTr_trD hT, rfl⟩) fun H1 S1 => ?_
    exact sy_ret S1 (jd_call Wa (hr.mono (by decide)) (ja_cons (jd_ixT (n := 1) (d := .tuple (l.map stD)) (S1.at 0) jd_int rfl rfl) ja_nil) rfl ⟨true, l, rfl, hT.2.2, rfl⟩) fun v H' x _ p => k v H' x p
  · exact tB_exprX (jx_call Wt (hr.mono (by decide)) bodyE_tk S.all (ja_cons (S.at 0) ja_nil) rfl ⟨a, rfl, h1, h2, rfl⟩ fun H' x => kE H' (S.bs.trans x))
theorem ok_arm_shares (T : Tx K mg) : ∃ fd, FnOk P w K mg base (CX P w) 6 (He.ga K "arm_shares") fd ["trial"] (spX K 1 (AskT shD) (FlT K)) ∧ FnP K "arm_shares" "arm_shares" s_arm_shares (He.ga K "arm_shares") fd ∧ mg "arm_shares" = some (.ref (He.ga K "arm_shares")) := by
  have Wt := fd_need_trial (P := P) (w := w) (base := base) T
  have Wa := fd_shares_in (P := P) (w := w) (base := base) T
  obtain ⟨fd, F, hm⟩ := T.f_arm_shares
  refine ⟨fd, ok_X F sc_arm_shares rfl fun cdv A outer s H E M vs ds D' hr hl S hR => ?_, F, hm⟩
  rcases hR with ⟨d, ⟨l, rfl, hT, rfl⟩, k, _⟩ | ⟨c, ⟨a, rfl, h1, h2, rfl⟩, kE⟩
  · refine sy_expr S (jd_callX Wt (hr.mono (by decide)) (ja_cons (S.at 0) ja_nil) rfl ⟨_, rfl, okV_trD hT, isTr_trD hT, rfl⟩) fun H1 S1 => ?_
    exact sy_ret S1 (jd_call Wa (hr.mono (by decide)) (ja_cons (jd_ixT (n := 1) (d := .tuple (l.map stD)) (S1.at 0) jd_int rfl rfl) ja_nil) rfl ⟨true, l, rfl, hT.2.2, hT.ne, rfl⟩) fun v H' x _ p => k v H' x p
  · exact tB_exprX (jx_call Wt (hr.mono (by decide)) bodyE_tk S.all (ja_cons (S.at 0) ja_nil) rfl ⟨a, rfl, h1, h2, rfl⟩ fun H' x => kE H' (S.bs.trans x))
theorem ok_strata_tell (T : Tx K mg) : ∃ fd, FnOk P w K mg base (CX P w) 6 (He.ga K "strata_tell") fd ["trial"] (spX K 1 (AskT fun l => .int (tellS l)) (FlT K)) ∧ FnP K "strata_tell" "strata_tell" s_strata_tell (He.ga K "strata_tell") fd ∧ mg "strata_tell" = some (.ref (He.ga K "strata_tell")) := by
  have Wt := fd_need_trial (P := P) (w := w) (base := base) T
  have Wa := fd_strata_sign (P := P) (w := w) (base := base) T
  obtain ⟨fd, F, hm⟩ := T.f_strata_tell
  refine ⟨fd, ok_X F sc_strata_tell rfl fun cdv A outer s H E M vs ds D' hr hl S hR => ?_, F, hm⟩
  rcases hR with ⟨d, ⟨l, rfl, hT, rfl⟩, k, _⟩ | ⟨c, ⟨a, rfl, h1, h2, rfl⟩, kE⟩
  · refine sy_expr S (jd_callX Wt (hr.mono (by decide)) (ja_cons (S.at 0) ja_nil) rfl ⟨_, rfl, okV_trD hT, isTr_trD hT, rfl⟩) fun H1 S1 => ?_
    exact sy_ret S1 (jd_call Wa (hr.mono (by decide)) (ja_cons (S1.at 0) ja_nil) rfl ⟨l, rfl, hT.2.2, hT.ne, rfl⟩) fun v H' x _ p => k v H' x p
  · exact tB_exprX (jx_call Wt (hr.mono (by decide)) bodyE_tk S.all (ja_cons (S.at 0) ja_nil) rfl ⟨a, rfl, h1, h2, rfl⟩ fun H' x => kE H' (S.bs.trans x))
theorem ok_whole_tells (T : Tx K mg) : ∃ fd, FnOk P w K mg base (CX P w) 7 (He.ga K "whole_tells") fd ["trial"] (spX K 1 (AskT fun l => .int (wholeS l)) (FlT K)) ∧ FnP K "whole_tells" "whole_tells" s_whole_tells (He.ga K "whole_tells") fd ∧ mg "whole_tells" = some (.ref (He.ga K "whole_tells")) := by
  obtain ⟨f0, ok0, F0, m0⟩ := ok_whole_rates (P := P) (w := w) (base := base) T
  have W0 := fd_mk F0 m0 ok0 (fun _ _ _ _ _ _ us hl => match us, hl with | [_], _ => rfl)
  have Ws := fd_sign_of (P := P) (w := w) (base := base) T
  obtain ⟨fd, F, hm⟩ := T.f_whole_tells
  refine ⟨fd, ok_X F sc_whole_tells rfl fun cdv A outer s H E M vs ds D' hr hl S hR => ?_, F, hm⟩
  have nd := sc_whole_tells.nd
  rcases hR with ⟨d, ⟨l, rfl, hT, rfl⟩, k, _⟩ | ⟨c, ⟨a, rfl, h1, h2, rfl⟩, kE⟩
  · have S : Sy K H M [some (.dat (trD l)), none, none] [] _ _ := S
    have hb := bz_wh hT.2.2 hT.ne
    refine sy_asg S (jd_callX W0 (hr.mono (by decide)) (ja_cons (S.at 0) ja_nil) rfl ⟨l, rfl, hT, rfl⟩) (jg_tup rfl (jgs_cons (jg_name 1 nd) (jgs_cons (jg_name 2 nd) jgs_nil))) fun σ1 H1 S1 => ?_
    have S1 : Sy K H M [some (.dat (trD l)), some (.dat (dR (qS (cS 1 l) (cS 2 l)))), some (.dat (dR (qS (cS 3 l) (cS 4 l))))] [] σ1 H1 := S1
    exact sy_ret S1 (jd_call Ws (hr.mono (by decide)) (ja_cons (S1.at 1) (ja_cons (S1.at 2) ja_nil)) rfl ⟨_, _, rfl, hb.1.mono (by decide), hb.2.mono (by decide), rfl⟩) fun v H' x _ p => k v H' x p
  · exact sy_asgE (jx_call W0 (hr.mono (by decide)) bodyE_tk S.all (ja_cons (S.at 0) ja_nil) rfl ⟨a, rfl, h1, h2, rfl⟩ fun H' x => kE H' (S.bs.trans x))
theorem ok_is_reversed (T : Tx K mg) : ∃ fd, FnOk P w K mg base (CX P w) 8 (He.ga K "is_reversed") fd ["trial"] (spX K 1 (AskT fun l => .bool (revS l)) (FlT K)) ∧ FnP K "is_reversed" "is_reversed" s_is_reversed (He.ga K "is_reversed") fd ∧ mg "is_reversed" = some (.ref (He.ga K "is_reversed")) := by
  have Wt := fd_need_trial (P := P) (w := w) (base := base) T
  have Wa := fd_strata_sign (P := P) (w := w) (base := base) T
  obtain ⟨f0, ok0, F0, m0⟩ := ok_whole_tells (P := P) (w := w) (base := base) T
  have W0 := fd_mk F0 m0 ok0 (fun _ _ _ _ _ _ us hl => match us, hl with | [_], _ => rfl)
  obtain ⟨fd, F, hm⟩ := T.f_is_reversed
  refine ⟨fd, ok_X F sc_is_reversed rfl fun cdv A outer s H E M vs ds D' hr hl S hR => ?_, F, hm⟩
  rcases hR with ⟨d, ⟨l, rfl, hT, rfl⟩, k, _⟩ | ⟨c, ⟨a, rfl, h1, h2, rfl⟩, kE⟩
  · refine sy_expr S (jd_callX Wt (hr.mono (by decide)) (ja_cons (S.at 0) ja_nil) rfl ⟨_, rfl, okV_trD hT, isTr_trD hT, rfl⟩) fun H1 S1 => ?_
    refine sy_ret S1 (jd_and (k := !decide (tellS l = 0)) (jd_neI (jd_call Wa (hr.mono (by decide)) (ja_cons (S1.at 0) ja_nil) rfl ⟨l, rfl, hT.2.2, hT.ne, rfl⟩) jd_int) (fun e => by show PyData.bool (!decide (tellS l = 0) && _) = _; rw [e]; rfl) (fun e => Jd.is (jd_eqI (jd_callX W0 (hr.mono (by decide)) (ja_cons (S1.at 0) ja_nil) rfl ⟨l, rfl, hT, rfl⟩) (jd_neg (jd_call Wa (hr.mono (by decide)) (ja_cons (S1.at 0) ja_nil) rfl ⟨l, rfl, hT.2.2, hT.ne, rfl⟩))) (by show _ = PyData.bool (!decide (tellS l = 0) && _); rw [e]; rfl))) fun v H' x _ p => k v H' x p
  · exact tB_exprX (jx_call Wt (hr.mono (by decide)) bodyE_tk S.all (ja_cons (S.at 0) ja_nil) rfl ⟨a, rfl, h1, h2, rfl⟩ fun H' x => kE H' (S.bs.trans x))
/-- standardised -/
def AskS : List D → D → Prop := fun ds d => ∃ (l : List St) (b : Bool) (rs : List Rat), ds = [trD l, seqD b (rs.map dR)] ∧ TrOk l ∧ GoodSh l.length rs ∧ d = stdD' l rs
def FlS (K : PySem.W.Frag) : List D → Value → Prop := fun ds c => (∃ a y : D, ds = [a, y] ∧ okV a = true ∧ isTr a = false ∧ c = .ref (He.ga K "BadTrial")) ∨ ∃ (l : List St) (y : D), ds = [trD l, y] ∧ TrOk l ∧ BadSh l.length y ∧ c = .ref (He.ga K "BadShares")
theorem ok_standardised (T : Tx K mg) : ∃ fd, FnOk P w K mg base (CX P w) 6 (He.ga K "standardised") fd ["trial", "shares"] (spX K 2 AskS (FlS K)) ∧ FnP K "standardised" "standardised" s_standardised (He.ga K "standardised") fd ∧ mg "standardised" = some (.ref (He.ga K "standardised")) := by
  have Wt := fd_need_trial (P := P) (w := w) (base := base) T
  have Wn := fd_need_shares (P := P) (w := w) (base := base) T
  have Wa := fd_rates_in (P := P) (w := w) (base := base) T
  have Wm := fd_mean_of (P := P) (w := w) (base := base) T
  obtain ⟨fd, F, hm⟩ := T.f_standardised
  refine ⟨fd, ok_X F sc_standardised rfl fun cdv A outer s H E M vs ds D' hr hl S hR => ?_, F, hm⟩
  have nd := sc_standardised.nd
  rcases hR with ⟨d, ⟨l, b, rs, rfl, hT, hG, rfl⟩, k, _⟩ | ⟨c, hF, kE⟩
  · have hl8 := hT.2.2.1
    refine sy_expr S (jd_callX Wt (hr.mono (by decide)) (ja_cons (S.at 0) ja_nil) rfl ⟨_, rfl, okV_trD hT, isTr_trD hT, rfl⟩) fun H1 S1 => ?_
    refine sy_expr S1 (jd_callX Wn (hr.mono (by decide)) (ja_cons (S1.at 1) (ja_cons (jd_len T.n_len (jd_ixT (n := 1) (d := .tuple (l.map stD)) (S1.at 0) jd_int rfl rfl) (.inl rfl)) ja_nil)) rfl ⟨l.length, b, rs, by rw [List.length_map], hl8, hG, rfl⟩) fun H2 S2 => ?_
    have S2 : Sy K H M [some (.dat (trD l)), some (.dat (seqD b (rs.map dR))), none, none, none] [] _ H2 := S2
    refine sy_set 2 S2 (jd_call Wa (hr.mono (by decide)) (ja_cons (jd_ixT (n := 1) (d := .tuple (l.map stD)) (S2.at 0) jd_int rfl rfl) ja_nil) rfl ⟨true, l, rfl, hT.2.2, rfl⟩) (fun σ3 H3 S3 => ?_) nd
    have S3 : Sy K H M [some (.dat (trD l)), some (.dat (seqD b (rs.map dR))), some (.dat (.tuple (l.map rtS))), none, none] [] σ3 H3 := S3
    have hs7 : ∀ x ∈ rs, Bz 7 x := fun x hx => (hG.2.1 x hx).2.2
    have hr8 : rs.length ≤ 8 := by rw [hG.1]; exact hl8
    have da : DotOk rs (l.map ra) := dot_ok hs7 (fun x hx => by obtain ⟨s, hs, rfl⟩ := List.mem_map.mp hx; exact (bz_st (hT.2.2.2 s hs)).1) hr8
    have db : DotOk rs (l.map rb) := dot_ok hs7 (fun x hx => by obtain ⟨s, hs, rfl⟩ := List.mem_map.mp hx; exact (bz_st (hT.2.2.2 s hs)).2) hr8
    refine sy_ret S3 (jd_tup (ja_cons (jd_call Wm (hr.mono (by decide)) (ja_cons (Jd.is (Jn.jd (sy_lcM (α := St) (g := rtS) (xs := l) S3 (jw_tup (S3.at 2)) (fun s => dR (ra s)) (by omega) (fun d ρ => match d with | .tuple [x, y] => (ρ.set 3 (some (.dat x))).set 4 (some (.dat y)) | _ => ρ) (js := [3, 4]) (own := [("one", 3), ("other", 4)]) (by simp) ?c1 ?c2 (blkOk_by (by rfl)) rfl nd)) (show _ = seqD false ((l.map ra).map dR) by rw [List.map_map]; rfl)) (ja_cons (S3.at 1) ja_nil)) rfl ⟨false, b, _, _, rfl, da, rfl⟩) (ja_cons (jd_call Wm (hr.mono (by decide)) (ja_cons (Jd.is (Jn.jd (sy_lcM (α := St) (g := rtS) (xs := l) S3 (jw_tup (S3.at 2)) (fun s => dR (rb s)) (by omega) (fun d ρ => match d with | .tuple [x, y] => (ρ.set 3 (some (.dat x))).set 4 (some (.dat y)) | _ => ρ) (js := [3, 4]) (own := [("one", 3), ("other", 4)]) (by simp) ?d1 ?d2 (blkOk_by (by rfl)) rfl nd)) (show _ = seqD false ((l.map rb).map dR) by rw [List.map_map]; rfl)) (ja_cons (S3.at 1) ja_nil)) rfl ⟨false, b, _, _, rfl, db, rfl⟩) ja_nil))) fun v H' x _ p => k v H' x p
    case c1 =>
      rintro _ d ⟨s, H, C, cl, fp, rfl⟩ _
      exact jg_tup rfl (jgs_cons (jg_name 3 nd) (jgs_cons (jg_name 4 nd) jgs_nil))
    case c2 =>
      rintro j s _ B2 M2 σ2 H2 h1 ⟨s', H, C, cl, fp, rfl⟩ S'
      exact S'.at 3
    case d1 =>
      rintro _ d ⟨s, H, C, cl, fp, rfl⟩ _
      exact jg_tup rfl (jgs_cons (jg_name 3 nd) (jgs_cons (jg_name 4 nd) jgs_nil))
    case d2 =>
      rintro j s _ B2 M2 σ2 H2 h1 ⟨s', H, C, cl, fp, rfl⟩ S'
      exact S'.at 4
  · rcases hF with ⟨a, y, rfl, h1, h2, rfl⟩ | ⟨l, y, rfl, hT, hB, rfl⟩
    · exact tB_exprX (jx_call Wt (hr.mono (by decide)) bodyE_tk S.all (ja_cons (S.at 0) ja_nil) rfl ⟨a, rfl, h1, h2, rfl⟩ fun H' x => kE H' (S.bs.trans x))
    · refine sy_expr S (jd_callX Wt (hr.mono (by decide)) (ja_cons (S.at 0) ja_nil) rfl ⟨_, rfl, okV_trD hT, isTr_trD hT, rfl⟩) fun H1 S1 => ?_
      have hl8 := hT.2.2.1
      exact tB_exprX (jx_call Wn (hr.mono (by decide)) bodyE_tk S1.all (ja_cons (S1.at 1) (ja_cons (jd_len T.n_len (jd_ixT (n := 1) (d := .tuple (l.map stD)) (S1.at 0) jd_int rfl rfl) (.inl rfl)) ja_nil)) rfl ⟨l.length, y, by rw [List.length_map], hl8, hB, rfl⟩ fun H' x => kE H' (S1.bs.trans x))
end K58

set_option maxHeartbeats 4000000
namespace K58
open PySem PySem.Spec PyProof.Rows L2 J Evl LamX NdefX
variable {P : Program} {w : World} {K : PySem.W.Frag} {mg : Str → Option Value} {base : Heap}
theorem jt_ninS {X : Cx} {M : List Addr} {σ : L2.St} {H : Hp} {a b : Expr} {pos : Pos} {z : Str} {c : Nat} (ha : Jd X M a σ H (.str ⟨#[c]⟩)) (hb : Jd X M b σ H (.str z)) (hm : behindInMarks .NotIn b = false) : Jt X M (.Compare a [.NotIn] [b] pos) σ H (!decide (c ∈ z.cps.toList)) := fun al H1 y Q q =>
  leT (pt_cmpR op_notIn_sign pe_W pe_W hm) (ha al H1 y _ fun v H2 y2 p => hb al H2 (y.trans y2) _ fun w H3 y3 r => ⟨c, z, dStr p, dStr r, _, rfl, q H3 (y2.trans y3)⟩)
/-! ### texts, ascending -/
theorem asc_pw : ∀ {l : List D}, ascD l = true ↔ (l.map wd1).Pairwise (fun a b => a.cps.toList < b.cps.toList)
  | [] => by simp [ascD]
  | [a] => by simp [ascD]
  | a :: b :: l => by
    have ih := asc_pw (l := b :: l)
    have e : ascD (a :: b :: l) = (sLt (wd1 a) (wd1 b) && ascD (b :: l)) := rfl
    rw [e, Bool.and_eq_true, ih]
    constructor
    · rintro ⟨h1, h2⟩
      have h1 : (wd1 a).cps.toList < (wd1 b).cps.toList := of_decide_eq_true h1
      refine List.pairwise_cons.mpr ⟨fun x hx => ?_, h2⟩
      have hx : x = wd1 b ∨ x ∈ l.map wd1 := List.mem_cons.mp hx
      rcases hx with rfl | hx
      · exact h1
      · exact List.lt_trans h1 ((List.pairwise_cons.mp h2).1 x hx)
    · intro h
      have h := List.pairwise_cons.mp h
      exact ⟨decide_eq_true (h.1 _ List.mem_cons_self), h.2⟩
theorem pw_sorted : ∀ {ws : List Str}, ws.Pairwise (fun a b => a.cps.toList < b.cps.toList) → sortedS ws = true
  | [], _ => rfl
  | [_], _ => rfl
  | a :: b :: ws, h => by
    have h1 := List.pairwise_cons.mp h
    have ih := pw_sorted (ws := b :: ws) h1.2
    have hab := h1.1 b List.mem_cons_self
    show (!ltCps b.cps.toList a.cps.toList && risingS b ws) = true
    rw [Bool.and_eq_true]
    refine ⟨?_, ih⟩
    rw [ltCps_eq, decide_eq_false fun q => List.lt_irrefl _ (List.lt_trans hab q)]
    rfl
theorem pw_nodup {ws : List Str} (h : ws.Pairwise (fun a b => a.cps.toList < b.cps.toList)) : ws.Nodup := h.imp fun {a b} q e => by
  rw [e] at q
  exact List.lt_irrefl _ q
theorem leR_pw : ∀ {zs : List Str}, (zs.map k0).Pairwise leR → zs.Nodup → zs.Pairwise (fun a b => a.cps.toList < b.cps.toList)
  | [], _, _ => .nil
  | z :: zs, h, nd => by
    have h1 := List.pairwise_cons.mp h
    have n1 := List.nodup_cons.mp nd
    refine List.pairwise_cons.mpr ⟨fun x hx => ?_, leR_pw h1.2 n1.2⟩
    have h2 := leR_k0.mp (h1.1 (k0 x) (List.mem_map.mpr ⟨x, hx, rfl⟩))
    by_cases q : z.cps.toList < x.cps.toList
    · exact q
    · have e : z.cps.toList = x.cps.toList := List.le_antisymm h2 q
      have e2 : z = x := by
        cases z; cases x
        rw [Str.mk.injEq]
        exact Array.ext' e
      exact absurd (e2 ▸ hx) n1.1
theorem asc_eq {ws : List Str} : ws = ascS ws ↔ ws.Pairwise (fun a b => a.cps.toList < b.cps.toList) := by
  constructor
  · intro e
    have nd : ws.Nodup := by
      rw [e]
      exact (sortS_perm (ddS ws)).nodup_iff.mpr (nd_ddS ws)
    refine leR_pw ?_ nd
    rw [e]
    show ((sortS (ddS ws)).map k0).Pairwise leR
    have e2 : (sortS (ddS ws)).map k0 = sortR ((ddS ws).map k0) := by
      unfold sortS
      rw [List.map_map]
      have hall : ∀ x ∈ sortR ((ddS ws).map k0), (k0 ∘ (·.1)) x = x := fun x hx => by
        have := (sortR_perm _).mem_iff.mp hx
        obtain ⟨y, _, rfl⟩ := List.mem_map.mp this
        rfl
      rw [List.map_congr_left hall]
      exact List.map_id' _
    rw [e2]
    exact sortR_sorted _
  · intro h
    have nd := pw_nodup h
    show ws = sortS (ddS ws)
    rw [ddS_nd nd]
    exact sortS_eq (List.Perm.refl _) (pw_sorted h)
theorem asc_dec {l : List D} : decide (l.map wd1 = ascS (l.map wd1)) = ascD l := by
  cases h : ascD l with
  | true => exact decide_eq_true (asc_eq.mpr (asc_pw.mp h))
  | false =>
    refine decide_eq_false fun e => ?_
    have := asc_pw.mpr (asc_eq.mp e)
    rw [h] at this
    cases this
theorem eqv_lst (xs ys : List D) : PyData.eqv (.list xs) (.list ys) = PyData.eqvAll xs ys := by simp [PyData.eqv]
theorem eqv_nil1 (xs : List D) : PyData.eqv (.list xs) (.list []) = xs.isEmpty := by
  cases xs <;> simp [PyData.eqv, PyData.eqvAll]
theorem lay_ones {α : Type} (xs : List α) : SeqAt.shaped (.list (xs.map fun _ => PyData.int 1)) = true := (lay_lst (n := 0).mpr fun x hx => by obtain ⟨y, _, rfl⟩ := List.mem_map.mp hx; exact lay_int).shaped (by decide)
theorem filt_all {α : Type} (p : α → Bool) (xs : List α) : ((xs.filter fun x => !p x).map fun _ => PyData.int 1).isEmpty = xs.all p := by
  induction xs with
  | nil => rfl
  | cons x xs ih =>
    rw [List.all_cons, List.filter_cons]
    cases p x with
    | true => simpa using ih
    | false => simp
/-! ### the law's own trials -/
theorem fd_law_sr_is_count (T : Tx K mg) : Fd CX0 P w K mg base 2 "_law_sr_is_count" ["value"] (spD K 1 fun ds d => ∃ a, ds = [a] ∧ d = .bool (isCt a)) := by
  obtain ⟨fd, F, hm⟩ := T.f_law_sr_is_count
  refine fd_mk F hm (ok_D F sc_law_sr_is_count rfl fun cdv A outer s H E M vs ds d D' hr hl hR S k _ => ?_) (fun _ _ _ _ _ _ us hl => match us, hl with | [_], _ => rfl)
  obtain ⟨a, rfl, rfl⟩ := hR
  refine sy_ret S (jd_and3 (k1 := dIsI a) (k2 := !dIsB a) (jd_isi T.n_isinstance T.n_int boot_int (S.at 0) (kit_int a)) (fun h => by cases a <;> first | rfl | cases h) (fun _ => jd_not (jd_isi T.n_isinstance T.n_bool boot_bool (S.at 0) (kit_bool a))) (fun _ h => by cases a <;> first | rfl | cases h) (fun h1 h2 => ?_)) fun v H' x _ p => k v H' x p
  cases a <;> first | (cases h1; done) | (cases h2; done) | exact jd_ge (S.at 0) jd_int
theorem fd_law_sr_is_word (T : Tx K mg) : Fd CX0 P w K mg base 2 "_law_sr_is_word" ["value"] (spD K 1 fun ds d => ∃ a, ds = [a] ∧ okV a = true ∧ d = .bool (isWd a)) := by
  obtain ⟨fd, F, hm⟩ := T.f_law_sr_is_word
  refine fd_mk F hm (ok_D F sc_law_sr_is_word rfl fun cdv A outer s H E M vs ds d D' hr hl hR S k _ => ?_) (fun _ _ _ _ _ _ us hl => match us, hl with | [_], _ => rfl)
  obtain ⟨a, rfl, hok, rfl⟩ := hR
  have nd := sc_law_sr_is_word.nd
  have hu := hr.units
  cases a with
  | str z =>
    have hz := okV_str hok
    have e0 : isWd (.str z) = ((decide ((1 : Int) ≤ z.length) && decide ((z.length : Int) ≤ 8)) && z.cps.toList.all fun c => decide (c ∈ abc.cps.toList)) := rfl
    refine sy_when (b := !true || !(decide ((1 : Int) ≤ z.length) && decide ((z.length : Int) ≤ 8))) S (jt_or (jt_not (jt_val (jd_isi T.n_isinstance T.n_str boot_str (S.at 0) (kit_str (.str z))))) (fun _ => jt_not (jt_chain op_le op_le jd_int (jd_lenS T.n_len (S.at 0) (by omega)) jd_int (by with_unfolding_all rfl)))) (fun h H1 S1 => ?_) (fun h H1 S1 => ?_)
    · have h2 : (decide ((1 : Int) ≤ z.length) && decide ((z.length : Int) ≤ 8)) = false := by
        cases q : (decide ((1 : Int) ≤ z.length) && decide ((z.length : Int) ≤ 8)) with
        | false => rfl
        | true => rw [q] at h; cases h
      rw [e0, h2] at k
      exact sy_ret S1 jd_bl fun v H' x _ p => k v H' x p
    have h2 : (decide ((1 : Int) ≤ z.length) && decide ((z.length : Int) ≤ 8)) = true := by
      cases q : (decide ((1 : Int) ≤ z.length) && decide ((z.length : Int) ≤ 8)) with
      | true => rfl
      | false => rw [q] at h; cases h
    rw [e0, h2, Bool.true_and, ← filt_all (fun c => decide (c ∈ abc.cps.toList)) z.cps.toList, ← eqv_nil1] at k
    have S1 : Sy K H M [some (.dat (.str z)), none] [] _ H1 := S1
    refine sy_ret S1 (jd_eq hu (Jn.jd (sy_lcF (α := Nat) (g := fun c => .str ⟨#[c]⟩) (xs := z.cps.toList) S1 (jw_str (S1.at 0)) (fun c => !decide (c ∈ abc.cps.toList)) (fun _ => .int 1) (by rw [Array.length_toList]; exact Nat.le_trans hz.1 (by decide)) (fun d ρ => ρ.set 1 (some (.dat d))) (js := [1]) (own := [("letter", 1)]) (by simp) ?c1 ?c2 ?c3 (blkOk_by (by rfl)) rfl nd)) (Jn.jd (jn_lst ja_nil)) (lay_ones _) rfl) fun v H' x _ p => k v H' x p
    case c1 =>
      rintro _ d ⟨s, H, C, cl, fp, rfl⟩ _
      exact jg_name 1 nd
    case c2 =>
      rintro i c _ B' M' σ' H' h1 ⟨s, H, C, cl, fp, rfl⟩ S'
      exact jt_ninS (S'.at 1) jd_str rfl
    case c3 =>
      rintro i c _ B' M' σ' H' h1 _ ⟨s, H, C, cl, fp, rfl⟩ S'
      exact jd_int
  | _ =>
    refine sy_when (b := !false || true) S (jt_or (jt_not (jt_val (jd_isi T.n_isinstance T.n_str boot_str (S.at 0) (kit_str _)))) (fun z => by cases z)) (fun h H1 S1 => ?_) (fun h H1 S1 => by cases h)
    exact sy_ret S1 jd_bl fun v H' x _ p => k v H' x p
theorem fd_law_sr_is_trial (T : Tx K mg) : Fd CX0 P w K mg base 4 "_law_sr_is_trial" ["value"] (spD K 1 fun ds d => ∃ a, ds = [a] ∧ okV a = true ∧ d = .bool (isTr a)) := by
  have Ww := fd_law_sr_is_word (P := P) (w := w) (base := base) T
  have Wc := fd_law_sr_is_count (P := P) (w := w) (base := base) T
  obtain ⟨fd, F, hm⟩ := T.f_law_sr_is_trial
  refine fd_mk F hm (ok_D F sc_law_sr_is_trial rfl fun cdv A outer s H E M vs ds d D' hr hl hR S k _ => ?_) (fun _ _ _ _ _ _ us hl => match us, hl with | [_], _ => rfl)
  obtain ⟨a, rfl, hok, rfl⟩ := hR
  have nd := sc_law_sr_is_trial.nd
  have hu := hr.units
  by_cases ht : ∃ z l, a = .tuple [.str z, .tuple l]
  · obtain ⟨z, l, rfl⟩ := ht
    have hok := okV_tup hok
    have hz := okV_str (hok.2 (.str z) (by simp))
    have hy := hok.2 (.tuple l) (by simp)
    have hyk := okV_tup hy
    have S : Sy K H M [some (.dat (.tuple [.str z, .tuple l])), none, none, none] [] _ _ := S
    refine sy_when S (jt_or5 (jt_not (jt_val (jd_isi T.n_isinstance T.n_tuple boot_tuple (S.at 0) (kit_tuple (.tuple [.str z, .tuple l]))))) (fun _ => jt_neI (jd_len T.n_len (S.at 0) (.inl rfl)) jd_int)
      (fun _ _ => jt_not (jt_val (jd_isi T.n_isinstance T.n_str boot_str (jd_ixT (n := 0) (d := .str z) (S.at 0) jd_int rfl rfl) (kit_str (.str z))))) (fun _ _ _ => jt_ne hu (jd_ixT (n := 0) (d := .str z) (S.at 0) jd_int rfl rfl) jd_str (shS hz.2) (shS (by decide +kernel))) (fun _ _ _ _ => jt_not (jt_val (jd_isi T.n_isinstance T.n_tuple boot_tuple (jd_ixT (n := 1) (d := .tuple l) (S.at 0) jd_int rfl rfl) (kit_tuple (.tuple l)))))) (fun h H1 S1 => ?_) (fun h H1 S1 => ?_)
    · rw [eqv_str6] at h
      have hn : ¬ z = "trial" := by simpa [dIsT, dIsS] using h
      have e : isTr (.tuple [.str z, .tuple l]) = false := by rw [isTr_eq, decide_eq_false hn]; rfl
      rw [e] at k
      exact sy_ret S1 jd_bl fun v H' x _ p => k v H' x p
    rw [eqv_str6] at h
    have hn : z = "trial" := by simpa [dIsT, dIsS] using h
    have e0 : isTr (.tuple [.str z, .tuple l]) = ((decide (1 ≤ (l.length : Int)) && decide ((l.length : Int) ≤ 8)) && (l.all isSt && ascD l)) := by rw [isTr_eq, decide_eq_true hn]; rfl
    rw [e0] at k
    have S1 : Sy K H M [some (.dat (.tuple [.str z, .tuple l])), none, none, none] [] _ H1 := S1
    refine sy_for S1 (jw_tup (jd_ixT (n := 1) (d := .tuple l) (S1.at 0) jd_int rfl rfl)) (fun d ρ => ρ.set 1 (some (.dat d))) (js := [1]) (fun d ρ' _ => jg_name 1 nd)
      (fun i ρ' μ' => μ' = [] ∧ (l.take i).all isSt = true ∧ ∃ o1 o2 o3, ρ' = [some (.dat (.tuple [.str z, .tuple l])), o1, o2, o3]) ⟨rfl, rfl, _, _, _, rfl⟩ ?_ ?_ PassesOwn.never rfl
    · rintro i d ρ' μ' σ' H' B' hd ⟨rfl, hall, o1, o2, o3, rfl⟩ hB S3
      have hdl := List.mem_of_getElem? hd
      have hdok := hyk.2 d hdl
      have hno : isSt d = false → ((decide (1 ≤ (l.length : Int)) && decide ((l.length : Int) ≤ 8)) && (l.all isSt && ascD l)) = false := fun h => by
        have : l.all isSt = false := by
          cases q : l.all isSt with
          | false => rfl
          | true => rw [List.all_eq_true.mp q d hdl] at h; cases h
        rw [this, Bool.false_and, Bool.and_false]
      have nx : isSt d = true → (l.take (i + 1)).all isSt = true := fun h => by
        rw [List.take_add_one, hd, List.all_append, hall]; simp [h]
      have S3 : Sy K B' M [some (.dat (.tuple [.str z, .tuple l])), some (.dat d), o2, o3] [] σ' H' := S3
      by_cases ht : dIsT d = true
      · obtain ⟨ts, rfl⟩ : ∃ ts, d = .tuple ts := by cases d <;> first | (cases ht; done) | exact ⟨_, rfl⟩
        have hdk := okV_tup hdok
        by_cases h5 : ∃ x a b c e, ts = [x, a, b, c, e]
        · obtain ⟨x, a, b, c, e, rfl⟩ := h5
          have e1 : isSt (.tuple [x, a, b, c, e]) = (isWd x && ([a, b, c, e].all isCt && (decide (0 < iv a + iv b) && decide (0 < iv c + iv e)))) := isSt_eq x a b c e
          refine sy_when (b := !true || (!decide (((([x, a, b, c, e] : List D).length : Nat) : Int) = 5) || (!isWd x || !([a, b, c, e].all isCt)))) S3 (jt_or4 (jt_not (jt_val (jd_isi T.n_isinstance T.n_tuple boot_tuple (S3.at 1) (kit_tuple (.tuple [x, a, b, c, e]))))) (fun _ => jt_neI (jd_len T.n_len (S3.at 1) (.inl rfl)) jd_int)
            (fun _ _ => jt_not (jt_val (jd_call Ww (hr.mono (by decide)) (ja_cons (jd_ixT (n := 0) (d := x) (S3.at 1) jd_int rfl rfl) ja_nil) rfl ⟨x, rfl, hdk.2 x (by simp), rfl⟩)))
            (fun _ _ _ => Jt.is (jt_ne hu (Jn.jd (sy_lcF (α := D) (g := id) (xs := [a, b, c, e]) S3 (by rw [List.map_id]; exact jw_tup (jd_slFrom (ds := [x, a, b, c, e]) (n := 1) (S3.at 1) jd_int rfl (by simp))) (fun d => !isCt d) (fun _ => .int 1) (by simp) (fun d ρ => ρ.set 3 (some (.dat d))) (js := [3]) (own := [("count", 3)]) (by simp) ?c1 ?c2 ?c3 (blkOk_by (by rfl)) rfl nd)) (Jn.jd (jn_lst ja_nil)) (lay_ones _) rfl) (by rw [eqv_nil1, filt_all]))) (fun h H4 S4 => ?_) (fun h H4 S4 => ?_)
          case c1 =>
            rintro _ d ⟨s, H, C, cl, fp, rfl⟩ _
            exact jg_name 3 nd
          case c2 =>
            rintro j d _ B2 M2 σ2 H2 h1 ⟨s, H, C, cl, fp, rfl⟩ S'
            exact jt_not (jt_val (jd_call Wc (hr.mono (by decide)) (ja_cons (S'.at 3) ja_nil) rfl ⟨d, rfl, rfl⟩))
          case c3 =>
            rintro j d _ B2 M2 σ2 H2 h1 _ ⟨s, H, C, cl, fp, rfl⟩ S'
            exact jd_int
          · have hg : isSt (.tuple [x, a, b, c, e]) = false := by
              rw [e1]
              cases q1 : isWd x <;> cases q2 : [a, b, c, e].all isCt <;> simp_all
            rw [hno hg] at k
            exact sy_ret S4 jd_bl fun v H' x _ p => k v H' (hB.trans x) p
          have hw : isWd x = true := by
            cases q1 : isWd x with
            | true => rfl
            | false => rw [q1] at h; simp at h
          have hc : [a, b, c, e].all isCt = true := by
            cases q2 : [a, b, c, e].all isCt with
            | true => rfl
            | false => rw [q2] at h; simp at h
          have qa := List.all_eq_true.mp hc
          obtain ⟨ea, pa⟩ := isCt_iv (qa a (by simp))
          obtain ⟨eb, pb⟩ := isCt_iv (qa b (by simp))
          obtain ⟨ec, pc⟩ := isCt_iv (qa c (by simp))
          obtain ⟨ee, pe⟩ := isCt_iv (qa e (by simp))
          have hix : ∀ {X : Cx} {M : List Addr} {σ : L2.St} {H : Hp} {ex ix : Expr} {p : Pos} {n : Nat} {y : D}, Jd X M ex σ H (.tuple [x, a, b, c, e]) → Jd X M ix σ H (.int (n : Int)) → ([x, a, b, c, e] : List D)[n]? = some y → y = .int (iv y) → NoSl ix → Jd X M (.Subscript ex ix p) σ H (.int (iv y)) := fun h1 h2 h3 h4 h5 => Jd.is (jd_ixT h1 h2 rfl h3 h5) h4
          refine sy_when (b := decide (iv a + iv b = 0) || decide (iv c + iv e = 0)) S4 (jt_or (jt_eqI (jd_add (hix (n := 1) (S4.at 1) jd_int rfl ea (by intro _ _; rfl)) (hix (n := 2) (S4.at 1) jd_int rfl eb (by intro _ _; rfl))) jd_int) (fun _ => jt_eqI (jd_add (hix (n := 3) (S4.at 1) jd_int rfl ec (by intro _ _; rfl)) (hix (n := 4) (S4.at 1) jd_int rfl ee (by intro _ _; rfl))) jd_int)) (fun h2 H5 S5 => ?_) (fun h2 H5 S5 => ?_)
          · have hg : isSt (.tuple [x, a, b, c, e]) = false := by
              rw [e1, hw, hc]
              simp only [Bool.or_eq_true, decide_eq_true_eq] at h2
              rcases h2 with q | q
              · rw [decide_eq_false (show ¬ 0 < iv a + iv b by omega)]; rfl
              · rw [decide_eq_false (show ¬ 0 < iv c + iv e by omega), Bool.and_false]; rfl
            rw [hno hg] at k
            exact sy_ret S5 jd_bl fun v H' x _ p => k v H' (hB.trans x) p
          · have hg : isSt (.tuple [x, a, b, c, e]) = true := by
              rw [e1, hw, hc]
              simp only [Bool.or_eq_false_iff, decide_eq_false_iff_not] at h2
              rw [decide_eq_true (show 0 < iv a + iv b by omega), decide_eq_true (show 0 < iv c + iv e by omega)]; rfl
            exact tB_nil ⟨_, _, ⟨rfl, nx hg, _, _, _, rfl⟩, S5⟩
        · have e : isSt (.tuple ts) = false := by
            unfold isSt
            split
            · rename_i e; injection e with e; exact absurd ⟨_, _, _, _, _, e⟩ h5
            · rfl
          have hne : decide ((ts.length : Int) = 5) = false := ne5 fun z a b c d e => h5 ⟨z, a, b, c, d, e⟩
          rw [hno e] at k
          refine sy_when (b := !true || (!false || (true || true))) S3 (jt_or4 (k := !true) (l := !false) (m := true) (n := true) (jt_not (jt_val (jd_isi T.n_isinstance T.n_tuple boot_tuple (S3.at 1) (kit_tuple (.tuple ts))))) (fun _ => Jt.is (jt_neI (jd_len T.n_len (S3.at 1) (.inl rfl)) jd_int) (congrArg (! ·) hne)) (fun _ z => by cases z) (fun _ z => by cases z)) (fun h H4 S4 => ?_) (fun h H4 S4 => by cases h)
          exact sy_ret S4 jd_bl fun v H' x _ p => k v H' (hB.trans x) p
      · have ht : dIsT d = false := by simpa using ht
        have e : isSt d = false := by cases d <;> first | rfl | cases ht
        rw [hno e] at k
        refine sy_when (b := !(dIsT d) || (true || (true || true))) S3 (jt_or4 (jt_not (jt_val (jd_isi T.n_isinstance T.n_tuple boot_tuple (S3.at 1) (kit_tuple d)))) (fun z => by rw [ht] at z; cases z) (fun z => by rw [ht] at z; cases z) (fun z => by rw [ht] at z; cases z)) (fun h H4 S4 => ?_) (fun h H4 S4 => by rw [ht] at h; cases h)
        exact sy_ret S4 jd_bl fun v H' x _ p => k v H' (hB.trans x) p
    · rintro ρ' μ' σ' H' ⟨rfl, hall, o1, o2, o3, rfl⟩ S3
      rw [List.take_length] at hall
      rw [hall, Bool.true_and] at k
      have hst : ∀ x ∈ l, isSt x = true := List.all_eq_true.mp hall
      refine sy_setLcM 2 (α := D) (g := id) (xs := l) S3 (by rw [List.map_id]; exact jw_tup (jd_ixT (n := 1) (d := .tuple l) (S3.at 0) jd_int rfl rfl)) (fun d => .str (wd1 d)) (by omega) (fun d ρ => ρ.set 1 (some (.dat d))) (js := [1]) (own := [("row", 1)]) (by simp) ?_ ?_ (blkOk_by (by rfl)) rfl nd fun σ4 H4 S4 => ?_
      · rintro _ d ⟨s, H, C, cl, fp, rfl⟩ _
        exact jg_name 1 nd
      · rintro j d _ B2 M2 σ2 H2 h1 ⟨s, H, C, cl, fp, rfl⟩ S'
        obtain ⟨z1, a1, b1, c1, e1, rfl⟩ := isSt_of (hst d (List.mem_of_getElem? h1))
        exact (jd_ixT (n := 0) (d := .str z1) (S'.at 1) jd_int rfl rfl)
      have S4 : Sy K H M [some (.dat (.tuple [.str z, .tuple l])), o1, some (.dat (.list ((l.map wd1).map PyData.str))), o3] [] σ4 H4 := by
        rw [List.map_map]; exact S4
      have hlen : (((l.map wd1).map PyData.str).length : Int) = (l.length : Int) := by rw [List.length_map, List.length_map]
      rw [← hlen] at k
      refine sy_ret S4 (jd_and (k := decide (1 ≤ (((l.map wd1).map PyData.str).length : Int)) && decide ((((l.map wd1).map PyData.str).length : Int) ≤ 8)) (jd_chain op_le op_le jd_int (jd_len T.n_len (S4.at 2) (.inr rfl)) jd_int (by with_unfolding_all rfl)) (fun e => by rw [e]; rfl) (fun e => ?_)) fun v H' x _ p => k v H' x p
      rw [e, Bool.true_and]
      rw [Bool.and_eq_true] at e
      have h8 : (l.map wd1).length < 64 := by
        have := of_decide_eq_true e.2
        rw [List.length_map] at this
        omega
      have hso : ∀ z ∈ l.map wd1, PyData.strOk z = true := fun y hy => by
        obtain ⟨d, hd, rfl⟩ := List.mem_map.mp hy
        obtain ⟨z1, a1, b1, c1, e1, rfl⟩ := isSt_of (hst d hd)
        exact (okV_str ((okV_tup (hyk.2 _ hd)).2 (.str z1) (by simp))).2
      have lay : ∀ ys : List Str, (∀ z ∈ ys, PyData.strOk z = true) → SeqAt.shaped (.list (ys.map PyData.str)) = true := fun ys h => (lay_lst (n := 1).mpr fun x hx => by obtain ⟨y, hy, rfl⟩ := List.mem_map.mp hx; exact ⟨h y hy, Nat.zero_le _⟩).shaped (by decide)
      refine Jd.is (jd_eq hu (S4.at 2) (jd_sortedSet rfl T.n_sorted T.n_set (S4.at 2) h8) (lay _ hso) (lay _ fun z hz => hso z (mem_ddS.mp ((sortS_perm _).mem_iff.mp hz)))) ?_
      rw [eqv_lst, eqv_strs, asc_dec]
  · have e : isTr a = false := by
      unfold isTr
      split
      · exact absurd ⟨_, _, rfl⟩ ht
      · rfl
    rw [e] at k
    cases a with
    | tuple ts =>
      have hok := okV_tup hok
      by_cases h2 : ∃ x y, ts = [x, y]
      · obtain ⟨x, y, rfl⟩ := h2
        have hbad : (!(dIsS x) || (!PyData.eqv x (.str "trial") || !(dIsT y))) = true := by
          cases x with
          | str z =>
            cases y with
            | tuple l => exact absurd ⟨z, l, rfl⟩ ht
            | _ => simp [dIsT]
          | _ => rfl
        by_cases hs : dIsS x = true
        · obtain ⟨z, rfl⟩ : ∃ z, x = .str z := by cases x <;> first | (cases hs; done) | exact ⟨_, rfl⟩
          have hz := okV_str (hok.2 (.str z) (by simp))
          refine sy_when (b := !true || (!decide (((([.str z, y] : List D).length : Nat) : Int) = 2) || (!true || (!PyData.eqv (.str z) (.str "trial") || !(dIsT y))))) S (jt_or5 (jt_not (jt_val (jd_isi T.n_isinstance T.n_tuple boot_tuple (S.at 0) (kit_tuple (.tuple [.str z, y]))))) (fun _ => jt_neI (jd_len T.n_len (S.at 0) (.inl rfl)) jd_int)
            (fun _ _ => jt_not (jt_val (jd_isi T.n_isinstance T.n_str boot_str (jd_ixT (n := 0) (d := .str z) (S.at 0) jd_int rfl rfl) (kit_str (.str z))))) (fun _ _ _ => jt_ne hu (jd_ixT (n := 0) (d := .str z) (S.at 0) jd_int rfl rfl) jd_str (shS hz.2) (shS (by decide +kernel))) (fun _ _ _ _ => jt_not (jt_val (jd_isi T.n_isinstance T.n_tuple boot_tuple (jd_ixT (n := 1) (d := y) (S.at 0) jd_int rfl rfl) (kit_tuple y))))) (fun h H1 S1 => sy_ret S1 jd_bl fun v H' x _ p => k v H' x p) (fun h H1 S1 => ?_)
          have hb2 : (!PyData.eqv (.str z) (.str "trial") || !(dIsT y)) = true := hbad
          rw [hb2] at h
          simp at h
        · have hx : dIsS x = false := by simpa using hs
          refine sy_when (b := !true || (!decide (((([x, y] : List D).length : Nat) : Int) = 2) || (!(dIsS x) || (true || true)))) S (jt_or5 (o := true) (jt_not (jt_val (jd_isi T.n_isinstance T.n_tuple boot_tuple (S.at 0) (kit_tuple (.tuple [x, y]))))) (fun _ => jt_neI (jd_len T.n_len (S.at 0) (.inl rfl)) jd_int)
            (fun _ _ => jt_not (jt_val (jd_isi T.n_isinstance T.n_str boot_str (jd_ixT (n := 0) (d := x) (S.at 0) jd_int rfl rfl) (kit_str x)))) (fun _ _ z => by rw [hx] at z; cases z) (fun _ _ z => by rw [hx] at z; cases z)) (fun h H1 S1 => sy_ret S1 jd_bl fun v H' x _ p => k v H' x p) (fun h H1 S1 => by rw [hx] at h; simp at h)
      · have hne : decide ((ts.length : Int) = 2) = false := ne2 fun a b z => h2 ⟨a, b, z⟩
        refine sy_when (b := !true || (!false || (true || (true || true)))) S (jt_or5 (jt_not (jt_val (jd_isi T.n_isinstance T.n_tuple boot_tuple (S.at 0) (kit_tuple (.tuple ts))))) (fun _ => Jt.is (jt_neI (jd_len T.n_len (S.at 0) (.inl rfl)) jd_int) (by rw [hne])) (fun _ z => by cases z) (fun _ z => by cases z) (fun _ z => by cases z)) (fun h H4 S4 => ?_) (fun h H4 S4 => by cases h)
        exact sy_ret S4 jd_bl fun v H' x _ p => k v H' x p
    | _ =>
      refine sy_when (b := !false || (true || (true || (true || true)))) S (jt_or5 (jt_not (jt_val (jd_isi T.n_isinstance T.n_tuple boot_tuple (S.at 0) (kit_tuple _)))) (fun z => by cases z) (fun z => by cases z) (fun z => by cases z) (fun z => by cases z)) (fun h H4 S4 => ?_) (fun h H4 S4 => by cases h)
      exact sy_ret S4 jd_bl fun v H' x _ p => k v H' x p
end K58

set_option maxHeartbeats 4000000
namespace K58
open PySem PySem.Spec PyProof.Rows L2 J Evl
variable {P : Program} {w : World} {K : PySem.W.Frag} {mg : Str → Option Value} {base : Heap}
/-! ### weights, shares -/
def WtOk (m : Nat) (ws : List Int) : Prop := ws.length = m ∧ (∀ x ∈ ws, 0 ≤ x ∧ x ≤ 8) ∧ 0 < ws.sum
theorem int_sum_nn : ∀ {ws : List Int}, (∀ x ∈ ws, 0 ≤ x ∧ x ≤ 8) → 0 ≤ ws.sum ∧ ws.sum ≤ 8 * ws.length
  | [], _ => by simp
  | x :: ws, h => by
    have a := int_sum_nn (ws := ws) fun y hy => h y (List.mem_cons_of_mem _ hy)
    have b := h x List.mem_cons_self
    rw [List.sum_cons, List.length_cons]; omega
def PreWt : List Sv → Mu → Prop := fun ss μ => ∃ (a l : Addr) (m : Nat), ss = [.val (.ref a), .dat (.int m), .dat (.int 9)] ∧ 1 ≤ m ∧ m ≤ 8 ∧ Rdy a l 24 μ
def RWt : List Sv → Mu → Sv → Mu → Prop := fun ss μ s μ' => ∃ (a : Addr) (m : Nat) (ws : List Int), ss = [.val (.ref a), .dat (.int m), .dat (.int 9)] ∧ WtOk m ws ∧ s = .dat (.list (ws.map PyData.int)) ∧ Adv 24 μ μ'
theorem fd_law_weights (T : Tx K mg) : Fd CX0 P w K mg base 4 "_law_weights" ["draws", "many", "top"] (spM K 3 PreWt RWt noF) := by
  have Wd := fd_law_draw (P := P) (w := w) (base := base) T
  have Wp := fd_law_pick (P := P) (w := w) (base := base) T
  obtain ⟨fd, F, hm⟩ := T.f_law_weights
  refine fd_mk F hm (ok_M F sc_law_weights rfl fun cdv A outer s H E B M0 vs ss μ D' hr hl hP S k kn => ?_) (fun _ _ _ _ _ _ us hl => match us, hl with | [_, _, _], _ => rfl)
  obtain ⟨a, l, m, rfl, m1, m8, hrdy⟩ := hP
  obtain ⟨t0, hcap, hD, adv⟩ := hrdy.dn
  have nd := sc_law_weights.nd
  refine tB_setLc 3 (lcE_tree S (jw_rng1 (n := (m : Int)) T.n_range (S.at 1) (by omega)) (fun d ρ => ρ.set 4 (some (.dat d))) (js := [4]) (own := [("lap", 4)]) (by simp)
    (fun i acc μ' => ∃ ws : List Int, acc = ws.map PyData.int ∧ ws.length = i ∧ i ≤ 8 ∧ (∀ x ∈ ws, 0 ≤ x ∧ x ≤ 8) ∧ Dn a l t0 (3 * i) μ') ⟨[], rfl, rfl, by decide, by simp, hD⟩ ?_ ?_ ?_ ?_) (blkOk_by (by rfl)) rfl nd
  · rintro i acc μ' ⟨ws, rfl, h2, h3, _⟩
    simp; omega
  · rintro _ d ⟨s, H, C, cl, fp, rfl⟩ _
    exact jg_name 4 nd
  · rintro i d acc μ' _ B' M' σ' H' Q hd ⟨ws, rfl, h2, h3, h4, h5⟩ ⟨s, H, C, cl, fp, rfl⟩ S1 hQ
    have hi : i < m := by have := (rgD_get hd).1; omega
    have hD1 := h5
    have S1 := S1.sx
    refine jm_callE Wp (hr.mono (by decide)) (tA_cons (S1.ev (S1.base.atV 0).js fun v0 H2 S2 => tA_cons (tW_lst (n := 0) (tA_cons (S2.ev jd_int.js fun v1 H3 S3 => tA_cons (S3.ev jd_int.js fun v2 H4 S4 => tA_cons (S4.ev jd_int.js fun v3 H5 S5 => tA_cons (S5.ev jd_int.js fun v4 H6 S6 => tA_cons (S6.ev jd_int.js fun v5 H7 S7 => tA_cons ?_)))))))))
    refine sx_draw0 S7 Wd (hr.mono (by decide)) hD1 (by omega) (S7.base.atV 0).js (S7.base.at 2).js (by decide) (by decide) fun v6 z6 μ6 H8 z60 z61 hD6 S8 => tA_cons ?_
    refine sx_draw0 S8 Wd (hr.mono (by decide)) hD6 (by omega) (S8.base.atV 0).js (S8.base.at 2).js (by decide) (by decide) fun v7 z7 μ7 H9 z70 z71 hD7 S9 => tA_nil ⟨by simp, fun c hc => tA_nil ?_⟩
    let xs : List D := [.int 0, .int 1, .int 1, .int 2, .int 3, .int z6, .int z7]
    have S10 := Sx.mkLst (ts := [.val (.ref a)]) (us := xs.map .dat) (vs := [v0]) (ws := [v1, v2, v3, v4, v5, v6, v7]) (ds := xs) S9 rfl rfl hc
    refine callM1 S10.base (ss := [.val (.ref a), .dat (.list xs)]) S10.vals rfl (preP hD7 (by omega) (by simp [xs]) (by simp [xs])) fun v8 s8 μ8 H10 hR8 S11 hv8 => ?_
    obtain ⟨x, rfl, hx, hD8⟩ := rP hD7 hR8
    obtain ⟨y, rfl, y0, y8⟩ : ∃ y : Int, x = .int y ∧ 0 ≤ y ∧ y ≤ 8 := by
      simp only [xs, List.mem_cons, List.not_mem_nil, or_false] at hx
      rcases hx with rfl | rfl | rfl | rfl | rfl | rfl | rfl <;> exact ⟨_, rfl, by omega, by omega⟩
    refine hQ v8 (.int y) μ8 H10 ⟨ws ++ [y], by simp, by simp; omega, by omega, ?_, ?_⟩ S11 hv8
    · intro e he
      rcases List.mem_append.mp he with he | he
      · exact h4 e he
      · rw [List.mem_singleton.mp he]; omega
    · exact hD8.mono (by omega)
  · rintro a0 acc μ' H4 ⟨ws, rfl, h2, h3, h4, h5⟩ S4
    rw [rgD_len] at h2 h3 h5
    have S5 := (S4.set 3 (s := .val (.ref a0)) (v := .ref a0) rfl).frz 3 0 rfl rfl
    have S5 : Sy K B M0 [some (.val (.ref a)), some (.dat (.int m)), some (.dat (.int 9)), some (.dat (.list (ws.map PyData.int))), none] μ' _ H4 := S5
    obtain ⟨s1, s2⟩ := int_sum_nn h4
    by_cases h0 : 0 < ws.sum
    · refine sy_retE (S5.ev (d := .list (ws.map PyData.int)) (jd_if (jt_gt (jd_sum rfl T.n_sum (S5.at 3)) jd_int) (fun _ => S5.at 3) fun q => ?_) fun v H6 S6 _ pv => k v (.dat (.list (ws.map PyData.int))) μ' H6 ⟨a, m, ws, rfl, ⟨by omega, h4, h0⟩, rfl, adv _ _ (h5.mono (by omega))⟩ (S6.one pv))
      rw [decide_eq_true h0] at q; cases q
    · have hne : 1 ≤ ws.length := by omega
      refine sy_retE (S5.ev (d := .list (((1 : Int) :: ws.drop 1).map PyData.int)) (jd_if (jt_gt (jd_sum rfl T.n_sum (S5.at 3)) jd_int) (fun q => ?_) fun q => Jd.is (Jn.jd (jn_cat (jn_lst (ja_cons jd_int ja_nil)) (jn_slLFrom (n := 1) (S5.at 3) jd_int rfl (by rw [List.length_map]; exact hne)) (by simp; omega))) (by simp)) fun v H6 S6 _ pv => k v (.dat (.list (((1 : Int) :: ws.drop 1).map PyData.int))) μ' H6 ⟨a, m, 1 :: ws.drop 1, rfl, ⟨by simp; omega, fun x hx => ?_, ?_⟩, rfl, adv _ _ (h5.mono (by omega))⟩ (S6.one pv))
      · rw [decide_eq_false h0] at q; cases q
      · rcases List.mem_cons.mp hx with e | e
        · subst e; omega
        · exact h4 x (List.mem_of_mem_drop e)
      · have := (int_sum_nn (ws := ws.drop 1) fun x hx => h4 x (List.mem_of_mem_drop hx)).1
        rw [List.sum_cons]; omega
theorem sum_divs {S : Int} (h : 0 < S) : ∀ ws : List Int, (ws.map fun x => Rat.divInt x S).sum * (S : Rat) = (ws.sum : Rat)
  | [] => by simp
  | x :: ws => by
    have ih := sum_divs h ws
    have p : (0 : Rat) < (S : Rat) := Rat.intCast_pos.mpr h
    have ne : (S : Rat) ≠ 0 := by grind
    have e : Rat.divInt x S * (S : Rat) = (x : Rat) := by rw [Rat.divInt_eq_div]; grind
    rw [List.map_cons, List.sum_cons, List.sum_cons, Rat.intCast_add, Rat.add_mul, ih, e]
def wSh (ws : List Int) : List Rat := ws.map fun x => Rat.divInt x ws.sum
theorem div_le1 {y s : Rat} (p : 0 < s) (e : y ≤ s) : y / s ≤ 1 := by
  have ne : s ≠ 0 := by grind
  have h : y / s * s = y := by grind
  by_cases c : y / s ≤ 1
  · exact c
  · have c : 1 < y / s := by grind
    have h2 : 1 * s < y / s * s := Rat.mul_lt_mul_of_pos_right c p
    grind
theorem le_sum : ∀ {ws : List Int}, (∀ x ∈ ws, 0 ≤ x ∧ x ≤ 8) → ∀ y ∈ ws, y ≤ ws.sum
  | [], _, y, hy => by cases hy
  | x :: ws, h, y, hy => by
    have a := int_sum_nn (ws := ws) fun z hz => h z (List.mem_cons_of_mem _ hz)
    have b := h x List.mem_cons_self
    rw [List.sum_cons]
    rcases List.mem_cons.mp hy with rfl | hy
    · omega
    · have := le_sum (fun z hz => h z (List.mem_cons_of_mem _ hz)) y hy
      omega
theorem wSh_ok {m : Nat} {ws : List Int} (h : WtOk m ws) (h8 : m ≤ 8) : GoodSh m (wSh ws) := by
  obtain ⟨h1, h2, h3⟩ := h
  obtain ⟨s1, s2⟩ := int_sum_nn h2
  have p : (0 : Rat) < (ws.sum : Rat) := Rat.intCast_pos.mpr h3
  refine ⟨by unfold wSh; rw [List.length_map, h1], fun x hx => ?_, ?_⟩
  · obtain ⟨y, hy, rfl⟩ := List.mem_map.mp hx
    have hb := h2 y hy
    have hs := le_sum h2 y hy
    refine ⟨Rat.divInt_nonneg hb.1 (by omega), ?_, bz_of h3 (by decide) (by omega) (by omega)⟩
    rw [Rat.divInt_eq_div]
    have e : ((y : Int) : Rat) ≤ (ws.sum : Rat) := Rat.intCast_le_intCast.mpr hs
    exact div_le1 p e
  · have e := sum_divs h3 ws
    unfold wSh
    have ne : (ws.sum : Rat) ≠ 0 := by grind
    generalize (List.map (fun x => Rat.divInt x ws.sum) ws).sum = t at *
    generalize ((ws.sum : Int) : Rat) = q at *
    grind
def PreSh : List Sv → Mu → Prop := fun ss μ => ∃ (a l : Addr) (m : Nat), ss = [.val (.ref a), .dat (.int m)] ∧ 1 ≤ m ∧ m ≤ 8 ∧ Rdy a l 24 μ
def RSh : List Sv → Mu → Sv → Mu → Prop := fun ss μ s μ' => ∃ (a : Addr) (m : Nat) (ls : List Rat), ss = [.val (.ref a), .dat (.int m)] ∧ GoodSh m ls ∧ s = .dat (seqD true (ls.map dR)) ∧ Adv 24 μ μ'
theorem fd_law_shares (T : Tx K mg) : Fd CX0 P w K mg base 5 "_law_shares" ["draws", "many"] (spM K 2 PreSh RSh noF) := by
  have W1 := fd_law_weights (P := P) (w := w) (base := base) T
  have W3 := fd_law_q (P := P) (w := w) (base := base) T
  obtain ⟨fd, F, hm⟩ := T.f_law_shares
  refine fd_mk F hm (ok_M F sc_law_shares rfl fun cdv A outer s H E B M0 vs ss μ D' hr hl hP S k kn => ?_) (fun _ _ _ _ _ _ us hl => match us, hl with | [_, _], _ => rfl)
  obtain ⟨a, l, m, rfl, m1, m8, hrdy⟩ := hP
  have nd := sc_law_shares.nd
  refine sy_setE 2 (jm_call1 S W1 (hr.mono (by decide)) (jsa_cons (S.atV 0).js (jsa_cons (S.at 1).js (jsa_cons jd_int.js jsa_nil))) rfl ⟨a, l, m, rfl, m1, m8, hrdy⟩ fun v s' μ1 H1 hR S1 hv => ?_) nd
  obtain ⟨_, m', ws, e1, hw, rfl, st⟩ := hR
  simp only [List.cons.injEq, Sv.dat.injEq, PyData.int.injEq, and_true] at e1
  have em : m' = m := by omega
  subst em
  have S2 := S1.set 2 (s := .dat (.list (ws.map PyData.int))) (v := v) hv
  have S2 : Sy K B M0 [some (.val (.ref a)), some (.dat (.int m')), some (.dat (.list (ws.map PyData.int))), none] μ1 _ H1 := S2
  have k1 := wSh_ok hw m8
  obtain ⟨h1, h2, h3⟩ := hw
  obtain ⟨s1, s2⟩ := int_sum_nn h2
  refine sy_retE (S2.ev (d := seqD true ((wSh ws).map dR)) (Jd.is (jd_tupOf T.n_tuple (Jn.jd (sy_lcM (xs := ws) (g := PyData.int) S2 (jw_lst (S2.at 2)) (fun x => dR (Rat.divInt x ws.sum)) (by omega) (fun d ρ => ρ.set 3 (some (.dat d))) (js := [3]) (own := [("each", 3)]) (by simp) ?_ ?_ (blkOk_by (by rfl)) rfl nd))) (by unfold wSh; rw [List.map_map]; rfl)) fun v H6 S6 _ pv => k v (.dat (seqD true ((wSh ws).map dR))) μ1 H6 ⟨a, m', wSh ws, rfl, k1, rfl, st⟩ (S6.one pv))
  · rintro _ d ⟨s, H, C, cl, fp, rfl⟩ _
    exact jg_name 3 nd
  · rintro i x _ B' M' σ' H' hx ⟨s, H, C, cl, fp, rfl⟩ S'
    exact jd_call W3 (hr.mono (by decide)) (ja_cons (S'.at 3) (ja_cons (jd_sum rfl T.n_sum (S'.at 2)) ja_nil)) rfl ⟨_, _, rfl, h3, Nat.lt_of_le_of_lt (by omega : ws.sum.natAbs ≤ 64) (Nat.lt_of_lt_of_le (by decide : 64 < 2 ^ 7) (Nat.pow_le_pow_right (by decide) (by decide))), rfl⟩
end K58

set_option maxHeartbeats 4000000
namespace K58
open PySem PySem.Spec PyProof.Rows L2 J Evl
variable {P : Program} {w : World} {K : PySem.W.Frag} {mg : Str → Option Value} {base : Heap}
/-! ### values near to one -/
theorem okD_tup {l : List D} : okV (.tuple l) = true ↔ l.length ≤ 1000 ∧ ∀ x ∈ l, okV x = true := ⟨okV_tup, fun h => okT_of h.1 h.2⟩
def PreB (Tn : D → Prop) (c : Nat) : List Sv → Mu → Prop := fun ss μ => ∃ (a l : Addr) (d : D), ss = [.val (.ref a), .dat d] ∧ Tn d ∧ Rdy a l c μ
def RB (c : Nat) : List Sv → Mu → Sv → Mu → Prop := fun _ μ s μ' => ∃ d, okV d = true ∧ s = .dat d ∧ Adv c μ μ'
/-- a small int, a text, or a tuple of such -/
def IntOr (Tn : D → Prop) (d : D) : Prop := (∃ i : Int, d = .int i ∧ 0 ≤ i ∧ i ≤ 360) ∨ (∃ z, d = .str z) ∨ ∃ l, d = .tuple l ∧ l.length ≤ 100 ∧ ∀ x ∈ l, Tn x ∧ okV x = true
theorem sx_pickC {X : Cx} {B H : Hp} {M0 : List Addr} {ρ : Ro} {μD : Mu} {σ : L2.St} {ts : List Sv} {vs : List V} {a l : Addr} {t0 n : Nat} {e1 e2 : Expr} {p pos : Pos} {xs : List D} (S : Sx X.K B M0 ρ μD σ ts vs H) (W : Fd CX0 X.prog X.w X.K X.mg X.base 3 "_law_pick" ["state", "some"] (spM X.K 2 PreP RP noF)) (hr : Room 3 X.A) (hD : Dn a l t0 n μD) (hn : t0 + n + 1 ≤ capT) (ha : Js X (adr M0 μD) e1 σ H (.val (.ref a))) (hb : Js X (adr M0 μD) e2 σ H (.dat (.list xs))) (h0 : 0 < xs.length) (h1 : xs.length ≤ 1000) {Q : VK}
    (k : ∀ v x μ' H', x ∈ xs → Dn a l t0 (n + 1) μ' → Sx X.K B M0 ρ μ' σ (ts ++ [.dat x]) (vs ++ [v]) H' → Q v H') (hg : Gl X "_law_pick" := by rfl) (hs1 : notSt e1 = true := by rfl) (hs2 : notSt e2 = true := by rfl) :
    tW X (.Call (.Name "_law_pick" p) [e1, e2] [] pos) σ H Q :=
  sx_pick0 S W hr hD hn ha hb h0 h1 k hg (sE _ _ _ hs1) (sE _ _ _ hs2) (by rw [sE e2 [] X.env hs2]; rfl)
theorem sx_one {K : PySem.W.Frag} {B H : Hp} {M0 : List Addr} {ρ : Ro} {μ : Mu} {σ : L2.St} {s : Sv} {v : V} (S : Sx K B M0 ρ μ σ [s] [v] H) : s.holds K (hid (adr M0 μ) H) v := by
  have := S.vals
  cases this with | cons p _ => exact p
theorem set_last {α : Type} (xs : List α) (y z : α) : (xs ++ [y]).set xs.length z = xs ++ [z] := by simp
theorem erase_map {α β : Type} (f : α → β) : ∀ (xs : List α) (n : Nat), (xs.map f).eraseIdx n = (xs.eraseIdx n).map f
  | [], _ => by simp
  | _ :: _, 0 => by simp
  | x :: xs, n + 1 => by simp [erase_map f xs n]
theorem erase_last {α : Type} (xs : List α) (y : α) : (xs ++ [y]).eraseIdx xs.length = xs := by rw [List.eraseIdx_append_of_length_le (Nat.le_refl _)]; simp
theorem get_last {α : Type} (xs : List α) (y : α) : (xs ++ [y])[xs.length]? = some y := by simp
def oddL : List D := [.none, .tuple [], .int 5, .int 0, .int 1, .str "x", .str "a", .str "trial", .dict [], .tuple [.int 0, .int 1], .tuple [.int 1, .int 1], .tuple [.int 1, .int 2], .str "zzzzzzzzz"]
theorem odd_all : (oddL.all okV) = true := by decide +kernel
theorem odd_ok : ∀ x ∈ oddL, okV x = true := List.all_eq_true.mp odd_all
def nearL (i : Int) : List D := [.int (i + 1), .int (i - 1), .int (i + 2), .none, .str (toString i), .bool (decide (i = 1)), .int 0, .int 1, .int (-1)]
theorem near_all : ((List.range 361).all fun n => (nearL (n : Int)).all okV) = true := by decide +kernel
theorem near_ok {i : Int} (h0 : 0 ≤ i) (h : i ≤ 360) : ∀ x ∈ nearL i, okV x = true := by
  obtain ⟨n, rfl⟩ := Int.eq_ofNat_of_zero_le h0
  exact List.all_eq_true.mp (List.all_eq_true.mp near_all n (List.mem_range.mpr (by omega)))
theorem log_lt {n : Nat} (h : n < 2 ^ 318) : n.log2 < 1920 := by
  by_cases h0 : n = 0
  · subst h0; decide
  · exact Nat.lt_of_lt_of_le ((Nat.log2_lt h0).mpr h) (by decide)
theorem bent_step (T : Tx K mg) (Tn : D → Prop) (c m : Nat) (h3 : 3 ≤ m) (W : ∀ x, Tn x → Fd CX0 P w K mg base m "_law_sr_bent" ["draws", "value"] (spM K 2 (PreB Tn c) (RB c) noF)) :
    Fd CX0 P w K mg base (m + 1) "_law_sr_bent" ["draws", "value"] (spM K 2 (PreB (IntOr Tn) (c + 4)) (RB (c + 4)) noF) := by
  have Wd := fd_law_draw (P := P) (w := w) (base := base) T
  have Wp := fd_law_pick (P := P) (w := w) (base := base) T
  obtain ⟨fd, F, hm⟩ := T.f_law_sr_bent
  refine fd_mk F hm (ok_M F sc_law_sr_bent rfl fun cdv A outer s H E B M0 vs ss μ D' hr hl hP S k kn => ?_) (fun _ _ _ _ _ _ us hl => match us, hl with | [_, _], _ => rfl)
  obtain ⟨a, l, d, rfl, hd, hrdy⟩ := hP
  obtain ⟨t0, hcap, hD, adv⟩ := hrdy.dn
  have nd := sc_law_sr_bent.nd
  have S : Sy K B M0 [some (.val (.ref a)), some (.dat d), none, none, none] μ _ H := S
  refine tB_when (fun σ' H' => ∃ μ1, Dn a l t0 1 μ1 ∧ Sy K B M0 [some (.val (.ref a)), some (.dat d), none, none, none] μ1 σ' H') (fun σ' H' ⟨μ1, hD1, S'⟩ => ?_) fun fin => ?_
  · skip
    refine sy_when (b := dIsI d && !dIsB d) S' (jt_and (jt_val (jd_isi T.n_isinstance T.n_int boot_int (S'.at 1) (kit_int d))) fun _ => jt_not (jt_val (jd_isi T.n_isinstance T.n_bool boot_bool (S'.at 1) (kit_bool d)))) (fun h H1 S1 => ?_) (fun h H1 S1 => ?_)
    · obtain ⟨i, rfl, i0, i3⟩ : ∃ i : Int, d = .int i ∧ 0 ≤ i ∧ i ≤ 360 := by
        rcases hd with h' | ⟨z, rfl⟩ | ⟨l2, rfl, _⟩
        · exact h'
        · cases h
        · cases h
      have hi : i.natAbs < 2 ^ 318 := Nat.lt_of_lt_of_le (by omega : i.natAbs < 361) (by decide)
      refine sy_retE (sx_pickC (xs := nearL i) S1.sx Wp (hr.mono (by omega)) hD1 (by omega) (S1.atV 0).js (Jd.js (jd_lst (ja_cc (jd_add (S1.at 1) jd_int) (ja_cc (jd_sub (S1.at 1) jd_int) (ja_cc (jd_add (S1.at 1) jd_int) (ja_cc jd_non (ja_cc (jd_strI T.n_str (S1.at 1) (log_lt hi)) (ja_cc (jd_eqI (S1.at 1) jd_int) (ja_cc jd_int (ja_cc jd_int (ja_cc (jd_neg jd_int) ja_nil)))))))))
        (by show 9 ≤ 100000; decide))) (by show 0 < 9; decide) (by show 9 ≤ 1000; decide) fun v x μ2 H2 hx st2 S2 => k v (.dat x) μ2 H2 ⟨x, near_ok i0 i3 x hx, rfl, adv _ _ (st2.mono (by omega))⟩ (S2.base.one (sx_one S2)))
    · refine sy_retE (sx_pickC (xs := oddL) S1.sx Wp (hr.mono (by omega)) hD1 (by omega) (S1.atV 0).js (Jd.js (jd_lst ?ol (by show 13 ≤ 100000; decide))) (by show 0 < 13; decide) (by show 13 ≤ 1000; decide) fun v x μ2 H2 hx st2 S2 => k v (.dat x) μ2 H2 ⟨x, odd_ok x hx, rfl, adv _ _ (st2.mono (by omega))⟩ (S2.base.one (sx_one S2)))
      (refine ja_cc ?_ ?_ ?_; exact jd_non; rotate_left; rfl)
      (refine ja_cc ?_ ?_ ?_; exact (jd_tup ja_nil); rotate_left; rfl)
      (refine ja_cc ?_ ?_ ?_; exact jd_int; rotate_left; rfl)
      (refine ja_cc ?_ ?_ ?_; exact jd_int; rotate_left; rfl)
      (refine ja_cc ?_ ?_ ?_; exact jd_int; rotate_left; rfl)
      (refine ja_cc ?_ ?_ ?_; exact jd_str; rotate_left; rfl)
      (refine ja_cc ?_ ?_ ?_; exact jd_str; rotate_left; rfl)
      (refine ja_cc ?_ ?_ ?_; exact jd_str; rotate_left; rfl)
      (refine ja_cc ?_ ?_ ?_; exact jd_dict0; rotate_left; rfl)
      (refine ja_cc ?_ ?_ ?_; exact (jd_tup (ja_cc jd_int (ja_cc jd_int ja_nil))); rotate_left; rfl)
      (refine ja_cc ?_ ?_ ?_; exact (jd_tup (ja_cc jd_int (ja_cc jd_int ja_nil))); rotate_left; rfl)
      (refine ja_cc ?_ ?_ ?_; exact (jd_tup (ja_cc jd_int (ja_cc jd_int ja_nil))); rotate_left; rfl)
      (refine ja_cc ?_ ?_ ?_; exact jd_str; rotate_left; rfl)
      exact ja_nil
  · skip
    refine tT_and3 (S.te (jt_val (jd_isi2 T.n_isinstance T.n_tuple T.n_list boot_tuple (by decide +kernel) (S.at 1) (kit_tuple d) (kit_list d))) fun H1 S1 x1 => ?_)
    rcases hd with ⟨i, rfl, hi⟩ | ⟨z, rfl⟩ | ⟨l2, rfl, hl2, hx⟩
    · rw [if_neg (show ¬ (dIsT (.int i) || dIsL (.int i)) = true from Bool.false_ne_true), if_neg Bool.false_ne_true]
      exact fin _ _ ⟨μ, hD.mono (by omega), S1⟩
    · rw [if_neg (show ¬ (dIsT (.str z) || dIsL (.str z)) = true from Bool.false_ne_true), if_neg Bool.false_ne_true]
      exact fin _ _ ⟨μ, hD.mono (by omega), S1⟩
    · rw [if_pos (show (dIsT (.tuple l2) || dIsL (.tuple l2)) = true from rfl)]
      refine S1.te (jt_gt (jd_len T.n_len (S1.at 1) (.inl rfl)) jd_int) fun H2 S2 x2 => ?_
      by_cases hl0 : 0 < l2.length
      · rw [if_pos (decide_eq_true (by omega))]
        refine tT_cmp op_gt (sx_draw0 S2.sx Wd (hr.mono (by omega)) hD (by omega) (S2.atV 0).js jd_int.js (by decide) (by decide) fun v3 z μ3 H3 z0 z1 hD3 S3 => S3.ev jd_int.js fun v4 H4 S4 => ⟨z, 0, ?_, ?_, ?_⟩)
        · have := S4.dats (ds := [.int z, .int 0])
          cases this with | cons p _ => exact dInt p
        · have := S4.dats (ds := [.int z, .int 0])
          cases this with | cons _ q => cases q with | cons p _ => exact dInt p
        by_cases hz : 0 < z
        · rw [if_pos (decide_eq_true hz)]
          have S4b := S4.base
          refine sy_parE 3 4 (tA_cc (sx_draw0 S4b.sx Wd (hr.mono (by omega)) hD3 (by omega) (S4b.atV 0).js (jd_len T.n_len (S4b.at 1) (.inl rfl)).js (by omega) (by omega) fun v5 at_ μ5 H5 a0 a1 hD5 S5 => tA_cc (sx_draw0 S5 Wd (hr.mono (by omega)) hD5 (by omega) (S5.base.atV 0).js jd_int.js (by decide) (by decide) fun v6 way μ6 H6 w0 w1 hD6 S6 => tA_nil ⟨v5, v6, rfl, ?_⟩))) rfl nd (by decide) rfl
          have hv5 : v5 = .int at_ := by
            have := S6.dats (ds := [.int at_, .int way])
            cases this with | cons p _ => exact dInt p
          have hv6 : v6 = .int way := by
            have := S6.dats (ds := [.int at_, .int way])
            cases this with | cons _ q => cases q with | cons p _ => exact dInt p
          have S7 := (S6.base.set 3 (s := .dat (.int at_)) (v := v5) (by rw [hv5]; exact .int _)).set 4 (s := .dat (.int way)) (v := v6) (by rw [hv6]; exact .int _)
          have S7 : Sy K B M0 [some (.val (.ref a)), some (.dat (.tuple l2)), none, some (.dat (.int at_)), some (.dat (.int way))] μ6 _ H6 := S7
          refine sy_setE 2 (S7.evN (jn_lstOf T.n_list (S7.at 1) (.inr rfl)) fun c0 H8 S8 => ?_) nd
          obtain ⟨j, rfl⟩ := Int.eq_ofNat_of_zero_le a0
          have hj : j < l2.length := by omega
          obtain ⟨x, hxj⟩ : ∃ x, l2[j]? = some x := ⟨_, List.getElem?_eq_getElem hj⟩
          have hxm := List.mem_of_getElem? hxj
          have S9 := (S8.set 2 (s := .val (.ref c0)) (v := .ref c0) rfl).perm (List.perm_append_comm (l₁ := μ6) (l₂ := [_]))
          have S9 : Sy K B M0 [some (.val (.ref a)), some (.dat (.tuple l2)), some (.val (.ref c0)), some (.dat (.int (j : Int))), some (.dat (.int way))] (μ6 ++ [(c0, .lst (l2.map .dat))]) _ H8 := S9
          have hok : ∀ x ∈ l2, okV x = true := fun x h => (hx x h).2
          have hix : (μ6 ++ [(c0, Mo.lst (l2.map Sv.dat))])[μ6.length]? = some (c0, .lst (l2.map .dat)) := get_last _ _
          refine sy_if S9 (jt_eqI (S9.at 4) jd_int) (fun _ H10 S10 => ?_) (fun _ H10 S10 => sy_if S10 (jt_eqI (S10.at 4) jd_int) (fun _ H11 S11 => ?_) (fun _ H11 S11 => sy_if (b := decide (way = 2) && decide ((0 : Int) < (j : Int))) S11 (jt_and (jt_eqI (S11.at 4) jd_int) fun _ => jt_gt (S11.at 3) jd_int) (fun h2 H12 S12 => ?_) (fun _ H12 S12 => ?_)))
          · refine sy_popAt S10 (S10.atV 2) (S10.at 3) hix rfl (by rw [List.length_map]; exact hj) (by rw [List.length_map]; omega) fun H20 S20 => tB_nil ?_
            rw [set_last, erase_map] at S20
            have S21 := S20.frz 2 μ6.length (ds := l2.eraseIdx j) rfl (get_last _ _)
            rw [erase_last] at S21
            have S21 : Sy K B M0 [some (.val (.ref a)), some (.dat (.tuple l2)), some (.dat (.list (l2.eraseIdx j))), some (.dat (.int (j : Int))), some (.dat (.int way))] μ6 _ H20 := S21
            exact sy_retE (S21.ev (d := .tuple (l2.eraseIdx j)) (jd_if (jt_val (jd_isi T.n_isinstance T.n_tuple boot_tuple (S21.at 1) (kit_tuple (.tuple l2)))) (fun _ => jd_tupOf T.n_tuple (S21.at 2)) (fun h => by cases h)) fun v H' S' _ pv => k v _ _ H' ⟨_, okD_tup.mpr ⟨by have := List.length_eraseIdx_le l2 j; omega, fun x h => hok x (List.mem_of_mem_eraseIdx h)⟩, rfl, adv _ _ (hD6.mono (by omega))⟩ (S'.one pv))
          · refine sy_ins S11 (S11.atV 2) (S11.at 3) (js_ixM S11 (S11.atV 2).js (S11.at 3) hix rfl (s := .dat x) (by rw [List.getElem?_map, hxj]; rfl)) hix rfl (by rw [List.length_map]; omega) (by rw [List.length_map]; omega) fun H20 S20 => tB_nil (tB_nil ?_)
            rw [set_last] at S20
            have e : (l2.map Sv.dat).take j ++ [Sv.dat x] ++ (l2.map Sv.dat).drop j = (l2.take j ++ [x] ++ l2.drop j).map Sv.dat := by simp
            rw [e] at S20
            have S21 := S20.frz 2 μ6.length (ds := l2.take j ++ [x] ++ l2.drop j) rfl (get_last _ _)
            rw [erase_last] at S21
            have S21 : Sy K B M0 [some (.val (.ref a)), some (.dat (.tuple l2)), some (.dat (.list (l2.take j ++ [x] ++ l2.drop j))), some (.dat (.int (j : Int))), some (.dat (.int way))] μ6 _ H20 := S21
            refine sy_retE (S21.ev (d := .tuple (l2.take j ++ [x] ++ l2.drop j)) (jd_if (jt_val (jd_isi T.n_isinstance T.n_tuple boot_tuple (S21.at 1) (kit_tuple (.tuple l2)))) (fun _ => jd_tupOf T.n_tuple (S21.at 2)) (fun h => by cases h)) fun v H' S' _ pv => k v _ _ H' ⟨_, okD_tup.mpr ⟨by simp; omega, fun y h => ?_⟩, rfl, adv _ _ (hD6.mono (by omega))⟩ (S'.one pv))
            simp only [List.mem_append, List.mem_singleton] at h
            rcases h with (h | rfl) | h
            · exact hok y (List.mem_of_mem_take h)
            · exact hok _ hxm
            · exact hok y (List.mem_of_mem_drop h)
          · rw [Bool.and_eq_true, decide_eq_true_eq, decide_eq_true_eq] at h2
            obtain ⟨j', rfl⟩ : ∃ j', j = j' + 1 := ⟨j - 1, by omega⟩
            obtain ⟨y, hyj⟩ : ∃ y, l2[j']? = some y := ⟨_, List.getElem?_eq_getElem (by omega)⟩
            have hym := List.mem_of_getElem? hyj
            have S13 := S12.frz 2 μ6.length (ds := l2) rfl hix
            rw [erase_last] at S13
            have S13 : Sy K B M0 [some (.val (.ref a)), some (.dat (.tuple l2)), some (.dat (.list l2)), some (.dat (.int ((j' + 1 : Nat) : Int))), some (.dat (.int way))] μ6 _ H12 := S13
            refine sy_set 2 S13 (d := .list ((l2.take j' ++ [x, y]) ++ l2.drop (j' + 2))) (Jn.jd (jn_cat (jn_cat (jn_slLTo (n := j') (S13.at 2) (jd_sub (S13.at 3) jd_int) (by omega)) (jn_lst (ja_cc (jd_ixL (n := j' + 1) (S13.at 2) (S13.at 3) rfl hxj) (ja_cc (jd_ixL (n := j') (S13.at 2) (jd_sub (S13.at 3) jd_int) (by omega) hyj) ja_nil))) (by simp; omega)) (jn_slLFrom (n := j' + 2) (S13.at 2) (jd_add (S13.at 3) jd_int) (by omega) (by omega)) (by simp; omega))) (fun σ20 H20 S20 => tB_nil (tB_nil (tB_nil ?_))) nd
            have S21 : Sy K B M0 [some (.val (.ref a)), some (.dat (.tuple l2)), some (.dat (.list ((l2.take j' ++ [x, y]) ++ l2.drop (j' + 2)))), some (.dat (.int ((j' + 1 : Nat) : Int))), some (.dat (.int way))] μ6 _ H20 := S20
            refine sy_retE (S21.ev (d := .tuple ((l2.take j' ++ [x, y]) ++ l2.drop (j' + 2))) (jd_if (jt_val (jd_isi T.n_isinstance T.n_tuple boot_tuple (S21.at 1) (kit_tuple (.tuple l2)))) (fun _ => jd_tupOf T.n_tuple (S21.at 2)) (fun h => by cases h)) fun v H' S' _ pv => k v _ _ H' ⟨_, okD_tup.mpr ⟨by simp; omega, fun q h => ?_⟩, rfl, adv _ _ (hD6.mono (by omega))⟩ (S'.one pv))
            simp only [List.mem_append, List.mem_cons, List.not_mem_nil, or_false] at h
            rcases h with (h | rfl | rfl) | h
            · exact hok q (List.mem_of_mem_take h)
            · exact hok _ hxm
            · exact hok _ hym
            · exact hok q (List.mem_of_mem_drop h)
          · have Wb := W x (hx x hxm).1
            refine sy_setIxE (jm_call S12 (μ1 := μ6) (μ2 := [(c0, .lst (l2.map .dat))]) Wb hr (jsa_cons (S12.atV 0).js (jsa_cons (js_ixM S12 (S12.atV 2).js (S12.at 3) hix rfl (s := .dat x) (by rw [List.getElem?_map, hxj]; rfl)) jsa_nil)) rfl ⟨a, l, x, rfl, (hx x hxm).1, hD6.rdy (by omega)⟩ fun v s2 μ7 H20 hR S20 hv => ?_)
            obtain ⟨y, oky, rfl, st7⟩ := hR
            refine ⟨_, _, _, _, .dat y, μ7.length, c0, l2.map .dat, j, S20, hv, S20.atV 2, S20.at 3, get_last _ _, by rw [List.length_map]; exact hj, fun H21 S21 => tB_nil (tB_nil (tB_nil ?_))⟩
            rw [set_last, ← List.map_set] at S21
            have S22 := S21.frz 2 μ7.length (ds := l2.set j y) rfl (get_last _ _)
            rw [erase_last] at S22
            have S22 : Sy K B M0 [some (.val (.ref a)), some (.dat (.tuple l2)), some (.dat (.list (l2.set j y))), some (.dat (.int (j : Int))), some (.dat (.int way))] μ7 _ H21 := S22
            refine sy_retE (S22.ev (d := .tuple (l2.set j y)) (jd_if (jt_val (jd_isi T.n_isinstance T.n_tuple boot_tuple (S22.at 1) (kit_tuple (.tuple l2)))) (fun _ => jd_tupOf T.n_tuple (S22.at 2)) (fun h => by cases h)) fun v H' S' _ pv => k v _ _ H' ⟨_, okD_tup.mpr ⟨by simp; omega, fun q h => ?_⟩, rfl, adv _ _ ((st7.use hD6).mono (by omega))⟩ (S'.one pv))
            rcases List.mem_or_eq_of_mem_set h with h | rfl
            · exact hok q h
            · exact oky
        · rw [if_neg (by rw [decide_eq_false hz]; exact Bool.false_ne_true)]
          exact fin _ _ ⟨μ3, hD3, S4.base⟩
      · rw [if_neg (by rw [decide_eq_false (by omega)]; exact Bool.false_ne_true), if_neg Bool.false_ne_true]
        exact fin _ _ ⟨μ, hD.mono (by omega), S2⟩
/-- trees of tuples over ints, of at most so many steps -/
def Tr : Nat → D → Prop
  | 0 => IntOr fun _ => False
  | n + 1 => IntOr (Tr n)
theorem fd_bent (T : Tx K mg) : ∀ n : Nat, Fd CX0 P w K mg base (4 + n) "_law_sr_bent" ["draws", "value"] (spM K 2 (PreB (Tr n) (4 * n + 4)) (RB (4 * n + 4)) noF)
  | 0 => bent_step T (fun _ => False) 0 3 (by decide) fun _ h => h.elim
  | n + 1 => bent_step T (Tr n) (4 * n + 4) (4 + n) (by omega) fun _ _ => fd_bent T n
end K58

set_option maxHeartbeats 4000000
namespace K58
open PySem PySem.Spec PyProof.Rows L2 J Evl
variable {P : Program} {w : World} {K : PySem.W.Frag} {mg : Str → Option Value} {base : Heap}
theorem ok_is_trial (T : Tx K mg) : ∃ fd, FnOk P w K mg base CX0 4 (He.ga K "is_trial") fd ["value"] (spD K 1 fun ds d => ∃ a, ds = [a] ∧ okV a = true ∧ d = .bool (isTr a)) ∧ FnP K "is_trial" "is_trial" s_is_trial (He.ga K "is_trial") fd ∧ mg "is_trial" = some (.ref (He.ga K "is_trial")) := by
  have Ws := fd_is_stratum (P := P) (w := w) (base := base) T
  obtain ⟨fd, F, hm⟩ := T.f_is_trial
  obtain ⟨tm, hmm⟩ := T.c_MOST_STRATA
  refine ⟨fd, ok_D F sc_is_trial rfl fun cdv A outer s H E M vs ds d D' hr hl hR S k _ => ?_, F, hm⟩
  obtain ⟨a, rfl, hok, rfl⟩ := hR
  have nd := sc_is_trial.nd
  have hu := hr.units
  by_cases ht : ∃ z y, a = .tuple [.str z, y]
  · obtain ⟨z, y, rfl⟩ := ht
    have hok := okV_tup hok
    have hz := okV_str (hok.2 (.str z) (by simp))
    have hy := hok.2 y (by simp)
    refine sy_when S (jt_or4 (jt_not (jt_val (jd_isi T.n_isinstance T.n_tuple boot_tuple (S.at 0) (kit_tuple (.tuple [.str z, y]))))) (fun _ => jt_neI (jd_len T.n_len (S.at 0) (.inl rfl)) jd_int)
      (fun _ _ => jt_not (jt_val (jd_isi T.n_isinstance T.n_str boot_str (jd_ixT (n := 0) (S.at 0) jd_int rfl rfl) (kit_str (.str z))))) (fun _ _ _ => jt_ne hu (jd_ixT (n := 0) (S.at 0) jd_int rfl rfl) jd_str (shS hz.2) (shS (by decide +kernel)))) (fun h H1 S1 => ?_) (fun h H1 S1 => ?_)
    · rw [eqv_str6] at h
      have hn : ¬ z = "trial" := by simpa [dIsT, dIsS] using h
      have e : isTr (.tuple [.str z, y]) = false := by
        cases y <;> first | rfl | (rw [isTr_eq, decide_eq_false hn]; rfl)
      rw [e] at k
      exact sy_ret S1 jd_bl fun v H' x _ p => k v H' x p
    rw [eqv_str6] at h
    have hn : z = "trial" := by simpa [dIsT, dIsS] using h
    by_cases hyt : dIsT y = true
    · obtain ⟨l, rfl⟩ : ∃ ts, y = .tuple ts := by cases y <;> first | (cases hyt; done) | exact ⟨_, rfl⟩
      have hyk := okV_tup hy
      have e0 : isTr (.tuple [.str z, .tuple l]) = ((decide (1 ≤ (l.length : Int)) && decide ((l.length : Int) ≤ 8)) && (l.all isSt && ascD l)) := by rw [isTr_eq, decide_eq_true hn]; rfl
      rw [e0] at k
      refine sy_when S1 (jt_or (jt_not (jt_val (jd_isi T.n_isinstance T.n_tuple boot_tuple (jd_ixT (n := 1) (S1.at 0) jd_int rfl rfl) (kit_tuple (.tuple l))))) (fun _ => jt_not (jt_chain op_le op_le jd_int (jd_len T.n_len (jd_ixT (n := 1) (d := .tuple l) (S1.at 0) jd_int rfl rfl) (.inl rfl)) (jd_glob hmm (v := .int 8) ⟨tm, rfl⟩ (.int 8)) (by with_unfolding_all rfl)))) (fun h H2 S2 => ?_) (fun h H2 S2 => ?_)
      · have h2 : (decide (1 ≤ (l.length : Int)) && decide ((l.length : Int) ≤ 8)) = false := by
          cases q1 : (decide (1 ≤ (l.length : Int)) && decide ((l.length : Int) ≤ 8)) <;> simp_all [dIsT]
        rw [h2] at k
        exact sy_ret S2 jd_bl fun v H' x _ p => k v H' x p
      have h2 : (decide (1 ≤ (l.length : Int)) && decide ((l.length : Int) ≤ 8)) = true := by
        cases q1 : (decide (1 ≤ (l.length : Int)) && decide ((l.length : Int) ≤ 8)) <;> simp_all [dIsT]
      rw [h2] at k
      have hle : 1 ≤ l.length := by simp at h2; omega
      have S2 : Sy K H M [some (.dat (.tuple [.str z, .tuple l])), none, none, none] [] _ H2 := S2
      refine sy_when (b := !l.all isSt) S2 (jt_not (jt_val (Jd.is (jd_all (bs := l.map isSt) rfl T.n_all (Jd.is (Jn.jd (sy_lcM (α := D) (g := id) (xs := l) S2 (by rw [List.map_id]; exact jw_tup (jd_ixT (n := 1) (d := .tuple l) (S2.at 0) jd_int rfl rfl)) (fun x => .bool (isSt x)) (by omega) (fun d ρ => ρ.set 1 (some (.dat d))) (js := [1]) (own := [("row", 1)]) (by simp) ?c1 ?c2 (blkOk_by (by rfl)) rfl nd)) (by rw [List.map_map]; rfl))) (by rw [allM])))) (fun q H3 S3 => ?_) (fun q H3 S3 => ?_)
      case c1 =>
        rintro _ d ⟨s, H, C, cl, fp, rfl⟩ _
        exact jg_name 1 nd
      case c2 =>
        rintro j x _ B2 M2 σ2 H2 h1 ⟨s, H, C, cl, fp, rfl⟩ S'
        exact jd_call Ws (hr.mono (by decide)) (ja_cons (S'.at 1) ja_nil) rfl ⟨x, rfl, hyk.2 x (List.mem_of_getElem? h1), rfl⟩
      · have q : l.all isSt = false := by cases e : l.all isSt with | false => rfl | true => rw [e] at q; cases q
        rw [q] at k
        exact sy_ret S3 jd_bl fun v H' x _ p => k v H' x p
      have q : l.all isSt = true := by cases e : l.all isSt with | true => rfl | false => rw [e] at q; cases q
      rw [q] at k
      have e3 : (true && (true && ascD l)) = (((l.zip l.tail).map fun p => sLt (wd1 p.1) (wd1 p.2)).all id) := by rw [allM]; rfl
      rw [e3] at k
      have hgrp : ∀ x ∈ l, isSt x = true := List.all_eq_true.mp q
      refine sy_ret S3 (jd_all rfl T.n_all ?_) fun v H' x _ p => k v H' x p
      refine Jd.is (Jn.jd (sy_lcM (α := D × D) (xs := l.zip l.tail) (g := fun p => .tuple [p.1, p.2]) S3 ?_ (fun p => .bool (sLt (wd1 p.1) (wd1 p.2))) (by rw [List.length_zip]; omega) (fun d ρ => match d with | .tuple [x, y] => (ρ.set 2 (some (.dat x))).set 3 (some (.dat y)) | _ => ρ) (js := [2, 3]) (own := [("one", 2), ("other", 3)]) (by simp) ?_ ?_ (blkOk_by (by rfl)) rfl nd)) (by rw [List.map_map]; rfl)
      · have e2 : ((l.zip l.tail).map fun p => PyData.tuple [p.1, p.2]) = zipD l (l.drop 1) := by
          have := zipD_map (fun x : D => x) (fun x : D => x) l (l.drop 1)
          rw [List.map_id', List.map_id'] at this
          rw [this, List.drop_one]
        rw [e2]
        exact jw_zipT T.n_zip (jd_ixT (n := 1) (d := .tuple l) (S3.at 0) jd_int rfl rfl) (jd_slFrom (n := 1) (jd_ixT (n := 1) (d := .tuple l) (S3.at 0) jd_int rfl rfl) jd_int rfl hle)
      · rintro _ d ⟨s, H, C, cl, fp, rfl⟩ _
        exact jg_tup rfl (jgs_cons (jg_name 2 nd) (jgs_cons (jg_name 3 nd) jgs_nil))
      · rintro i ⟨x, y⟩ _ B' M' σ' H' h1 ⟨s, H, C, cl, fp, rfl⟩ S'
        have hm := List.of_mem_zip (List.mem_of_getElem? h1)
        obtain ⟨z1, a1, b1, c1, e1, rfl⟩ := isSt_of (hgrp x hm.1)
        obtain ⟨z2, a2, b2, c2, e2, rfl⟩ := isSt_of (hgrp y (List.mem_of_mem_tail hm.2))
        exact jd_ltS (jd_ixT (n := 0) (S'.at 2) jd_int rfl rfl) (jd_ixT (n := 0) (S'.at 3) jd_int rfl rfl)
    · have hyt : dIsT y = false := by simpa using hyt
      have e : isTr (.tuple [.str z, y]) = false := by cases y <;> first | rfl | cases hyt
      rw [e] at k
      refine sy_when (b := !(dIsT y) || true) S1 (jt_or (jt_not (jt_val (jd_isi T.n_isinstance T.n_tuple boot_tuple (jd_ixT (n := 1) (S1.at 0) jd_int rfl rfl) (kit_tuple y)))) (fun z => ?_)) (fun h H2 S2 => ?_) (fun h H2 S2 => ?_)
      · rw [hyt] at z; cases z
      · exact sy_ret S2 jd_bl fun v H' x _ p => k v H' x p
      · rw [hyt] at h; cases h
  · have e : isTr a = false := by
      unfold isTr
      split
      · exact absurd ⟨_, _, rfl⟩ ht
      · rfl
    rw [e] at k
    cases a with
    | tuple ts =>
      have hok := okV_tup hok
      by_cases h2 : ∃ x y, ts = [x, y]
      · obtain ⟨x, y, rfl⟩ := h2
        have hx : dIsS x = false := by
          cases x with
          | str z => exact absurd ⟨z, y, rfl⟩ ht
          | _ => rfl
        refine sy_when S (jt_or4 (m := !(dIsS x)) (n := true) (jt_not (jt_val (jd_isi T.n_isinstance T.n_tuple boot_tuple (S.at 0) (kit_tuple (.tuple [x, y]))))) (fun _ => jt_neI (jd_len T.n_len (S.at 0) (.inl rfl)) jd_int)
          (fun _ _ => jt_not (jt_val (jd_isi T.n_isinstance T.n_str boot_str (jd_ixT (n := 0) (S.at 0) jd_int rfl rfl) (kit_str x)))) (fun _ _ z => ?_)) (fun h H1 S1 => ?_) (fun h H1 S1 => ?_)
        · rw [hx] at z; cases z
        · exact sy_ret S1 jd_bl fun v H' x _ p => k v H' x p
        · rw [hx] at h; simp at h
      · have hne : decide ((ts.length : Int) = 2) = false := ne2 fun a b z => h2 ⟨a, b, z⟩
        refine sy_when (b := !true || (!false || (true || true))) S (jt_or4 (jt_not (jt_val (jd_isi T.n_isinstance T.n_tuple boot_tuple (S.at 0) (kit_tuple (.tuple ts))))) (fun _ => Jt.is (jt_neI (jd_len T.n_len (S.at 0) (.inl rfl)) jd_int) (by rw [hne])) (fun _ z => by cases z) (fun _ z => by cases z)) (fun h H4 S4 => ?_) (fun h H4 S4 => by cases h)
        exact sy_ret S4 jd_bl fun v H' x _ p => k v H' x p
    | _ =>
      refine sy_when (b := !false || (true || (true || true))) S (jt_or4 (jt_not (jt_val (jd_isi T.n_isinstance T.n_tuple boot_tuple (S.at 0) (kit_tuple _)))) (fun z => by cases z) (fun z => by cases z) (fun z => by cases z)) (fun h H4 S4 => ?_) (fun h H4 S4 => by cases h)
      exact sy_ret S4 jd_bl fun v H' x _ p => k v H' x p
/-! ### values tried -/
theorem tr_int {n : Nat} {i : Int} (h : 0 ≤ i ∧ i ≤ 360) : Tr n (.int i) := by cases n <;> exact .inl ⟨i, rfl, h.1, h.2⟩
theorem tr_str {n : Nat} {z : Str} : Tr n (.str z) := by cases n <;> exact .inr (.inl ⟨z, rfl⟩)
theorem tr_tup {n : Nat} {l : List D} (hl : l.length ≤ 100) (h : ∀ x ∈ l, Tr n x ∧ okV x = true) : Tr (n + 1) (.tuple l) := .inr (.inr ⟨l, rfl, hl, h⟩)
theorem okV_ss {l : List St} (h : TrOk l) : okV (.tuple (l.map stD)) = true := (okV_tup (okV_trD h)).2 _ (by simp)
theorem okV_st {l : List St} (h : TrOk l) {s : St} (hs : s ∈ l) : okV (stD s) = true := (okV_tup (okV_ss h)).2 _ (List.mem_map.mpr ⟨s, hs, rfl⟩)
theorem tr_trD {l : List St} (h : TrOk l) (hS : ∀ s ∈ l, Sm1 s) : Tr 3 (trD l) := by
  refine tr_tup (by simp) fun x hx => ⟨?_, (okV_tup (okV_trD h)).2 x hx⟩
  simp only [List.mem_cons, List.not_mem_nil, or_false] at hx
  rcases hx with rfl | rfl
  · exact tr_str
  · refine tr_tup (by rw [List.length_map]; have := h.2.2.1; omega) fun x hx => ⟨?_, (okV_tup (okV_ss h)).2 x hx⟩
    obtain ⟨s, hs, rfl⟩ := List.mem_map.mp hx
    have b := fun k => And.intro ((h.2.2.2 s hs).2.1 k).1 (hS s hs k)
    refine tr_tup (by simp) fun x hx => ⟨?_, (okV_tup (okV_st h hs)).2 x hx⟩
    simp only [List.mem_cons, List.not_mem_nil, or_false] at hx
    rcases hx with rfl | rfl | rfl | rfl | rfl
    · exact tr_str
    · exact tr_int (b 1)
    · exact tr_int (b 2)
    · exact tr_int (b 3)
    · exact tr_int (b 4)
/-- the letters of "abcdefghi"[:8 + z] -/
def lets (z : Int) : List D := (cutS "abcdefghi" none (some (8 + z))).cps.toList.map fun c => .str ⟨#[c]⟩
def wRow (d : D) : D := .tuple [d, .int 1, .int 1, .int 1, .int 1]
def wideD (z : Int) : D := .tuple [.str "trial", .tuple ((lets z).map wRow)]
theorem wide_ok {z : Int} (h0 : 0 ≤ z) (h2 : z < 2) : okV (wideD z) = true := by
  have h : z = 0 ∨ z = 1 := by omega
  rcases h with rfl | rfl <;> decide +kernel
theorem lets_len {z : Int} (h0 : 0 ≤ z) (h2 : z < 2) : (lets z).length ≤ 9 := by
  have h : z = 0 ∨ z = 1 := by omega
  rcases h with rfl | rfl <;> decide +kernel
def valL (l : List St) (z : Int) : List D := [trD l, .list [.str "trial", .tuple (l.map stD)], .tuple (l.map stD), .tuple ([.str "trial", .tuple (l.map stD)] ++ [.tuple []]), .tuple [.str "trial", .tuple []], .tuple [.str "trial", .tuple (List.replicate 9 (l.map stD)).flatten], wideD z]
theorem val_ok {l : List St} (h : TrOk l) {z : Int} (h0 : 0 ≤ z) (h2 : z < 2) : ∀ d ∈ valL l z, okV d = true := by
  intro d hd
  have o1 := okV_trD h
  have o2 := (okV_tup o1).2
  have h8 := h.2.2.1
  unfold valL at hd
  simp only [List.mem_cons, List.not_mem_nil, or_false] at hd
  rcases hd with rfl | rfl | rfl | rfl | rfl | rfl | rfl
  · exact o1
  · exact o1
  · exact okV_ss h
  · refine okT_of (by simp) fun x hx => ?_
    rcases List.mem_append.mp hx with hx | hx
    · exact o2 x hx
    · rw [List.mem_singleton.mp hx]; rfl
  · decide +kernel
  · refine okT_of (by simp) fun x hx => ?_
    simp only [List.mem_cons, List.not_mem_nil, or_false] at hx
    rcases hx with rfl | rfl
    · decide +kernel
    · refine okT_of ?_ fun x hx => ?_
      · rw [List.length_flatten, List.map_replicate, List.sum_replicate_nat, List.length_map]; omega
      · obtain ⟨m, hm, hx⟩ := List.mem_flatten.mp hx
        rw [(List.mem_replicate.mp hm).2] at hx
        exact (okV_tup (okV_ss h)).2 x hx
  · exact wide_ok h0 h2
end K58

set_option maxHeartbeats 4000000
/-! J52: lambdas that capture cells, kept in lists and called from a caught lambda that does not capture these cells: what the cells held stands. -/
namespace J
open PySem PySem.Spec PyProof.Rows L2 Evl RZ LamX NdefX
section
variable {cl : List (Str × Addr)} {fr : List Str} {ws : List (Option V)} {fs : List Addr} {h h1 : Heap} {H HZ : Hp}
theorem cellsUn (u : Un fs [] H HZ h h1) (C : CellsAt cl fr ws h H) : CellsAt cl fr ws h1 HZ := by
  have kp : ∀ {c : Addr} {v : Option Value}, H c = none → h.IsCell c v → h1.IsCell c v := fun {c v} n ⟨o, ho, hd⟩ => by
    obtain ⟨sl, q⟩ := u.any ho n (by simp)
    exact ⟨_, q, hd⟩
  refine ⟨C.len, fun y c e => ?_, C.inj, fun i y e => ?_⟩
  · obtain ⟨n, v, z⟩ := C.all y c e
    obtain ⟨o, ho, _⟩ := id z
    exact ⟨u.free c o ho n (by simp), v, kp n z⟩
  · obtain ⟨c, hc, hv⟩ := C.has i y e
    exact ⟨c, hc, fun v ev => let ⟨x, r, z⟩ := hv v ev; ⟨x, r, kp (C.all y c hc).1 z⟩⟩
end
section
variable {X : Cx} {pins : List (Addr × Obj)} {σ : L2.St} {H : Hp} {s : Shared} {cl : List (Str × Addr)} {fr : List Str} {ws : List (Option V)}
/-- within a body that is left by nothing but returns: what the cells held at its entry -/
theorem cells_lam {A : Around} {outer : List Env} {s1 : Shared} {HZ : Hp} {E : XK} {scope : Scope} {f c' : Addr} (C : CellsAt cl fr ws s1.heap HZ) (I : Inv (lamCx X A outer s1 HZ E scope f c') pins σ H s) : CellsAt cl fr ws s.heap H := cellsUn I.base C
/-- the lambda is called by the def that got it -/
theorem act_c {CXg : CXT} {Eg : XK} {Ng : List Str} {qg : Str} {sg : Scope} {g f c' : Addr} {cdg pm ctv : Value} {params : Arguments} {body : Expr} {scope : Scope} {k i : Nat} {a : Str} {pn : List (Addr × Obj)} {xe : Value → Shared → Prop} {W : WX} {E : XK} {tb : TE} {p1 p2 : Pos}
    (I : Inv X pins σ H s) (C : CellsAt cl fr ws s.heap H) (L : LamS X.env.scope scope)
    (at0 : s.heap.get? f = some (PySem.W.kla_obj "<lambda>" (X.env.qual ++ "<lambda>") params body scope (cloFrom X.env.cells scope.names []) pm c' ctv)) (new0 : H f = none) (nofr : f ∉ frs X.stack)
    (bind0 : bindArgs (PySem.W.kla_fn "<lambda>" (X.env.qual ++ "<lambda>") params body scope (cloFrom X.env.cells scope.names []) pm (.ref c') ctv) ⟨[], []⟩ = pure [])
    (tk : Takes ((cxOf CXg X.prog X.w X.K X.mg X.base Ng qg sg g cdg X.A X.stack s H Eg).tr pn xe) W) (up : ∀ cls d σ' H', E cls d H' → W cls d σ' H') (room : Room (k + 1) (X.A.deeper (envOfC qg sg s.heap.objs.size g cdg)))
    (told : ∀ (A : Around) (outer : List Env) (s1 : Shared) (HZ : Hp), Room k (A.deeper (lamEnv X scope s1.heap.objs.size f c')) → CellsAt cl fr ws s1.heap HZ → PE (lamCx X A outer s1 HZ E scope f c') body tb)
    (hN : Ng[i]? = some a) (hv : Vis sg a) (hd : (a == ("__debug__" : Str)) = false) (hcd : (a == ("__classdict__" : Str)) = false) :
    PE ((cxOf CXg X.prog X.w X.K X.mg X.base Ng qg sg g cdg X.A X.stack s H Eg).tr pn xe) (.Call (.Name a p1) [] [] p2)
      (fun σZ HZ Q => σZ[i]? = some (some (.ref f)) ∧ HZ c' = some (CodeO c' (X.env.qual ++ "<lambda>")) ∧ tb σ HZ Q) := by
  constructor
  rintro pz sz σZ HZ Q Iz ⟨isF, isC, want⟩
  have byName := (pe_var (pos := p1) (i := i) hN hv hd hcd).run pz sz σZ HZ (fun v G => v = .ref f ∧ G = HZ) Iz ⟨.ref f, isF, rfl, rfl⟩
  refine wpAny_Call_Name_kw (thn byName ?_)
  rintro u s1 ⟨v, G, I1, r1, rfl, rfl⟩
  obtain rfl : u = Value.ref f := r1
  have keeps := I1.base.keep f _ at0 new0 nofr fun z => nomatch (show f ∈ ([] : List Addr) from z)
  refine PySem.W.callWith_F0 ⟨_, _, _, _, keeps⟩ ?_
  have u0 : Un (frs X.stack) [] H G s.heap s1.heap := I1.base
  obtain ⟨⟨oc, vs, t, oc1, oc2, oc3⟩, _, _⟩ := I1.hok c' _ isC
  have out : Passes (L2.CX X.prog X.w) ((cxOf CXg X.prog X.w X.K X.mg X.base Ng qg sg g cdg X.A X.stack s H Eg).tr pn xe) E := passes_call tk up
  refine wpAny_call (codeAny_mono (R := CR (L2.CX X.prog X.w) (envOfC qg sg s.heap.objs.size g cdg :: X.stack) X.prog X.w G s1 Q E) ?_ ?_)
  · refine PySem.W.kla_callFunE room.depth keeps rfl L.co L.gen rfl ⟨c', oc, vs, t, rfl, oc1, oc2, oc3⟩ ?_
    rw [show (([] : List Value) ++ []) = [] from rfl, bind0]
    refine wpAny_pure (wpAny_newFunctionEnv (fun y hy => (L.own y hy).2) (fun y hy => absurd hy (by simp)) (fun h₁ ns but => ⟨I1.nolimit.fresh _ but, ?_⟩) L.kind)
    have grows : ∀ b o, s1.heap.get? b = some o → h₁.get? b = some o := fun b o e => but.extBut b o (Nat.ne_of_lt (Heap.lt_size e)) (Heap.get?_push_of_some _ e)
    have I2 := lam_start2 (tk := s1.toks + ([] : List (Str × Value)).length) (E := E) (f := f) (c' := c') I L I1.env0 room.hd u0 ns grows
    refine PySem.W.kla_codeExpr (wpAny_mono ((told _ _ s1 G (room.deeper _) (cellsUn u0 C)).run [] _ _ G Q I2 want) ?_ fun _ _ z => z)
    rintro v s2 ⟨w', H2, I3, rv, q⟩
    exact ⟨w', H2, I3.os, I3.bare, I3.base, I3.hok, rv, q⟩
  · intro r s2 hq
    match r, hq with
    | .error e, hq => exact out pz σZ G s1 e s2 I1 hq
    | .ok (.ret u), hq => exact I1.after hq
/-- x(lambda: body) -/
theorem lamcall_c {js : List Nat} {T : List (Addr × Str)} {TT : (XK → Hp → VK → Prop) → Hp → VK → Prop} {x a : Str} {g c P : Addr} {k : Nat} {pg : Arguments} {bg : List Stmt} {sg : Scope} {dV kV doc pm cdv ct oc : Value} {an od : Option Addr} {osl : Array (Option Value)} {Ng : List Str}
    {params : Arguments} {body : Expr} {scope : Scope} {t : XK → TE} {p lpos pos : Pos} (cap : X.Ok → Caps X cl fr js) (hws : js.map (NdefX.slotAt σ) = ws) (glob : Gl X x) (hm : X.mg x = some (.ref g)) (hk : PySem.W.keepIn X.K (.ref g) = true)
    (lk : X.K.lookup g = some ⟨oc, od, .func (PySem.W.fnOf x x pg bg sg dV kV doc pm an cdv ct), osl⟩) (hcg : PySem.W.codeIn X.K cdv x = true) (hb : L2.Binds X.K (PySem.W.fnOf x x pg bg sg dV kV doc pm an cdv ct) [a] []) (Sg : FnScope Ng [a] sg) (hNg : Ng[0]? = some a) (hva : Vis sg a)
    (gives : GivesTo X Ng x sg g cdv bg a (X.env.qual ++ "<lambda>") TT)
    (TB : TabB X.base X.mg c P) (hcode : X.env.code = .ref c) (inT : (P, X.env.qual ++ "<lambda>") ∈ T) (only : ∀ p ∈ T, p.1 = P → p.2 = X.env.qual ++ "<lambda>") (hr : Room (k + 2) X.A) (L : LamS X.env.scope scope) (hdef : defaultsOf params X.env = ([], []))
    (bind : ∀ (q : Str) (cl : List (Str × Addr)) (pm cv ctv : Value), bindArgs (PySem.W.kla_fn "<lambda>" q params body scope cl pm cv ctv) ⟨[], []⟩ = pure [])
    (told : ∀ (A : Around) (outer : List Env) (s : Shared) (H : Hp) (E : XK) (f c' : Addr), Room k (A.deeper (lamEnv X scope s.heap.objs.size f c')) → CellsAt cl fr ws s.heap H → PE (lamCx X A outer s H E scope f c') body (t E))
    (hdb : (x == ("__debug__" : Str)) = false) (hd : (a == ("__debug__" : Str)) = false) (hcd : (a == ("__classdict__" : Str)) = false) {Q : VK} (want : tLam T TT t σ H Q) :
    tW X (.Call (.Name x p) [.Lambda params body scope lpos] [] pos) σ H Q := by
  intro pins s I
  obtain ⟨hT, want⟩ := want
  have hfree := L.has I.ok
  refine wpAny_Call_Name_kw (ld_glob I glob hm (PySem.W.callWith_K (h₀ := X.base) I.ok.mod.kin hk ?_ (by rfl) (by rfl)) hdb)
  show wpAny _ _ (spliced ((false, eval (.Lambda params body scope lpos) X.env) :: backTo pos (starEach [] X.env))) _ _ s
  refine Calls.spliced_cons (lam_make2 I TB hcode inT only hT hdef hfree ?_)
  intro f c' pm' ctv H1 s' I1 eN T1 isF isN isO isC
  have C1 : CellsAt cl fr ws s'.heap H1 := hws ▸ cells_of I1 (cap I.ok)
  refine Calls.spliced_nil ⟨I1.kIn, ?_⟩
  refine wpAny_call (codeAny_mono (R := CR C8.CX0 X.stack X.prog X.w H1 s' Q C8.E0) ?_ ?_)
  · refine run_ofS (N := Ng) (ps := [a]) (us := [.ref f]) (vs := [.ref f]) lk hcg Sg hr I1.env0 (hb s' [.ref f] I1.kIn rfl) (.cons rfl .nil) rfl fun room => ?_
    obtain ⟨t', ht, hq⟩ := gives f c' s' H1 Q (fun E G R => t E σ G R) (fun W pn xe E p1 p2 tk up => act_c (i := 0) I1 C1 L isF isN isO (bind _ _ _ _ _) tk up room (fun A outer s1 HZ hr2 CZ => told A outer s1 HZ E f c' hr2 CZ) hNg hva hd hcd) isC (want H1 eN T1)
    exact ⟨t', ht.nox, hq⟩
  · intro r s2 hq
    match r, hq with
    | .error e, hq => exact False.elim (show False from hq)
    | .ok (.ret u), hq => exact I1.after hq
def tLc2 (X : Cx) (scope : Scope) (body : Expr) (k : Nat) (cl : List (Str × Addr)) (fr : List Str) (ws : List (Option V)) : XK → TE := fun E σ H Q => ∀ (A : Around) (outer : List Env) (s : Shared) (H0 : Hp) (f c' : Addr), Room k (A.deeper (lamEnv X scope s.heap.objs.size f c')) → CellsAt cl fr ws s.heap H0 → tW (lamCx X A outer s H0 E scope f c') body σ H Q
/-- caught(lambda: body): the body knows what some cells of the law's frame hold -/
theorem jm_caughtC {js : List Nat} {k : Nat} {x a e n f : Str} {CS g c P : Addr} {st : Stmt} {fd : FuncData} {params : Arguments} {body : Expr} {scope : Scope} {p lpos pos : Pos} {j : Nat} {p0 p1 p2 p3 p4 p5 p6 p7 p8 p9 p10 p11 p12 p13 : Pos} {ρ : Ro} {μ : Mu} {Q : VK}
    (S : Sy X.K (fun _ => none) [] ρ ((P, .tab (X.env.qual ++ "<lambda>")) :: μ) σ H) (hmu : ∀ p ∈ μ, noTab p.2) (cap : X.Ok → Caps X cl fr js) (hws : js.map (NdefX.slotAt σ) = ws)
    (F : FunD X.K x x (defArgs st) [.Assign [.Name f p0] (.Constant .none j p1) p2, .Try [.Expr (.Call (.Name a p3) [] [] p4) p5] [.ExceptHandler (some (.Name e p6)) (some n) [.Assign [.Name f p7] (.Name n p8) p9] p10] [] [] p11, .Return (some (.Name f p12)) p13] (defScope st) [] [] g fd) (hm : X.mg x = some (.ref g))
    (hbi : ∀ (kV doc pm : Value) (an : Option Addr) (cdv ct : Value) (us : List Value), us.length = [a].length → bindArgs (PySem.W.fnOf x x (defArgs st) [.Assign [.Name f p0] (.Constant .none j p1) p2, .Try [.Expr (.Call (.Name a p3) [] [] p4) p5] [.ExceptHandler (some (.Name e p6)) (some n) [.Assign [.Name f p7] (.Name n p8) p9] p10] [] [] p11, .Return (some (.Name f p12)) p13] (defScope st) .none kV doc pm an cdv ct) ⟨us, []⟩ = pure ([a].zip us))
    (Sg : FnScope [a, f, n] [a] (defScope st)) (hva : Vis (defScope st) a) (hge : (defScope st).names.lookup e = some .globalImplicit) (hme : X.mg e = some (.ref CS)) (hde : (e == ("__debug__" : Str)) = false)
    (hlf : (defScope st).names.lookup f = some .local) (hln : (defScope st).names.lookup n = some .local) (hdf : (f == ("__debug__" : Str)) = false) (hcf : (f == ("__classdict__" : Str)) = false) (hdn : (n == ("__debug__" : Str)) = false) (hcn : (n == ("__classdict__" : Str)) = false)
    (TB : TabB X.base X.mg c P) (hcode : X.env.code = .ref c) (hr : Room (k + 2) X.A) (L : LamS X.env.scope scope)
    (Pc : Value → Prop) (hbody : ∀ (A : Around) (outer : List Env) (s : Shared) (H0 : Hp) (f' c' : Addr) (H1 : Hp) (E : XK), Room k (A.deeper (lamEnv X scope s.heap.objs.size f' c')) → CellsAt cl fr ws s.heap H0 → Sy X.K (fun _ => none) [] ρ ((P, .tab (X.env.qual ++ "<lambda>")) :: μ) σ H1 →
      (∀ cls H', Pc cls → PySem.W.exmOne X.K cls (.ref CS) = some true → Sy X.K (fun _ => none) [] ρ ((P, .tab (X.env.qual ++ "<lambda>")) :: μ) σ H' → E cls none H') → tW (lamCx X A outer s H0 E scope f' c') body σ H1 (fun _ H' => Q .non H'))
    (hQ : ∀ cls v H', Pc cls → PySem.W.exmOne X.K cls (.ref CS) = some true → Sy X.K (fun _ => none) [] ρ ((P, .tab (X.env.qual ++ "<lambda>")) :: μ) σ H' → (Sv.exc cls).holds X.K (hid (adr [] ((P, .tab (X.env.qual ++ "<lambda>")) :: μ)) H') v → Q v H')
    (hg : Gl X x := by rfl) (hdef : defaultsOf params X.env = ([], []) := by rfl) (hbind : ∀ (q : Str) (cl : List (Str × Addr)) (pm cv ctv : Value), bindArgs (PySem.W.kla_fn "<lambda>" q params body scope cl pm cv ctv) ⟨[], []⟩ = pure [] := by intros; rfl)
    (hdb : (x == ("__debug__" : Str)) = false := by decide) (hd : (a == ("__debug__" : Str)) = false := by decide) (hcd : (a == ("__classdict__" : Str)) = false := by decide) : tW X (.Call (.Name x p) [.Lambda params body scope lpos] [] pos) σ H Q := by
  have hb := F.bindsN (ps := [a]) hbi
  obtain ⟨oc, od, dV, kV, doc, pm, an, cdv, ct, osl, efd, lk, hcg, _, _⟩ := F.ex
  subst efd
  refine lamcall_c (T := [(P, X.env.qual ++ "<lambda>")]) (TT := TCaught X.K CS) (t := tLc2 X scope body k cl fr ws) cap hws hg hm F.kp lk hcg hb Sg rfl hva
    (caught_gives Sg.nd hge hme hde hlf hln hdf hcf hdn hcn) TB hcode List.mem_cons_self (fun p hp _ => by rw [List.mem_singleton.mp hp]) hr L hdef hbind (fun A outer s H0 E f' c' hr' C' => ⟨fun pins s' σ' H' Q' I h => h A outer s H0 f' c' hr' C' pins s' I⟩) hdb hd hcd ⟨S.tabs, fun H1 eN T1 => ?_⟩
  have S1 := S.tabbed hmu eN T1
  intro A outer s H0 f' c' hr' C'
  refine tW_mono (hbody A outer s H0 f' c' H1 _ hr' C' S1 fun cls H' hc he S' => ?_) fun v H' q => ⟨.non, rfl, q⟩
  refine ⟨true, he, fun _ ad ha => hQ cls (.ref ad) _ hc he (S'.ex (Ex.new ha)) ⟨ad, rfl, ?_⟩, fun z => by cases z⟩
  rw [hid_out (S'.all.out ha)]
  exact upd_same
/-- what a lambda captures are cells of the frame that makes it -/
theorem fre1 {sc scope : Scope} (h : (scope.names.all fun y => !decide (y.2 = .free) || decide (sc.names.lookup y.1 = some .cell)) = true) : ∀ y ∈ scope.names, y.2 = .free → sc.names.lookup y.1 = some .cell ∨ sc.names.lookup y.1 = some .free := fun y hy e => by
  have := List.all_eq_true.mp h y hy
  rw [e] at this
  exact .inl (by simpa using this)
theorem caps1 {x : Str} {j : Nat} (h : X.env.scope.names.lookup x = some .cell) (h3 : X.N[j]? = some x) (ok : X.Ok) : Caps X [(x, (X.env.cells.lookup x).getD 0)] [x] [j] := by
  obtain ⟨c, hc⟩ := ok.has x (.inl h)
  have e : (X.env.cells.lookup x).getD 0 = c := by rw [hc]; rfl
  rw [e]
  have one : ∀ y a, List.lookup y [(x, c)] = some a → y = x ∧ a = c := fun y a q => by
    by_cases z : y = x
    · subst z
      rw [List.lookup_cons_self] at q
      exact ⟨rfl, (Option.some.inj q).symm⟩
    · rw [List.lookup_cons, show (y == x) = false from by simpa using z] at q
      cases q
  refine ⟨fun y a q => ?_, fun y hy => ?_, fun y hy a q => ?_, by rw [List.map_singleton, List.map_singleton, h3]⟩
  · obtain ⟨rfl, rfl⟩ := one y a q
    exact hc
  · rw [List.mem_singleton.mp hy]
    exact .inl h
  · rw [List.mem_singleton.mp hy] at q ⊢
    rw [hc] at q
    rw [Option.some.inj q]
    exact List.lookup_cons_self
theorem slot1 {j : Nat} {v : V} (h : σ[j]? = some (some v)) : [j].map (NdefX.slotAt σ) = [some v] := by
  rw [List.map_singleton]
  unfold NdefX.slotAt
  rw [h]
/-- data in, and what one captured cell holds; it raises -/
def spC (K : PySem.W.Frag) (n : Nat) (Fl : List D → Value → Prop) : List (Option V) → Sp := fun ws vs H Q E => ∃ (M : List Addr) (ds : List D) (vb : V) (b : D) (cls : Value), ws = [some vb] ∧ ds.length = n ∧ Al M H ∧ DpAll K (hid M H) vs ds ∧ Dp K (hid M H) vb b ∧ Fl (ds ++ [b]) cls ∧ ∀ H', Ex H H' → E cls none H'
/-- lambda one, two: f(one, two, captured) -/
theorem lok_askC {P : Program} {w : World} {K : PySem.W.Frag} {mg : Str → Option Value} {base : Heap} {k : Nat} {x c : Str} {ps : List Str} {R : List D → D → Prop} {Fl : List D → Value → Prop} (W : Fd (CX P w) P w K mg base k x ps (spX K 3 R Fl)) {F : Addr → NF} {p1 p2 p3 p4 pos : Pos} (S : ∀ c', NScope ["one", "two", c] ["one", "two"] [c] (F c').scope)
    (hb : ∀ (c' : Addr) (pm ctv : Value) (us : List Value), us.length = (["one", "two"] : List Str).length → bindArgs (PySem.W.kla_fn "<lambda>" (F c').qual (F c').params (.Call (.Name x p1) [.Name "one" p2, .Name "two" p3, .Name c p4] [] pos) (F c').scope (F c').cl pm (.ref (F c').c) ctv) ⟨us, []⟩ = pure ((["one", "two"] : List Str).zip us)) (hg : ∀ c', (F c').scope.names.lookup x = some NameKind.globalImplicit) (hdb : (x == ("__debug__" : Str)) = false) (hc1 : (c == ("__debug__" : Str)) = false) (hc2 : (c == ("__classdict__" : Str)) = false) :
    LOk P w K mg base (CX P w) (k + 1) F (.Call (.Name x p1) [.Name "one" p2, .Name "two" p3, .Name c p4] [] pos) ["one", "two"] [c] (spC K 2 Fl) := by
  refine lok_of (N := ["one", "two", c]) S hb (fun ws vs H Q E q => ?_) (fun f c' A outer s H vs ws Q E hr hw q => ?_)
  · obtain ⟨M, ds, vb, b, cls, _, hl, _, r, _⟩ := q
    rw [r.len, hl]; rfl
  · obtain ⟨M, ds, vb, b, cls, rfl, hl, al, r, rb, hF, kE⟩ := q
    match ds, hl, r with
    | [d1, d2], _, .cons ra (.cons rc .nil) =>
      exact jx_call (X := ncx (CX P w) P w K mg base ["one", "two", c] (F c') f A outer s H E) W hr (takes_of rfl rfl rfl rfl) al (ja_cons (jd_var 0 rfl ra rfl (.inl ((S c').par _ (by simp)))) (ja_cons (jd_var 1 rfl rc rfl (.inl ((S c').par _ (by simp)))) (ja_cons (jd_var 2 rfl rb rfl (.inr (.inr ((S c').frk _ (by simp)))) hc1 hc2) ja_nil))) rfl hF kE (hg := hg c') (hdb := hdb)
end
end J

set_option maxHeartbeats 4000000
/-! J54: caught(work), work a variable that holds a lambda without parameters. -/
namespace J
open PySem PySem.Spec PyProof.Rows L2 Evl RZ LamX NdefX
section
variable {X : Cx} {cl : List (Str × Addr)} {fr : List Str} {ws : List (Option V)}
/-- what several names capture -/
theorem lk_pairs {g : Str → Addr} {y : Str} : ∀ {xs : List Str}, (xs.map fun x => (x, g x)).lookup y = if y ∈ xs then some (g y) else none
  | [] => by simp
  | x :: xs => by
    have ih := lk_pairs (g := g) (y := y) (xs := xs)
    rw [List.map_cons, List.lookup_cons]
    by_cases h : y = x
    · subst h
      simp
    · rw [show (y == x) = false from by simpa using h, ih]
      simp [h]
theorem capsN {xs : List Str} {js : List Nat} (h : ∀ x ∈ xs, X.env.scope.names.lookup x = some .cell) (hjs : js.map (fun j => X.N[j]?) = xs.map some) (ok : X.Ok) : Caps X (xs.map fun x => (x, (X.env.cells.lookup x).getD 0)) xs js := by
  have at1 : ∀ x ∈ xs, ∀ c, X.env.cells.lookup x = some c → (X.env.cells.lookup x).getD 0 = c := fun x _ c e => by rw [e]; rfl
  refine ⟨fun y c e => ?_, fun y hy => .inl (h y hy), fun y hy c e => ?_, hjs⟩
  · rw [lk_pairs] at e
    by_cases q : y ∈ xs
    · rw [if_pos q] at e
      obtain ⟨c2, h2⟩ := ok.has y (.inl (h y q))
      rw [at1 y q c2 h2] at e
      rw [h2, e]
    · rw [if_neg q] at e; cases e
  · rw [lk_pairs, if_pos hy, at1 y hy c e]
/-- nothing in; what captured cells hold; it raises -/
def spC0 (K : PySem.W.Frag) (Fl : List D → Value → Prop) : List (Option V) → Sp := fun ws vs H Q E => ∃ (M : List Addr) (bs : List V) (ds : List D) (cls : Value), vs = [] ∧ ws = bs.map some ∧ Al M H ∧ DpAll K (hid M H) bs ds ∧ Fl ds cls ∧ ∀ H', Ex H H' → E cls none H'
variable {pins : List (Addr × Obj)} {σ : L2.St} {H : Hp} {s : Shared}
theorem act_v {CXg : CXT} {Eg : XK} {Ng : List Str} {qg : Str} {sg : Scope} {g f c' : Addr} {cdg : Value} {k i : Nat} {a : Str} {pn : List (Addr × Obj)} {xe : Value → Shared → Prop} {W : WX} {E : XK} {F : Addr → NF} {b : Expr} {sp : List (Option V) → Sp} {p1 p2 : Pos}
    (C : CellsAt (F c').cl fr ws s.heap H) (L : LOk X.prog X.w X.K X.mg X.base (L2.CX X.prog X.w) k F b [] fr sp)
    (tk : Takes ((cxOf CXg X.prog X.w X.K X.mg X.base Ng qg sg g cdg X.A X.stack s H Eg).tr pn xe) W) (up : ∀ cls d σ' H', E cls d H' → W cls d σ' H') (room : Room k (X.A.deeper (envOfC qg sg s.heap.objs.size g cdg)))
    (hN : Ng[i]? = some a) (hv : Vis sg a) (hd : (a == ("__debug__" : Str)) = false) (hcd : (a == ("__classdict__" : Str)) = false) :
    PE ((cxOf CXg X.prog X.w X.K X.mg X.base Ng qg sg g cdg X.A X.stack s H Eg).tr pn xe) (.Call (.Name a p1) [] [] p2)
      (fun σZ HZ Q => σZ[i]? = some (some (.ref f)) ∧ HZ (F c').c = some (CodeO (F c').c (F c').qual) ∧ (HZ f = some (LmO f (F c') b) ∧ sp ws [] HZ Q E)) := by
  constructor
  rintro pz sz σZ HZ Q Iz ⟨isF, isC, isL, want⟩
  have byName := (pe_var (pos := p1) (i := i) hN hv hd hcd).run pz sz σZ HZ (fun v G => v = .ref f ∧ G = HZ) Iz ⟨.ref f, isF, rfl, rfl⟩
  refine wpAny_Call_Name_kw (thn byName ?_)
  rintro u s1 ⟨v, G, I1, r1, rfl, rfl⟩
  obtain rfl : u = Value.ref f := r1
  obtain ⟨pm, ctv, o1⟩ := lmO_at I1.hok isL
  refine PySem.W.callWith_F0 ⟨_, _, _, _, o1⟩ ?_
  have u0 : Un (frs X.stack) [] H G s.heap s1.heap := I1.base
  have out : Passes (L2.CX X.prog X.w) ((cxOf CXg X.prog X.w X.K X.mg X.base Ng qg sg g cdg X.A X.stack s H Eg).tr pn xe) E := passes_call tk up
  refine wpAny_call (codeAny_mono (L.run f c' _ _ s1 G [] [] ws Q E room I1.env0 isL isC (cellsUn u0 C) .nil want) ?_)
  intro r s2 hq
  match r, hq with
  | .error e, hq => exact out pz σZ G s1 e s2 I1 hq
  | .ok (.ret u), hq => exact I1.after hq
/-- caught(work) -/
theorem jm_caughtV {B : Hp} {M0 : List Addr} {js : List Nat} {i k : Nat} {x y a e n f : Str} {CS g lf : Addr} {st : Stmt} {fd : FuncData} {F : Addr → NF} {b : Expr} {p p5' pos : Pos} {j : Nat} {p0 p1 p2 p3 p4 p5 p6 p7 p8 p9 p10 p11 p12 p13 : Pos} {ρ : Ro} {μ : Mu} {Q : VK} {Fl : List D → Value → Prop} {ds : List D} {cls : Value}
    (S : Sy X.K B M0 ρ μ σ H) (hs : ρ[i]? = some (some (.inv (lamV lf F b)))) (hi : X.N[i]? = some y) (hvy : Vis X.env.scope y) (hy1 : (y == ("__debug__" : Str)) = false) (hy2 : (y == ("__classdict__" : Str)) = false)
    (L : LOk X.prog X.w X.K X.mg X.base (L2.CX X.prog X.w) k F b [] fr (spC0 X.K Fl)) (hcl : ∀ c', (F c').cl = cl) (cap : X.Ok → Caps X cl fr js) (hws : ∃ bs : List V, js.map (slotAt σ) = bs.map some ∧ DpAll X.K (hid (adr M0 μ) H) bs ds) (hF : Fl ds cls) (hex : PySem.W.exmOne X.K cls (.ref CS) = some true)
    (Fg : FunD X.K x x (defArgs st) [.Assign [.Name f p0] (.Constant .none j p1) p2, .Try [.Expr (.Call (.Name a p3) [] [] p4) p5] [.ExceptHandler (some (.Name e p6)) (some n) [.Assign [.Name f p7] (.Name n p8) p9] p10] [] [] p11, .Return (some (.Name f p12)) p13] (defScope st) [] [] g fd) (hm : X.mg x = some (.ref g))
    (hbi : ∀ (kV doc pm : Value) (an : Option Addr) (cdv ct : Value) (us : List Value), us.length = [a].length → bindArgs (PySem.W.fnOf x x (defArgs st) [.Assign [.Name f p0] (.Constant .none j p1) p2, .Try [.Expr (.Call (.Name a p3) [] [] p4) p5] [.ExceptHandler (some (.Name e p6)) (some n) [.Assign [.Name f p7] (.Name n p8) p9] p10] [] [] p11, .Return (some (.Name f p12)) p13] (defScope st) .none kV doc pm an cdv ct) ⟨us, []⟩ = pure ([a].zip us))
    (Sg : FnScope [a, f, n] [a] (defScope st)) (hva : Vis (defScope st) a) (hge : (defScope st).names.lookup e = some .globalImplicit) (hme : X.mg e = some (.ref CS)) (hde : (e == ("__debug__" : Str)) = false)
    (hlf : (defScope st).names.lookup f = some .local) (hln : (defScope st).names.lookup n = some .local) (hdf : (f == ("__debug__" : Str)) = false) (hcf : (f == ("__classdict__" : Str)) = false) (hdn : (n == ("__debug__" : Str)) = false) (hcn : (n == ("__classdict__" : Str)) = false)
    (hr : Room (k + 1) X.A)
    (hQ : ∀ v H', Sy X.K B M0 ρ μ σ H' → (Sv.exc cls).holds X.K (hid (adr M0 μ) H') v → Q v H')
    (hg : Gl X x := by rfl) (hdb : (x == ("__debug__" : Str)) = false := by decide) (hd : (a == ("__debug__" : Str)) = false := by decide) (hcd : (a == ("__classdict__" : Str)) = false := by decide) : tW X (.Call (.Name x p) [.Name y p5'] [] pos) σ H Q := by
  have hb := Fg.bindsN (ps := [a]) hbi
  obtain ⟨oc, od, dV, kV, doc, pm, an, cdv, ct, osl, efd, lk, hcg, _, _⟩ := Fg.ex
  subst efd
  obtain ⟨v0, hv1, hv2⟩ := S.sl i _ hs
  obtain ⟨rfl, c', g1, g2⟩ := lamV_of hv2
  have g1 := hid_le _ _ g1
  have g2 := hid_le _ _ g2
  intro pins s I
  refine wpAny_Call_Name_kw (ld_glob I hg hm (PySem.W.callWith_K (h₀ := X.base) I.ok.mod.kin Fg.kp ?_ (by rfl) (by rfl)) hdb)
  show wpAny _ _ (spliced ((false, eval (.Name y p5') X.env) :: backTo pos (starEach [] X.env))) _ _ s
  refine Calls.spliced_cons (thn ((pe_var (pos := p5') (i := i) hi hvy hy1 hy2).run pins s σ H (fun v G => v = .ref lf ∧ G = H) I ⟨.ref lf, hv1, rfl, rfl⟩) ?_)
  rintro u s1 ⟨v, G, I1, r1, rfl, rfl⟩
  obtain rfl : u = Value.ref lf := r1
  obtain ⟨bs, hbs, pb⟩ := hws
  have C1 : CellsAt (F c').cl fr (bs.map some) s1.heap G := by
    rw [hcl, ← hbs]
    exact cells_of I1 (cap I.ok)
  refine Calls.spliced_nil ⟨I1.kIn, ?_⟩
  refine wpAny_call (codeAny_mono (R := CR C8.CX0 X.stack X.prog X.w G s1 Q C8.E0) ?_ ?_)
  · refine run_ofS (N := [a, f, n]) (ps := [a]) (us := [.ref lf]) (vs := [.ref lf]) lk hcg Sg hr I1.env0 (hb s1 [.ref lf] I1.kIn rfl) (.cons rfl .nil) rfl fun room => ?_
    obtain ⟨t', ht, hq⟩ := caught_gives (X := X) (x := x) (q := (F c').qual) (sg := defScope st) (g := g) (cdg := cdv) Sg.nd hge hme hde hlf hln hdf hcf hdn hcn lf (F c').c s1 G Q (fun E G' R => G' lf = some (LmO lf (F c') b) ∧ spC0 X.K Fl (bs.map some) [] G' R E) (fun W pn xe E p1 p2 tk up => act_v (i := 0) C1 L tk up room rfl hva hd hcd) g2
      ⟨g1, adr M0 μ, bs, ds, cls, rfl, rfl, S.all, pb, hF, fun H' xx => ⟨true, hex, fun _ ad ha => hQ (.ref ad) _ ((S.ex xx).ex (Ex.new ha)) ⟨ad, rfl, by rw [hid_out ((S.ex xx).all.out ha)]; exact upd_same⟩, fun z => by cases z⟩⟩
    exact ⟨t', ht.nox, hq⟩
  · intro r s2 hq
    match r, hq with
    | .error e, hq => exact False.elim (show False from hq)
    | .ok (.ret u), hq => exact I1.after hq
end
end J

set_option maxHeartbeats 4000000
/-! J64: lambda y: f(y, captured). -/
namespace J
open PySem PySem.Spec PyProof.Rows L2 Evl RZ LamX NdefX
theorem lok_ask1C {P : Program} {w : World} {K : PySem.W.Frag} {mg : Str → Option Value} {base : Heap} {k : Nat} {x y c : Str} {ps : List Str} {R : List D → D → Prop} {Fl : List D → Value → Prop} (W : Fd (CX P w) P w K mg base k x ps (spX K 2 R Fl)) {F : Addr → NF} {p1 p2 p4 pos : Pos} (S : ∀ c', NScope [y, c] [y] [c] (F c').scope)
    (hb : ∀ (c' : Addr) (pm ctv : Value) (us : List Value), us.length = ([y] : List Str).length → bindArgs (PySem.W.kla_fn "<lambda>" (F c').qual (F c').params (.Call (.Name x p1) [.Name y p2, .Name c p4] [] pos) (F c').scope (F c').cl pm (.ref (F c').c) ctv) ⟨us, []⟩ = pure (([y] : List Str).zip us)) (hg : ∀ c', (F c').scope.names.lookup x = some NameKind.globalImplicit) (hdb : (x == ("__debug__" : Str)) = false)
    (hy1 : (y == ("__debug__" : Str)) = false) (hy2 : (y == ("__classdict__" : Str)) = false) (hc1 : (c == ("__debug__" : Str)) = false) (hc2 : (c == ("__classdict__" : Str)) = false) :
    LOk P w K mg base (CX P w) (k + 1) F (.Call (.Name x p1) [.Name y p2, .Name c p4] [] pos) [y] [c] (spC K 1 Fl) := by
  refine lok_of (N := [y, c]) S hb (fun ws vs H Q E q => ?_) (fun f c' A outer s H vs ws Q E hr hw q => ?_)
  · obtain ⟨M, ds, vb, b, cls, _, hl, _, r, _⟩ := q
    rw [r.len, hl]; rfl
  · obtain ⟨M, ds, vb, b, cls, rfl, hl, al, r, rb, hF, kE⟩ := q
    match ds, hl, r with
    | [d1], _, .cons ra .nil =>
      exact jx_call (X := ncx (CX P w) P w K mg base [y, c] (F c') f A outer s H E) W hr (takes_of rfl rfl rfl rfl) al (ja_cons (jd_var 0 rfl ra rfl (.inl ((S c').par _ (by simp))) hy1 hy2) (ja_cons (jd_var 1 rfl rb rfl (.inr (.inr ((S c').frk _ (by simp)))) hc1 hc2) ja_nil)) rfl hF kE (hg := hg c') (hdb := hdb)
end J

set_option maxHeartbeats 4000000
namespace K58
open PySem PySem.Spec PyProof.Rows L2 J Evl LamX NdefX
variable {P : Program} {w : World} {K : PySem.W.Frag} {mg : Str → Option Value} {base : Heap}
abbrev XL (P : Program) (w : World) (K : PySem.W.Frag) (mg : Str → Option Value) (base : Heap) (c : Addr) (A : Around) (outer : List Env) (s : Shared) (H : Hp) (E : XK) : Cx := bodyX P w K mg base N_law "law" s_law (He.ga K "law") (.ref c) A outer s H E
abbrev Tq (TP : Addr) : Addr × Mo := (TP, .tab (("law.<locals>." : Str) ++ "<lambda>"))
theorem dn_noTab {a l : Addr} {t0 n : Nat} {μ : Mu} (h : Dn a l t0 n μ) : ∀ p ∈ μ, noTab p.2 := by
  obtain ⟨s, _, rfl, _⟩ := h
  intro p hp
  unfold Dw Dr at hp
  simp only [List.mem_cons, List.not_mem_nil, or_false] at hp
  rcases hp with rfl | rfl <;> exact True.intro
theorem cons_noTab {a : Addr} {m : Mo} {μ : Mu} (hm : noTab m) (h : ∀ p ∈ μ, noTab p.2) : ∀ p ∈ ((a, m) :: μ), noTab p.2 := fun p hp => by
  rcases List.mem_cons.mp hp with rfl | hp
  · exact hm
  · exact h p hp
def forBody : Stmt → List Stmt
  | .For _ _ b _ _ => b
  | _ => []
abbrev loopB : List Stmt := forBody ((defBody s_law).getD 1 (.Pass ⟨0, 0, 0, 0⟩))
abbrev noH : Hp := fun _ => none
theorem law_w (T : Tx K mg) {c TP : Addr} {A : Around} {outer : List Env} {s : Shared} {H0 : Hp} {E : XK} (hr : Room 12 (XL P w K mg base c A outer s H0 E).A) {a lg : Addr} {t0 k : Nat} {μD : Mu} (hD : Dn a lg t0 k μD) (hcap : t0 + k + 200 ≤ capT) {l : List St} {d0 : D} {o2 o4 o5 o6 o7 o8 o9 o10 o11 o12 o13 o14 o15 o16 o17 o18 o19 o20 : Option Sv} {σ1 : L2.St} {H1 : Hp} {D' : Ends}
    (S1 : Sy K noH [] [some (.dat d0), some (.val (.ref a)), o2, some (.dat (trD l)), o4, o5, o6, o7, o8, o9, o10, o11, o12, o13, o14, o15, o16, o17, o18, o19, o20] (μD ++ [Tq TP]) σ1 H1)
    (fin : ∀ μ2 z σ' H', 0 ≤ z → z < 2 → Dn a lg t0 (k + 1) μ2 → Sy K noH [] [some (.dat d0), some (.val (.ref a)), o2, some (.dat (trD l)), some (.dat (wideD z)), o5, o6, o7, o8, o9, o10, o11, o12, o13, o14, o15, o16, o17, o18, o19, o20] (μ2 ++ [Tq TP]) σ' H' → tB (XL P w K mg base c A outer s H0 E) (loopB.drop 2) D' σ' H') :
    tB (XL P w K mg base c A outer s H0 E) (loopB.drop 1) D' σ1 H1 := by
  have nd := sc_law.nd
  have Wd := fd_law_draw (P := P) (w := w) (base := base) T
  refine sy_setE 4 (tW_tup (tA_cons (S1.ev jd_str fun v1 H2 S2 x2 p2 => tA_cons (tW_tupOwn T.n_tuple (tW_lc (own := [("letter", 18)]) (lcE_eff (B := noH) (M0 := []) (ρ := [some (.dat d0), some (.val (.ref a)), o2, some (.dat (trD l)), o4, o5, o6, o7, o8, o9, o10, o11, o12, o13, o14, o15, o16, o17, o18, o19, o20]) (js := [18])
    (fun μ1 ds => ∃ (z : Int) (μ2 : Mu), 0 ≤ z ∧ z < 2 ∧ Dn a lg t0 (k + 1) μ2 ∧ μ1 = μ2 ++ [Tq TP] ∧ ds = lets z) (fun R hR => ?_) (fun d ρ => ρ.set 18 (some (.dat d))) (by simp)
    (fun μ1 ds i acc μ' => i ≤ ds.length ∧ acc = (ds.take i).map wRow ∧ μ' = μ1) ?_ ?_ ?_ ?_ ?_) (blkOk_by (by rfl)) rfl nd))))) nd
  · refine leI (pi_str pe_W) (leW (pe_slice sl_str pe_W po_none (po_some pe_W)) (S2.sx.ev (Jd.js jd_str) fun v3 H3 S3 => sx_drawC (ts := [.dat (.str "abcdefghi")]) (vs := [v3]) (μD := μD) (μ2 := [Tq TP]) (i := 8) (room := 2) S3 Wd (hr.mono (by decide)) hD (by omega) (fun H S => (S.atV 1).js) (fun H S => Jd.js jd_int) (by decide) (by decide) fun v4 z μ4 H4 z0 z1 hD4 S4 => ?_))
    have e3 := dStr (Sx.lastD (ts := []) (vs := []) (S4.take (ts := [.dat (.str "abcdefghi")]) (vs := [v3]) rfl))
    refine ⟨8 + z, dInt (Sx.lastD (ts := [.dat (.str "abcdefghi")]) (vs := [v3]) S4), "abcdefghi", e3, by rw [sizeLine_eq]; decide, ⟨cutS "abcdefghi" none (some (8 + z)), rfl, ?_⟩⟩
    exact hR _ _ (μ4 ++ [Tq TP]) (lets z) ⟨z, μ4, z0, z1, hD4, rfl, rfl⟩ S4.base yl_str
  · rintro μ1 ds ⟨z, μ2, z0, z1, hD2, rfl, rfl⟩
    exact ⟨Nat.zero_le _, rfl, rfl⟩
  · rintro μ1 ds ⟨z, μ2, z0, z1, hD2, rfl, rfl⟩ i acc μ' ⟨hi, rfl, rfl⟩
    have := lets_len z0 z1
    rw [List.length_map, List.length_take]; omega
  · rintro _ d ⟨s, H, C, cl, fp, rfl⟩
    exact jg_name 18 nd
  · rintro μ1 ds ⟨z, μ2, z0, z1, hD2, rfl, rfl⟩ i d acc μ' _ B' M' σ' H' Q hd ⟨hi, rfl, rfl⟩ ⟨s, H, C, cl, fp, rfl⟩ S' kk
    exact S'.ev (d := wRow d) (jd_tup (ja_cons (S'.at 18) (ja_cons jd_int (ja_cons jd_int (ja_cons jd_int (ja_cons jd_int ja_nil)))))) fun v5 H5 S5 x5 p5 => kk v5 _ _ H5 ⟨(List.getElem?_eq_some_iff.mp hd).1, by rw [List.take_add_one, hd, List.map_append]; rfl, rfl⟩ S5 p5
  · rintro μ1 ds ⟨z, μ2, z0, z1, hD2, rfl, rfl⟩ p acc μ' H5 ⟨hi, rfl, rfl⟩ S5
    rw [List.take_length] at S5
    refine ⟨p, (lets z).map wRow, noH, [], _, _, rfl, S5, fun u H6 x6 S6 pu => tA_nil ⟨by simp, fun q hq => ?_⟩⟩
    have S7 := S6.ex (Ex.new (o := .tup [v1, u]) hq)
    have S8 := S7.set 4 (s := .dat (wideD z)) (v := .ref q) (.tup (SqT.of (S6.all.newEx hq)) (.cons (by rw [dStr p2]; exact .str _) (.cons (pu.ex (hid_ex (Ex.new hq))) .nil)))
    exact fin μ2 z _ _ z0 z1 hD2 S8
end K58

set_option maxHeartbeats 4000000
namespace K58
open PySem PySem.Spec PyProof.Rows L2 J Evl LamX NdefX
variable {P : Program} {w : World} {K : PySem.W.Frag} {mg : Str → Option Value} {base : Heap}
/-- right, then the error -/
theorem law_one (T : Tx K mg) {c TP : Addr} {A : Around} {outer : List Env} {s : Shared} {H0 : Hp} {E : XK} (TB : TabB base mg c TP) (hr : Room 12 (XL P w K mg base c A outer s H0 E).A) {a : Addr} {μ1 : Mu} (hmu : ∀ p ∈ μ1, noTab p.2) {d0 d : D} (hd : okV d = true) {o2 o3 o4 o6 o7 o8 o9 o10 o11 o12 o13 o14 o15 o16 o17 o18 o19 o20 : Option Sv} {σ1 : L2.St} {H1 : Hp} {D' : Ends} (B : List Stmt) (hB : B = forBody (loopB.getD 2 (.Pass ⟨0, 0, 0, 0⟩)))
    (S1 : Sy K noH [] [some (.dat d0), some (.val (.ref a)), o2, o3, o4, some (.dat d), o6, o7, o8, o9, o10, o11, o12, o13, o14, o15, o16, o17, o18, o19, o20] (Tq TP :: μ1) σ1 H1)
    (fin : ∀ o11 σ' H', Sy K noH [] [some (.dat d0), some (.val (.ref a)), o2, o3, o4, some (.dat d), o6, o7, o8, o9, o10, o11, o12, o13, o14, o15, o16, o17, o18, o19, o20] (Tq TP :: μ1) σ' H' → D'.nx σ' H') :
    tB (XL P w K mg base c A outer s H0 E) B D' σ1 H1 := by
  subst hB
  have nd := sc_law.nd
  have Wr := fd_law_sr_is_trial (P := P) (w := w) (base := base) T
  have Wt := fd_law_is_truth (P := P) (w := w) (base := base) T
  have Wi := fd_is_trial (P := P) (w := w) (base := base) T
  obtain ⟨fdc, Fc, hmc⟩ := T.f_law_caught
  obtain ⟨fi, oki, Fi, hmi⟩ := ok_is_trial (P := P) (w := w) (base := base) T
  have kbi : KBn K fi ["value"] 0 ["value"] (fun us ws => us ++ ws) (fun vs zs => vs ++ zs) := kbn_of Fi fun _ _ _ _ _ _ us ws h1 h2 => match us, ws, h1, h2 with | [], [_], _, _ => rfl
  obtain ⟨f2, ok2, F2, m2⟩ := ok_whole_rates (P := P) (w := w) (base := base) T
  have W2 := fd_mk F2 m2 ok2 (fun _ _ _ _ _ _ us hl => match us, hl with | [_], _ => rfl)
  refine sy_set 11 S1 (d := .bool (isTr d)) (jd_call Wr (hr.mono (by decide)) (ja_cons (S1.at 5) ja_nil) rfl ⟨d, rfl, hd, rfl⟩) (fun σ2 H2 S2 => ?_) nd
  have S2 : Sy K noH [] [some (.dat d0), some (.val (.ref a)), o2, o3, o4, some (.dat d), o6, o7, o8, o9, o10, some (.dat (.bool (isTr d))), o12, o13, o14, o15, o16, o17, o18, o19, o20] (Tq TP :: μ1) σ2 H2 := S2
  refine sy_when (b := !(isTr d == isTr d) || !(isTr d == isTr d)) S2 (jt_or (jt_not (jt_val (jd_call Wt (hr.mono (by decide)) (ja_cons (jd_call Wi (hr.mono (by decide)) (ja_cons (S2.at 5) ja_nil) rfl ⟨d, rfl, hd, rfl⟩) (ja_cons (S2.at 11) ja_nil)) rfl ⟨_, _, rfl, rfl⟩)))
    fun _ => jt_not (jt_val (jd_call Wt (hr.mono (by decide)) (ja_cons (jd_callDK oki hmi Fi.kp kbi (hr.mono (by decide)) (S2.at 5) ⟨d, rfl, hd, rfl⟩) (ja_cons (S2.at 11) ja_nil)) rfl ⟨_, _, rfl, rfl⟩))) (fun q => by simp at q) fun _ H3 S3 => ?_
  refine tB_if (tT_and (S3.te (jt_not (jt_val (S3.at 11))) fun H4 S4 x4 => ?_))
  by_cases hq : isTr d = true
  · rw [if_neg (by rw [hq]; exact Bool.false_ne_true), if_neg Bool.false_ne_true]
    exact tB_nil (tB_nil (fin _ _ _ S4))
  · have hq : isTr d = false := by simpa using hq
    rw [if_pos (by rw [hq]; rfl)]
    refine tT_not (tT_val (jm_isE (call_isV T.e_BadTrial) T.n_isinstance T.g_BadTrial (jm_caughtP (k := 9) (g := He.ga K "_law_caught") (st := s_law_caught) (μ := μ1) (P := TP) S4 hmu Fc hmc (fun _ _ _ _ _ _ us hl => match us, hl with | [_], _ => rfl) sc_law_caught (.inl rfl) rfl T.g_JudgeError (by decide) rfl rfl (by decide) (by decide) (by decide) (by decide) TB rfl (hr.mono (by decide)) (lamS_by (by rfl)) (fun cls => cls = .ref (He.ga K "BadTrial")) (fun A' outer' s' H0' f' c' Ha E' hr' Sa hE' => ?_) fun cls v Hb hc he S5 hv => ?_)))
    · exact jx_call (X := lamCx (XL P w K mg base c A outer s H0 E) A' outer' s' H0' E' _ f' c') W2 (hr'.mono (by decide)) (takes_of rfl rfl rfl rfl) Sa.all (ja_cons (X := lamCx (XL P w K mg base c A outer s H0 E) A' outer' s' H0' E' _ f' c') (Sy.at (X := lamCx (XL P w K mg base c A outer s H0 E) A' outer' s' H0' E' _ f' c') Sa 5) (ja_nil (X := lamCx (XL P w K mg base c A outer s H0 E) A' outer' s' H0' E' _ f' c'))) rfl ⟨d, rfl, hd, hq, rfl⟩ (fun H' x3 => hE' _ H' rfl T.j_BadTrial (Sa.ex x3))
    subst hc
    obtain ⟨b0, rfl, hb0⟩ := hv
    refine ⟨b0, .ref _, .ref _, true, rfl, hid_le _ _ hb0, fun u h => h, T.s_BadTrial, true, rfl, ?_⟩
    show (if (!true) = true then _ else _)
    rw [if_neg (by decide)]
    exact tB_nil (tB_nil (fin _ _ _ S5))
theorem law_v (T : Tx K mg) {c TP : Addr} {A : Around} {outer : List Env} {s : Shared} {H0 : Hp} {E : XK} (TB : TabB base mg c TP) (hr : Room 12 (XL P w K mg base c A outer s H0 E).A) {a lg : Addr} {t0 k : Nat} {μD : Mu} (hD : Dn a lg t0 k μD) (hcap : t0 + k + 200 ≤ capT) {l : List St} (hT : TrOk l) (hS : ∀ s ∈ l, Sm1 s) {z : Int} (z0 : 0 ≤ z) (z2 : z < 2) {d0 : D} {o2 o5 o6 o7 o8 o9 o10 o11 o12 o13 o14 o15 o16 o17 o18 o19 o20 : Option Sv} {σ1 : L2.St} {H1 : Hp} {D' : Ends}
    (S1 : Sy K noH [] [some (.dat d0), some (.val (.ref a)), o2, some (.dat (trD l)), some (.dat (wideD z)), o5, o6, o7, o8, o9, o10, o11, o12, o13, o14, o15, o16, o17, o18, o19, o20] (μD ++ [Tq TP]) σ1 H1)
    (fin : ∀ μ2 o5 o11 σ' H', Dn a lg t0 (k + 96) μ2 → Sy K noH [] [some (.dat d0), some (.val (.ref a)), o2, some (.dat (trD l)), some (.dat (wideD z)), o5, o6, o7, o8, o9, o10, o11, o12, o13, o14, o15, o16, o17, o18, o19, o20] (μ2 ++ [Tq TP]) σ' H' → tB (XL P w K mg base c A outer s H0 E) (loopB.drop 3) D' σ' H') :
    tB (XL P w K mg base c A outer s H0 E) (loopB.drop 2) D' σ1 H1 := by
  have nd := sc_law.nd
  have Wb := fd_bent (P := P) (w := w) (base := base) T 3
  have h1 := hT.1
  have h8 := hT.2.2.1
  have hne : l.map stD ≠ [] := fun e => hT.ne (List.map_eq_nil_iff.mp e)
  refine sy_forP (B := noH) (M0 := []) (ρ := [some (.dat d0), some (.val (.ref a)), o2, some (.dat (trD l)), some (.dat (wideD z)), o5, o6, o7, o8, o9, o10, o11, o12, o13, o14, o15, o16, o17, o18, o19, o20]) 5 (leW (pe_op op_cat pe_W pe_W) (S1.evN (ds := valL l z) (jn_lst ?ol (by show 7 ≤ 100000; decide)) fun u H2 S2 => ?_)) PassesOwn.never rfl nd
  case ol =>
    have zt : ∀ {k q1 q2 q3}, Jd (XL P w K mg base c A outer s H0 E) (adr [] (μD ++ [Tq TP])) (.Subscript (.Name "trial" q1) (.Constant (.int 1) k q2) q3) σ1 H1 (.tuple (l.map stD)) := jd_ixT (n := 1) (d := .tuple (l.map stD)) (Sy.at (X := (XL P w K mg base c A outer s H0 E)) S1 3) jd_int rfl rfl
    (refine ja_cc ?_ ?_ ?_; exact (Sy.at (X := (XL P w K mg base c A outer s H0 E)) S1 3); rotate_left; rfl)
    (refine ja_cc ?_ ?_ ?_; exact (jd_lstOf T.n_list (Sy.at (X := (XL P w K mg base c A outer s H0 E)) S1 3) (.inr rfl)); rotate_left; rfl)
    (refine ja_cc ?_ ?_ ?_; exact zt; rotate_left; rfl)
    (refine ja_cc ?_ ?_ ?_; exact (jd_cat (Sy.at (X := (XL P w K mg base c A outer s H0 E)) S1 3) (jd_tup (ja_cc (jd_tup ja_nil) ja_nil)) (by show 3 ≤ 90000; decide)); rotate_left; rfl)
    (refine ja_cc ?_ ?_ ?_; exact (jd_tup (ja_cc jd_str (ja_cc (jd_tup ja_nil) ja_nil))); rotate_left; rfl)
    (refine ja_cc ?_ ?_ ?_; exact (jd_tup (ja_cc jd_str (ja_cc (jd_reps (m := 9) zt jd_int (by decide) (by decide) hne (by rw [List.length_map]; omega)) ja_nil))); rotate_left; rfl)
    (refine ja_cc ?_ ?_ ?_; exact (Sy.at (X := (XL P w K mg base c A outer s H0 E)) S1 4); rotate_left; rfl)
    exact ja_nil
  have hvl : (valL l z).length = 7 := rfl
  have hvo := val_ok hT z0 z2
  generalize valL l z = vl at *
  have S3 := S2.perm (μ' := μD ++ [Tq TP, (u, Mo.lst (vl.map .dat))]) (by
    have e : μD ++ [Tq TP, (u, Mo.lst (vl.map .dat))] = (μD ++ [Tq TP]) ++ [(u, Mo.lst (vl.map .dat))] := by simp
    rw [e]
    exact List.perm_append_comm (l₁ := μD ++ [Tq TP]) (l₂ := [_]))
  refine tW_lc (own := [("lap", 17)]) (lcE_tree S3 (jw_rng1 (n := 6) T.n_range jd_int (by omega)) (fun d ρ => ρ.set 17 (some (.dat d))) (js := [17]) (by simp)
    (fun i acc μ' => ∃ μx, Dn a lg t0 (k + 16 * i) μx ∧ i ≤ 6 ∧ acc.length = i ∧ (∀ x ∈ acc, okV x = true) ∧ μ' = μx ++ [Tq TP, (u, Mo.lst (vl.map .dat))]) ⟨μD, hD, by decide, rfl, by simp, rfl⟩ ?_ ?_ ?_ ?_) (blkOk_by (by rfl)) rfl nd
  · rintro i acc μ' ⟨μx, _, h2, h3, _⟩
    omega
  · rintro _ d ⟨s, H, C, cl, fp, rfl⟩ _
    exact jg_name 17 nd
  · rintro i d acc μ' _ B' M' σ' H' Q hd ⟨μx, hDx, h2, h3, h4, rfl⟩ ⟨s, H, C, cl, fp, rfl⟩ S4 hQ
    have hi : i < 6 := (rgD_get hd).1
    refine jm_call (μ1 := μx) (μ2 := [Tq TP, (u, Mo.lst (vl.map .dat))]) S4 Wb (hr.mono (by decide)) (jsa_cons (S4.atV 1).js (jsa_cons (S4.at 3).js jsa_nil)) rfl ⟨a, lg, trD l, rfl, tr_trD hT hS, hDx.rdy (by omega)⟩ fun v s2 μ2 H3 hR S5 hv => ?_
    obtain ⟨y, oky, rfl, st⟩ := hR
    refine hQ v y _ H3 ⟨μ2, (st.use hDx).mono (by omega), by omega, by simp; omega, fun x hx => ?_, rfl⟩ S5 hv
    rcases List.mem_append.mp hx with hx | hx
    · exact h4 x hx
    · rw [List.mem_singleton.mp hx]; exact oky
  · rintro a2 acc μ' H3 ⟨μx, hDx, h2, h3, h4, rfl⟩ S4
    refine cat_own S4 (i := μx.length + 2) (j := 0) (u := u) (v := a2) (ss := vl.map .dat) (ts := acc.map .dat) (by simp) rfl (by rw [List.length_map, List.length_map, h3, hvl]; show 7 + _ ≤ 90000; omega) fun p H4 S5 => ?_
    have S6 := Sy.dropAt (μa := [_]) S5
    have S7 := Sy.dropAt (μa := (p, Mo.lst (vl.map Sv.dat ++ acc.map Sv.dat)) :: (μx ++ [Tq TP])) (μb := []) (a := u) (m := Mo.lst (vl.map .dat)) (by simpa using S6)
    rw [List.append_nil] at S7
    refine ⟨p, _, _, rfl, S7, fun i ρ' μ' => μ' = μx ++ [Tq TP] ∧ ∃ o5 o11, ρ' = [some (.dat d0), some (.val (.ref a)), o2, some (.dat (trD l)), some (.dat (wideD z)), o5, o6, o7, o8, o9, o10, o11, o12, o13, o14, o15, o16, o17, o18, o19, o20], ⟨rfl, _, _, rfl⟩, ?_, ?_⟩
    · rintro m i sv ρ' μ' σ' H' hm hs ⟨rfl, o5, o11, rfl⟩ Sf
      obtain ⟨d, rfl, hd⟩ : ∃ d, sv = .dat d ∧ okV d = true := by
        rcases List.mem_append.mp (List.mem_of_getElem? hs) with hx | hx
        · obtain ⟨d, hd, rfl⟩ := List.mem_map.mp hx
          exact ⟨d, rfl, hvo d hd⟩
        · obtain ⟨d, hd, rfl⟩ := List.mem_map.mp hx
          exact ⟨d, rfl, h4 d hd⟩
      have Sf : Sy K noH [] [some (.dat d0), some (.val (.ref a)), o2, some (.dat (trD l)), some (.dat (wideD z)), some (.dat d), o6, o7, o8, o9, o10, o11, o12, o13, o14, o15, o16, o17, o18, o19, o20] ((p, m) :: (μx ++ [Tq TP])) σ' H' := Sf
      have pq : ((p, m) :: (μx ++ [Tq TP])).Perm (Tq TP :: (p, m) :: μx) := (List.perm_append_comm (l₁ := (p, m) :: μx) (l₂ := [Tq TP]))
      exact law_one T TB hr (cons_noTab hm (dn_noTab hDx)) hd _ rfl (Sf.perm pq.symm) fun o11 σ' H' S' => ⟨_, _, ⟨rfl, _, _, rfl⟩, S'.perm pq⟩
    · rintro ρ' μ' σ' H' ⟨rfl, o5, o11, rfl⟩ S8
      exact fin _ _ _ _ _ (hDx.mono (by rw [rgD_len]; exact Nat.add_le_add_left (by decide) _)) S8
end K58

set_option maxHeartbeats 4000000
namespace K58
open PySem PySem.Spec PyProof.Rows L2 J Evl LamX NdefX
variable {P : Program} {w : World} {K : PySem.W.Frag} {mg : Str → Option Value} {base : Heap}
theorem lay_two {n : Nat} {x y : D} (h1 : Lay n x) (h2 : Lay n y) : Lay (n + 1) (.tuple [x, y]) := lay_tup.mpr fun z hz => by
  simp only [List.mem_cons, List.not_mem_nil, or_false] at hz
  rcases hz with rfl | rfl
  · exact h1
  · exact h2
theorem szs_le58 {α : Type} {f : α → D} {b : Nat} : ∀ {l : List α}, (∀ x ∈ l, sz (f x) ≤ b) → szs (l.map f) ≤ b * l.length
  | [], _ => by simp [szs]
  | x :: l, h => by
    have ih := szs_le58 (l := l) fun y hy => h y (List.mem_cons_of_mem _ hy)
    have hx := h x List.mem_cons_self
    show sz (f x) + szs (l.map f) ≤ b * (l.length + 1)
    rw [Nat.mul_add]; omega
theorem lay_pp (p q : Rat) : Lay 6 (.tuple [dR p, dR q]) := lay_two lay_dR lay_dR
theorem sz_pp58 (p q : Rat) : sz (.tuple [dR p, dR q]) = 7 := by
  show sz (dR p) + (sz (dR q) + 0) + 1 = 7
  rw [sz_dR, sz_dR]
def dueD (l : List St) : D := .list [ratesD l, shD l, whD l, .int (tellS l), .int (wholeS l), .bool (revS l)]
theorem lay_shK (k : Nat) (l : List St) : Lay 7 (shK k l) := lay_tup.mpr fun x hx => by
  obtain ⟨s, _, rfl⟩ := List.mem_map.mp hx
  exact lay_dR.mono (by decide)
theorem lay_due (l : List St) : Lay 60 (dueD l) := (lay_lst (n := 59)).mpr fun x hx => by
  simp only [List.mem_cons, List.not_mem_nil, or_false] at hx
  rcases hx with rfl | rfl | rfl | rfl | rfl | rfl
  · exact Lay.mono (n := 7) (lay_tup.mpr fun x hx => by
      obtain ⟨s, _, rfl⟩ := List.mem_map.mp hx
      exact lay_pp _ _) (by decide)
  · exact Lay.mono (n := 8) (lay_two (lay_shK 1 l) (lay_shK 3 l)) (by decide)
  · exact (lay_pp _ _).mono (by decide)
  · exact lay_int
  · exact lay_int
  · exact lay_bl
theorem sz_due {l : List St} (h8 : l.length ≤ 8) : sz (dueD l) ≤ 80000 := by
  have h1 := szs_le58 (f := rtS) (b := 7) (l := l) fun x _ => Nat.le_of_eq (sz_pp58 _ _)
  have h2 := szs_le58 (f := fun s => dR ((nS 1 s : Rat) / (nT 1 l : Rat))) (b := 3) (l := l) fun x _ => Nat.le_of_eq (sz_dR _)
  have h3 := szs_le58 (f := fun s => dR ((nS 3 s : Rat) / (nT 3 l : Rat))) (b := 3) (l := l) fun x _ => Nat.le_of_eq (sz_dR _)
  have h4 := sz_pp58 (qS (cS 1 l) (cS 2 l)) (qS (cS 3 l) (cS 4 l))
  show (szs (l.map rtS) + 1) + ((((szs (l.map fun s => dR ((nS 1 s : Rat) / (nT 1 l : Rat))) + 1) + ((szs (l.map fun s => dR ((nS 3 s : Rat) / (nT 3 l : Rat))) + 1) + 0)) + 1) + (sz (whD l) + (1 + (1 + (1 + 0))))) + 1 ≤ 80000
  have h5 : sz (whD l) = 7 := h4
  omega
theorem law_r (T : Tx K mg) {c : Addr} {A : Around} {outer : List Env} {s : Shared} {H0 : Hp} {E : XK} (hr : Room 12 (XL P w K mg base c A outer s H0 E).A) {a : Addr} {μ1 : Mu} {l : List St} (hT : TrOk l) {d0 : D} {o2 o4 o5 o6 o7 o8 o9 o10 o11 o12 o13 o14 o15 o16 o17 o18 o19 o20 : Option Sv} {σ1 : L2.St} {H1 : Hp} {D' : Ends}
    (S1 : Sy K noH [] [some (.dat d0), some (.val (.ref a)), o2, some (.dat (trD l)), o4, o5, o6, o7, o8, o9, o10, o11, o12, o13, o14, o15, o16, o17, o18, o19, o20] μ1 σ1 H1)
    (fin : ∀ o6 o7 o13 σ' H', Sy K noH [] [some (.dat d0), some (.val (.ref a)), o2, some (.dat (trD l)), o4, o5, o6, o7, o8, o9, o10, o11, some (.dat (.list (l.map rtS))), o13, some (.dat (.int (tellS l))), o15, o16, o17, o18, o19, o20] μ1 σ' H' → tB (XL P w K mg base c A outer s H0 E) (loopB.drop 8) D' σ' H') :
    tB (XL P w K mg base c A outer s H0 E) (loopB.drop 3) D' σ1 H1 := by
  have nd := sc_law.nd
  have hu := hr.units
  have Wr := fd_law_sr_rates (P := P) (w := w) (base := base) T
  have Wh := fd_law_sr_whole (P := P) (w := w) (base := base) T
  have Wt := fd_law_sr_tell (P := P) (w := w) (base := base) T
  have Wg := fd_law_sr_sign (P := P) (w := w) (base := base) T
  have Ws := fd_law_sr_shares (P := P) (w := w) (base := base) T
  have Wsame := fd_law_same (P := P) (w := w) (base := base) T
  obtain ⟨f1, ok1, F1, m1⟩ := ok_arm_rates (P := P) (w := w) (base := base) T
  have W1 := fd_mk F1 m1 ok1 (fun _ _ _ _ _ _ us hl => match us, hl with | [_], _ => rfl)
  have kb1 : KBn K f1 ["trial"] 0 ["trial"] (fun us ws => us ++ ws) (fun vs zs => vs ++ zs) := kbn_of F1 fun _ _ _ _ _ _ us ws h1 h2 => match us, ws, h1, h2 with | [], [_], _, _ => rfl
  obtain ⟨f2, ok2, F2, m2⟩ := ok_arm_shares (P := P) (w := w) (base := base) T
  have W2 := fd_mk F2 m2 ok2 (fun _ _ _ _ _ _ us hl => match us, hl with | [_], _ => rfl)
  have kb2 : KBn K f2 ["trial"] 0 ["trial"] (fun us ws => us ++ ws) (fun vs zs => vs ++ zs) := kbn_of F2 fun _ _ _ _ _ _ us ws h1 h2 => match us, ws, h1, h2 with | [], [_], _, _ => rfl
  obtain ⟨f3, ok3, F3, m3⟩ := ok_whole_rates (P := P) (w := w) (base := base) T
  have W3 := fd_mk F3 m3 ok3 (fun _ _ _ _ _ _ us hl => match us, hl with | [_], _ => rfl)
  have kb3 : KBn K f3 ["trial"] 0 ["trial"] (fun us ws => us ++ ws) (fun vs zs => vs ++ zs) := kbn_of F3 fun _ _ _ _ _ _ us ws h1 h2 => match us, ws, h1, h2 with | [], [_], _, _ => rfl
  obtain ⟨f4, ok4, F4, m4⟩ := ok_strata_tell (P := P) (w := w) (base := base) T
  have W4 := fd_mk F4 m4 ok4 (fun _ _ _ _ _ _ us hl => match us, hl with | [_], _ => rfl)
  have kb4 : KBn K f4 ["trial"] 0 ["trial"] (fun us ws => us ++ ws) (fun vs zs => vs ++ zs) := kbn_of F4 fun _ _ _ _ _ _ us ws h1 h2 => match us, ws, h1, h2 with | [], [_], _, _ => rfl
  obtain ⟨f5, ok5, F5, m5⟩ := ok_whole_tells (P := P) (w := w) (base := base) T
  have W5 := fd_mk F5 m5 ok5 (fun _ _ _ _ _ _ us hl => match us, hl with | [_], _ => rfl)
  have kb5 : KBn K f5 ["trial"] 0 ["trial"] (fun us ws => us ++ ws) (fun vs zs => vs ++ zs) := kbn_of F5 fun _ _ _ _ _ _ us ws h1 h2 => match us, ws, h1, h2 with | [], [_], _, _ => rfl
  obtain ⟨f6, ok6, F6, m6⟩ := ok_is_reversed (P := P) (w := w) (base := base) T
  have W6 := fd_mk F6 m6 ok6 (fun _ _ _ _ _ _ us hl => match us, hl with | [_], _ => rfl)
  have kb6 : KBn K f6 ["trial"] 0 ["trial"] (fun us ws => us ++ ws) (fun vs zs => vs ++ zs) := kbn_of F6 fun _ _ _ _ _ _ us ws h1 h2 => match us, ws, h1, h2 with | [], [_], _, _ => rfl
  have h := hT.2.2
  have h8 := h.1
  have hne := hT.ne
  have hb := bz_wh h hne
  have htr : ∀ {X : Cx} {M : List Addr} {e : Expr} {σ : L2.St} {H : Hp} {p pos : Pos} {j : Nat}, Jd X M e σ H (trD l) → Jd X M (.Subscript e (.Constant (.int 1) j p) pos) σ H (ssD true l) := fun q => jd_ixT (n := 1) (d := .tuple (l.map stD)) q jd_int rfl rfl
  refine sy_par3E 12 13 14 (tA_cc (S1.sx.ev (Jd.js (jd_call Wr (hr.mono (by decide)) (ja_cons (htr (S1.at 3)) ja_nil) rfl ⟨true, l, rfl, h, rfl⟩)) fun v1 H2 S2 => tA_cc (S2.ev (Jd.js (jd_call Wh (hr.mono (by decide)) (ja_cons (htr (S2.base.at 3)) ja_nil) rfl ⟨true, l, rfl, h, hne, rfl⟩)) fun v2 H3 S3 => tA_cc (S3.ev (Jd.js (jd_call Wt (hr.mono (by decide)) (ja_cons (htr (S3.base.at 3)) ja_nil) rfl ⟨true, l, rfl, h, hne, rfl⟩)) fun v3 H4 S4 => tA_nil ⟨v1, v2, v3, rfl, ?_⟩)))) rfl nd (by decide) (by decide) (by decide) (by kernel_rfl) (hs := by kernel_rfl)
  have q3 := S4.lastD
  have q2 := (S4.take (ts := [] ++ [.dat (.list (l.map rtS))] ++ [.dat (whD l)]) (vs := [] ++ [v1] ++ [v2]) rfl).lastD
  have q1 := (S4.take (ts := [] ++ [.dat (.list (l.map rtS))]) (vs := [] ++ [v1]) rfl).lastD
  have S5 := ((S4.base.set 12 (s := .dat (.list (l.map rtS))) (v := v1) q1).set 13 (s := .dat (whD l)) (v := v2) q2).set 14 (s := .dat (.int (tellS l))) (v := v3) q3
  have S5 : Sy K noH [] [some (.dat d0), some (.val (.ref a)), o2, some (.dat (trD l)), o4, o5, o6, o7, o8, o9, o10, o11, some (.dat (.list (l.map rtS))), some (.dat (whD l)), some (.dat (.int (tellS l))), o15, o16, o17, o18, o19, o20] μ1 _ H4 := S5
  refine sy_set 6 S5 (d := .int (wholeS l)) (jd_call Wg (hr.mono (by decide)) (ja_cons (jd_ixT (n := 0) (d := dR (qS (cS 1 l) (cS 2 l))) (S5.at 13) jd_int rfl rfl) (ja_cons (jd_ixT (n := 1) (d := dR (qS (cS 3 l) (cS 4 l))) (S5.at 13) jd_int rfl rfl) ja_nil)) rfl ⟨_, _, rfl, hb.1.mono (by decide), hb.2.mono (by decide), rfl⟩) (fun σ6 H6 S6 => ?_) nd
  have S6 : Sy K noH [] [some (.dat d0), some (.val (.ref a)), o2, some (.dat (trD l)), o4, o5, some (.dat (.int (wholeS l))), o7, o8, o9, o10, o11, some (.dat (.list (l.map rtS))), some (.dat (whD l)), some (.dat (.int (tellS l))), o15, o16, o17, o18, o19, o20] μ1 σ6 H6 := S6
  refine sy_set 7 S6 (d := dueD l) (jd_lst (ja_cons (Jd.is (d' := ratesD l) (jd_tupOf T.n_tuple (S6.at 12)) rfl) (ja_cons (jd_call Ws (hr.mono (by decide)) (ja_cons (htr (S6.at 3)) ja_nil) rfl ⟨true, l, rfl, h, hne, rfl⟩) (ja_cons (S6.at 13) (ja_cons (S6.at 14) (ja_cons (S6.at 6) (ja_cons (jd_and (k := !decide (tellS l = 0)) (d := .bool (revS l)) (jd_neI (S6.at 14) jd_int) (fun e => by show PyData.bool (!decide (tellS l = 0) && _) = _; rw [e]; rfl) (fun e => Jd.is (jd_eqI (S6.at 6) (jd_sub jd_int (S6.at 14))) (by show _ = PyData.bool (!decide (tellS l = 0) && _); rw [e, Int.zero_sub]; rfl))) ja_nil))))))) (fun σ7 H7 S7 => ?_) nd
  have S7 : Sy K noH [] [some (.dat d0), some (.val (.ref a)), o2, some (.dat (trD l)), o4, o5, some (.dat (.int (wholeS l))), some (.dat (dueD l)), o8, o9, o10, o11, some (.dat (.list (l.map rtS))), some (.dat (whD l)), some (.dat (.int (tellS l))), o15, o16, o17, o18, o19, o20] μ1 σ7 H7 := S7
  refine sy_when (b := !true) S7 (jt_not (jt_val (jd_call Wsame (hr.mono (by decide)) (ja_cons (jd_lst (ja_cons (jd_callX W1 (hr.mono (by decide)) (ja_cons (S7.at 3) ja_nil) rfl ⟨l, rfl, hT, rfl⟩) (ja_cons (jd_callX W2 (hr.mono (by decide)) (ja_cons (S7.at 3) ja_nil) rfl ⟨l, rfl, hT, rfl⟩) (ja_cons (jd_callX W3 (hr.mono (by decide)) (ja_cons (S7.at 3) ja_nil) rfl ⟨l, rfl, hT, rfl⟩) (ja_cons (jd_callX W4 (hr.mono (by decide)) (ja_cons (S7.at 3) ja_nil) rfl ⟨l, rfl, hT, rfl⟩) (ja_cons (jd_callX W5 (hr.mono (by decide)) (ja_cons (S7.at 3) ja_nil) rfl ⟨l, rfl, hT, rfl⟩) (ja_cons (jd_callX W6 (hr.mono (by decide)) (ja_cons (S7.at 3) ja_nil) rfl ⟨l, rfl, hT, rfl⟩) ja_nil))))))) (ja_cons (S7.at 7) ja_nil)) rfl ⟨dueD l, rfl, lay_due l, sz_due h8, rfl⟩))) (fun q => by cases q) fun _ H8 S8 => ?_
  refine sy_when (b := !true) S8 (jt_not (jt_val (jd_call Wsame (hr.mono (by decide)) (ja_cons (jd_lst (ja_cons (jd_callXK ok1 m1 F1.kp kb1 (hr.mono (by decide)) (S8.at 3) ⟨l, rfl, hT, rfl⟩) (ja_cons (jd_callXK ok2 m2 F2.kp kb2 (hr.mono (by decide)) (S8.at 3) ⟨l, rfl, hT, rfl⟩) (ja_cons (jd_callXK ok3 m3 F3.kp kb3 (hr.mono (by decide)) (S8.at 3) ⟨l, rfl, hT, rfl⟩) (ja_cons (jd_callXK ok4 m4 F4.kp kb4 (hr.mono (by decide)) (S8.at 3) ⟨l, rfl, hT, rfl⟩) (ja_cons (jd_callXK ok5 m5 F5.kp kb5 (hr.mono (by decide)) (S8.at 3) ⟨l, rfl, hT, rfl⟩) (ja_cons (jd_callXK ok6 m6 F6.kp kb6 (hr.mono (by decide)) (S8.at 3) ⟨l, rfl, hT, rfl⟩) ja_nil))))))) (ja_cons (S8.at 7) ja_nil)) rfl ⟨dueD l, rfl, lay_due l, sz_due h8, rfl⟩))) (fun q => by cases q) fun _ H9 S9 => ?_
  exact fin _ _ _ _ _ S9
end K58

set_option maxHeartbeats 4000000
namespace K58
open PySem PySem.Spec PyProof.Rows L2 J Evl LamX NdefX
variable {P : Program} {w : World} {K : PySem.W.Frag} {mg : Str → Option Value} {base : Heap}
/-! ### standardised never tells the contrary -/
theorem dot_cons (r x : Rat) (rs xs : List Rat) : dotR (r :: rs) (x :: xs) = r * x + dotR rs xs := by
  unfold dotR prods
  rw [List.zip_cons_cons, List.map_cons, List.sum_cons]
theorem dot_lt (fa fb : St → Rat) : ∀ (rs : List Rat) (l : List St), rs.length = l.length → (∀ x ∈ rs, 0 ≤ x) → (∀ s ∈ l, fb s < fa s) → dotR rs (l.map fb) ≤ dotR rs (l.map fa) ∧ (0 < rs.sum → dotR rs (l.map fb) < dotR rs (l.map fa))
  | [], [], _, _, _ => ⟨Rat.le_refl, fun h => by simp at h⟩
  | [], _ :: _, h, _, _ => by simp at h
  | _ :: _, [], h, _, _ => by simp at h
  | r :: rs, s :: l, hl, h0, hlt => by
    obtain ⟨i1, i2⟩ := dot_lt fa fb rs l (by simpa using hl) (fun x hx => h0 x (List.mem_cons_of_mem _ hx)) fun x hx => hlt x (List.mem_cons_of_mem _ hx)
    have hr := h0 r List.mem_cons_self
    have hs := hlt s List.mem_cons_self
    rw [List.map_cons, List.map_cons, dot_cons, dot_cons, List.sum_cons]
    have m := Rat.mul_le_mul_of_nonneg_left (Rat.le_of_lt hs) hr
    refine ⟨by grind, fun hp => ?_⟩
    by_cases hr0 : 0 < r
    · have m2 : r * fb s < r * fa s := Rat.mul_lt_mul_of_pos_left hs hr0
      grind
    · have e : r = 0 := by grind
      have := i2 (by grind)
      grind
theorem tell_std {l : List St} {rs : List Rat} (hG : GoodSh l.length rs) (h : tellS l ≠ 0) : sgR (stdR l rs).1 (stdR l rs).2 = tellS l := by
  cases l with
  | nil => exact absurd rfl h
  | cons s r =>
    have hall : r.all (fun x => decide (sgS x = sgS s)) = true := Classical.byContradiction fun q => h (by show (if _ then _ else _) = _; rw [if_neg q])
    have e : tellS (s :: r) = sgS s := by show (if _ then _ else _) = _; rw [if_pos hall]
    have hs : ∀ x ∈ s :: r, sgS x = sgS s := fun x hx => by
      rcases List.mem_cons.mp hx with rfl | hx
      · rfl
      · exact of_decide_eq_true (List.all_eq_true.mp hall x hx)
    rw [e] at h ⊢
    have p1 : (0 : Rat) < rs.sum := by rw [hG.2.2]; decide
    have h0 : ∀ x ∈ rs, (0 : Rat) ≤ x := fun x hx => (hG.2.1 x hx).1
    by_cases c1 : rb s < ra s
    · have v : sgS s = 1 := by show sgR _ _ = 1; unfold sgR; rw [if_pos c1]
      have hlt : ∀ x ∈ s :: r, rb x < ra x := fun x hx => Classical.byContradiction fun q => by
        have := (hs x hx).trans v
        change sgR (ra x) (rb x) = 1 at this
        unfold sgR at this
        rw [if_neg q] at this
        split at this <;> cases this
      have this : (stdR (s :: r) rs).2 < (stdR (s :: r) rs).1 := (dot_lt ra rb rs (s :: r) hG.1 h0 hlt).2 p1
      rw [v]
      show (if (stdR (s :: r) rs).2 < (stdR (s :: r) rs).1 then (1 : Int) else _) = 1
      rw [if_pos this]
    · by_cases c2 : ra s < rb s
      · have v : sgS s = -1 := by show sgR _ _ = -1; unfold sgR; rw [if_neg c1, if_pos c2]
        have hlt : ∀ x ∈ s :: r, ra x < rb x := fun x hx => Classical.byContradiction fun q => by
          have := (hs x hx).trans v
          change sgR (ra x) (rb x) = -1 at this
          unfold sgR at this
          split at this
          all_goals first | (cases this; done) | (rw [if_neg q] at this; cases this)
        have this : (stdR (s :: r) rs).1 < (stdR (s :: r) rs).2 := (dot_lt rb ra rs (s :: r) hG.1 h0 hlt).2 p1
        rw [v]
        have n : ¬ (stdR (s :: r) rs).2 < (stdR (s :: r) rs).1 := fun q => by
          have a1 : (stdR (s :: r) rs).1 < (stdR (s :: r) rs).2 := this
          grind
        show (if (stdR (s :: r) rs).2 < (stdR (s :: r) rs).1 then (1 : Int) else if (stdR (s :: r) rs).1 < (stdR (s :: r) rs).2 then -1 else 0) = -1
        rw [if_neg n, if_pos this]
      · have v : sgS s = 0 := by show sgR _ _ = 0; unfold sgR; rw [if_neg c1, if_neg c2]
        exact absurd v h
theorem bz_dot {ss rs : List Rat} (h : DotOk ss rs) : Bz 4000 (dotR ss rs) := by
  have := h.2.2.1.2 (prods ss rs).length
  rwa [List.take_length] at this
theorem lay_pps (p q : Rat) : Lay 60 (.list [.tuple [dR p, dR q], .tuple [dR p, dR q]]) := (lay_lst (n := 59)).mpr fun x hx => by
  simp only [List.mem_cons, List.not_mem_nil, or_false, or_self] at hx
  rw [hx]
  exact (lay_pp p q).mono (by decide)
theorem sz_pps (p q : Rat) : sz (.list [.tuple [dR p, dR q], .tuple [dR p, dR q]]) ≤ 80000 := by
  have := sz_pp58 p q
  show sz (.tuple [dR p, dR q]) + (sz (.tuple [dR p, dR q]) + 0) + 1 ≤ 80000
  omega
theorem law_s (T : Tx K mg) {c TP : Addr} {A : Around} {outer : List Env} {s : Shared} {H0 : Hp} {E : XK} (hr : Room 12 (XL P w K mg base c A outer s H0 E).A) {a lg : Addr} {t0 k : Nat} {μD : Mu} (hD : Dn a lg t0 k μD) (hcap : t0 + k + 100 ≤ capT) {l : List St} (hT : TrOk l) {d0 : D} {o2 o4 o5 o6 o7 o8 o9 o10 o11 o13 o15 o16 o17 o18 o19 o20 : Option Sv} {σ1 : L2.St} {H1 : Hp} {D' : Ends}
    (S1 : Sy K noH [] [some (.dat d0), some (.val (.ref a)), o2, some (.dat (trD l)), o4, o5, o6, o7, o8, o9, o10, o11, some (.dat (.list (l.map rtS))), o13, some (.dat (.int (tellS l))), o15, o16, o17, o18, o19, o20] (μD ++ [Tq TP]) σ1 H1)
    (fin : ∀ μ2 (rs : List Rat) o9 σ' H', Dn a lg t0 (k + 24) μ2 → GoodSh l.length rs → Sy K noH [] [some (.dat d0), some (.val (.ref a)), o2, some (.dat (trD l)), o4, o5, o6, o7, some (.dat (seqD true (rs.map dR))), o9, o10, o11, some (.dat (.list (l.map rtS))), o13, some (.dat (.int (tellS l))), o15, o16, o17, o18, o19, o20] (μ2 ++ [Tq TP]) σ' H' → tB (XL P w K mg base c A outer s H0 E) (loopB.drop 11) D' σ' H') :
    tB (XL P w K mg base c A outer s H0 E) (loopB.drop 8) D' σ1 H1 := by
  have nd := sc_law.nd
  have hu := hr.units
  have Wsh := fd_law_shares (P := P) (w := w) (base := base) T
  have Wdt := fd_law_sr_dot (P := P) (w := w) (base := base) T
  have Wg := fd_law_sr_sign (P := P) (w := w) (base := base) T
  have Wsame := fd_law_same (P := P) (w := w) (base := base) T
  obtain ⟨f1, ok1, F1, m1⟩ := ok_standardised (P := P) (w := w) (base := base) T
  have W1 := fd_mk F1 m1 ok1 (fun _ _ _ _ _ _ us hl => match us, hl with | [_, _], _ => rfl)
  have kb1 : KBn K f1 ["trial", "shares"] 0 ["shares", "trial"] (fun us ws => us ++ ws.reverse) (fun vs zs => vs ++ zs.reverse) := kbn_rev F1 fun _ _ _ _ _ _ ws h => match ws, h with | [_, _], _ => rfl
  have h := hT.2.2
  have h1 := hT.1
  have h8 := h.1
  refine sy_setE 8 (jm_call (μ1 := μD) (μ2 := [Tq TP]) S1 Wsh (hr.mono (by decide)) (jsa_cons (S1.atV 1).js (jsa_cons (jd_len T.n_len (S1.at 12) (.inr rfl)).js jsa_nil)) rfl ⟨a, lg, (l.map rtS).length, rfl, by rw [List.length_map]; omega, by rw [List.length_map]; omega, hD.rdy (by omega)⟩ fun v s' μ2 H2 hR S2 hv => ?_) nd
  obtain ⟨_, m', rs, e1, hG, rfl, adv⟩ := hR
  simp only [List.cons.injEq, Sv.dat.injEq, PyData.int.injEq, and_true] at e1
  have em : m' = l.length := by
    have := e1.2
    rw [List.length_map] at this
    omega
  subst em
  have hD2 := adv.use hD
  have S2 := S2.set 8 (s := .dat (seqD true (rs.map dR))) (v := v) hv
  have S2 : Sy K noH [] [some (.dat d0), some (.val (.ref a)), o2, some (.dat (trD l)), o4, o5, o6, o7, some (.dat (seqD true (rs.map dR))), o9, o10, o11, some (.dat (.list (l.map rtS))), o13, some (.dat (.int (tellS l))), o15, o16, o17, o18, o19, o20] (μ2 ++ [Tq TP]) _ H2 := S2
  have hs7 : ∀ x ∈ rs, Bz 7 x := fun x hx => (hG.2.1 x hx).2.2
  have hr8 : rs.length ≤ 8 := by rw [hG.1]; exact h8
  have da : DotOk rs (l.map ra) := dot_ok hs7 (fun x hx => by obtain ⟨s, hs, rfl⟩ := List.mem_map.mp hx; exact (bz_st (h.2 s hs)).1) hr8
  have db : DotOk rs (l.map rb) := dot_ok hs7 (fun x hx => by obtain ⟨s, hs, rfl⟩ := List.mem_map.mp hx; exact (bz_st (h.2 s hs)).2) hr8
  refine sy_set 9 S2 (d := stdD' l rs) (jd_tup (ja_cons (jd_call Wdt (hr.mono (by decide)) (ja_cons (S2.at 8) (ja_cons (Jd.is (Jn.jd (sy_lcM (α := St) (g := rtS) (xs := l) S2 (jw_lst (S2.at 12)) (fun s => dR (ra s)) (by omega) (fun d ρ => match d with | .tuple [x, y] => (ρ.set 19 (some (.dat x))).set 20 (some (.dat y)) | _ => ρ) (js := [19, 20]) (own := [("one", 19), ("other", 20)]) (by simp) ?c1 ?c2 (blkOk_by (by rfl)) rfl nd)) (show _ = seqD false ((l.map ra).map dR) by rw [List.map_map]; rfl)) ja_nil)) rfl ⟨false, true, _, _, rfl, da, rfl⟩) (ja_cons (jd_call Wdt (hr.mono (by decide)) (ja_cons (S2.at 8) (ja_cons (Jd.is (Jn.jd (sy_lcM (α := St) (g := rtS) (xs := l) S2 (jw_lst (S2.at 12)) (fun s => dR (rb s)) (by omega) (fun d ρ => match d with | .tuple [x, y] => (ρ.set 19 (some (.dat x))).set 20 (some (.dat y)) | _ => ρ) (js := [19, 20]) (own := [("one", 19), ("other", 20)]) (by simp) ?d1 ?d2 (blkOk_by (by rfl)) rfl nd)) (show _ = seqD false ((l.map rb).map dR) by rw [List.map_map]; rfl)) ja_nil)) rfl ⟨false, true, _, _, rfl, db, rfl⟩) ja_nil))) (fun σ3 H3 S3 => ?_) nd
  case c1 =>
    rintro _ d ⟨s, H, C, cl, fp, rfl⟩ _
    exact jg_tup rfl (jgs_cons (jg_name 19 nd) (jgs_cons (jg_name 20 nd) jgs_nil))
  case c2 =>
    rintro j s _ B2 M2 σ2 H2 h1 ⟨s', H, C, cl, fp, rfl⟩ S'
    exact S'.at 19
  case d1 =>
    rintro _ d ⟨s, H, C, cl, fp, rfl⟩ _
    exact jg_tup rfl (jgs_cons (jg_name 19 nd) (jgs_cons (jg_name 20 nd) jgs_nil))
  case d2 =>
    rintro j s _ B2 M2 σ2 H2 h1 ⟨s', H, C, cl, fp, rfl⟩ S'
    exact S'.at 20
  have S3 : Sy K noH [] [some (.dat d0), some (.val (.ref a)), o2, some (.dat (trD l)), o4, o5, o6, o7, some (.dat (seqD true (rs.map dR))), some (.dat (stdD' l rs)), o10, o11, some (.dat (.list (l.map rtS))), o13, some (.dat (.int (tellS l))), o15, o16, o17, o18, o19, o20] (μ2 ++ [Tq TP]) σ3 H3 := S3
  refine sy_when (b := !true || (!decide (tellS l = 0) && !decide (sgR (stdR l rs).1 (stdR l rs).2 = tellS l))) S3 (jt_or (jt_not (jt_val (jd_call Wsame (hr.mono (by decide)) (ja_cons (jd_lst (ja_cons (jd_callX W1 (hr.mono (by decide)) (ja_cons (S3.at 3) (ja_cons (S3.at 8) ja_nil)) rfl ⟨l, true, rs, rfl, hT, hG, rfl⟩) (ja_cons (jd_callXK2 ok1 m1 F1.kp kb1 (hr.mono (by decide)) (jd_lstOf T.n_list (S3.at 8) (.inr rfl)) (S3.at 3) ⟨l, false, rs, rfl, hT, hG, rfl⟩) ja_nil))) (ja_cons (jd_lst (ja_cons (S3.at 9) (ja_cons (S3.at 9) ja_nil))) ja_nil)) rfl ⟨_, rfl, lay_pps _ _, sz_pps _ _, rfl⟩)))
    (fun _ => jt_and (jt_neI (S3.at 14) jd_int) fun _ => jt_neI (jd_call Wg (hr.mono (by decide)) (ja_cons (jd_ixT (n := 0) (d := dR (stdR l rs).1) (S3.at 9) jd_int rfl rfl) (ja_cons (jd_ixT (n := 1) (d := dR (stdR l rs).2) (S3.at 9) jd_int rfl rfl) ja_nil)) rfl ⟨_, _, rfl, bz_dot da, bz_dot db, rfl⟩) (S3.at 14))) (fun q => ?_) fun _ H4 S4 => ?_
  · by_cases ht : tellS l = 0
    · rw [decide_eq_true ht] at q; cases q
    · rw [decide_eq_true (tell_std hG ht), decide_eq_false ht] at q; cases q
  exact fin μ2 rs _ _ _ hD2 hG S4
end K58

set_option maxHeartbeats 4000000
namespace K58
open PySem PySem.Spec PyProof.Rows L2 J Evl LamX NdefX
variable {P : Program} {w : World} {K : PySem.W.Frag} {mg : Str → Option Value} {base : Heap}
/-- what can be asked of a trial, and refuses -/
def AskTr (X : Cx) (P : Program) (w : World) (K : PySem.W.Frag) (mg : Str → Option Value) (base : Heap) (ρf : Option Sv → Ro) (odd : D) (s : Sv) : Prop :=
  (∃ (n : Nat) (f : Addr) (fd : FuncData) (R : List D → D → Prop), n ≤ 8 ∧ s = .val (.ref f) ∧ FnOk P w K mg base (CX P w) n f fd ["trial"] (spX K 1 R (FlT K)) ∧ Binds K fd ["trial"] [] ∧ PySem.W.keepIn K (.ref f) = true) ∨
  ∃ (f : Addr) (F : Addr → NF) (b : Expr) (cl : List (Str × Addr)) (y c : Str) (j : Nat) (bd : D) (Fl : List D → Value → Prop), s = .inv (lamV f F b) ∧ LOk P w K mg base (CX P w) 7 F b [y] [c] (spC K 1 Fl) ∧ (∀ c', (F c').cl = cl) ∧ (X.Ok → Caps X cl [c] [j]) ∧ (∀ o, (ρf o)[j]? = some (some (.dat bd))) ∧ Fl [odd, bd] (.ref (He.ga K "BadTrial"))
theorem law_ask (T : Tx K mg) {c TP : Addr} {A : Around} {outer : List Env} {s : Shared} {H0 : Hp} {E : XK} (TB : TabB base mg c TP) (hr : Room 12 (XL P w K mg base c A outer s H0 E).A) {a : Addr} {μ1 : Mu} (hmu : ∀ p ∈ μ1, noTab p.2) {l : List St} (hT : TrOk l) {odd wrong : D} (ho : okV odd = true) (ho2 : isTr odd = false) (hw : BadSh l.length wrong) {d0 : D} {o2 o4 o5 o6 o7 o8 o9 o10 o11 o12 o13 o14 o17 o18 o19 o20 : Option Sv} {σ1 : L2.St} {H1 : Hp} {D' : Ends}
    (S1 : Sy K noH [] [some (.dat d0), some (.val (.ref a)), o2, some (.dat (trD l)), o4, o5, o6, o7, o8, o9, o10, o11, o12, o13, o14, some (.dat odd), some (.dat wrong), o17, o18, o19, o20] (Tq TP :: μ1) σ1 H1)
    (fin : ∀ o10 σ' H', Sy K noH [] [some (.dat d0), some (.val (.ref a)), o2, some (.dat (trD l)), o4, o5, o6, o7, o8, o9, o10, o11, o12, o13, o14, some (.dat odd), some (.dat wrong), o17, o18, o19, o20] (Tq TP :: μ1) σ' H' → D'.nx σ' H') :
    tB (XL P w K mg base c A outer s H0 E) (loopB.drop 12) D' σ1 H1 := by
  have nd := sc_law.nd
  obtain ⟨fdc, Fc, hmc⟩ := T.f_law_caught
  obtain ⟨f1, ok1, F1, m1⟩ := ok_arm_rates (P := P) (w := w) (base := base) T
  obtain ⟨f2, ok2, F2, m2⟩ := ok_arm_shares (P := P) (w := w) (base := base) T
  obtain ⟨f3, ok3, F3, m3⟩ := ok_whole_rates (P := P) (w := w) (base := base) T
  obtain ⟨f4, ok4, F4, m4⟩ := ok_strata_tell (P := P) (w := w) (base := base) T
  obtain ⟨f5, ok5, F5, m5⟩ := ok_whole_tells (P := P) (w := w) (base := base) T
  obtain ⟨f6, ok6, F6, m6⟩ := ok_is_reversed (P := P) (w := w) (base := base) T
  obtain ⟨f7, ok7, F7, m7⟩ := ok_standardised (P := P) (w := w) (base := base) T
  have W7 := fd_mk F7 m7 ok7 (fun _ _ _ _ _ _ us hl => match us, hl with | [_, _], _ => rfl)
  have S0 := S1.sx
  refine sy_forP (B := noH) (M0 := []) (ρ := [some (.dat d0), some (.val (.ref a)), o2, some (.dat (trD l)), o4, o5, o6, o7, o8, o9, o10, o11, o12, o13, o14, some (.dat odd), some (.dat wrong), o17, o18, o19, o20]) 10 (tW_lst (n := 0) (tA_cc (S0.ev (jv_glob (v := .ref (He.ga K "arm_rates")) m1 rfl).js fun v1 H2 S2 => tA_cc (S2.ev (jv_glob (v := .ref (He.ga K "arm_shares")) m2 rfl).js fun v2 H3 S3 => tA_cc (S3.ev (jv_glob (v := .ref (He.ga K "whole_rates")) m3 rfl).js fun v3 H4 S4 => tA_cc (S4.ev (jv_glob (v := .ref (He.ga K "strata_tell")) m4 rfl).js fun v4 H5 S5 => tA_cc (S5.ev (jv_glob (v := .ref (He.ga K "whole_tells")) m5 rfl).js fun v5 H6 S6 => tA_cc (S6.ev (jv_glob (v := .ref (He.ga K "is_reversed")) m6 rfl).js fun v6 H7 S7 => tA_cc (lm_make (P := TP) S7.1 hmu TB rfl (fre1 (by rfl)) fun lf H8 S8 h8 => ?_)))))))) ) PassesOwn.never rfl nd
  obtain ⟨sv7, ask7, S8b⟩ : ∃ sv, AskTr (XL P w K mg base c A outer s H0 E) P w K mg base (fun o10 => [some (.dat d0), some (.val (.ref a)), o2, some (.dat (trD l)), o4, o5, o6, o7, o8, o9, o10, o11, o12, o13, o14, some (.dat odd), some (.dat wrong), o17, o18, o19, o20]) odd sv ∧ Sx K noH [] [some (.dat d0), some (.val (.ref a)), o2, some (.dat (trD l)), o4, o5, o6, o7, o8, o9, o10, o11, o12, o13, o14, some (.dat odd), some (.dat wrong), o17, o18, o19, o20] (Tq TP :: μ1) σ1 [Sv.val (.ref (He.ga K "arm_rates")), Sv.val (.ref (He.ga K "arm_shares")), Sv.val (.ref (He.ga K "whole_rates")), Sv.val (.ref (He.ga K "strata_tell")), Sv.val (.ref (He.ga K "whole_tells")), Sv.val (.ref (He.ga K "is_reversed")), sv] [v1, v2, v3, v4, v5, v6, .ref lf] H8 := by
    refine ⟨_, ?_, Sx.push (ts := [Sv.val (.ref (He.ga K "arm_rates")), Sv.val (.ref (He.ga K "arm_shares")), Sv.val (.ref (He.ga K "whole_rates")), Sv.val (.ref (He.ga K "strata_tell")), Sv.val (.ref (He.ga K "whole_tells")), Sv.val (.ref (He.ga K "is_reversed"))]) (vs := [v1, v2, v3, v4, v5, v6]) ⟨S8, S7.2⟩ h8⟩
    refine .inr ⟨lf, _, _, _, "one", "wrong", 16, wrong, _, rfl, lok_ask1C W7 (fun _ => nscope_by (by rfl)) (fun _ _ _ us hl => match us, hl with | [_], _ => rfl) (fun _ => rfl) (by decide) (by decide) (by decide) (by decide) (by decide), fun _ => rfl, ?_, fun _ => rfl, .inl ⟨odd, wrong, rfl, ho, ho2, rfl⟩⟩
    intro okX
    exact caps1 (X := XL P w K mg base c A outer s H0 E) (by rfl) rfl okX
  refine tA_nil ⟨by simp, fun ad had => ?_⟩
  have Sl := (Sx.lst (X := XL P w K mg base c A outer s H0 E) (ts := []) (vs := []) (us := [Sv.val (.ref (He.ga K "arm_rates")), Sv.val (.ref (He.ga K "arm_shares")), Sv.val (.ref (He.ga K "whole_rates")), Sv.val (.ref (He.ga K "strata_tell")), Sv.val (.ref (He.ga K "whole_tells")), Sv.val (.ref (He.ga K "is_reversed")), sv7]) (ws := [v1, v2, v3, v4, v5, v6, .ref lf]) S8b rfl had).base
  have hall : ∀ s0 ∈ [Sv.val (.ref (He.ga K "arm_rates")), Sv.val (.ref (He.ga K "arm_shares")), Sv.val (.ref (He.ga K "whole_rates")), Sv.val (.ref (He.ga K "strata_tell")), Sv.val (.ref (He.ga K "whole_tells")), Sv.val (.ref (He.ga K "is_reversed")), sv7], AskTr (XL P w K mg base c A outer s H0 E) P w K mg base (fun o10 => [some (.dat d0), some (.val (.ref a)), o2, some (.dat (trD l)), o4, o5, o6, o7, o8, o9, o10, o11, o12, o13, o14, some (.dat odd), some (.dat wrong), o17, o18, o19, o20]) odd s0 := fun s0 hs => by
    simp only [List.mem_cons, List.not_mem_nil, or_false] at hs
    rcases hs with rfl | rfl | rfl | rfl | rfl | rfl | rfl
    · exact .inl ⟨6, _, f1, _, by decide, rfl, ok1, F1.bindsN fun _ _ _ _ _ _ us hl => match us, hl with | [_], _ => rfl, F1.kp⟩
    · exact .inl ⟨6, _, f2, _, by decide, rfl, ok2, F2.bindsN fun _ _ _ _ _ _ us hl => match us, hl with | [_], _ => rfl, F2.kp⟩
    · exact .inl ⟨6, _, f3, _, by decide, rfl, ok3, F3.bindsN fun _ _ _ _ _ _ us hl => match us, hl with | [_], _ => rfl, F3.kp⟩
    · exact .inl ⟨6, _, f4, _, by decide, rfl, ok4, F4.bindsN fun _ _ _ _ _ _ us hl => match us, hl with | [_], _ => rfl, F4.kp⟩
    · exact .inl ⟨7, _, f5, _, by decide, rfl, ok5, F5.bindsN fun _ _ _ _ _ _ us hl => match us, hl with | [_], _ => rfl, F5.kp⟩
    · exact .inl ⟨8, _, f6, _, by decide, rfl, ok6, F6.bindsN fun _ _ _ _ _ _ us hl => match us, hl with | [_], _ => rfl, F6.kp⟩
    · exact ask7
  refine ⟨ad, _, _, rfl, Sl, fun i ρ' μ' => μ' = Tq TP :: μ1 ∧ ∃ o10, ρ' = [some (.dat d0), some (.val (.ref a)), o2, some (.dat (trD l)), o4, o5, o6, o7, o8, o9, o10, o11, o12, o13, o14, some (.dat odd), some (.dat wrong), o17, o18, o19, o20], ⟨rfl, _, rfl⟩, ?_, ?_⟩
  · rintro m i sv ρ' μ' σ' H' hm hs ⟨rfl, o10, rfl⟩ Sf
    have hask := hall sv (List.mem_of_getElem? hs)
    have S0 : Sy K noH [] [some (.dat d0), some (.val (.ref a)), o2, some (.dat (trD l)), o4, o5, o6, o7, o8, o9, some sv, o11, o12, o13, o14, some (.dat odd), some (.dat wrong), o17, o18, o19, o20] (Tq TP :: (ad, m) :: μ1) σ' H' := Sf.perm (List.Perm.swap _ _ _)
    rcases hask with ⟨n, q, fg, R, hn8, rfl, okg, bg, kg⟩ | ⟨q, F, b, cl, y, cc, j, bd, Fl, rfl, L, hcl, hcap2, hat, hF⟩
    · refine tB_if (tT_not (tT_val (jm_isE (call_isV T.e_BadTrial) T.n_isinstance T.g_BadTrial (jm_caughtP (k := 9) (g := He.ga K "_law_caught") (st := s_law_caught) (μ := (ad, m) :: μ1) (P := TP) S0 (cons_noTab hm hmu) Fc hmc (fun _ _ _ _ _ _ us hl => match us, hl with | [_], _ => rfl) sc_law_caught (.inl rfl) rfl T.g_JudgeError (by decide) rfl rfl (by decide) (by decide) (by decide) (by decide) TB rfl (hr.mono (by decide)) (lamS_by (by rfl))
        (fun cls => cls = .ref (He.ga K "BadTrial")) (fun A' outer' s' H0' f' c' Ha E' hr' Sa hE' => ?_) fun cls v Hb hc he S3 hv => ?_))))
      · obtain ⟨u, hu1, hu2⟩ := Sa.sl 10 _ rfl
        exact jx_callL (X := lamCx (XL P w K mg base c A outer s H0 E) A' outer' s' H0' E' _ f' c') 10 okg bg kg (hr'.mono (by omega)) (takes_of rfl rfl rfl rfl) Sa.all (by rw [hu1, show u = _ from hu2]) (ja_cons (X := lamCx (XL P w K mg base c A outer s H0 E) A' outer' s' H0' E' _ f' c') (Sy.at (X := lamCx (XL P w K mg base c A outer s H0 E) A' outer' s' H0' E' _ f' c') Sa 15) (ja_nil (X := lamCx (XL P w K mg base c A outer s H0 E) A' outer' s' H0' E' _ f' c'))) rfl ⟨odd, rfl, ho, ho2, rfl⟩ (fun H' x3 => hE' _ H' rfl T.j_BadTrial (Sa.ex x3)) (hv := .inr (.inr rfl))
      subst hc
      obtain ⟨b0, rfl, hb0⟩ := hv
      refine ⟨b0, .ref _, .ref _, true, rfl, hid_le _ _ hb0, fun u h => h, T.s_BadTrial, true, rfl, ?_⟩
      show (if (!true) = true then _ else _)
      rw [if_neg (by decide)]
      exact tB_nil (tB_nil ⟨_, _, ⟨rfl, _, rfl⟩, S3.perm (List.Perm.swap _ _ _)⟩)
    · obtain ⟨vb, hvb, hpb⟩ := S0.sl j _ (hat _)
      refine tB_if (tT_not (tT_val (jm_isE (call_isV T.e_BadTrial) T.n_isinstance T.g_BadTrial (jm_caughtC (k := 9) (g := He.ga K "_law_caught") (st := s_law_caught) (μ := (ad, m) :: μ1) (P := TP) S0 (cons_noTab hm hmu) hcap2 (slot1 hvb) Fc hmc (fun _ _ _ _ _ _ us hl => match us, hl with | [_], _ => rfl) sc_law_caught (.inl rfl) rfl T.g_JudgeError (by decide) rfl rfl (by decide) (by decide) (by decide) (by decide) TB rfl (hr.mono (by decide)) (lamS_by (by rfl))
        (fun cls => cls = .ref (He.ga K "BadTrial")) (fun A' outer' s' H0' f' c' Ha E' hr' CC Sa hE' => ?_) fun cls v Hb hc he S3 hv => ?_))))
      · obtain ⟨u, hu1, hu2⟩ := Sa.sl 10 _ rfl
        obtain ⟨rfl, c2, h1, h2⟩ := lamV_of hu2
        obtain ⟨u8, hu3, hu4⟩ := Sa.sl j _ (hat _)
        rw [hvb] at hu3
        cases hu3
        refine tW_callP (X := lamCx (XL P w K mg base c A outer s H0 E) A' outer' s' H0' E' _ f' c') (ws := [some vb]) L (hr'.mono (by decide)) (passes_call (takes_of rfl rfl rfl rfl) fun _ _ _ _ h => h) 10 hu1 (hid_le _ _ h1) (hid_le _ _ h2) (fun _ _ _ I => by rw [hcl]; exact cells_lam CC I) ?_ (hv := .inr (.inr rfl))
        refine (ja_cons (X := lamCx (XL P w K mg base c A outer s H0 E) A' outer' s' H0' E' _ f' c') (Sy.at (X := lamCx (XL P w K mg base c A outer s H0 E) A' outer' s' H0' E' _ f' c') Sa 15) (ja_nil (X := lamCx (XL P w K mg base c A outer s H0 E) A' outer' s' H0' E' _ f' c'))) Sa.all Ha (Ex.refl _) _ fun vs H4 x4 p4 => ?_
        exact ⟨x4 _ _ (hid_le _ _ h1), x4 _ _ (hid_le _ _ h2), _, [odd], _, bd, _, rfl, rfl, Sa.all.ex x4, p4, Dp.ex hu4 (hid_ex x4), hF, fun H5 x5 => hE' _ H5 rfl T.j_BadTrial (Sa.ex (x4.trans x5))⟩
      subst hc
      obtain ⟨b0, rfl, hb0⟩ := hv
      refine ⟨b0, .ref _, .ref _, true, rfl, hid_le _ _ hb0, fun u h => h, T.s_BadTrial, true, rfl, ?_⟩
      show (if (!true) = true then _ else _)
      rw [if_neg (by decide)]
      exact tB_nil (tB_nil ⟨_, _, ⟨rfl, _, rfl⟩, S3.perm (List.Perm.swap _ _ _)⟩)
  · rintro ρ' μ' σ' H' ⟨rfl, o10, rfl⟩ S5
    refine tB_if (tT_not (tT_val (jm_isE (call_isV T.e_BadShares) T.n_isinstance T.g_BadShares (jm_caughtP (k := 9) (g := He.ga K "_law_caught") (st := s_law_caught) (μ := μ1) (P := TP) S5 hmu Fc hmc (fun _ _ _ _ _ _ us hl => match us, hl with | [_], _ => rfl) sc_law_caught (.inl rfl) rfl T.g_JudgeError (by decide) rfl rfl (by decide) (by decide) (by decide) (by decide) TB rfl (hr.mono (by decide)) (lamS_by (by rfl))
      (fun cls => cls = .ref (He.ga K "BadShares")) (fun A' outer' s' H0' f' c' Ha E' hr' Sa hE' => ?_) fun cls v Hb hc he S6 hv => ?_))))
    · exact jx_call (X := lamCx (XL P w K mg base c A outer s H0 E) A' outer' s' H0' E' _ f' c') W7 (hr'.mono (by decide)) (takes_of rfl rfl rfl rfl) Sa.all (ja_cons (X := lamCx (XL P w K mg base c A outer s H0 E) A' outer' s' H0' E' _ f' c') (Sy.at (X := lamCx (XL P w K mg base c A outer s H0 E) A' outer' s' H0' E' _ f' c') Sa 3) (ja_cons (X := lamCx (XL P w K mg base c A outer s H0 E) A' outer' s' H0' E' _ f' c') (Sy.at (X := lamCx (XL P w K mg base c A outer s H0 E) A' outer' s' H0' E' _ f' c') Sa 16) (ja_nil (X := lamCx (XL P w K mg base c A outer s H0 E) A' outer' s' H0' E' _ f' c')))) rfl (.inr ⟨l, wrong, rfl, hT, hw, rfl⟩) (fun H' x3 => hE' _ H' rfl T.j_BadShares (Sa.ex x3))
    subst hc
    obtain ⟨b0, rfl, hb0⟩ := hv
    refine ⟨b0, .ref _, .ref _, true, rfl, hid_le _ _ hb0, fun u h => h, T.s_BadShares, true, rfl, ?_⟩
    show (if (!true) = true then _ else _)
    rw [if_neg (by decide)]
    exact tB_nil (tB_nil (fin _ _ _ S6))
end K58

set_option maxHeartbeats 4000000
namespace K58
open PySem PySem.Spec PyProof.Rows L2 J Evl LamX NdefX
variable {P : Program} {w : World} {K : PySem.W.Frag} {mg : Str → Option Value} {base : Heap}
abbrev d01 : D := .tuple [.int 0, .int 1]
abbrev d12 : D := .tuple [.int 1, .int 2]
abbrev d24 : D := .tuple [.int 2, .int 4]
def wrongL (rs : List Rat) : List D := [.none, .tuple (rs.map dR ++ [d01]), .tuple ((rs.map dR).drop 1), .tuple (List.replicate ((((rs.map dR).length : Nat) : Int) + 1).toNat d12), .tuple ([d24] ++ (rs.map dR).drop 1), .tuple ([.int 1] ++ (rs.map dR).drop 1)]
theorem wrong_bad {n : Nat} {rs : List Rat} (hG : GoodSh n rs) (h1 : 1 ≤ n) (h8 : n ≤ 8) {d : D} (h : d ∈ wrongL rs) : BadSh n d := by
  have hl := hG.1
  unfold wrongL at h
  simp only [List.mem_cons, List.not_mem_nil, or_false] at h
  have sh : ∀ x ∈ (rs.map dR).drop 1, Sh x := fun x hx => by
    obtain ⟨r, _, rfl⟩ := List.mem_map.mp (List.mem_of_mem_drop hx)
    exact sh_dR r
  rcases h with rfl | rfl | rfl | rfl | rfl | rfl
  · exact .inl rfl
  · exact .inr ⟨_, rfl, by simp; omega, .inl (by simp; omega)⟩
  · exact .inr ⟨_, rfl, by simp; omega, .inl (by simp; omega)⟩
  · exact .inr ⟨_, rfl, by rw [List.length_replicate, List.length_map]; omega, .inl (by rw [List.length_replicate, List.length_map]; omega)⟩
  · refine .inr ⟨_, rfl, by simp; omega, .inr ⟨by simp; omega, ?_, fun x hx => ?_⟩⟩
    · rw [List.cons_append, List.all_cons]
      have : isC d24 = false := by decide
      rw [this]; rfl
    · rcases List.mem_append.mp hx with hx | hx
      · rw [List.mem_singleton.mp hx]
        exact fun l e => by cases e; show 2 ≤ 90000; omega
      · exact sh x hx
  · refine .inr ⟨_, rfl, by simp; omega, .inr ⟨by simp; omega, ?_, fun x hx => ?_⟩⟩
    · rw [List.cons_append, List.all_cons]
      have : isC (.int 1) = false := rfl
      rw [this]; rfl
    · rcases List.mem_append.mp hx with hx | hx
      · rw [List.mem_singleton.mp hx]
        exact fun l e => by cases e
      · exact sh x hx
theorem law_c (T : Tx K mg) {c TP : Addr} {A : Around} {outer : List Env} {s : Shared} {H0 : Hp} {E : XK} (TB : TabB base mg c TP) (hr : Room 12 (XL P w K mg base c A outer s H0 E).A) {a lg : Addr} {t0 k : Nat} {μD : Mu} (hD : Dn a lg t0 k μD) (hcap : t0 + k + 10 ≤ capT) {l : List St} (hT : TrOk l) {rs : List Rat} (hG : GoodSh l.length rs) {d0 : D} {o2 o4 o5 o6 o7 o9 o10 o11 o12 o13 o14 o15 o16 o17 o18 o19 o20 : Option Sv} {σ1 : L2.St} {H1 : Hp} {D' : Ends}
    (S1 : Sy K noH [] [some (.dat d0), some (.val (.ref a)), o2, some (.dat (trD l)), o4, o5, o6, o7, some (.dat (.tuple (rs.map dR))), o9, o10, o11, o12, o13, o14, o15, o16, o17, o18, o19, o20] (μD ++ [Tq TP]) σ1 H1)
    (fin : ∀ μ2 ρ' σ' H', Dn a lg t0 (k + 2) μ2 → (∃ o3 o4 o5 o6 o7 o8 o9 o10 o11 o12 o13 o14 o15 o16 o17 o18 o19 o20, ρ' = [some (.dat d0), some (.val (.ref a)), o2, o3, o4, o5, o6, o7, o8, o9, o10, o11, o12, o13, o14, o15, o16, o17, o18, o19, o20]) → Sy K noH [] ρ' (μ2 ++ [Tq TP]) σ' H' → D'.nx σ' H') :
    tB (XL P w K mg base c A outer s H0 E) (loopB.drop 11) D' σ1 H1 := by
  have nd := sc_law.nd
  have Wodd := fd_law_odd (P := P) (w := w) (base := base) T
  have Wp := fd_law_pick (P := P) (w := w) (base := base) T
  have h8 := hT.2.2.1
  have h1 := hT.1
  have hl := hG.1
  have hne : 1 ≤ (rs.map dR).length := by rw [List.length_map]; omega
  refine sy_tup2 15 16 (tA_cc (Sx.call (ts := []) (vs := []) (μ1 := μD) (μ2 := [Tq TP]) S1.sx Wodd (hr.mono (by decide)) (jsa_cons (S1.atV 1).js jsa_nil) rfl ⟨a, lg, rfl, hD.rdy (by omega)⟩ fun v1 s1 μ3 H3 hR S3 => ?_)) rfl nd
  obtain ⟨odd, ⟨ho, ho2⟩, rfl, adv⟩ := hR
  have hD3 := adv.use hD
  refine tA_cc (sx_pick (ts := [.dat odd]) (vs := [v1]) (xs := wrongL rs) S3 Wp (hr.mono (by decide)) hD3 (by omega) (S3.base.atV 1).js (Jd.js (Jd.is (jd_lst (ja_cons jd_non (ja_cons (jd_cat (S3.base.at 8) (jd_tup (ja_cons (jd_tup (ja_cons jd_int (ja_cons jd_int ja_nil))) ja_nil)) (by rw [List.length_map]; simp only [List.length_cons, List.length_nil]; omega)) (ja_cons (jd_slFrom (n := 1) (S3.base.at 8) jd_int rfl hne) (ja_cons (jd_repT (jd_tup (ja_cons (jd_tup (ja_cons jd_int (ja_cons jd_int ja_nil))) ja_nil)) (jd_add (jd_len T.n_len (S3.base.at 8) (.inl rfl)) jd_int) (by omega) (by rw [List.length_map]; omega)) (ja_cons (jd_cat (jd_tup (ja_cons (jd_tup (ja_cons jd_int (ja_cons jd_int ja_nil))) ja_nil)) (jd_slFrom (n := 1) (S3.base.at 8) jd_int rfl hne) (by rw [List.length_drop, List.length_map]; simp only [List.length_cons, List.length_nil]; omega)) (ja_cons (jd_cat (jd_tup (ja_cons jd_int ja_nil)) (jd_slFrom (n := 1) (S3.base.at 8) jd_int rfl hne) (by rw [List.length_drop, List.length_map]; simp only [List.length_cons, List.length_nil]; omega)) ja_nil))))))) (by unfold wrongL; rfl))) (by show 0 < 6; decide) (by show 6 ≤ 1000; decide) fun v2 wrong μ4 H4 hw4 hD4 S4 => tA_nil ⟨v1, v2, rfl, fun q hq => ?_⟩)
  have p2 := S4.lastD
  have p1 := (S4.take (ts := [.dat odd]) (vs := [v1]) rfl).lastD (ts := []) (vs := [])
  have S5 := (((S4.base.set 15 (s := .dat odd) (v := v1) p1).set 16 (s := .dat wrong) (v := v2) p2)).ex (Ex.new (o := .tup [v1, v2]) hq)
  have S5 : Sy K noH [] [some (.dat d0), some (.val (.ref a)), o2, some (.dat (trD l)), o4, o5, o6, o7, some (.dat (.tuple (rs.map dR))), o9, o10, o11, o12, o13, o14, some (.dat odd), some (.dat wrong), o17, o18, o19, o20] (μ4 ++ [Tq TP]) _ _ := S5
  have hwr := wrong_bad hG h1 h8 hw4
  exact law_ask T TB hr (dn_noTab hD4) hT ho ho2 hwr (S5.perm (List.perm_append_comm (l₁ := [Tq TP]) (l₂ := μ4))) fun o10 σ' H' S8 => fin μ4 _ σ' H' (hD4.mono (by omega)) ⟨_, _, _, _, _, _, _, _, _, _, _, _, _, _, _, _, _, _, rfl⟩ (S8.perm (List.perm_append_comm (l₁ := μ4) (l₂ := [Tq TP])))
theorem law_turn (T : Tx K mg) {c TP : Addr} {A : Around} {outer : List Env} {s : Shared} {H0 : Hp} {E : XK} (TB : TabB base mg c TP) (hr : Room 12 (XL P w K mg base c A outer s H0 E).A) {a lg : Addr} {t0 k : Nat} {μD : Mu} (hD : Dn a lg t0 k μD) {N : Nat} (hN : N = cW + 500) (hcap : t0 + k + N ≤ capT) {d0 : D} {o2 o3 o4 o5 o6 o7 o8 o9 o10 o11 o12 o13 o14 o15 o16 o17 o18 o19 o20 : Option Sv} {σ1 : L2.St} {H1 : Hp} {D' : Ends}
    (S1 : Sy K noH [] [some (.dat d0), some (.val (.ref a)), o2, o3, o4, o5, o6, o7, o8, o9, o10, o11, o12, o13, o14, o15, o16, o17, o18, o19, o20] (μD ++ [Tq TP]) σ1 H1)
    (fin : ∀ μ2 ρ' σ' H', Dn a lg t0 (k + N) μ2 → (∃ o3 o4 o5 o6 o7 o8 o9 o10 o11 o12 o13 o14 o15 o16 o17 o18 o19 o20, ρ' = [some (.dat d0), some (.val (.ref a)), o2, o3, o4, o5, o6, o7, o8, o9, o10, o11, o12, o13, o14, o15, o16, o17, o18, o19, o20]) → Sy K noH [] ρ' (μ2 ++ [Tq TP]) σ' H' → D'.nx σ' H') :
    tB (XL P w K mg base c A outer s H0 E) loopB D' σ1 H1 := by
  have nd := sc_law.nd
  have Wd := fd_law_draw (P := P) (w := w) (base := base) T
  have Wt := fd_law_sr_trial (P := P) (w := w) (base := base) T
  have Wo := fd_law_sr_told (P := P) (w := w) (base := base) T
  obtain ⟨M, hM⟩ : ∃ M, M = cW + 80 := ⟨_, rfl⟩
  obtain ⟨M2, hM2⟩ : ∃ M2, M2 = cW + 50 := ⟨_, rfl⟩
  rw [← hM] at Wt
  rw [← hM2] at Wo
  have rest : ∀ (v : V) (l : List St) (μ2 : Mu) (H2 : Hp), TrOk l → (∀ s ∈ l, Sm1 s) → Dn a lg t0 (k + 1 + M) μ2 → Sy K noH [] [some (.dat d0), some (.val (.ref a)), o2, o3, o4, o5, o6, o7, o8, o9, o10, o11, o12, o13, o14, o15, o16, o17, o18, o19, o20] (μ2 ++ [Tq TP]) σ1 H2 → J.Dp K (hid (adr [] (μ2 ++ [Tq TP])) H2) v (trD l) → tB (XL P w K mg base c A outer s H0 E) (loopB.drop 1) D' (σ1.set 3 (some v)) H2 := fun v l μ2 H2 hT hS hD2 S2 hv => by
    have S3 := S2.set 3 (s := .dat (trD l)) (v := v) hv
    have S3 : Sy K noH [] [some (.dat d0), some (.val (.ref a)), o2, some (.dat (trD l)), o4, o5, o6, o7, o8, o9, o10, o11, o12, o13, o14, o15, o16, o17, o18, o19, o20] (μ2 ++ [Tq TP]) _ H2 := S3
    refine law_w T hr hD2 (by omega) S3 fun μ3 z σ' H' z0 z2 hD3 S4 => ?_
    refine law_v T TB hr hD3 (by omega) hT hS z0 z2 S4 fun μ4 o5 o11 σ' H' hD4 S5 => ?_
    refine law_r T hr hT S5 fun o6 o7 o13 σ' H' S6 => ?_
    refine law_s T hr hD4 (by omega) hT S6 fun μ5 rs o9 σ' H' hD5 hG S7 => ?_
    exact law_c T TB hr hD5 (by omega) hT hG S7 fun μ6 ρ' σ' H' hD6 hρ S8 => fin μ6 ρ' σ' H' (hD6.mono (by omega)) hρ S8
  refine sy_setE 3 (tW_if (tT_eqI (sx_draw (ts := []) (vs := []) S1.sx Wd (hr.mono (by decide)) hD (by omega) (S1.atV 1).js (Jd.js jd_int) (by decide) (by decide) fun v1 y μ2 H2 y0 y1 hD2 S2 => S2.ev (Jd.js (jd_int (i := 0))) fun v2 H3 S3 => ⟨y, 0, dInt (Sx.lastD (ts := []) (vs := []) (S3.take (ts := [.dat (.int y)]) (vs := [v1]) rfl)), dInt (Sx.lastD (ts := [.dat (.int y)]) (vs := [v1]) S3), ?_⟩))) nd
  have S4 := S3.base
  by_cases hy : y = 0
  · rw [if_pos (decide_eq_true hy)]
    refine jm_call (μ1 := μ2) (μ2 := [Tq TP]) S4 Wt (hr.mono (by decide)) (jsa_cons (S4.atV 1).js (jsa_cons (jd_int (i := 8)).js (jsa_cons (jd_int (i := 40)).js jsa_nil))) rfl ⟨a, lg, 8, 40, rfl, by decide, by decide, by decide, by decide, hD2.rdy (by omega)⟩ fun v s' μ5 H5 hR S5 hv => ?_
    obtain ⟨l, ⟨hT, hS⟩, rfl, adv⟩ := hR
    exact rest v l μ5 H5 hT hS (adv.use hD2) S5 hv
  · rw [if_neg (by rw [decide_eq_false hy]; exact Bool.false_ne_true)]
    refine jm_call (μ1 := μ2) (μ2 := [Tq TP]) S4 Wo (hr.mono (by decide)) (jsa_cons (S4.atV 1).js (jsa_cons (jd_int (i := 5)).js jsa_nil)) rfl ⟨a, lg, 5, rfl, by decide, by decide, hD2.rdy (by omega)⟩ fun v s' μ5 H5 hR S5 hv => ?_
    obtain ⟨l, ⟨hT, hS⟩, -, rfl, adv⟩ := hR
    exact rest v l μ5 H5 hT hS ((adv.use hD2).mono (by omega)) S5 hv
theorem capN {N : Nat} (hN : N = cW + 500) : 8 * N ≤ capT := Nat.le_trans (m := 1000000 * (cW + 1000000)) (by subst hN; omega) capW
theorem ok_law_k58 (T : Tx K mg) {fd : FuncData} (F : FnP K "law" "law" s_law (He.ga K "law") fd) (TP : Addr) (TBh : ∀ c, fd.code = .ref c → TabB base mg c TP) : FnOk P w K mg base CX0 13 (He.ga K "law") fd ["script"] (spLaw K TP 63) := by
  have Wbegun := fd_law_begun (P := P) (w := w) (base := base) T
  have nd := sc_law.nd
  refine ok_law F sc_law TP TBh fun c A outer s H E sa ns D' TB hr hns S k => ?_
  refine sy_setE 1 (jm_call (μ1 := []) (μ2 := [Tq TP]) S Wbegun (hr.mono (by decide)) (jsa_cons (S.at 0).js jsa_nil) rfl ⟨ns, rfl, by omega, rfl⟩ fun v s' μ1 H1 hR S1 hv => ?_) nd
  obtain ⟨a, lg, rfl, hD0⟩ := hR
  have hv : v = .ref a := hv
  subst hv
  have S1 := S1.set 1 (s := .val (.ref a)) (v := .ref a) rfl
  obtain ⟨d0, hd0⟩ : ∃ d0 : D, d0 = .list (ns.map PyData.int) := ⟨_, rfl⟩
  have S1 : Sy K (fun _ => none) [] (some (.dat (.list (ns.map PyData.int))) :: some (.val (.ref a)) :: List.replicate 19 none) (μ1 ++ [Tq TP]) _ H1 := S1
  have hn0 : ((3 : Int) + (if 4 < (((ns.map PyData.int).length : Nat) : Int) then 4 else (((ns.map PyData.int).length : Nat) : Int))) ≤ 7 := by split <;> omega
  have hn1 : 0 ≤ ((3 : Int) + (if 4 < (((ns.map PyData.int).length : Nat) : Int) then 4 else (((ns.map PyData.int).length : Nat) : Int))) := by split <;> omega
  obtain ⟨N, hN⟩ : ∃ N, N = cW + 500 := ⟨_, rfl⟩
  have hcap := capN hN
  refine sy_forR S1 T.n_range (jd_add jd_int (jd_min2 rfl T.n_min (jd_len T.n_len (S1.at 0) (.inr rfl)) jd_int)) (by omega) (fun d ρ => ρ.set 2 (some (.dat d))) (js := [2]) (fun d ρ' => jg_name 2 nd)
    (fun i ρ' μ' => ∃ μD, Dn a lg 0 (i * N) μD ∧ μ' = μD ++ [Tq TP] ∧ ∃ o2 o3 o4 o5 o6 o7 o8 o9 o10 o11 o12 o13 o14 o15 o16 o17 o18 o19 o20, ρ' = [some (.dat (.list (ns.map PyData.int))), some (.val (.ref a)), o2, o3, o4, o5, o6, o7, o8, o9, o10, o11, o12, o13, o14, o15, o16, o17, o18, o19, o20]) ⟨μ1, hD0.mono (Nat.zero_le _), rfl, _, _, _, _, _, _, _, _, _, _, _, _, _, _, _, _, _, _, _, rfl⟩ ?_ ?_ PassesOwn.never rfl
  · rintro i ρ' μ' σ' H' hi ⟨μD, hD, rfl, o2, o3, o4, o5, o6, o7, o8, o9, o10, o11, o12, o13, o14, o15, o16, o17, o18, o19, o20, rfl⟩ S2
    have hi7 : i < 7 := by omega
    have hle : i * N ≤ 6 * N := Nat.mul_le_mul_right _ (by omega)
    have hsm : (i + 1) * N = i * N + N := Nat.succ_mul _ _
    exact law_turn T TB hr hD hN (by omega) (o2 := some (.dat (.int i))) S2 fun μD' ρ' σ' H' hD' ⟨o3, o4, o5, o6, o7, o8, o9, o10, o11, o12, o13, o14, o15, o16, o17, o18, o19, o20, e⟩ S' => ⟨_, _, ⟨μD', hD'.mono (by omega), rfl, _, o3, o4, o5, o6, o7, o8, o9, o10, o11, o12, o13, o14, o15, o16, o17, o18, o19, o20, e⟩, S'⟩
  · rintro ρ' μ' σ' H' ⟨μD, hD, rfl, o2, o3, o4, o5, o6, o7, o8, o9, o10, o11, o12, o13, o14, o15, o16, o17, o18, o19, o20, rfl⟩ S2
    exact sy_retE (S2.ev jd_bl fun v H3 S3 _ p => by rw [dBl p]; exact k H3)
end K58

set_option maxHeartbeats 0
namespace K58
open PySem PySem.Spec PyProof.Rows L2 J Evl LamX
theorem law_at {w : World} {K : PySem.W.Frag} {h : Heap} {mg : Str → Option Value} {f : Addr} (X : K.In h) (G : h.Ns mainGlobals mg) (hf : mg "law" = some (.ref f)) (c : He.SaysX fa fn [] tf ex w h K) : LawAtS PySem.Challenge.rw_judgedalike_k58_trials_and_what_they_tel w K CX0 13 63 "script" mg f h := by
  have T := tx_mk X G c.t.d c.more
  obtain ⟨fd, F, hm⟩ := T.f_law
  rw [hf] at hm
  cases hm
  obtain ⟨oc, od, dV, kV, doc, pm, an, cdv, ct, osl, efd, lk, hcg, _, _⟩ := id F.ex
  obtain ⟨c0, hc0⟩ := He.codeIn_ref hcg
  have hcode : fd.code = .ref c0 := by rw [efd]; exact hc0
  have eC : He.codeOf K ("law", none) = c0 := He.codeOf_eq (p := ("law", none)) lk hcode
  have hcT : He.cT K ("law", none) = (c0, He.tabOf K c0) := by unfold He.cT; rw [eC]
  have mem : (("law", none) : He.Defn) ∈ tf := List.mem_singleton.mpr rfl
  have h1 := c.empty _ mem
  have h2 := c.out _ mem
  have h3 := c.hd _ mem
  rw [hcT] at h1 h2 h3
  have one : ∀ p ∈ [(c0, He.tabOf K c0)], p = (c0, He.tabOf K c0) := fun p hp => List.mem_singleton.mp hp
  refine ⟨fd, [(c0, He.tabOf K c0)], spLaw K (He.tabOf K c0) 63, fun p hp => by rw [one p hp]; exact h1, fun p hp => by rw [one p hp]; exact h2, fun p hp => by rw [one p hp]; exact PySem.W.codeHd_of_K X h3, ?_, fun H a ns hl _ hT hS => ⟨a, ns, rfl, hl, hS, hT _ (List.mem_singleton.mpr rfl), fun _ => rfl⟩, fun base KB NB hTB => ?_⟩
  · have b := FunD.bindsA (ps := ["script"]) F fun _ _ _ _ _ _ us hl => match us, hl with | [_], _ => rfl
    exact fun s v => b s [v] rfl
  · exact ok_law_k58 T F (He.tabOf K c0) fun c' hc' => by
      rw [hcode] at hc'
      cases hc'
      exact hTB _ (List.mem_singleton.mpr rfl)
end K58
open PySem PySem.W PySem.Calls PyProof.Rows
theorem PySem.Challenge.cw_judgedalike_k58_trials_and_what_they_tel_holds : PySem.Challenge.rw_judgedalike_k58_trials_and_what_they_tel.Holds := by
  w_on; o_law
  refine HandSHeadRun.head_imp (r := OpenLaw.row PySem.Challenge.rw_judgedalike_k58_trials_and_what_they_tel) (q := view (OpenLaw.row PySem.Challenge.rw_judgedalike_k58_trials_and_what_they_tel).prog [0, 70]) (H := K58.hk) (ob := K58.ob) (M := 9000) (loose := K58.loose) (d := HandSHeadRun.topDef (OpenLaw.row PySem.Challenge.rw_judgedalike_k58_trials_and_what_they_tel).prog 70) (kwd := []) K58.ob_eq
    K58.run (by kernel_rfl) (by kernel_rfl) (by kernel_rfl) (by rfl) (by first | assumption | decide +kernel) (by decide +kernel) ⟨rfl, rfl, rfl, rfl, rfl, by decide +kernel⟩ ?hw ?hc
  case hw => w_witness2
  case hc =>
    refine LamX.walk_ofTsE (l := PySem.Challenge.rw_judgedalike_k58_trials_and_what_they_tel) (n := 63) (k := 13) (x := "script") (CX := fun _ => L2.CX0) rfl (by decide) (by kernel_rfl) ⟨rfl, by decide, by decide⟩ ?F (fun _ _ _ _ _ z => z)
    intro w mg fa h Y G hmg0
    obtain ⟨K, KX, c⟩ := Y
    have hmg : mg ("law" : PySem.Str) = some (.ref fa) := by
      have e : (HandSHeadRun.topDef (OpenLaw.row PySem.Challenge.rw_judgedalike_k58_trials_and_what_they_tel).prog 70).name = ("law" : PySem.Str) := by kernel_rfl
      rw [← e]
      exact hmg0
    exact ⟨K, KX, K58.law_at KX G hmg c⟩

