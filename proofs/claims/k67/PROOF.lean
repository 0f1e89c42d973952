import PyProof.Rows.All
import HandS.ForMost
import HandS.Evl
import HandS.Wide
import HandS.WideBits
import HandS.IsInst
import HandS.Style
import HandS.Rev
import HandS.Walk
import HandS.Flow
import HandS.TupAny
import HandS.Deep
import HandS.NoneIn
import HandS.RevTup
import HandS.StrMore
import HandS.Conv
import HandS.Defaults
import HandS.Words
import HandS.More
import KE.GoesMore
import PyProof.EnumMake
import HandS.Zip
import Wide.All
import OpenK.AllK
import Wide.FinOn
import KE.KStateDown
import Lean
import HandS.Head0
import HandS.Head1
import HandS.Head2
import HandS.HeadEnd
import HandS.HeadHook1
import HandS.HeadHook2
import PySem.Challenge.RW_onlylength_k67_table_numbers
set_option Elab.async false
set_option linter.all false
set_option maxRecDepth 100000
namespace VE
open PySem PySem.Spec L2 Evl
/-! ### data in a heap -/
section
variable {K : PySem.W.Frag}
mutual
theorem dp_ex {G H : Hp} (e : Ex G H) : ∀ {v : V} {d : PyData}, Dp K G v d → Dp K H v d
  | _, _, .non => .non
  | _, _, .bl b => .bl b
  | _, _, .int i => .int i
  | _, _, .str x => .str x
  | _, _, .lst h a => .lst (ex_l e h) (dpa_ex e a)
  | _, _, .tup h a => .tup (ex_t e h) (dpa_ex e a)
theorem dpa_ex {G H : Hp} (e : Ex G H) : ∀ {vs : List V} {ds : List PyData}, DpAll K G vs ds → DpAll K H vs ds
  | _, _, .nil => .nil
  | _, _, .cons h a => .cons (dp_ex e h) (dpa_ex e a)
end
theorem dpa_len {G : Hp} : ∀ {vs : List V} {ds : List PyData}, DpAll K G vs ds → vs.length = ds.length
  | _, _, .nil => rfl
  | _, _, .cons _ a => by rw [List.length_cons, List.length_cons, dpa_len a]
theorem dpa_get {G : Hp} : ∀ {vs : List V} {ds : List PyData} {i : Nat} {d : PyData}, DpAll K G vs ds → ds[i]? = some d → ∃ v, vs[i]? = some v ∧ Dp K G v d
  | _, _, _, _, .nil, h => by simp at h
  | _, _, 0, d, .cons h _, e => by
    simp at e
    subst e
    exact ⟨_, rfl, h⟩
  | _, _, i + 1, d, .cons _ a, e => by
    obtain ⟨v, h1, h2⟩ := dpa_get (i := i) (d := d) a (by simpa using e)
    exact ⟨v, by simpa using h1, h2⟩
theorem dpa_app {G : Hp} : ∀ {vs ws : List V} {ds es : List PyData}, DpAll K G vs ds → DpAll K G ws es → DpAll K G (vs ++ ws) (ds ++ es)
  | _, _, _, _, .nil, b => b
  | _, _, _, _, .cons h a, b => .cons h (dpa_app a b)
theorem dpa_take {G : Hp} : ∀ {vs : List V} {ds : List PyData} (n : Nat), DpAll K G vs ds → DpAll K G (vs.take n) (ds.take n)
  | _, _, 0, _ => .nil
  | _, _, _ + 1, .nil => .nil
  | _, _, n + 1, .cons h a => .cons h (dpa_take n a)
theorem dpa_drop {G : Hp} : ∀ {vs : List V} {ds : List PyData} (n : Nat), DpAll K G vs ds → DpAll K G (vs.drop n) (ds.drop n)
  | _, _, 0, a => a
  | _, _, _ + 1, .nil => .nil
  | _, _, n + 1, .cons _ a => dpa_drop n a
theorem dpa_set {G : Hp} {v : V} {d : PyData} (h : Dp K G v d) : ∀ {vs : List V} {ds : List PyData} (i : Nat), DpAll K G vs ds → DpAll K G (vs.set i v) (ds.set i d)
  | _, _, _, .nil => .nil
  | _, _, 0, .cons _ a => .cons h a
  | _, _, i + 1, .cons q a => .cons q (dpa_set h i a)
theorem dpa_rev {G : Hp} : ∀ {vs : List V} {ds : List PyData}, DpAll K G vs ds → DpAll K G vs.reverse ds.reverse
  | _, _, .nil => .nil
  | _, _, .cons h a => by
    rw [List.reverse_cons, List.reverse_cons]
    exact dpa_app (dpa_rev a) (.cons h .nil)
end
/-! ### growth: the frozen part G of H grows with H, nothing of H that is not frozen becomes so -/
structure Gr (G H G' H' : Hp) : Prop where
  g : Ex G G'
  s : Ex G' H'
  h : Ex H H'
  f : ∀ a o, H a = some o → G a = none → G' a = none
theorem Gr.refl {G H : Hp} (e : Ex G H) : Gr G H G H := ⟨Ex.refl G, e, Ex.refl H, fun _ _ _ q => q⟩
theorem Gr.trans {G H G1 H1 G2 H2 : Hp} (a : Gr G H G1 H1) (b : Gr G1 H1 G2 H2) : Gr G H G2 H2 :=
  ⟨a.g.trans b.g, b.s, a.h.trans b.h, fun x o h q => b.f x o (a.h x o h) (a.f x o h q)⟩
/-- a new object, frozen at once -/
theorem Gr.new {G H : Hp} {p : Addr} {o : HO} (e : Ex G H) (hp : H p = none) : Gr G H (upd G p o) (upd H p o) where
  g := Ex.new (fresh_back e hp)
  s := fun a u h => by
    by_cases z : a = p
    · subst z
      rw [upd_same] at h ⊢
      exact h
    · rw [upd_ne z] at h ⊢
      exact e a u h
  h := Ex.new hp
  f := fun a u h q => by
    rw [upd_ne (ne_of_none h hp)]
    exact q
/-- a new object, not frozen -/
theorem Gr.newo {G H : Hp} {p : Addr} {o : HO} (e : Ex G H) (hp : H p = none) : Gr G H G (upd H p o) where
  g := Ex.refl G
  s := e.trans (Ex.new hp)
  h := Ex.new hp
  f := fun _ _ _ q => q
/-! ### the slots -/
inductive Sl where
  | no
  | v (d : PyData)
  | o (xs : List PyData)
abbrev En := List Sl
def Sl.val : Sl → Option PyData
  | .no => none
  | .v d => some d
  | .o xs => some (.list xs)
/-- what an expression sees: every slot's datum in the frozen heap G -/
structure Vr (K : PySem.W.Frag) (G : Hp) (σ : L2.St) (n : En) : Prop where
  len : σ.length = n.length
  sl : ∀ (i : Nat) (s : Sl) (d : PyData), n[i]? = some s → s.val = some d → ∃ v, σ[i]? = some (some v) ∧ Dp K G v d
theorem Vr.mono {K : PySem.W.Frag} {G G' : Hp} {σ : L2.St} {n : En} (r : Vr K G σ n) (e : Ex G G') : Vr K G' σ n := ⟨r.len, fun i s d h1 h2 =>
  let ⟨v, a, b⟩ := r.sl i s d h1 h2
  ⟨v, a, dp_ex e b⟩⟩
/-! ### the readings of expressions -/
abbrev M := En → Option PyData
abbrev MT := En → Option Bool
abbrev MA := En → Option (List PyData)
def tM (K : PySem.W.Frag) (m : M) : TE := fun σ H Q => ∃ G n d, Ex G H ∧ Vr K G σ n ∧ m n = some d ∧ ∀ v H' G', Gr G H G' H' → Dp K G' v d → Q v H'
def tMT (K : PySem.W.Frag) (m : MT) : TT := fun σ H Q => ∃ G n b, Ex G H ∧ Vr K G σ n ∧ m n = some b ∧ ∀ H' G', Gr G H G' H' → Q b H'
def tMA (K : PySem.W.Frag) (m : MA) : TA := fun σ H Q => ∃ G n ds, Ex G H ∧ Vr K G σ n ∧ m n = some ds ∧ ∀ vs H' G', Gr G H G' H' → DpAll K G' vs ds → Q vs H'
/-- a fresh list, not frozen -/
def tMF (K : PySem.W.Frag) (m : MA) : TE := fun σ H Q => ∃ G n ds, Ex G H ∧ Vr K G σ n ∧ m n = some ds ∧ ∀ p vs H' G', Gr G H G' H' → H p = none → G' p = none → H' p = some (.lst vs) → DpAll K G' vs ds → Q (.ref p) H'
theorem PE.mono {X : Cx} {e : Expr} {t t' : TE} (h : PE X e t) (i : ∀ σ H Q, t' σ H Q → t σ H Q) : PE X e t' := ⟨fun pins s σ H Q I q => h.run pins s σ H Q I (i σ H Q q)⟩
theorem PT.mono {X : Cx} {e : Expr} {t t' : TT} (h : PT X e t) (i : ∀ σ H Q, t' σ H Q → t σ H Q) : PT X e t' := ⟨fun pins s σ H Q I q => h.run pins s σ H Q I (i σ H Q q)⟩
theorem PA.mono {X : Cx} {e : List Expr} {t t' : TA} (h : PA X e t) (i : ∀ σ H Q, t' σ H Q → t σ H Q) : PA X e t' := ⟨fun pos pins s σ H Q I q => h.run pos pins s σ H Q I (i σ H Q q)⟩
theorem PS.mono {X : Cx} {e : Stmt} {t t' : TS} (h : PS X e t) (i : ∀ D σ H, t' D σ H → t D σ H) : PS X e t' := ⟨fun pins s σ H D I q => h.run pins s σ H D I (i D σ H q)⟩
theorem PSs.mono {X : Cx} {e : List Stmt} {t t' : TS} (h : PSs X e t) (i : ∀ D σ H, t' D σ H → t D σ H) : PSs X e t' := ⟨fun pins s σ H D I q => h.run pins s σ H D I (i D σ H q)⟩
theorem OpR.mono {X : Cx} {f : Value → Value → Sem Value} {r r' : R2} (h : OpR X f r) (i : ∀ x y H Q, r' x y H Q → r x y H Q) : OpR X f r' := fun pins s σ H x y v u Q I rx ry q => h pins s σ H x y v u Q I rx ry (i x y H Q q)
theorem UnR.mono {X : Cx} {f : Value → Sem Value} {r r' : V → Hp → VK → Prop} (h : UnR X f r) (i : ∀ x H Q, r' x H Q → r x H Q) : UnR X f r' := fun pins s σ H x v Q I rx q => h pins s σ H x v Q I rx (i x H Q q)
theorem CallR.mono {X : Cx} {f : Value} {r r' : List V → Hp → VK → Prop} (h : CallR X f r) (i : ∀ x H Q, r' x H Q → r x H Q) : CallR X f r' := fun pins s σ H x v Q I rx q => h pins s σ H x v Q I rx (i x H Q q)
abbrev PV (X : Cx) (e : Expr) (m : M) : Prop := PE X e (tM X.K m)
abbrev PB (X : Cx) (e : Expr) (m : MT) : Prop := PT X e (tMT X.K m)
abbrev PL (X : Cx) (es : List Expr) (m : MA) : Prop := PA X es (tMA X.K m)
abbrev PF (X : Cx) (e : Expr) (m : MA) : Prop := PE X e (tMF X.K m)
section
variable {X : Cx} {e a b c : Expr} {pos : Pos} {m ma mb mc : M}
/-! ### names and constants -/
def mVar (i : Nat) : M := fun n => (n[i]?).bind Sl.val
def mC (d : PyData) : M := fun _ => some d
theorem pv_var (i : Nat) {x : Str} (hN : X.N[i]? = some x := by rfl) (hv : Vis X.env.scope x := by first | exact Or.inl rfl | exact Or.inr (Or.inl rfl) | exact Or.inr (Or.inr rfl)) (hd : (x == ("__debug__" : Str)) = false := by decide)
    (hcd : (x == ("__classdict__" : Str)) = false := by decide) : PV X (.Name x pos) (mVar i) := PE.mono (pe_var hN hv hd hcd) fun σ H Q h => by
  obtain ⟨G, n, d, e, r, q, k⟩ := h
  unfold mVar at q
  cases hs : n[i]? with
  | none => rw [hs] at q; cases q
  | some s =>
    rw [hs] at q
    obtain ⟨v, h1, h2⟩ := r.sl i s d hs q
    exact ⟨v, h1, k v H G (Gr.refl e) h2⟩
theorem tC_of {v : V} {d : PyData} (hd : ∀ G, Dp X.K G v d) : ∀ σ H Q, tM X.K (mC d) σ H Q → tC v σ H Q := fun σ H Q h => by
  obtain ⟨G, n, d', e, r, q, k⟩ := h
  cases q
  exact k v H G (Gr.refl e) (hd G)
theorem pv_int {i : Int} {j : Nat} : PV X (.Constant (.int i) j pos) (mC (.int i)) := PE.mono pe_int (tC_of fun _ => .int i)
theorem pv_bl {i : Bool} {j : Nat} : PV X (.Constant (.bool i) j pos) (mC (.bool i)) := PE.mono pe_bl (tC_of fun _ => .bl i)
theorem pv_non {j : Nat} : PV X (.Constant .none j pos) (mC .none) := PE.mono pe_non (tC_of fun _ => .non)
theorem pv_str {x : Str} {j : Nat} : PV X (.Constant (.str x) j pos) (mC (.str x)) := PE.mono pe_str (tC_of fun _ => .str x)
/-- a module's constant -/
theorem pv_glob {x : Str} {v : V} {u : Value} {d : PyData} (hg : Gl X x) (hm : X.mg x = some u) (r : RelV v u) (hd : ∀ G, Dp X.K G v d) (h1 : (x == ("__debug__" : Str)) = false := by decide) : PV X (.Name x pos) (mC d) := PE.mono (pe_glob hg hm r h1) (tC_of hd)
/-! ### two-place operations -/
def mBin (g : PyData → PyData → Option PyData) (ma mb : M) : M := fun n => (ma n).bind fun x => (mb n).bind fun y => g x y
def rD (K : PySem.W.Frag) (g : PyData → PyData → Option PyData) : R2 := fun x y H Q => ∃ G d e r, Ex G H ∧ Dp K G x d ∧ Dp K G y e ∧ g d e = some r ∧ ∀ v H' G', Gr G H G' H' → Dp K G' v r → Q v H'
abbrev OpD (X : Cx) (f : Value → Value → Sem Value) (g : PyData → PyData → Option PyData) : Prop := OpR X f (rD X.K g)
theorem t_bin {g : PyData → PyData → Option PyData} {K : PySem.W.Frag} : ∀ σ H Q, tM K (mBin g ma mb) σ H Q → tOp (rD K g) (tM K ma) (tM K mb) σ H Q := fun σ H Q h => by
  obtain ⟨G, n, d, e, r, q, k⟩ := h
  unfold mBin at q
  obtain ⟨x, hx, q⟩ := Option.bind_eq_some_iff.mp q
  obtain ⟨y, hy, q⟩ := Option.bind_eq_some_iff.mp q
  refine ⟨G, n, x, e, r, hx, fun v H1 G1 g1 d1 => ?_⟩
  refine ⟨G1, n, y, g1.s, r.mono g1.g, hy, fun w H2 G2 g2 d2 => ?_⟩
  exact ⟨G2, x, y, d, g2.s, dp_ex g2.g d1, d2, q, fun z H3 G3 g3 d3 => k z H3 G3 ((g1.trans g2).trans g3) d3⟩
theorem pv_bin {op : Operator} {g : PyData → PyData → Option PyData} (ho : OpD X (binaryOp op) g) (ha : PV X a ma) (hb : PV X b mb) : PV X (.BinOp a op b pos) (mBin g ma mb) := PE.mono (pe_op ho ha hb) t_bin
theorem pv_cmp {op : CmpOp} {g : PyData → PyData → Option PyData} (ho : OpD X (compareOp op) g) (ha : PV X a ma) (hb : PV X b mb) (hm : behindInMarks op b = false) : PV X (.Compare a [op] [b] pos) (mBin g ma mb) := PE.mono (pe_cmpR ho ha hb hm) t_bin
/-- a value that is True or False -/
def asB : PyData → Option Bool
  | .bool b => some b
  | _ => none
def mBool (m : M) : MT := fun n => (m n).bind asB
theorem asB_eq {d : PyData} {b : Bool} (h : asB d = some b) : d = .bool b := by
  cases d <;> simp [asB] at h
  rw [h]
theorem dp_bool {K : PySem.W.Frag} {G : Hp} {v : V} {b : Bool} (h : Dp K G v (.bool b)) : v = .bl b := by cases h; rfl
theorem dp_int {K : PySem.W.Frag} {G : Hp} {v : V} {b : Int} (h : Dp K G v (.int b)) : v = .int b := by cases h; rfl
theorem dp_str {K : PySem.W.Frag} {G : Hp} {v : V} {b : Str} (h : Dp K G v (.str b)) : v = .str b := by cases h; rfl
theorem dp_non {K : PySem.W.Frag} {G : Hp} {v : V} (h : Dp K G v .none) : v = .non := by cases h; rfl
theorem dp_lst {K : PySem.W.Frag} {G : Hp} {v : V} {ds : List PyData} (h : Dp K G v (.list ds)) : ∃ a vs, v = .ref a ∧ SqL K G a vs ∧ DpAll K G vs ds := by
  cases h with
  | lst h1 h2 => exact ⟨_, _, rfl, h1, h2⟩
theorem dp_tup {K : PySem.W.Frag} {G : Hp} {v : V} {ds : List PyData} (h : Dp K G v (.tuple ds)) : ∃ a vs, v = .ref a ∧ SqT K G a vs ∧ DpAll K G vs ds := by
  cases h with
  | tup h1 h2 => exact ⟨_, _, rfl, h1, h2⟩
theorem dp_dict {K : PySem.W.Frag} {G : Hp} {v : V} {ds : List (PyData × PyData)} (h : Dp K G v (.dict ds)) : False := by cases h
theorem t_tB {K : PySem.W.Frag} : ∀ σ H Q, tMT K (mBool m) σ H Q → tB (tM K m) σ H Q := fun σ H Q h => by
  obtain ⟨G, n, b, e, r, q, k⟩ := h
  obtain ⟨d, hd, q⟩ := Option.bind_eq_some_iff.mp q
  cases asB_eq q
  refine ⟨G, n, _, e, r, hd, fun v H1 G1 g1 d1 => ?_⟩
  cases dp_bool d1
  exact ⟨b, rfl, k H1 G1 g1⟩
/-- a comparison as a test -/
theorem t_tTest {K : PySem.W.Frag} {t : TE} (i : ∀ σ H Q, tM K m σ H Q → t σ H Q) : ∀ σ H Q, tMT K (mBool m) σ H Q → tTest t σ H Q := fun σ H Q h => by
  obtain ⟨G, n, b, e, r, q, k⟩ := h
  obtain ⟨d, hd, q⟩ := Option.bind_eq_some_iff.mp q
  cases asB_eq q
  refine i σ H _ ⟨G, n, _, e, r, hd, fun v H1 G1 g1 d1 => ?_⟩
  cases dp_bool d1
  exact ⟨b, rfl, k H1 G1 g1⟩
theorem pb_cmp {op : CmpOp} {g : PyData → PyData → Option PyData} (ho : OpD X (compareOp op) g) (ha : PV X a ma) (hb : PV X b mb) (hm : behindInMarks op b = false) : PB X (.Compare a [op] [b] pos) (mBool (mBin g ma mb)) := PT.mono (pt_cmpR ho ha hb hm) (t_tTest t_bin)
theorem pb_val (ha : PV X a m) (he : ∀ whole, isTrue a X.env whole = (do let v ← whole; standAt a.pos; holding [v] (truthy v)) := by intro _; rfl) : PB X a (mBool m) := PT.mono (pt_val ha he) t_tB
end
end VE
set_option Elab.async false
set_option linter.all false
set_option maxRecDepth 100000
namespace VE
noncomputable section
open PySem PySem.Spec L2 Evl
/-! ### a result that is a scalar, or a new object -/
section
variable {K : PySem.W.Frag}
theorem fin_v {G H : Hp} {Q : VK} {v : V} {r : PyData} (e : Ex G H) (d : Dp K G v r) (k : ∀ v H' G', Gr G H G' H' → Dp K G' v r → Q v H') : Q v H := k v H G (Gr.refl e) d
theorem fin_l {G H : Hp} {Q : VK} {vs : List V} {rs : List PyData} (e : Ex G H) (d : DpAll K G vs rs) (k : ∀ v H' G', Gr G H G' H' → Dp K G' v (.list rs) → Q v H') : ∀ p, H p = none → Q (.ref p) (upd H p (.lst vs)) := fun p hp =>
  k (.ref p) _ _ (Gr.new (o := .lst vs) e hp) (.lst (SqL.of upd_same) (dpa_ex (Ex.new (fresh_back e hp)) d))
theorem fin_t {G H : Hp} {Q : VK} {vs : List V} {rs : List PyData} (e : Ex G H) (d : DpAll K G vs rs) (k : ∀ v H' G', Gr G H G' H' → Dp K G' v (.tuple rs) → Q v H') : ∀ p, H p = none → Q (.ref p) (upd H p (.tup vs)) := fun p hp =>
  k (.ref p) _ _ (Gr.new (o := .tup vs) e hp) (.tup (SqT.of upd_same) (dpa_ex (Ex.new (fresh_back e hp)) d))
end
/-! ### what the operators make of data -/
def strRep (x : Str) (n : Nat) : Str := ⟨(List.replicate n x.cps).foldl (· ++ ·) #[]⟩
def vAdd : PyData → PyData → Option PyData
  | .int i, .int j => some (.int (i + j))
  | .str x, .str y => @ite _ (x.length + y.length ≤ sizeLine) (Classical.propDecidable _) (some (.str (x ++ y))) none
  | .list xs, .list ys => @ite _ (xs.length + ys.length ≤ sizeLine) (Classical.propDecidable _) (some (.list (xs ++ ys))) none
  | .tuple xs, .tuple ys => @ite _ (xs.length + ys.length ≤ sizeLine) (Classical.propDecidable _) (some (.tuple (xs ++ ys))) none
  | _, _ => none
def vSub : PyData → PyData → Option PyData
  | .int i, .int j => some (.int (i - j))
  | _, _ => none
def CM (i j : Int) : Prop := CMul i j ∨ CMulX i j
instance {i j : Int} : Decidable (CM i j) := by unfold CM CMul CMulX; infer_instance
/-- ints alone -/
def vMulI : PyData → PyData → Option PyData
  | .int i, .int j => @ite _ (CM i j) (Classical.propDecidable _) (some (.int (i * j))) none
  | _, _ => none
/-- a text some times -/
def vRepS : PyData → PyData → Option PyData
  | .str x, .int n => @ite _ (0 ≤ n ∧ n ≤ 1000000 ∧ x.length * n.toNat ≤ 1000000) (Classical.propDecidable _) (some (.str (strRep x n.toNat))) none
  | _, _ => none
def vDiv : PyData → PyData → Option PyData
  | .int i, .int j => @ite _ (0 < j ∧ j.natAbs.log2 < 9000) (Classical.propDecidable _) (some (.int (i / j))) none
  | _, _ => none
def vMod : PyData → PyData → Option PyData
  | .int i, .int j => if 0 < j then some (.int (i % j)) else none
  | _, _ => none
def vPow : PyData → PyData → Option PyData
  | .int i, .int j => @ite _ (0 ≤ j ∧ j ≤ 1000000 ∧ i.natAbs < 2 ^ 64) (Classical.propDecidable _) (some (.int (i ^ j.toNat))) none
  | _, _ => none
def vShl : PyData → PyData → Option PyData
  | .int i, .int j => @ite _ (0 ≤ j ∧ (Builtin.Int.intBits i : Int) + j ≤ 2 ^ 27) (Classical.propDecidable _) (some (.int (i * 2 ^ j.toNat))) none
  | _, _ => none
def vShr : PyData → PyData → Option PyData
  | .int i, .int j => if 0 ≤ j then some (.int (i / 2 ^ j.toNat)) else none
  | _, _ => none
def vAnd : PyData → PyData → Option PyData
  | .int i, .int j => some (.int (Builtin.bitAnd i j))
  | _, _ => none
def vEqB : PyData → PyData → Option Bool
  | .int i, .int j => some (decide (i = j))
  | .str i, .str j => some (decide (i = j))
  | .bool i, .bool j => some (decide (i = j))
  | .none, .none => some true
  | .none, .int _ => some false | .none, .bool _ => some false | .none, .str _ => some false
  | .int _, .none => some false | .bool _, .none => some false | .str _, .none => some false
  | .int _, .str _ => some false | .str _, .int _ => some false | .bool _, .str _ => some false | .str _, .bool _ => some false
  | d, e => if SeqAt.shaped d = true ∧ SeqAt.shaped e = true then some (PyData.eqv d e) else none
def vEq (d e : PyData) : Option PyData := (vEqB d e).map .bool
def vNe (d e : PyData) : Option PyData := (vEqB d e).map fun b => .bool (!b)
def vLt : PyData → PyData → Option PyData
  | .int i, .int j => some (.bool (decide (i < j)))
  | .str i, .str j => some (.bool (decide (i.cps.toList < j.cps.toList)))
  | _, _ => none
def vLe : PyData → PyData → Option PyData
  | .int i, .int j => some (.bool (decide (i ≤ j)))
  | _, _ => none
def vGt : PyData → PyData → Option PyData
  | .int i, .int j => some (.bool (decide (j < i)))
  | _, _ => none
def vGe : PyData → PyData → Option PyData
  | .int i, .int j => some (.bool (decide (j ≤ i)))
  | _, _ => none
/-- x is None (no other `is`) -/
def isNonD : PyData → Bool
  | .none => true
  | _ => false
def vIs : PyData → PyData → Option PyData
  | d, .none => some (.bool (isNonD d))
  | .bool a, .bool b => some (.bool (decide (a = b)))
  | _, _ => none
def vIsNot : PyData → PyData → Option PyData
  | d, .none => some (.bool (!isNonD d))
  | .bool a, .bool b => some (.bool (!decide (a = b)))
  | _, _ => none
/-- flat data: what `in` over a list may be asked of -/
def flatD : PyData → Bool
  | .none | .bool _ | .int _ | .str _ => true
  | _ => false
def vInB : PyData → PyData → Option Bool
  | .str x, .str y => match x.cps.toList with
    | [c] => some (decide (c ∈ y.cps.toList))
    | _ => some (!(Builtin.Str.occurrences y x 0 y.length 1).isEmpty)
  | d, .list xs => if SeqAt.shaped d = true ∧ SeqAt.shaped (.list xs) = true then some (xs.any fun z => PyData.eqv z d) else none
  | _, _ => none
def vIn (d e : PyData) : Option PyData := (vInB d e).map .bool
def vNotIn (d e : PyData) : Option PyData := (vInB d e).map fun b => .bool (!b)
section
variable {X : Cx}
/-- list + list, whatever the lists are -/
theorem op_catS : OpR X (binaryOp .Add) (fun x y H Q => ∃ l b xs zs, x = .ref l ∧ y = .ref b ∧ SqL X.K H l xs ∧ SqL X.K H b zs ∧ xs.length + zs.length ≤ sizeLine ∧ ∀ p, H p = none → Q (.ref p) (upd H p (.lst (xs ++ zs)))) := by
  intro pins s σ H x y v u Q I rx ry h
  obtain ⟨l, b, xs, zs, rfl, rfl, hH, hB, hz, q⟩ := h
  cases rx
  cases ry
  obtain ⟨its, r, ⟨⟨cls, dd, data, sl⟩, n, ho, hc, hdd, hd⟩, z⟩ := I.list hH
  obtain ⟨its2, r2, ⟨⟨cls2, dd2, data2, sl2⟩, n2, ho2, hc2, hdd2, hd2⟩, z2⟩ := I.list hB
  simp only at hc hd hc2 hd2 hdd hdd2
  subst hc hd hc2 hd2 hdd hdd2
  have hl := r.length
  have hl2 := r2.length
  have e : its.toArray ++ its2.toArray = (its ++ its2).toArray := by simp
  refine PySem.concat_meets ⟨_, ho, rfl⟩ ⟨_, ho2, rfl⟩ noFill_list_add seq_list_add PySem.F.slot_list_add PySem.F.entry_list_add (PySem.F.args_list_add_2 _ _) (PyProof.Rows.list_addW l b its.toArray its2.toArray n n2 none none sl sl2 (by simp only [List.size_toArray]; omega)) ⟨ho, ho2, ?_⟩
  rw [e]
  exact ⟨.ref _, _, I.lnew (t' := s.toks) (r.append r2) (by rw [List.length_append]; omega), rfl, q _ I.fresh⟩
theorem od_add : OpD X (binaryOp .Add) vAdd := OpR.mono (OpR.or op_add (OpR.or op_add_str (OpR.or op_catS op_catA))) fun x y H Q h => by
  obtain ⟨G, d, e, r, g, d1, d2, q, k⟩ := h
  unfold vAdd at q
  split at q
  · cases dp_int d1; cases dp_int d2; cases q
    exact .inl ⟨_, _, rfl, rfl, fin_v g (.int _) k⟩
  · cases dp_str d1; cases dp_str d2
    split at q
    · rename_i hz
      cases q
      exact .inr (.inl ⟨_, _, rfl, rfl, hz, fin_v g (.str _) k⟩)
    · cases q
  · obtain ⟨a, vs, rfl, h1, a1⟩ := dp_lst d1
    obtain ⟨b, ws, rfl, h2, a2⟩ := dp_lst d2
    split at q
    · rename_i hz
      cases q
      exact .inr (.inr (.inl ⟨a, b, vs, ws, rfl, rfl, ex_l g h1, ex_l g h2, by rw [dpa_len a1, dpa_len a2]; exact hz, fin_l g (dpa_app a1 a2) k⟩))
    · cases q
  · obtain ⟨a, vs, rfl, h1, a1⟩ := dp_tup d1
    obtain ⟨b, ws, rfl, h2, a2⟩ := dp_tup d2
    split at q
    · rename_i hz
      cases q
      refine .inr (.inr (.inr ⟨a, b, vs, ws, rfl, rfl, ex_t g h1, ex_t g h2, by rw [dpa_len a1, dpa_len a2]; exact hz, fun z => ?_, fun _ z => ?_, fun _ _ => fin_t g (dpa_app a1 a2) k⟩))
      · subst z
        cases a1
        exact fin_v g (.tup h2 a2) k
      · subst z
        cases a2
        rw [List.append_nil] at k
        exact fin_v g (.tup h1 a1) k
    · cases q
  · cases q
theorem oi0 {f : Value → Value → Sem Value} {g : PyData → PyData → Option PyData} {r : Int → Int → V} {r' : Int → Int → PyData} (h : OpR X f (rI0 r)) (hg : ∀ d e z, g d e = some z → ∃ i j, d = .int i ∧ e = .int j ∧ z = r' i j) (hr : ∀ i j G, Dp X.K G (r i j) (r' i j)) : OpD X f g := OpR.mono h fun x y H Q q => by
  obtain ⟨G, d, e, z, e1, d1, d2, q, k⟩ := q
  obtain ⟨i, j, rfl, rfl, rfl⟩ := hg d e z q
  cases dp_int d1; cases dp_int d2
  exact ⟨i, j, rfl, rfl, fin_v e1 (hr i j G) k⟩
theorem oi1 {f : Value → Value → Sem Value} {g : PyData → PyData → Option PyData} {C : Int → Int → Prop} {r : Int → Int → V} {r' : Int → Int → PyData} (h : OpR X f (rI C r)) (hg : ∀ d e z, g d e = some z → ∃ i j, d = .int i ∧ e = .int j ∧ C i j ∧ z = r' i j) (hr : ∀ i j G, Dp X.K G (r i j) (r' i j)) : OpD X f g := OpR.mono h fun x y H Q q => by
  obtain ⟨G, d, e, z, e1, d1, d2, q, k⟩ := q
  obtain ⟨i, j, rfl, rfl, c, rfl⟩ := hg d e z q
  cases dp_int d1; cases dp_int d2
  exact ⟨i, j, rfl, rfl, c, fin_v e1 (hr i j G) k⟩
theorem od_sub : OpD X (binaryOp .Sub) vSub := oi0 op_sub (fun d e z h => by unfold vSub at h; split at h <;> cases h; exact ⟨_, _, rfl, rfl, rfl⟩) fun _ _ _ => .int _
theorem op_mulC : OpR X (binaryOp .Mult) (rI CM fun i j => .int (i * j)) := OpR.mono (OpR.or op_mul op_mulX) fun x y H Q ⟨i, j, h1, h2, c, q⟩ => c.elim (fun c => .inl ⟨i, j, h1, h2, c, q⟩) fun c => .inr ⟨i, j, h1, h2, c, q⟩
theorem od_mulI : OpD X (binaryOp .Mult) vMulI := oi1 op_mulC (fun d e z h => by
  unfold vMulI at h
  split at h
  · split at h
    · rename_i c
      cases h
      exact ⟨_, _, rfl, rfl, c, rfl⟩
    · cases h
  · cases h) fun _ _ _ => .int _
theorem strRep_zero (x : Str) : strRep x 0 = Str.empty := rfl
theorem strRep_one (x : Str) : strRep x 1 = x := by
  unfold strRep
  simp
theorem foldl_empty (n : Nat) (a : Array Nat) : (List.replicate n (#[] : Array Nat)).foldl (· ++ ·) a = a := by
  induction n generalizing a with
  | zero => rfl
  | succ n ih => rw [List.replicate_succ, List.foldl_cons]; simpa using ih a
theorem od_repS : OpD X (binaryOp .Mult) vRepS := by
  intro pins s σ H x y v u Q I rx ry q
  obtain ⟨G, d, e, z, g, d1, d2, q, k⟩ := q
  unfold vRepS at q
  split at q
  · rename_i x' n
    split at q
    · rename_i hn
      obtain ⟨h0, h1, h2⟩ := hn
      cases q
      cases dp_str d1; cases dp_int d2
      obtain ⟨t, rfl⟩ := rx
      obtain ⟨t', rfl⟩ := ry
      have hx : x'.length ≤ 1000000 ∨ n < 1 := by
        by_cases hn0 : n < 1
        · exact .inr hn0
        · left
          have : 1 ≤ n.toNat := by omega
          exact Nat.le_trans (Nat.le_mul_of_pos_right _ this) h2
      refine PySem.P.mul_str (by simp only [Bool.or_eq_false_iff, decide_eq_false_iff_not]; omega) (fun hn1 hc => ?_) (fun hn1 hc => ?_) ?_
      · have hx := hx.resolve_right hn1
        have h3 : (x'.length : Int) * n ≤ 1000000 := by
          have e1 : ((x'.length * n.toNat : Nat) : Int) = (x'.length : Int) * n := by
            rw [Int.natCast_mul, Int.toNat_of_nonneg h0]
          omega
        have h4 : (x'.length : Int) ≤ (2 ^ 63 - 1) / n := (Int.le_ediv_iff_mul_le (by omega)).mpr (by omega)
        omega
      · unfold Builtin.Str.tooLong
        simp only [decide_eq_false_iff_not]
        have : sizeLine = 16777216 := sizeLine_eq
        omega
      · split
        · rename_i hn1
          have e0 : n.toNat = 0 := by omega
          rw [e0] at k
          exact ⟨by decide, .str _, H, I.tok _, ⟨_, rfl⟩, fin_v g (.str _) k⟩
        · split
          · rename_i hc
            simp only [Bool.or_eq_true, beq_iff_eq] at hc
            have e1 : strRep x' n.toNat = x' := by
              rcases hc with hc | hc
              · rw [hc]
                exact strRep_one x'
              · have hx0 : x'.cps = #[] := Array.eq_empty_of_size_eq_zero hc
                unfold strRep
                rw [hx0, foldl_empty]
                cases x'
                simp only at hx0
                rw [hx0]
            rw [e1] at k
            exact ⟨.str _, H, I, ⟨_, rfl⟩, fin_v g (.str _) k⟩
          · rename_i hn1 hc
            have hlen : (strRep x' n.toNat).length ≤ sizeLine := by
              have : sizeLine = 16777216 := sizeLine_eq
              have e2 : ∀ (m : Nat) (a : Array Nat), ((List.replicate m x'.cps).foldl (· ++ ·) a).size = a.size + m * x'.cps.size := by
                intro m
                induction m with
                | zero => intro a; simp
                | succ m ih =>
                  intro a
                  rw [List.replicate_succ, List.foldl_cons, ih, Array.size_append, Nat.add_mul]
                  omega
              show ((List.replicate n.toNat x'.cps).foldl (· ++ ·) #[]).size ≤ sizeLine
              rw [e2]
              have h5 : x'.cps.size * n.toNat ≤ 1000000 := h2
              have h6 := Nat.mul_comm n.toNat x'.cps.size
              simp only [Array.size_empty]
              omega
            exact ⟨hlen, .str _, H, I.tok _, ⟨_, rfl⟩, fin_v g (.str _) k⟩
    · cases q
  · cases q
end
end
end VE
namespace VL
open PySem PySem.Spec L2 PySem.SeqAt PyProof.Rows
theorem list_mulW (l : Addr) (items : Array Value) (n : Nat) (x : Int) (u : Tok) (dd : Option Addr) (sl : Array (Option Value)) (hc0 : ¬(!Builtin.List.listFitsIndex x) = true) (hc1 : ¬items.size * x.toNat > (2 ^ 63 - 1) / 8) (hc2 : ¬Builtin.List.listTooLong (items.size * x.toNat) = true) :
    Meets (Builtin.«list.__mul__» ⟨[.ref l, .int x u], []⟩) (fun _ R s => s.heap.get? l = some { cls := .type "list", dict := dd, data := .seq items n, slots := sl } ∧ R (.ok (.ret (Value.ref s.heap.objs.size))) { s with heap := s.heap.push { cls := Value.type "list", data := Data.seq (List.foldl (fun x1 x2 => x1 ++ x2) #[] (List.replicate (if items.isEmpty = true then 0 else x.toNat) items)) }, toks := s.toks }) :=
  .of_wp fun prog w A R s h => by
    obtain ⟨hp, g, d, tk, os⟩ := s; obtain ⟨hl, h⟩ := h
    have hsz := AutoListH.joined_fits hc2
    wp_walk using PySem.AutoSeq1.wpAny_loadPart' hl; refine wpAny_ite_false (decide_eq_false (Nat.not_lt.mpr hsz)) ?_; wp_walk; exact ⟨_, rfl, h⟩
theorem int_rmul_listW (a : Int) (t : Tok) (l : Addr) (items : Array Value) (n : Nat) (dd : Option Addr) (sl : Array (Option Value)) :
    Meets (Builtin.«int.__rmul__» ⟨[.int a t, .ref l], []⟩) (fun _ R s => s.heap.get? l = some { cls := .type "list", dict := dd, data := .seq items n, slots := sl } ∧ R (.ok (.ret Value.notImplemented)) s) :=
  .of_wp fun prog w A R s h => by obtain ⟨hp, g, d, tk, os⟩ := s; obtain ⟨hl, h⟩ := h; wp_walk using PySem.AutoSeq1.wpAny_loadPart' hl; exact ⟨_, rfl, h⟩
end VL
namespace VE
noncomputable section
open PySem PySem.Spec L2 Evl
variable {X : Cx}
theorem op_repS : OpR X (binaryOp .Mult) (fun x y H Q => ∃ l k xs, x = .ref l ∧ y = .int k ∧ SqL X.K H l xs ∧ -(2 ^ 63) ≤ k ∧ k < 2 ^ 63 ∧ xs.length * k.toNat ≤ sizeLine ∧ ∀ p, H p = none → Q (.ref p) (upd H p (.lst (List.replicate k.toNat xs).flatten))) := by
  intro pins s σ H x y v u Q I rx ry h
  obtain ⟨l, k, xs, rfl, rfl, hH, h1, h2, hz, q⟩ := h
  cases rx
  obtain ⟨t, rfl⟩ := ry
  obtain ⟨its, r, ⟨⟨cls, dd, data, sl⟩, n, ho, hc, hdd, hd⟩, z⟩ := I.list hH
  simp only at hc hd hdd
  subst hc hd hdd
  have hl := r.length
  have hlen : its.toArray.size * k.toNat ≤ sizeLine := by rw [List.size_toArray, ← hl]; exact hz
  have hcap : ¬ its.toArray.size * k.toNat > (2 ^ 63 - 1) / 8 := by
    have : (sizeLine : Nat) ≤ (2 ^ 63 - 1) / 8 := by decide
    omega
  have hfit : ¬ (!Builtin.List.listFitsIndex k) = true := by
    rw [fitsIndex_both h1 h2]
    exact Bool.false_ne_true
  have hlong : ¬ Builtin.List.listTooLong (its.toArray.size * k.toNat) = true := by
    rw [notLongL hlen]
    exact Bool.false_ne_true
  have hnew : List.foldl (fun x1 x2 => x1 ++ x2) #[] (List.replicate (if its.toArray.isEmpty = true then 0 else k.toNat) its.toArray) = (List.replicate k.toNat its).flatten.toArray := by
    have f0 : ∀ m : Nat, List.foldl (fun x1 x2 => x1 ++ x2) #[] (List.replicate m its.toArray) = (List.replicate m its).flatten.toArray := fun m => by
      have := foldl_rep its m []
      rw [List.nil_append] at this
      exact this
    rw [f0]
    cases its with
    | nil => simp
    | cons a r' => rw [if_neg (by simp)]
  refine wpAny_binaryOp_repeat_ref (T := "list") (U := "int") (by decide) ⟨_, ho, rfl⟩ (fun s' => typeIs_int s' k t) noFill_list_mul PySem.F.fills_int_mul PySem.F.slot_int_rmul repeat_list PySem.F.slot_int_index.lookup
    (call_meets PySem.F.slot_int_rmul (typeIs_int s k t) PySem.F.entry_int_rmul (PySem.F.args_int_rmul_2 _ _) (VL.int_rmul_listW k t l its.toArray n none sl)
      ⟨ho, rfl, ⟨_, ho, rfl⟩, call_meets PySem.F.slot_list_mul ⟨_, ho, rfl⟩ PySem.F.entry_list_mul (PySem.F.args_list_mul_2 _ _) (VL.list_mulW l its.toArray n k t none sl hfit hcap hlong) ⟨ho, ?_⟩⟩)
  rw [hnew]
  exact ⟨.ref _, _, I.lnew (t' := s.toks) (r.rep k.toNat) (by rw [PyProof.Rows.lm_len_rep_flat, Nat.mul_comm]; exact hz), rfl, q _ I.fresh⟩
def repD (xs : List PyData) (n : Nat) : List PyData := (List.replicate n xs).flatten
theorem dpa_rep {K : PySem.W.Frag} {G : Hp} {vs : List V} {ds : List PyData} (a : DpAll K G vs ds) : ∀ n, DpAll K G (List.replicate n vs).flatten (repD ds n)
  | 0 => .nil
  | n + 1 => by
    unfold repD
    rw [List.replicate_succ, List.replicate_succ, List.flatten_cons, List.flatten_cons]
    exact dpa_app a (dpa_rep a n)
def vRepL : PyData → PyData → Option PyData
  | .list xs, .int k => @ite _ (-(2 ^ 62) ≤ k ∧ k < 2 ^ 62 ∧ xs.length * k.toNat ≤ 16000000) (Classical.propDecidable _) (some (.list (repD xs k.toNat))) none
  | _, _ => none
theorem od_repL : OpD X (binaryOp .Mult) vRepL := OpR.mono op_repS fun x y H Q h => by
  obtain ⟨G, d, e, r, g, d1, d2, q, k⟩ := h
  unfold vRepL at q
  split at q
  · cases dp_int d2
    obtain ⟨a, vs, rfl, h1, a1⟩ := dp_lst d1
    split at q
    · rename_i hz
      cases q
      have : sizeLine = 16777216 := sizeLine_eq
      exact ⟨a, _, vs, rfl, rfl, ex_l g h1, by omega, by omega, by rw [dpa_len a1]; omega, fin_l g (dpa_rep a1 _) k⟩
    · cases q
  · cases q
def vMul : PyData → PyData → Option PyData
  | .str x, y => vRepS (.str x) y
  | .list x, y => vRepL (.list x) y
  | x, y => vMulI x y
theorem od_mul : OpD X (binaryOp .Mult) vMul := OpR.mono (OpR.or od_repS (OpR.or od_repL od_mulI)) fun x y H Q h => by
  obtain ⟨G, d, e, z, g, d1, d2, q, k⟩ := h
  unfold vMul at q
  split at q
  · exact .inl ⟨G, _, e, z, g, d1, d2, q, k⟩
  · exact .inr (.inl ⟨G, _, e, z, g, d1, d2, q, k⟩)
  · exact .inr (.inr ⟨G, d, e, z, g, d1, d2, q, k⟩)
theorem od_div : OpD X (binaryOp .FloorDiv) vDiv := oi1 op_fdivW (fun d e z h => by
  unfold vDiv at h
  split at h
  · split at h
    · rename_i c
      cases h
      exact ⟨_, _, rfl, rfl, c, rfl⟩
    · cases h
  · cases h) fun _ _ _ => .int _
theorem od_mod : OpD X (binaryOp .Mod) vMod := oi1 op_mod (fun d e z h => by
  unfold vMod at h
  split at h
  · split at h
    · rename_i c
      cases h
      exact ⟨_, _, rfl, rfl, c, rfl⟩
    · cases h
  · cases h) fun _ _ _ => .int _
theorem od_pow : OpD X (binaryOp .Pow) vPow := oi1 op_pow (fun d e z h => by
  unfold vPow at h
  split at h
  · split at h
    · rename_i c
      cases h
      exact ⟨_, _, rfl, rfl, c, rfl⟩
    · cases h
  · cases h) fun _ _ _ => .int _
theorem od_shl : OpD X (binaryOp .LShift) vShl := oi1 op_shlW (fun d e z h => by
  unfold vShl at h
  split at h
  · split at h
    · rename_i c
      cases h
      exact ⟨_, _, rfl, rfl, c, rfl⟩
    · cases h
  · cases h) fun _ _ _ => .int _
theorem od_shr : OpD X (binaryOp .RShift) vShr := oi1 op_shr (fun d e z h => by
  unfold vShr at h
  split at h
  · split at h
    · rename_i c
      cases h
      exact ⟨_, _, rfl, rfl, c, rfl⟩
    · cases h
  · cases h) fun _ _ _ => .int _
theorem od_and : OpD X (binaryOp .BitAnd) vAnd := oi0 op_and (fun d e z h => by unfold vAnd at h; split at h <;> cases h; exact ⟨_, _, rfl, rfl, rfl⟩) fun _ _ _ => .int _
theorem dp_scal {K : PySem.W.Frag} {G : Hp} {x y : V} {d e : PyData} {b : Bool} (d1 : Dp K G x d) (d2 : Dp K G y e) (h : vEqB d e = some b) : (scal x y = true ∧ decide (x = y) = b) ∨ (SeqAt.shaped d = true ∧ SeqAt.shaped e = true ∧ PyData.eqv d e = b) := by
  unfold vEqB at h
  split at h
  all_goals first
    | (split at h
       · rename_i c
         cases h
         exact .inr ⟨c.1, c.2, rfl⟩
       · cases h)
    | (cases d1; cases d2; cases h
       refine .inl ⟨rfl, ?_⟩
       simp)
theorem od_eq (hu : X.A.units + 64 < cLine) : OpD X (compareOp .Eq) vEq := OpR.mono (OpR.or op_eq (op_eqD hu)) fun x y H Q h => by
  obtain ⟨G, d, e, z, g, d1, d2, q, k⟩ := h
  obtain ⟨b, hb, rfl⟩ := Option.map_eq_some_iff.mp q
  rcases dp_scal d1 d2 hb with ⟨h1, h2⟩ | ⟨h1, h2, h3⟩
  · exact .inl ⟨h1, by rw [h2]; exact fin_v g (.bl _) k⟩
  · exact .inr ⟨d, e, dp_ex g d1, dp_ex g d2, h1, h2, by rw [h3]; exact fin_v g (.bl _) k⟩
theorem od_ne (hu : X.A.units + 64 < cLine) : OpD X (compareOp .NotEq) vNe := OpR.mono (OpR.or op_ne (op_neD hu)) fun x y H Q h => by
  obtain ⟨G, d, e, z, g, d1, d2, q, k⟩ := h
  obtain ⟨b, hb, rfl⟩ := Option.map_eq_some_iff.mp q
  rcases dp_scal d1 d2 hb with ⟨h1, h2⟩ | ⟨h1, h2, h3⟩
  · exact .inl ⟨h1, by rw [h2]; exact fin_v g (.bl _) k⟩
  · exact .inr ⟨d, e, dp_ex g d1, dp_ex g d2, h1, h2, by rw [h3]; exact fin_v g (.bl _) k⟩
theorem od_lt : OpD X (compareOp .Lt) vLt := OpR.mono (OpR.or op_lt op_lt_str) fun x y H Q h => by
  obtain ⟨G, d, e, z, g, d1, d2, q, k⟩ := h
  unfold vLt at q
  split at q
  · cases dp_int d1; cases dp_int d2; cases q
    exact .inl ⟨_, _, rfl, rfl, fin_v g (.bl _) k⟩
  · cases dp_str d1; cases dp_str d2; cases q
    exact .inr ⟨_, _, rfl, rfl, fin_v g (.bl _) k⟩
  · cases q
theorem od_le : OpD X (compareOp .LtE) vLe := oi0 op_le (fun d e z h => by unfold vLe at h; split at h <;> cases h; exact ⟨_, _, rfl, rfl, rfl⟩) fun _ _ _ => .bl _
theorem od_gt : OpD X (compareOp .Gt) vGt := oi0 op_gt (fun d e z h => by unfold vGt at h; split at h <;> cases h; exact ⟨_, _, rfl, rfl, rfl⟩) fun _ _ _ => .bl _
theorem od_ge : OpD X (compareOp .GtE) vGe := oi0 op_ge (fun d e z h => by unfold vGe at h; split at h <;> cases h; exact ⟨_, _, rfl, rfl, rfl⟩) fun _ _ _ => .bl _
theorem isNon_eq {K : PySem.W.Frag} {G : Hp} {v : V} {d : PyData} (h : Dp K G v d) : decide (v = .non) = isNonD d := by
  cases h <;> simp [isNonD]
theorem od_is : OpD X (compareOp .Is) vIs := OpR.mono (OpR.or op_isN op_isBl) fun x y H Q h => by
  obtain ⟨G, d, e, z, g, d1, d2, q, k⟩ := h
  unfold vIs at q
  split at q
  · cases dp_non d2; cases q
    exact .inl ⟨rfl, by rw [isNon_eq d1]; exact fin_v g (.bl _) k⟩
  · cases dp_bool d1; cases dp_bool d2; cases q
    exact .inr ⟨_, _, rfl, rfl, fin_v g (.bl _) k⟩
  · cases q
theorem od_isNot : OpD X (compareOp .IsNot) vIsNot := OpR.mono (OpR.or op_notN op_notBl) fun x y H Q h => by
  obtain ⟨G, d, e, z, g, d1, d2, q, k⟩ := h
  unfold vIsNot at q
  split at q
  · cases dp_non d2; cases q
    exact .inl ⟨rfl, by rw [isNon_eq d1]; exact fin_v g (.bl _) k⟩
  · cases dp_bool d1; cases dp_bool d2; cases q
    exact .inr ⟨_, _, rfl, rfl, fin_v g (.bl _) k⟩
  · cases q
theorem od_in (hu : X.A.units + 65 < cLine) : OpD X (compareOp .In) vIn := OpR.mono (OpR.or op_in_sign (OpR.or op_in_str (op_inD hu))) fun x y H Q h => by
  obtain ⟨G, d, e, z, g, d1, d2, q, k⟩ := h
  obtain ⟨b, hb, rfl⟩ := Option.map_eq_some_iff.mp q
  unfold vInB at hb
  split at hb
  · rename_i x' y'
    cases dp_str d1; cases dp_str d2
    split at hb
    · rename_i c hc
      cases hb
      refine .inl ⟨c, y', ?_, rfl, fin_v g (.bl _) k⟩
      have : x' = ⟨#[c]⟩ := by
        cases x'
        rename_i a
        simp only at hc
        have : a = #[c] := by
          rw [← Array.toList_inj]
          exact hc
        rw [this]
      rw [this]
    · cases hb
      exact .inr (.inl ⟨_, _, rfl, rfl, fin_v g (.bl _) k⟩)
  · split at hb
    · rename_i c
      cases hb
      exact .inr (.inr ⟨_, _, dp_ex g d1, dp_ex g d2, c.1, c.2, fin_v g (.bl _) k⟩)
    · cases hb
  · cases hb
theorem od_notIn (hu : X.A.units + 65 < cLine) : OpD X (compareOp .NotIn) vNotIn := OpR.mono (OpR.or op_notIn_sign (OpR.or op_notin_str (op_notInD hu))) fun x y H Q h => by
  obtain ⟨G, d, e, z, g, d1, d2, q, k⟩ := h
  obtain ⟨b, hb, rfl⟩ := Option.map_eq_some_iff.mp q
  unfold vInB at hb
  split at hb
  · rename_i x' y'
    cases dp_str d1; cases dp_str d2
    split at hb
    · rename_i c hc
      cases hb
      refine .inl ⟨c, y', ?_, rfl, fin_v g (.bl _) k⟩
      have : x' = ⟨#[c]⟩ := by
        cases x'
        rename_i a
        simp only at hc
        have : a = #[c] := by
          rw [← Array.toList_inj]
          exact hc
        rw [this]
      rw [this]
    · cases hb
      exact .inr (.inl ⟨_, _, rfl, rfl, fin_v g (.bl _) k⟩)
  · split at hb
    · rename_i c
      cases hb
      exact .inr (.inr ⟨_, _, dp_ex g d1, dp_ex g d2, c.1, c.2, fin_v g (.bl _) k⟩)
    · cases hb
  · cases hb
end
end VE
set_option Elab.async false
set_option linter.all false
set_option maxRecDepth 100000
namespace VE
noncomputable section
open PySem PySem.Spec L2 Evl
/-! ### truth -/
def truD : PyData → Option Bool
  | .none => some false
  | .bool b => some b
  | .int i => some (i != 0)
  | .str x => @ite _ (x.length ≤ sizeLine) (Classical.propDecidable _) (some ((x.length : Int) != 0)) none
  | .list xs => some (!xs.isEmpty)
  | .tuple xs => some (!xs.isEmpty)
  | .dict _ => none
theorem dpa_empty {K : PySem.W.Frag} {G : Hp} {vs : List V} {ds : List PyData} (a : DpAll K G vs ds) : (!vs.isEmpty) = !ds.isEmpty := by cases a <;> rfl
theorem dp_tru {K : PySem.W.Frag} {G H : Hp} {v : V} {d : PyData} {b : Bool} (e : Ex G H) (h : Dp K G v d) (q : truD d = some b) : TruV K v H b := by
  cases h with
  | non => cases q; rfl
  | bl b => cases q; rfl
  | int i => cases q; rfl
  | str x =>
    simp only [truD] at q
    split at q
    · rename_i hx
      cases q
      exact ⟨hx, rfl⟩
    · cases q
  | lst h a =>
    cases q
    exact .inl ⟨_, ex_l e h, (dpa_empty a).symm⟩
  | tup h a =>
    cases q
    exact .inr (.inl ⟨_, ex_t e h, (dpa_empty a).symm⟩)
section
variable {X : Cx} {e a b c : Expr} {pos : Pos} {m ma mb mc : M} {mt mu : MT} {rest : List Expr}
def mTru (m : M) : MT := fun n => (m n).bind truD
theorem pb_truth (ha : PV X a m) (he : ∀ whole, isTrue a X.env whole = (do let v ← whole; standAt a.pos; holding [v] (truthy v)) := by intro _; rfl) : PB X a (mTru m) := PT.mono (pt_truth ha he) fun σ H Q h => by
  obtain ⟨G, n, b, g, r, q, k⟩ := h
  obtain ⟨d, hd, q⟩ := Option.bind_eq_some_iff.mp q
  exact ⟨G, n, d, g, r, hd, fun v H1 G1 g1 d1 => ⟨b, dp_tru g1.s d1 q, k H1 G1 g1⟩⟩
def mNot (m : MT) : MT := fun n => (m n).map not
theorem pb_not (ha : PB X a mt) : PB X (.UnaryOp .Not a pos) (mNot mt) := PT.mono (pt_not ha) fun σ H Q h => by
  obtain ⟨G, n, b, g, r, q, k⟩ := h
  obtain ⟨d, hd, rfl⟩ := Option.map_eq_some_iff.mp q
  exact ⟨G, n, d, g, r, hd, fun H1 G1 g1 => k H1 G1 g1⟩
def mAnd (ma mb : MT) : MT := fun n => (ma n).bind fun a => if a = true then mb n else some false
def mOr (ma mb : MT) : MT := fun n => (ma n).bind fun a => if a = true then some true else mb n
abbrev PBW (X : Cx) (e : Expr) (m : MT) : Prop := PW X e (tMT X.K m)
theorem PW.mono {X : Cx} {e : Expr} {t t' : TT} (h : PW X e t) (i : ∀ σ H Q, t' σ H Q → t σ H Q) : PW X e t' := ⟨fun wh pins s σ H Q I q => h.run wh pins s σ H Q I (i σ H Q q)⟩
theorem pbw_and1 (ha : PB X a mt) : PBW X (.BoolOp .And [a] pos) mt := pw_and1 ha
theorem pbw_or1 (ha : PB X a mt) : PBW X (.BoolOp .Or [a] pos) mt := pw_or1 ha
theorem t_and {K : PySem.W.Frag} : ∀ σ H Q, tMT K (mAnd mt mu) σ H Q → tAnd (tMT K mt) (tMT K mu) σ H Q := fun σ H Q h => by
  obtain ⟨G, n, b, g, r, q, k⟩ := h
  obtain ⟨d, hd, q⟩ := Option.bind_eq_some_iff.mp q
  refine ⟨G, n, d, g, r, hd, fun H1 G1 g1 => ?_⟩
  cases d with
  | true => exact iteT ⟨G1, n, b, g1.s, r.mono g1.g, by simpa using q, fun H2 G2 g2 => k H2 G2 (g1.trans g2)⟩
  | false =>
    simp at q
    subst q
    exact iteF (k H1 G1 g1)
theorem t_or {K : PySem.W.Frag} : ∀ σ H Q, tMT K (mOr mt mu) σ H Q → tOr (tMT K mt) (tMT K mu) σ H Q := fun σ H Q h => by
  obtain ⟨G, n, b, g, r, q, k⟩ := h
  obtain ⟨d, hd, q⟩ := Option.bind_eq_some_iff.mp q
  refine ⟨G, n, d, g, r, hd, fun H1 G1 g1 => ?_⟩
  cases d with
  | false => exact iteF ⟨G1, n, b, g1.s, r.mono g1.g, by simpa using q, fun H2 G2 g2 => k H2 G2 (g1.trans g2)⟩
  | true =>
    simp at q
    subst q
    exact iteT (k H1 G1 g1)
theorem pbw_and (ha : PB X a mt) (hb : PBW X (.BoolOp .And (b :: rest) pos) mu) : PBW X (.BoolOp .And (a :: b :: rest) pos) (mAnd mt mu) := PW.mono (pw_and ha hb) t_and
theorem pbw_or (ha : PB X a mt) (hb : PBW X (.BoolOp .Or (b :: rest) pos) mu) : PBW X (.BoolOp .Or (a :: b :: rest) pos) (mOr mt mu) := PW.mono (pw_or ha hb) t_or
theorem pb_w (h : PBW X a mt) : PB X a mt := h.pt
/-! as values -/
def mAndV (ma mb : M) : M := fun n => (ma n).bind fun x => (truD x).bind fun k => if k = true then mb n else some x
def mOrV (ma mb : M) : M := fun n => (ma n).bind fun x => (truD x).bind fun k => if k = true then some x else mb n
def mNotV (m : M) : M := fun n => (m n).bind fun x => (truD x).map fun k => .bool (!k)
theorem pv_one {op : BoolOp} (ha : PV X a m) : PV X (.BoolOp op [a] pos) m := pe_one ha
theorem pv_and (ha : PV X a ma) (hb : PV X (.BoolOp .And (b :: rest) pos) mb) : PV X (.BoolOp .And (a :: b :: rest) pos) (mAndV ma mb) := PE.mono (pe_andT ha hb) fun σ H Q h => by
  obtain ⟨G, n, d, g, r, q, k⟩ := h
  obtain ⟨x, hx, q⟩ := Option.bind_eq_some_iff.mp q
  obtain ⟨c, hc, q⟩ := Option.bind_eq_some_iff.mp q
  refine ⟨G, n, x, g, r, hx, fun v H1 G1 g1 d1 => ⟨c, dp_tru g1.s d1 hc, ?_⟩⟩
  cases c with
  | true => exact iteT ⟨G1, n, d, g1.s, r.mono g1.g, by simpa using q, fun v H2 G2 g2 => k v H2 G2 (g1.trans g2)⟩
  | false =>
    simp at q
    subst q
    exact iteF (k v H1 G1 g1 d1)
theorem pv_or (ha : PV X a ma) (hb : PV X (.BoolOp .Or (b :: rest) pos) mb) : PV X (.BoolOp .Or (a :: b :: rest) pos) (mOrV ma mb) := PE.mono (pe_orT ha hb) fun σ H Q h => by
  obtain ⟨G, n, d, g, r, q, k⟩ := h
  obtain ⟨x, hx, q⟩ := Option.bind_eq_some_iff.mp q
  obtain ⟨c, hc, q⟩ := Option.bind_eq_some_iff.mp q
  refine ⟨G, n, x, g, r, hx, fun v H1 G1 g1 d1 => ⟨c, dp_tru g1.s d1 hc, ?_⟩⟩
  cases c with
  | false => exact iteF ⟨G1, n, d, g1.s, r.mono g1.g, by simpa using q, fun v H2 G2 g2 => k v H2 G2 (g1.trans g2)⟩
  | true =>
    simp at q
    subst q
    exact iteT (k v H1 G1 g1 d1)
theorem pv_not (ha : PV X a m) : PV X (.UnaryOp .Not a pos) (mNotV m) := PE.mono (pe_notT ha) fun σ H Q h => by
  obtain ⟨G, n, d, g, r, q, k⟩ := h
  obtain ⟨x, hx, q⟩ := Option.bind_eq_some_iff.mp q
  obtain ⟨c, hc, rfl⟩ := Option.map_eq_some_iff.mp q
  exact ⟨G, n, x, g, r, hx, fun v H1 G1 g1 d1 => ⟨c, dp_tru g1.s d1 hc, k _ H1 G1 g1 (.bl _)⟩⟩
def vNeg : PyData → Option PyData
  | .int i => some (.int (-i))
  | _ => none
def mUn (g : PyData → Option PyData) (m : M) : M := fun n => (m n).bind g
theorem pv_neg (ha : PV X a m) : PV X (.UnaryOp .USub a pos) (mUn vNeg m) := PE.mono (pe_un un_neg ha) fun σ H Q h => by
  obtain ⟨G, n, d, g, r, q, k⟩ := h
  obtain ⟨x, hx, q⟩ := Option.bind_eq_some_iff.mp q
  refine ⟨G, n, x, g, r, hx, fun v H1 G1 g1 d1 => ?_⟩
  unfold vNeg at q
  split at q
  · cases q
    cases dp_int d1
    exact ⟨_, rfl, k _ H1 G1 g1 (.int _)⟩
  · cases q
def mIf (mt : MT) (ma mb : M) : M := fun n => (mt n).bind fun c => if c = true then ma n else mb n
theorem pv_if (hc : PB X c mt) (ha : PV X a ma) (hb : PV X b mb) : PV X (.IfExp c a b pos) (mIf mt ma mb) := PE.mono (pe_ifExp hc ha hb) fun σ H Q h => by
  obtain ⟨G, n, d, g, r, q, k⟩ := h
  obtain ⟨x, hx, q⟩ := Option.bind_eq_some_iff.mp q
  refine ⟨G, n, x, g, r, hx, fun H1 G1 g1 => ?_⟩
  cases x with
  | true => exact iteT ⟨G1, n, d, g1.s, r.mono g1.g, by simpa using q, fun v H2 G2 g2 => k v H2 G2 (g1.trans g2)⟩
  | false => exact iteF ⟨G1, n, d, g1.s, r.mono g1.g, by simpa using q, fun v H2 G2 g2 => k v H2 G2 (g1.trans g2)⟩
/-- a op1 b op2 c -/
def mChain (g g' : PyData → PyData → Option PyData) (ma mb mc : M) : M := fun n => (ma n).bind fun x => (mb n).bind fun y => (g x y).bind fun z => (asB z).bind fun k => if k = true then (mc n).bind fun w => g' y w else some (.bool false)
theorem t_chain {K : PySem.W.Frag} {g g' : PyData → PyData → Option PyData} : ∀ σ H Q, tM K (mChain g g' ma mb mc) σ H Q → tChain (rD K g) (rD K g') (tM K ma) (tM K mb) (tM K mc) σ H Q := fun σ H Q h => by
  obtain ⟨G, n, d, e, r, q, k⟩ := h
  unfold mChain at q
  obtain ⟨x, hx, q⟩ := Option.bind_eq_some_iff.mp q
  obtain ⟨y, hy, q⟩ := Option.bind_eq_some_iff.mp q
  obtain ⟨z, hz, q⟩ := Option.bind_eq_some_iff.mp q
  obtain ⟨c, hc, q5⟩ := Option.bind_eq_some_iff.mp q
  cases asB_eq hc
  refine ⟨G, n, x, e, r, hx, fun v H1 G1 g1 d1 => ?_⟩
  refine ⟨G1, n, y, g1.s, r.mono g1.g, hy, fun w H2 G2 g2 d2 => ?_⟩
  refine ⟨G2, x, y, _, g2.s, dp_ex g2.g d1, d2, hz, fun u H3 G3 g3 d3 => ?_⟩
  cases dp_bool d3
  refine ⟨c, rfl, ?_⟩
  cases c with
  | true =>
    rw [if_pos rfl] at q5
    obtain ⟨w', hw, q5⟩ := Option.bind_eq_some_iff.mp q5
    refine iteT ⟨G3, n, w', g3.s, r.mono ((g1.trans g2).trans g3).g, hw, fun v' H4 G4 g4 d4 => ?_⟩
    exact ⟨G4, y, w', d, g4.s, dp_ex (g3.trans g4).g d2, d4, q5, fun z' H5 G5 g5 d5 => k z' H5 G5 ((((g1.trans g2).trans g3).trans g4).trans g5) d5⟩
  | false =>
    rw [if_neg Bool.false_ne_true] at q5
    cases q5
    exact iteF (k _ H3 G3 ((g1.trans g2).trans g3) (.bl _))
theorem pv_chain {op op' : CmpOp} {g g' : PyData → PyData → Option PyData} (ho : OpD X (compareOp op) g) (ho' : OpD X (compareOp op') g') (ha : PV X a ma) (hb : PV X b mb) (hc : PV X c mc)
    (hm : lastMarks [op, op'] [b, c] = false := by with_unfolding_all rfl) : PV X (.Compare a [op, op'] [b, c] pos) (mChain g g' ma mb mc) := PE.mono (pe_chain ho ho' ha hb hc hm) t_chain
theorem pb_chain {op op' : CmpOp} {g g' : PyData → PyData → Option PyData} (ho : OpD X (compareOp op) g) (ho' : OpD X (compareOp op') g') (ha : PV X a ma) (hb : PV X b mb) (hc : PV X c mc)
    (hm : lastMarks [op, op'] [b, c] = false := by with_unfolding_all rfl) : PB X (.Compare a [op, op'] [b, c] pos) (mBool (mChain g g' ma mb mc)) := PT.mono (pt_chain ho ho' ha hb hc hm) (t_tTest t_chain)
/-! ### items and slices -/
def vIx : PyData → PyData → Option PyData
  | .list xs, .int i => atI xs i
  | .tuple xs, .int i => atI xs i
  | .str z, .int i => @ite _ (z.length ≤ sizeLine) (Classical.propDecidable _) ((atI z.cps.toList i).map fun c => .str ⟨#[c]⟩) none
  | _, _ => none
theorem dpa_at {K : PySem.W.Frag} {G : Hp} {vs : List V} {ds : List PyData} {i : Int} {d : PyData} (a : DpAll K G vs ds) (h : atI ds i = some d) : ∃ v, atI vs i = some v ∧ Dp K G v d := by
  unfold atI at h ⊢
  rw [dpa_len a]
  obtain ⟨j, hj, h⟩ := Option.bind_eq_some_iff.mp h
  obtain ⟨v, hv, dv⟩ := dpa_get a h
  exact ⟨v, by rw [hj]; exact hv, dv⟩
theorem pv_ix (ha : PV X a ma) (hb : PV X b mb) (hs : PlainIx b := by exact fun _ _ => rfl) : PV X (.Subscript a b pos) (mBin vIx ma mb) := PE.mono (pe_ix ix_seq ha hb hs) fun σ H Q h => by
  obtain ⟨G, n, d, e, r, q, k⟩ := h
  unfold mBin at q
  obtain ⟨x, hx, q⟩ := Option.bind_eq_some_iff.mp q
  obtain ⟨y, hy, q⟩ := Option.bind_eq_some_iff.mp q
  refine ⟨G, n, x, e, r, hx, fun v H1 G1 g1 d1 => ?_⟩
  refine ⟨G1, n, y, g1.s, r.mono g1.g, hy, fun w H2 G2 g2 d2 => ?_⟩
  have gg := g1.trans g2
  unfold vIx at q
  split at q
  · obtain ⟨p, vs, rfl, h1, a1⟩ := dp_lst d1
    cases dp_int d2
    obtain ⟨u, hu, du⟩ := dpa_at a1 q
    exact .inl ⟨p, vs, _, u, rfl, rfl, ex_l (g2.g.trans g2.s) h1, hu, k u H2 G2 gg (dp_ex g2.g du)⟩
  · obtain ⟨p, vs, rfl, h1, a1⟩ := dp_tup d1
    cases dp_int d2
    obtain ⟨u, hu, du⟩ := dpa_at a1 q
    exact .inr (.inl ⟨p, vs, _, u, rfl, rfl, ex_t (g2.g.trans g2.s) h1, hu, k u H2 G2 gg (dp_ex g2.g du)⟩)
  · cases dp_str d1
    cases dp_int d2
    split at q
    · rename_i hz
      obtain ⟨u, hu, rfl⟩ := Option.map_eq_some_iff.mp q
      exact .inr (.inr ⟨_, _, u, rfl, rfl, hz, hu, k _ H2 G2 gg (.str _)⟩)
    · cases q
  · cases q
abbrev MO := En → Option (Option Int)
def tMO (K : PySem.W.Frag) (m : MO) : TO := fun σ H Q => ∃ G n b, Ex G H ∧ Vr K G σ n ∧ m n = some b ∧ ∀ H' G', Gr G H G' H' → Q b H'
abbrev POV (X : Cx) (e : Option Expr) (m : MO) : Prop := PO X e (tMO X.K m)
theorem PO.mono {X : Cx} {e : Option Expr} {t t' : TO} (h : PO X e t) (i : ∀ σ H Q, t' σ H Q → t σ H Q) : PO X e t' := ⟨fun pins s σ H Q I q => h.run pins s σ H Q I (i σ H Q q)⟩
def mON : MO := fun _ => some none
def asI : PyData → Option Int
  | .int i => some i
  | _ => none
theorem asI_eq {d : PyData} {b : Int} (h : asI d = some b) : d = .int b := by
  cases d <;> simp [asI] at h
  rw [h]
def mOS (m : M) : MO := fun n => (m n).bind fun x => (asI x).map some
theorem pov_none : POV X none mON := PO.mono po_none fun σ H Q h => by
  obtain ⟨G, n, d, e, r, q, k⟩ := h
  cases q
  exact k H G (Gr.refl e)
theorem pov_some (ha : PV X a m) : POV X (some a) (mOS m) := PO.mono (po_some ha) fun σ H Q h => by
  obtain ⟨G, n, d, e, r, q, k⟩ := h
  obtain ⟨x, hx, q⟩ := Option.bind_eq_some_iff.mp q
  obtain ⟨i, hi, rfl⟩ := Option.map_eq_some_iff.mp q
  cases asI_eq hi
  refine ⟨G, n, _, e, r, hx, fun v H1 G1 g1 d1 => ?_⟩
  cases dp_int d1
  exact ⟨i, rfl, k H1 G1 g1⟩
def cutD (xs : List PyData) (lo hi : Option Int) : List PyData := (xs.drop (HT.sIx xs.length 0 lo)).take (HT.sIx xs.length xs.length hi - HT.sIx xs.length 0 lo)
def vSl (d : PyData) (lo hi : Option Int) : Option PyData := match d with
  | .list xs => some (.list (cutD xs lo hi))
  | .tuple xs => some (.tuple (cutD xs lo hi))
  | .str z => @ite _ (z.length ≤ sizeLine) (Classical.propDecidable _) (some (.str (cutS z lo hi))) none
  | _ => none
def mSl (m : M) (ml mh : MO) : M := fun n => (m n).bind fun x => (ml n).bind fun l => (mh n).bind fun h => vSl x l h
theorem dpa_cut {K : PySem.W.Frag} {G : Hp} {vs : List V} {ds : List PyData} {lo hi : Option Int} (a : DpAll K G vs ds) : DpAll K G (cutV vs lo hi) (cutD ds lo hi) := by
  unfold cutV cutD
  rw [dpa_len a]
  exact dpa_take _ (dpa_drop _ a)
theorem pv_slice {lo hi : Option Expr} {ml mh : MO} {p2 : Pos} (ha : PV X a m) (hl : POV X lo ml) (hh : POV X hi mh) : PV X (.Subscript a (.Slice lo hi none p2) pos) (mSl m ml mh) := PE.mono (pe_slice (SlR.or sl_list (SlR.or sl_tupA sl_str)) ha hl hh) fun σ H Q h => by
  obtain ⟨G, n, d, e, r, q, k⟩ := h
  unfold mSl at q
  obtain ⟨x, hx, q⟩ := Option.bind_eq_some_iff.mp q
  obtain ⟨l, hl, q⟩ := Option.bind_eq_some_iff.mp q
  obtain ⟨u, hu, q⟩ := Option.bind_eq_some_iff.mp q
  refine ⟨G, n, x, e, r, hx, fun v H1 G1 g1 d1 => ?_⟩
  refine ⟨G1, n, l, g1.s, r.mono g1.g, hl, fun H2 G2 g2 => ?_⟩
  refine ⟨G2, n, u, g2.s, r.mono (g1.trans g2).g, hu, fun H3 G3 g3 => ?_⟩
  have gg := (g1.trans g2).trans g3
  have d3 := dp_ex (g2.trans g3).g d1
  have k' : ∀ v H' G', Gr G3 H3 G' H' → Dp X.K G' v d → Q v H' := fun v H' G' g4 => k v H' G' (gg.trans g4)
  unfold vSl at q
  split at q
  · cases q
    obtain ⟨p, vs, rfl, h1, a1⟩ := dp_lst d3
    exact .inl ⟨p, vs, rfl, ex_l g3.s h1, fin_l g3.s (dpa_cut a1) k'⟩
  · cases q
    obtain ⟨p, vs, rfl, h1, a1⟩ := dp_tup d3
    refine .inr (.inl ⟨p, vs, rfl, ex_t g3.s h1, fun hw => ?_, fun _ => fin_t g3.s (dpa_cut a1) k'⟩)
    have e1 : ∀ xs : List PyData, vs.length = xs.length → cutD xs l u = xs := fun xs hv => by
      rw [hv] at hw
      unfold cutD
      rw [hw.1, hw.2]
      simp
    rw [e1 _ (dpa_len a1)] at k'
    exact fin_v g3.s (.tup h1 a1) k'
  · split at q
    · rename_i hz
      cases q
      cases dp_str d3
      exact .inr (.inr ⟨_, rfl, hz, fin_v g3.s (.str _) k'⟩)
    · cases q
  · cases q
end
end
end VE
set_option Elab.async false
set_option linter.all false
set_option maxRecDepth 100000
namespace VE
noncomputable section
open PySem PySem.Spec L2 Evl
section
variable {X : Cx} {e a b c : Expr} {es : List Expr} {pos p : Pos} {m ma mb mc : M} {ms : MA}
/-! ### argument lists and displays -/
def mNil : MA := fun _ => some []
def mCons (m : M) (ms : MA) : MA := fun n => (m n).bind fun d => (ms n).bind fun ds => some (d :: ds)
theorem pl_nil : PL X [] mNil := PA.mono pa_nil fun σ H Q h => by
  obtain ⟨G, n, d, e, r, q, k⟩ := h
  cases q
  exact k [] H G (Gr.refl e) .nil
theorem pl_cons (ha : PV X e m) (hr : PL X es ms) (hs : starEach (e :: es) X.env = (false, eval e X.env) :: starEach es X.env := by rfl) : PL X (e :: es) (mCons m ms) := PA.mono (pa_cons ha hr hs) fun σ H Q h => by
  obtain ⟨G, n, ds, g, r, q, k⟩ := h
  obtain ⟨x, hx, q⟩ := Option.bind_eq_some_iff.mp q
  obtain ⟨y, hy, q⟩ := Option.bind_eq_some_iff.mp q
  cases q
  refine ⟨G, n, x, g, r, hx, fun v H1 G1 g1 d1 => ?_⟩
  refine ⟨G1, n, y, g1.s, r.mono g1.g, hy, fun vs H2 G2 g2 d2 => ?_⟩
  exact k _ H2 G2 (g1.trans g2) (.cons (dp_ex g2.g d1) d2)
def mTup (ms : MA) : M := fun n => (ms n).bind fun ds => @ite _ (ds.length ≤ sizeLine) (Classical.propDecidable _) (some (.tuple ds)) none
theorem pv_tup {x1 : Nat} (h : PL X es ms) : PV X (.Tuple es x1 pos) (mTup ms) := PE.mono (pe_tup h) fun σ H Q h => by
  obtain ⟨G, n, d, g, r, q, k⟩ := h
  obtain ⟨x, hx, q⟩ := Option.bind_eq_some_iff.mp q
  split at q
  · rename_i hz
    cases q
    exact ⟨G, n, x, g, r, hx, fun vs H1 G1 g1 d1 => ⟨by rw [dpa_len d1]; exact hz, fin_t g1.s d1 fun v H2 G2 g2 d2 => k v H2 G2 (g1.trans g2) d2⟩⟩
  · cases q
/-- fresh lists are values -/
def mL (ms : MA) : M := fun n => (ms n).map .list
theorem t_mL {K : PySem.W.Frag} : ∀ σ H Q, tM K (mL ms) σ H Q → tMF K ms σ H Q := fun σ H Q h => by
  obtain ⟨G, n, d, g, r, q, k⟩ := h
  obtain ⟨x, hx, rfl⟩ := Option.map_eq_some_iff.mp q
  refine ⟨G, n, x, g, r, hx, fun p vs H1 G1 g1 h0 hp h1 d1 => ?_⟩
  have g2 : Gr G H (upd G1 p (.lst vs)) H1 :=
    ⟨g1.g.trans (Ex.new hp), fun a o h => by
      by_cases z : a = p
      · subst z
        rw [upd_same] at h
        rw [h1]
        exact h
      · rw [upd_ne z] at h
        exact g1.s a o h, g1.h, fun a o h q => by
      rw [upd_ne (ne_of_none h h0)]
      exact g1.f a o h q⟩
  exact k (.ref p) H1 _ g2 (.lst (SqL.of upd_same) (dpa_ex (Ex.new hp) d1))
theorem pv_of_pf (h : PF X e ms) : PV X e (mL ms) := PE.mono h t_mL
def mLst (ms : MA) : MA := fun n => (ms n).bind fun ds => @ite _ (ds.length ≤ sizeLine) (Classical.propDecidable _) (some ds) none
theorem pf_lst (h : PL X es ms) : PF X (.List es pos) (mLst ms) := PE.mono (pe_lst h) fun σ H Q h => by
  obtain ⟨G, n, ds, g, r, q, k⟩ := h
  obtain ⟨x, hx, q⟩ := Option.bind_eq_some_iff.mp q
  split at q
  · rename_i hz
    cases q
    refine ⟨G, n, _, g, r, hx, fun vs H1 G1 g1 d1 => ⟨by rw [dpa_len d1]; exact hz, fun p hp => ?_⟩⟩
    refine k p vs _ G1 (g1.trans (Gr.newo g1.s hp)) (fresh_back g1.h hp) (fresh_back g1.s hp) upd_same d1
  · cases q
theorem pv_lst (h : PL X es ms) : PV X (.List es pos) (mL (mLst ms)) := pv_of_pf (pf_lst h)
/-! ### calls of what is built in -/
def rC (K : PySem.W.Frag) (g : List PyData → Option PyData) : List V → Hp → VK → Prop := fun vs H Q => ∃ G ds d, Ex G H ∧ DpAll K G vs ds ∧ g ds = some d ∧ ∀ v H' G', Gr G H G' H' → Dp K G' v d → Q v H'
abbrev CallD (X : Cx) (f : Value) (g : List PyData → Option PyData) : Prop := CallR X f (rC X.K g)
def mCall (g : List PyData → Option PyData) (ms : MA) : M := fun n => (ms n).bind g
theorem t_cb {K : PySem.W.Frag} {g : List PyData → Option PyData} : ∀ σ H Q, tM K (mCall g ms) σ H Q → tCB (rC K g) (tMA K ms) σ H Q := fun σ H Q h => by
  obtain ⟨G, n, d, e, r, q, k⟩ := h
  obtain ⟨x, hx, q⟩ := Option.bind_eq_some_iff.mp q
  exact ⟨G, n, x, e, r, hx, fun vs H1 G1 g1 d1 => ⟨G1, x, d, g1.s, d1, q, fun v H2 G2 g2 d2 => k v H2 G2 (g1.trans g2) d2⟩⟩
theorem pv_cb {id : String} {x : Str} {g : List PyData → Option PyData} (hc : CallD X (.builtin id) g) (hm : X.mg x = none) (ha : PL X (e :: es) ms) (hg : Gl X x := by rfl) (hv : bootBuiltins x = some (.builtin id) := by decide +kernel) (hn : x ≠ "__name__" := by decide) (hdb : (x == ("__debug__" : Str)) = false := by decide)
    (he : starEach (e :: es) X.env = (false, eval e X.env) :: starEach es X.env := by rfl) (hpl : (backTo pos (starEach es X.env)).any (·.1) = false := by rfl) : PV X (.Call (.Name x p) (e :: es) [] pos) (mCall g ms) := PE.mono (pe_callB hc hg hm hv ha hn hdb he hpl) t_cb
theorem pv_cty {T : String} {x : Str} {g : List PyData → Option PyData} (hc : CallD X (.type T) g) (hm : X.mg x = none) (ha : PL X (e :: es) ms) (hg : Gl X x := by rfl) (hv : bootBuiltins x = some (.type T) := by decide +kernel) (hn : x ≠ "__name__" := by decide) (hdb : (x == ("__debug__" : Str)) = false := by decide)
    (he : starEach (e :: es) X.env = (false, eval e X.env) :: starEach es X.env := by rfl) (hpl : (backTo pos (starEach es X.env)).any (·.1) = false := by rfl) : PV X (.Call (.Name x p) (e :: es) [] pos) (mCall g ms) := PE.mono (pe_callTy hc hg hm hv ha hn hdb he hpl) t_cb
def vLen : List PyData → Option PyData
  | [.list xs] => some (.int xs.length)
  | [.tuple xs] => some (.int xs.length)
  | [.str z] => @ite _ (z.length ≤ sizeLine) (Classical.propDecidable _) (some (.int z.length)) none
  | _ => none
theorem dpa1 {K : PySem.W.Frag} {G : Hp} {vs : List V} {d : PyData} (h : DpAll K G vs [d]) : ∃ v, vs = [v] ∧ Dp K G v d := by
  cases h with
  | cons h a => cases a; exact ⟨_, rfl, h⟩
theorem dpa2 {K : PySem.W.Frag} {G : Hp} {vs : List V} {d d' : PyData} (h : DpAll K G vs [d, d']) : ∃ v v', vs = [v, v'] ∧ Dp K G v d ∧ Dp K G v' d' := by
  cases h with
  | cons h a =>
    obtain ⟨v, rfl, h'⟩ := dpa1 a
    exact ⟨_, _, rfl, h, h'⟩
theorem cd_len : CallD X (.builtin "len") vLen := CallR.mono (CallR.or call_len_seq call_len_str) fun vs H Q h => by
  obtain ⟨G, ds, d, g, a, q, k⟩ := h
  unfold vLen at q
  split at q
  · cases q
    obtain ⟨v, rfl, h1⟩ := dpa1 a
    obtain ⟨p, vs, rfl, h2, a2⟩ := dp_lst h1
    exact .inl ⟨p, vs, rfl, .inl (ex_l g h2), by rw [dpa_len a2]; exact fin_v g (.int _) k⟩
  · cases q
    obtain ⟨v, rfl, h1⟩ := dpa1 a
    obtain ⟨p, vs, rfl, h2, a2⟩ := dp_tup h1
    exact .inl ⟨p, vs, rfl, .inr (ex_t g h2), by rw [dpa_len a2]; exact fin_v g (.int _) k⟩
  · split at q
    · rename_i hz
      cases q
      obtain ⟨v, rfl, h1⟩ := dpa1 a
      cases dp_str h1
      exact .inr ⟨_, rfl, hz, fin_v g (.int _) k⟩
    · cases q
  · cases q
def vAbs : List PyData → Option PyData
  | [.int i] => some (.int (if i < 0 then -i else i))
  | _ => none
theorem cd_abs : CallD X (.builtin "abs") vAbs := CallR.mono call_abs fun vs H Q h => by
  obtain ⟨G, ds, d, g, a, q, k⟩ := h
  unfold vAbs at q
  split at q
  · cases q
    obtain ⟨v, rfl, h1⟩ := dpa1 a
    cases dp_int h1
    exact ⟨_, rfl, fin_v g (.int _) k⟩
  · cases q
def vMax2 : List PyData → Option PyData
  | [.int i, .int j] => some (.int (if j > i then j else i))
  | _ => none
def vMin2 : List PyData → Option PyData
  | [.int i, .int j] => some (.int (if j < i then j else i))
  | _ => none
theorem cd_max2 (hc : X.calm = true := by rfl) : CallD X (.builtin "max") vMax2 := CallR.mono (call_max2 hc) fun vs H Q h => by
  obtain ⟨G, ds, d, g, a, q, k⟩ := h
  unfold vMax2 at q
  split at q
  · cases q
    obtain ⟨v, w, rfl, h1, h2⟩ := dpa2 a
    cases dp_int h1; cases dp_int h2
    exact ⟨_, _, rfl, fin_v g (.int _) k⟩
  · cases q
theorem cd_min2 (hc : X.calm = true := by rfl) : CallD X (.builtin "min") vMin2 := CallR.mono (call_min2 hc) fun vs H Q h => by
  obtain ⟨G, ds, d, g, a, q, k⟩ := h
  unfold vMin2 at q
  split at q
  · cases q
    obtain ⟨v, w, rfl, h1, h2⟩ := dpa2 a
    cases dp_int h1; cases dp_int h2
    exact ⟨_, _, rfl, fin_v g (.int _) k⟩
  · cases q
def vInt : List PyData → Option PyData
  | [.int i] => some (.int i)
  | [.bool k] => some (.int (if k = true then 1 else 0))
  | [.str z] => @ite _ (z.length ≤ 640) (Classical.propDecidable _) ((PySem.intText? z).map .int) none
  | _ => none
theorem cd_int : CallD X (.type "int") vInt := CallR.mono (CallR.or call_int1 call_int_str) fun vs H Q h => by
  obtain ⟨G, ds, d, g, a, q, k⟩ := h
  unfold vInt at q
  split at q
  · cases q
    obtain ⟨v, rfl, h1⟩ := dpa1 a
    cases dp_int h1
    exact .inl (.inl ⟨_, rfl, fin_v g (.int _) k⟩)
  · cases q
    obtain ⟨v, rfl, h1⟩ := dpa1 a
    cases dp_bool h1
    exact .inl (.inr ⟨_, rfl, fin_v g (.int _) k⟩)
  · split at q
    · rename_i hz
      obtain ⟨i, hi, rfl⟩ := Option.map_eq_some_iff.mp q
      obtain ⟨v, rfl, h1⟩ := dpa1 a
      cases dp_str h1
      exact .inr ⟨_, i, rfl, hi, hz, fin_v g (.int _) k⟩
    · cases q
  · cases q
def vStr : List PyData → Option PyData
  | [.int i] => @ite _ (i.natAbs.log2 < 1920) (Classical.propDecidable _) (some (.str (toString i))) none
  | _ => none
theorem cd_str : CallD X (.type "str") vStr := CallR.mono call_str_int fun vs H Q h => by
  obtain ⟨G, ds, d, g, a, q, k⟩ := h
  unfold vStr at q
  split at q
  · split at q
    · rename_i hz
      cases q
      obtain ⟨v, rfl, h1⟩ := dpa1 a
      cases dp_int h1
      exact ⟨_, rfl, hz, fin_v g (.str _) k⟩
    · cases q
  · cases q
def vTuple : List PyData → Option PyData
  | [.list xs] => some (.tuple xs)
  | [.tuple xs] => some (.tuple xs)
  | _ => none
theorem cd_tuple : CallD X (.type "tuple") vTuple := CallR.mono call_tuple_of fun vs H Q h => by
  obtain ⟨G, ds, d, g, a, q, k⟩ := h
  unfold vTuple at q
  split at q
  · cases q
    obtain ⟨v, rfl, h1⟩ := dpa1 a
    obtain ⟨p, vs, rfl, h2, a2⟩ := dp_lst h1
    exact ⟨p, vs, rfl, .inl ⟨ex_l g h2, fin_t g a2 k⟩⟩
  · cases q
    obtain ⟨v, rfl, h1⟩ := dpa1 a
    obtain ⟨p, vs, rfl, h2, a2⟩ := dp_tup h1
    exact ⟨p, vs, rfl, .inr ⟨ex_t g h2, fin_v g h1 k⟩⟩
  · cases q
/-- calls that give a fresh list -/
def rCF (K : PySem.W.Frag) (g : List PyData → Option (List PyData)) : List V → Hp → VK → Prop := fun vs H Q => ∃ G ds d, Ex G H ∧ DpAll K G vs ds ∧ g ds = some d ∧ ∀ p vs H' G', Gr G H G' H' → H p = none → G' p = none → H' p = some (.lst vs) → DpAll K G' vs d → Q (.ref p) H'
abbrev CallF (X : Cx) (f : Value) (g : List PyData → Option (List PyData)) : Prop := CallR X f (rCF X.K g)
def mCallF (g : List PyData → Option (List PyData)) (ms : MA) : MA := fun n => (ms n).bind g
theorem t_cbF {K : PySem.W.Frag} {g : List PyData → Option (List PyData)} : ∀ σ H Q, tMF K (mCallF g ms) σ H Q → tCB (rCF K g) (tMA K ms) σ H Q := fun σ H Q h => by
  obtain ⟨G, n, d, e, r, q, k⟩ := h
  obtain ⟨x, hx, q⟩ := Option.bind_eq_some_iff.mp q
  exact ⟨G, n, x, e, r, hx, fun vs H1 G1 g1 d1 => ⟨G1, x, d, g1.s, d1, q, fun v vs H2 G2 g2 h0 h1 h2 d2 => k v vs H2 G2 (g1.trans g2) (fresh_back g1.h h0) h1 h2 d2⟩⟩
theorem pf_cty {T : String} {x : Str} {g : List PyData → Option (List PyData)} (hc : CallF X (.type T) g) (hm : X.mg x = none) (ha : PL X (e :: es) ms) (hg : Gl X x := by rfl) (hv : bootBuiltins x = some (.type T) := by decide +kernel) (hn : x ≠ "__name__" := by decide) (hdb : (x == ("__debug__" : Str)) = false := by decide)
    (he : starEach (e :: es) X.env = (false, eval e X.env) :: starEach es X.env := by rfl) (hpl : (backTo pos (starEach es X.env)).any (·.1) = false := by rfl) : PF X (.Call (.Name x p) (e :: es) [] pos) (mCallF g ms) := PE.mono (pe_callTy hc hg hm hv ha hn hdb he hpl) t_cbF
def vListF : List PyData → Option (List PyData)
  | [.list xs] => some xs
  | [.tuple xs] => some xs
  | _ => none
theorem fin_f {K : PySem.W.Frag} {G H : Hp} {Q : VK} {vs : List V} {rs : List PyData} (e : Ex G H) (d : DpAll K G vs rs) (k : ∀ p vs H' G', Gr G H G' H' → H p = none → G' p = none → H' p = some (.lst vs) → DpAll K G' vs rs → Q (.ref p) H') : ∀ p, H p = none → Q (.ref p) (upd H p (.lst vs)) := fun p hp =>
  k p vs _ G (Gr.newo e hp) hp (fresh_back e hp) upd_same d
theorem cf_list : CallF X (.type "list") vListF := CallR.mono call_list_of fun vs H Q h => by
  obtain ⟨G, ds, d, g, a, q, k⟩ := h
  unfold vListF at q
  split at q
  · cases q
    obtain ⟨v, rfl, h1⟩ := dpa1 a
    obtain ⟨p, vs, rfl, h2, a2⟩ := dp_lst h1
    exact ⟨p, vs, rfl, .inl (ex_l g h2), fin_f g a2 k⟩
  · cases q
    obtain ⟨v, rfl, h1⟩ := dpa1 a
    obtain ⟨p, vs, rfl, h2, a2⟩ := dp_tup h1
    exact ⟨p, vs, rfl, .inr (ex_t g h2), fin_f g a2 k⟩
  · cases q
/-! ### isinstance of a built-in type -/
def tyD : PyData → String
  | .none => "NoneType" | .bool _ => "bool" | .int _ => "int" | .str _ => "str" | .list _ => "list" | .tuple _ => "tuple" | .dict _ => "dict"
def vIsi (T : String) (d : PyData) : Option PyData := (kitB (tyD d) T).map .bool
theorem dp_ty {K : PySem.W.Frag} {G H : Hp} {v : V} {d : PyData} (e : Ex G H) (h : Dp K G v d) : TyX K H v (.type (tyD d)) := by
  cases h with
  | non => exact .base .non
  | bl b => exact .base (.bl b)
  | int i => exact .base (.int i)
  | str x => exact .base (.str x)
  | lst h a =>
    rcases h with (h | ⟨o, h⟩) | ⟨o, its, n, h, c, _⟩
    · exact .base (.lst (e _ _ h))
    · exact .base (.frz (e _ _ h))
    · exact .kList h c
  | tup h a =>
    rcases h with (h | ⟨o, h⟩) | ⟨o, its, n, h, c, _⟩
    · exact .base (.tup (e _ _ h))
    · exact .fTuple (e _ _ h)
    · exact .kTuple h c
theorem pv_isi (T : String) {x : Str} {p1 p2 : Pos} (ha : PV X a m) (hm : X.mg "isinstance" = none) (hmT : X.mg x = none) (hv : bootBuiltins x = some (.type T) := by decide +kernel) (hg : Gl X "isinstance" := by rfl) (hgT : Gl X x := by rfl)
    (hn : x ≠ "__name__" := by decide) (hdb : (x == ("__debug__" : Str)) = false := by decide)
    (hs : starEach [a, .Name x p2] X.env = (false, eval a X.env) :: starEach [.Name x p2] X.env := by rfl) (hpl : (backTo pos (starEach [.Name x p2] X.env)).any (·.1) = false := by rfl) :
    PV X (.Call (.Name "isinstance" p1) [a, .Name x p2] [] pos) (mUn (vIsi T) m) := PE.mono (pe_callB (id := "isinstance") call_isi hg hm (by decide +kernel) (pa_cons ha (pa_cons (pe_bltn (v := .ty T) hgT hmT hv rfl hn hdb) pa_nil) hs) (he := hs) (hpl := hpl)) fun σ H Q h => by
  obtain ⟨G, n, d, g, r, q, k⟩ := h
  obtain ⟨x, hx, q⟩ := Option.bind_eq_some_iff.mp q
  obtain ⟨b, hb, rfl⟩ := Option.map_eq_some_iff.mp q
  exact ⟨G, n, x, g, r, hx, fun v H1 G1 g1 d1 => ⟨v, .ty T, .type (tyD x), .type T, b, rfl, .ty T, dp_ty g1.s d1, kit_ty hb, k _ H1 G1 g1 (.bl b)⟩⟩
/-! ### defs -/
def spM (K : PySem.W.Frag) (n : Nat) (m : List PyData → Option PyData) : Sp := fun vs H Q _ => ∃ G ds d, Ex G H ∧ DpAll K G vs ds ∧ ds.length = n ∧ m ds = some d ∧ ∀ v H' G', Gr G H G' H' → Dp K G' v d → Q v H'
/-- .. that give a fresh list -/
def spF (K : PySem.W.Frag) (n : Nat) (m : List PyData → Option (List PyData)) : Sp := fun vs H Q _ => ∃ G ds d, Ex G H ∧ DpAll K G vs ds ∧ ds.length = n ∧ m ds = some d ∧ ∀ p ws H' G', Gr G H G' H' → H p = none → G' p = none → H' p = some (.lst ws) → DpAll K G' ws d → Q (.ref p) H'
theorem spM_len {K : PySem.W.Frag} {n : Nat} {m : List PyData → Option PyData} {vs : List V} {H : Hp} {Q : VK} {E : XK} (h : spM K n m vs H Q E) : vs.length = n := by
  obtain ⟨G, ds, d, g, a, l, _⟩ := h
  rw [dpa_len a, l]
/-- a def of the text as its callers know it -/
structure Def (P : Program) (w : World) (K : PySem.W.Frag) (mg : Str → Option Value) (base : Heap) (x : Str) (k n : Nat) (m : List PyData → Option PyData) : Prop where
  ex : ∃ (CX : CXT) (f : Addr) (fd : FuncData) (ps : List Str), (∀ X : Cx, X.prog = P → X.w = w → Passes CX X E0) ∧ FnOk P w K mg base CX k f fd ps (spM K n m) ∧ mg x = some (.ref f) ∧ PySem.W.keepIn K (.ref f) = true ∧ L2.Binds K fd ps []
def mDef (N : Nat) (g : List PyData → Option PyData) (ms : MA) : M := fun n => (ms n).bind fun ds => if ds.length = N then g ds else none
theorem t_call {K : PySem.W.Frag} {N : Nat} {g : List PyData → Option PyData} : ∀ σ H Q, tM K (mDef N g ms) σ H Q → tCall (spM K N g) [] E0 (tMA K ms) σ H Q := fun σ H Q h => by
  obtain ⟨G, n, d, e, r, q, k⟩ := h
  obtain ⟨x, hx, q⟩ := Option.bind_eq_some_iff.mp q
  split at q
  · rename_i hN
    refine ⟨G, n, x, e, r, hx, fun vs H1 G1 g1 d1 => ?_⟩
    show spM K N g (vs ++ []) H1 Q E0
    rw [List.append_nil]
    exact ⟨G1, x, d, g1.s, d1, hN, q, fun v H2 G2 g2 d2 => k v H2 G2 (g1.trans g2) d2⟩
  · cases q
theorem pv_call {x : Str} {j k n : Nat} {g : List PyData → Option PyData} (D : Def X.prog X.w X.K X.mg X.base x k n g) (hr : Room j X.A) (ha : PL X (e :: es) ms) (hk : k ≤ j := by decide) (hg : Gl X x := by rfl)
    (hdb : (x == ("__debug__" : Str)) = false := by decide) (he : starEach (e :: es) X.env = (false, eval e X.env) :: starEach es X.env := by rfl) (hpl : (backTo pos (starEach es X.env)).any (·.1) = false := by rfl) :
    PV X (.Call (.Name x p) (e :: es) [] pos) (mDef n g ms) := by
  obtain ⟨CX, f, fd, ps, hp, F, hm, hkp, hb⟩ := D.ex
  exact PE.mono (pe_call F (hr.mono hk) hg hm hkp hb .nil (hp X rfl rfl) ha hdb he hpl) t_call
theorem pv_call0 {x : Str} {j k : Nat} {g : List PyData → Option PyData} (D : Def X.prog X.w X.K X.mg X.base x k 0 g) (hr : Room j X.A) (hk : k ≤ j := by decide) (hg : Gl X x := by rfl)
    (hdb : (x == ("__debug__" : Str)) = false := by decide) : PV X (.Call (.Name x p) [] [] pos) (mDef 0 g mNil) := by
  obtain ⟨CX, f, fd, ps, hp, F, hm, hkp, hb⟩ := D.ex
  refine PE.mono (pe_call0 F (hr.mono hk) hg hm hkp hb .nil (hp X rfl rfl) hdb) fun σ H Q h => ?_
  obtain ⟨G, n, d, e, r, q, k⟩ := t_call σ H Q h
  cases q
  exact k [] H G (Gr.refl e) .nil
end
end
end VE
set_option Elab.async false
set_option linter.all false
set_option maxRecDepth 100000
namespace VE
noncomputable section
open PySem PySem.Spec L2 Evl
/-! ### statements -/
inductive Out where
  | nx (n : En)
  | rt (d : PyData)
  | rl (xs : List PyData)
  | bk (n : En)
  | ct (n : En)
abbrev MS := En → Option Out
structure Rows (K : PySem.W.Frag) (H0 F H : Hp) (σ : L2.St) (n : En) : Prop where
  len : σ.length = n.length
  v : ∀ (i : Nat) (d : PyData), n[i]? = some (.v d) → ∃ v, σ[i]? = some (some v) ∧ Dp K F v d
  o : ∀ (i : Nat) (xs : List PyData), n[i]? = some (.o xs) → ∃ p vs, σ[i]? = some (some (.ref p)) ∧ F p = none ∧ H0 p = none ∧ H p = some (.lst vs) ∧ DpAll K F vs xs
  ne : ∀ (i j : Nat) (xs ys : List PyData), i ≠ j → n[i]? = some (.o xs) → n[j]? = some (.o ys) → σ[i]? ≠ σ[j]?
def SR (K : PySem.W.Frag) (G0 H0 : Hp) (σ : L2.St) (H : Hp) (n : En) : Prop := ∃ F, Gr G0 H0 F H ∧ Rows K H0 F H σ n
def Post (K : PySem.W.Frag) (G0 H0 : Hp) (D : Ends) : Out → Prop
  | .nx n => ∀ σ H, SR K G0 H0 σ H n → D.nx σ H
  | .bk n => ∀ σ H, SR K G0 H0 σ H n → D.bk σ H
  | .ct n => ∀ σ H, SR K G0 H0 σ H n → D.ct σ H
  | .rt d => ∀ v H G, Gr G0 H0 G H → Dp K G v d → D.rt v H
  | .rl xs => ∀ p vs H G, Gr G0 H0 G H → H0 p = none → G p = none → H p = some (.lst vs) → DpAll K G vs xs → D.rt (.ref p) H
def tMS (K : PySem.W.Frag) (m : MS) : TS := fun D σ H => ∃ G0 H0 n o, SR K G0 H0 σ H n ∧ m n = some o ∧ Post K G0 H0 D o
abbrev PSV (X : Cx) (st : Stmt) (m : MS) : Prop := PS X st (tMS X.K m)
abbrev PSsV (X : Cx) (st : List Stmt) (m : MS) : Prop := PSs X st (tMS X.K m)
/-! ### what an expression sees: the own lists of ws alone -/
def hideAt (ws : List Nat) : Nat → En → En
  | _, [] => []
  | k, s :: r => (match s with
    | .o xs => if ws.contains k then .o xs else .no
    | s => s) :: hideAt ws (k + 1) r
def frzAt (ws : List Nat) : Nat → En → En
  | _, [] => []
  | k, s :: r => (match s with
    | .o xs => if ws.contains k then .v (.list xs) else .o xs
    | s => s) :: frzAt ws (k + 1) r
def hide (ws : List Nat) (n : En) : En := hideAt ws 0 n
def frz (ws : List Nat) (n : En) : En := frzAt ws 0 n
theorem hideAt_get (ws : List Nat) : ∀ (n : En) (k i : Nat), (hideAt ws k n)[i]? = (n[i]?).map fun s => match s with
    | .o xs => if ws.contains (k + i) then .o xs else .no
    | s => s
  | [], k, i => by simp [hideAt]
  | s :: r, k, 0 => by simp [hideAt]
  | s :: r, k, i + 1 => by
    have h := hideAt_get ws r (k + 1) i
    simp only [hideAt, List.getElem?_cons_succ]
    rw [h, show k + 1 + i = k + (i + 1) by omega]
theorem frzAt_get (ws : List Nat) : ∀ (n : En) (k i : Nat), (frzAt ws k n)[i]? = (n[i]?).map fun s => match s with
    | .o xs => if ws.contains (k + i) then .v (.list xs) else .o xs
    | s => s
  | [], k, i => by simp [frzAt]
  | s :: r, k, 0 => by simp [frzAt]
  | s :: r, k, i + 1 => by
    have h := frzAt_get ws r (k + 1) i
    simp only [frzAt, List.getElem?_cons_succ]
    rw [h, show k + 1 + i = k + (i + 1) by omega]
theorem hideAt_len (ws : List Nat) : ∀ (n : En) (k : Nat), (hideAt ws k n).length = n.length
  | [], _ => rfl
  | s :: r, k => by simp [hideAt, hideAt_len ws r (k + 1)]
theorem frzAt_len (ws : List Nat) : ∀ (n : En) (k : Nat), (frzAt ws k n).length = n.length
  | [], _ => rfl
  | s :: r, k => by simp [frzAt, frzAt_len ws r (k + 1)]
section
variable {K : PySem.W.Frag} {G0 H0 F H : Hp} {σ : L2.St} {n : En}
/-- F with the lists of ws -/
noncomputable def withO (ws : List Nat) (n : En) (σ : L2.St) (F H : Hp) : Hp := open Classical in fun a => if ∃ i xs, ws.contains i = true ∧ n[i]? = some (.o xs) ∧ σ[i]? = some (some (.ref a)) then H a else F a
theorem withO_ex (ws : List Nat) (R : Rows K H0 F H σ n) : Ex F (withO ws n σ F H) := fun a o h => by
  unfold withO
  split
  · rename_i z
    obtain ⟨i, xs, _, h1, h2⟩ := z
    obtain ⟨p, vs, e, hF, _⟩ := R.o i xs h1
    rw [h2] at e
    cases e
    rw [hF] at h
    cases h
  · exact h
theorem withO_s (ws : List Nat) (e : Ex F H) : Ex (withO ws n σ F H) H := fun a o h => by
  unfold withO at h
  split at h
  · exact h
  · exact e a o h
theorem withO_gr (ws : List Nat) (g : Gr G0 H0 F H) (R : Rows K H0 F H σ n) : Gr G0 H0 (withO ws n σ F H) H :=
  ⟨g.g.trans (withO_ex ws R), withO_s ws g.s, g.h, fun a o h q => by
    unfold withO
    split
    · rename_i z
      obtain ⟨i, xs, _, h1, h2⟩ := z
      obtain ⟨p, vs, e, _, h0, _⟩ := R.o i xs h1
      rw [h2] at e
      cases e
      rw [h0] at h
      cases h
    · exact g.f a o h q⟩
theorem withO_at {ws : List Nat} {i : Nat} {xs : List PyData} {p : Addr} (hw : ws.contains i = true) (h1 : n[i]? = some (.o xs)) (h2 : σ[i]? = some (some (.ref p))) : withO ws n σ F H p = H p := by
  unfold withO
  rw [if_pos ⟨i, xs, hw, h1, h2⟩]
theorem withO_off {ws : List Nat} {i : Nat} {xs : List PyData} {p : Addr} (R : Rows K H0 F H σ n) (hw : ws.contains i = false) (h1 : n[i]? = some (.o xs)) (h2 : σ[i]? = some (some (.ref p))) : withO ws n σ F H p = none := by
  unfold withO
  rw [if_neg]
  · obtain ⟨q, vs, e, hF, _⟩ := R.o i xs h1
    rw [h2] at e
    cases e
    exact hF
  · rintro ⟨j, ys, hj, h3, h4⟩
    have hij : i ≠ j := fun z => by
      subst z
      rw [hw] at hj
      cases hj
    exact R.ne i j xs ys hij h1 h3 (h2.trans h4.symm)
theorem vr_hide (ws : List Nat) (R : Rows K H0 F H σ n) : Vr K (withO ws n σ F H) σ (hide ws n) := ⟨by unfold hide; rw [hideAt_len]; exact R.len, fun i s d h1 h2 => by
  unfold hide at h1
  rw [hideAt_get] at h1
  obtain ⟨s', hs, rfl⟩ := Option.map_eq_some_iff.mp h1
  rw [Nat.zero_add] at h2
  cases s' with
  | no => cases h2
  | v d' =>
    cases h2
    obtain ⟨v, e, dd⟩ := R.v i d hs
    exact ⟨v, e, dp_ex (withO_ex ws R) dd⟩
  | o xs =>
    by_cases hw : ws.contains i = true
    · simp only [hw, if_true] at h2
      cases h2
      obtain ⟨p, vs, e, hF, h0, hH, a⟩ := R.o i xs hs
      exact ⟨.ref p, e, .lst (SqL.of (by rw [withO_at hw hs e]; exact hH)) (dpa_ex (withO_ex ws R) a)⟩
    · simp only [hw, if_false] at h2
      cases h2⟩
/-- a step that grows the heap alone -/
theorem Rows.grow {G1 H1 : Hp} (R : Rows K H0 F H σ n) (g : Gr F H G1 H1) : Rows K H0 G1 H1 σ n :=
  ⟨R.len, fun i d h => let ⟨v, e, dd⟩ := R.v i d h; ⟨v, e, dp_ex g.g dd⟩, fun i xs h => by
    obtain ⟨p, vs, e, hF, h0, hH, a⟩ := R.o i xs h
    exact ⟨p, vs, e, g.f p _ hH hF, h0, g.h p _ hH, dpa_ex g.g a⟩, R.ne⟩
theorem Rows.stay {H1 : Hp} (R : Rows K H0 F H σ n) (e : Ex H H1) : Rows K H0 F H1 σ n :=
  ⟨R.len, R.v, fun i xs h => by
    obtain ⟨p, vs, e1, hF, h0, hH, a⟩ := R.o i xs h
    exact ⟨p, vs, e1, hF, h0, e p _ hH, a⟩, R.ne⟩
theorem frz_get {ws : List Nat} {i : Nat} {s : Sl} (h : (frz ws n)[i]? = some s) : (∃ xs, n[i]? = some (.o xs) ∧ ws.contains i = true ∧ s = .v (.list xs)) ∨ (n[i]? = some s ∧ ∀ xs, s = .o xs → ws.contains i = false) := by
  unfold frz at h
  rw [frzAt_get] at h
  obtain ⟨s', hs, rfl⟩ := Option.map_eq_some_iff.mp h
  rw [Nat.zero_add]
  cases s' with
  | no => exact .inr ⟨hs, fun _ z => by cases z⟩
  | v d => exact .inr ⟨hs, fun _ z => by cases z⟩
  | o xs =>
    by_cases hw : ws.contains i = true
    · simp only [hw, if_true]
      exact .inl ⟨xs, hs, trivial, rfl⟩
    · have hw' : ws.contains i = false := by simpa using hw
      simp only [hw', Bool.false_eq_true, if_false]
      exact .inr ⟨hs, fun _ _ => trivial⟩
/-- the lists of ws are frozen -/
theorem Rows.frz {G1 H1 : Hp} (ws : List Nat) (R : Rows K H0 F H σ n) (g : Gr (withO ws n σ F H) H G1 H1) : Rows K H0 G1 H1 σ (frz ws n) := by
  have ex := (withO_ex ws R).trans g.g
  refine ⟨by unfold VE.frz; rw [frzAt_len]; exact R.len, fun i d h => ?_, fun i xs h => ?_, fun i j xs ys hij h1 h2 => ?_⟩
  · rcases frz_get h with ⟨xs, h1, hw, e⟩ | ⟨h1, _⟩
    · cases e
      obtain ⟨p, vs, e, hF, h0, hH, a⟩ := R.o i xs h1
      exact ⟨.ref p, e, .lst (SqL.of (g.g p _ (by rw [withO_at hw h1 e]; exact hH))) (dpa_ex ex a)⟩
    · obtain ⟨v, e, dd⟩ := R.v i d h1
      exact ⟨v, e, dp_ex ex dd⟩
  · rcases frz_get h with ⟨xs, h1, hw, e⟩ | ⟨h1, hw⟩
    · cases e
    · obtain ⟨p, vs, e, hF, h0, hH, a⟩ := R.o i xs h1
      exact ⟨p, vs, e, g.f p _ hH (withO_off R (hw xs rfl) h1 e), h0, g.h p _ hH, dpa_ex ex a⟩
  · rcases frz_get h1 with ⟨_, _, _, e⟩ | ⟨h1, _⟩
    · cases e
    rcases frz_get h2 with ⟨_, _, _, e⟩ | ⟨h2, _⟩
    · cases e
    exact R.ne i j xs ys hij h1 h2
theorem Rows.set {i : Nat} {v : V} {d : PyData} (R : Rows K H0 F H σ n) (h : Dp K F v d) : Rows K H0 F H (σ.set i (some v)) (n.set i (.v d)) := by
  have hl := R.len
  refine ⟨by rw [List.length_set, List.length_set]; exact R.len, fun j e hj => ?_, fun j xs hj => ?_, fun j k xs ys hjk h1 h2 => ?_⟩
  · by_cases z : i = j
    · subst z
      by_cases hi : i < n.length
      · rw [List.getElem?_set_self hi] at hj
        cases hj
        exact ⟨v, by rw [List.getElem?_set_self (by omega)], h⟩
      · simp [List.getElem?_set, hi] at hj
    · rw [List.getElem?_set_ne z] at hj ⊢
      exact R.v j e hj
  · by_cases z : i = j
    · subst z
      simp [List.getElem?_set] at hj
    · rw [List.getElem?_set_ne z] at hj ⊢
      exact R.o j xs hj
  · have z1 : i ≠ j := fun z => by
      subst z
      simp [List.getElem?_set] at h1
    have z2 : i ≠ k := fun z => by
      subst z
      simp [List.getElem?_set] at h2
    rw [List.getElem?_set_ne z1] at h1 ⊢
    rw [List.getElem?_set_ne z2] at h2 ⊢
    exact R.ne j k xs ys hjk h1 h2
/-- a fresh list becomes a slot's own -/
theorem Rows.own {i : Nat} {p : Addr} {vs : List V} {xs : List PyData} (R : Rows K H0 F H σ n) (hF : F p = none) (h0 : H0 p = none) (hH : H p = some (.lst vs)) (a : DpAll K F vs xs) (fr : ∀ j ys, n[j]? = some (.o ys) → j ≠ i → σ[j]? ≠ some (some (.ref p))) :
    Rows K H0 F H (σ.set i (some (.ref p))) (n.set i (.o xs)) := by
  have hl := R.len
  refine ⟨by rw [List.length_set, List.length_set]; exact R.len, fun j e hj => ?_, fun j ys hj => ?_, fun j k ys zs hjk h1 h2 => ?_⟩
  · by_cases z : i = j
    · subst z
      simp [List.getElem?_set] at hj
    · rw [List.getElem?_set_ne z] at hj ⊢
      exact R.v j e hj
  · by_cases z : i = j
    · subst z
      by_cases hi : i < n.length
      · rw [List.getElem?_set_self hi] at hj
        cases hj
        exact ⟨p, vs, by rw [List.getElem?_set_self (by omega)], hF, h0, hH, a⟩
      · simp [List.getElem?_set, hi] at hj
    · rw [List.getElem?_set_ne z] at hj ⊢
      exact R.o j ys hj
  · by_cases z1 : i = j
    · subst z1
      have z2 : i ≠ k := hjk
      rw [List.getElem?_set_ne z2] at h2 ⊢
      have hi : i < σ.length := by
        by_cases hi : i < n.length
        · omega
        · simp [List.getElem?_set, hi] at h1
      rw [List.getElem?_set_self hi]
      exact fun z => fr k zs h2 (Ne.symm z2) z.symm
    · by_cases z2 : i = k
      · subst z2
        rw [List.getElem?_set_ne z1] at h1 ⊢
        have hi : i < σ.length := by
          by_cases hi : i < n.length
          · omega
          · simp [List.getElem?_set, hi] at h2
        rw [List.getElem?_set_self hi]
        exact fun z => fr j ys h1 (Ne.symm z1) z
      · rw [List.getElem?_set_ne z1] at h1 ⊢
        rw [List.getElem?_set_ne z2] at h2 ⊢
        exact R.ne j k ys zs hjk h1 h2
/-- a slot's own list changes -/
theorem Rows.mut {i : Nat} {p : Addr} {ws : List V} {xs ys : List PyData} (R : Rows K H0 F H σ n) (h1 : n[i]? = some (.o xs)) (h2 : σ[i]? = some (some (.ref p))) (a : DpAll K F ws ys) : Rows K H0 F (upd H p (.lst ws)) σ (n.set i (.o ys)) := by
  have hl := R.len
  have hi : i < n.length := (List.getElem?_eq_some_iff.mp h1).1
  obtain ⟨p', vs, e, hF, h0, hH, _⟩ := R.o i xs h1
  rw [h2] at e
  cases e
  refine ⟨by rw [List.length_set]; exact R.len, fun j d hj => ?_, fun j zs hj => ?_, fun j k zs us hjk h3 h4 => ?_⟩
  · by_cases z : i = j
    · subst z
      rw [List.getElem?_set_self hi] at hj
      cases hj
    · rw [List.getElem?_set_ne z] at hj
      exact R.v j d hj
  · by_cases z : i = j
    · subst z
      rw [List.getElem?_set_self hi] at hj
      cases hj
      exact ⟨p, ws, h2, hF, h0, upd_same, a⟩
    · rw [List.getElem?_set_ne z] at hj
      obtain ⟨q, us, e, hF', h0', hH', a'⟩ := R.o j zs hj
      refine ⟨q, us, e, hF', h0', ?_, a'⟩
      have hne : q ≠ p := fun z' => by
        subst z'
        exact R.ne i j xs zs z h1 hj (h2.trans e.symm)
      rw [upd_ne hne]
      exact hH'
  · have f : ∀ (l : Nat) (ts : List PyData), (n.set i (Sl.o ys))[l]? = some (Sl.o ts) → ∃ ts', n[l]? = some (Sl.o ts') := fun l ts h => by
      by_cases z : i = l
      · subst z
        exact ⟨xs, h1⟩
      · rw [List.getElem?_set_ne z] at h
        exact ⟨ts, h⟩
    obtain ⟨a1, b1⟩ := f j zs h3
    obtain ⟨a2, b2⟩ := f k us h4
    exact R.ne j k a1 a2 hjk b1 b2
theorem gr_mut {p : Addr} {o : HO} (g : Gr G0 H0 F H) (hF : F p = none) (h0 : H0 p = none) : Gr G0 H0 F (upd H p o) :=
  ⟨g.g, fun a u h => by
    rw [upd_ne (ne_of_none h hF)]
    exact g.s a u h, fun a u h => by
    rw [upd_ne (ne_of_none h h0)]
    exact g.h a u h, g.f⟩
end
def scalD : PyData → Bool
  | .none | .bool _ | .int _ | .str _ => true
  | _ => false
theorem dp_scalar {K : PySem.W.Frag} {G G' : Hp} {v : V} {d : PyData} (h : Dp K G v d) (s : scalD d = true) : Dp K G' v d := by
  cases h with
  | non => exact .non
  | bl b => exact .bl b
  | int i => exact .int i
  | str x => exact .str x
  | lst _ _ => cases s
  | tup _ _ => cases s
end
end VE
set_option Elab.async false
set_option linter.all false
set_option maxRecDepth 100000
namespace VE
noncomputable section
open PySem PySem.Spec L2 Evl
section
variable {X : Cx} {e a b c : Expr} {es : List Expr} {pos p : Pos} {m ma mb mc : M} {mt : MT} {ms : MA} {st : Stmt} {rest : List Stmt} {s1 s2 : MS}
/-! ### blocks -/
def thenS (o : Out) (f : MS) : Option Out := match o with
  | .nx n => f n
  | o => some o
def mSeq (a b : MS) : MS := fun n => (a n).bind fun o => thenS o b
def mSkip : MS := fun n => some (.nx n)
theorem psv_nil : PSsV X [] mSkip := PSs.mono pss_nil fun D σ H h => by
  obtain ⟨G0, H0, n, o, R, q, k⟩ := h
  cases q
  exact k σ H R
theorem psv_cons (h1 : PSV X st s1) (h2 : PSsV X rest s2) : PSsV X (st :: rest) (mSeq s1 s2) := PSs.mono (pss_cons h1 h2) fun D σ H h => by
  obtain ⟨G0, H0, n, o, R, q, k⟩ := h
  obtain ⟨o1, h1, q⟩ := Option.bind_eq_some_iff.mp q
  refine ⟨G0, H0, n, o1, R, h1, ?_⟩
  cases o1 with
  | nx n1 => exact fun σ1 H1 R1 => ⟨G0, H0, n1, o, R1, q, k⟩
  | rt d => cases q; exact k
  | rl d => cases q; exact k
  | bk d => cases q; exact k
  | ct d => cases q; exact k
theorem psv_one (h1 : PSV X st s1) : PSsV X [st] s1 := pss_one h1
theorem psv_pass : PSV X (.Pass pos) mSkip := PS.mono ps_pass fun D σ H h => by
  obtain ⟨G0, H0, n, o, R, q, k⟩ := h
  cases q
  exact k σ H R
def mBreak : MS := fun n => some (.bk n)
def mCont : MS := fun n => some (.ct n)
theorem psv_break : PSV X (.Break pos) mBreak := PS.mono ps_break fun D σ H h => by
  obtain ⟨G0, H0, n, o, R, q, k⟩ := h
  cases q
  exact k σ H R
theorem psv_continue : PSV X (.Continue pos) mCont := PS.mono ps_continue fun D σ H h => by
  obtain ⟨G0, H0, n, o, R, q, k⟩ := h
  cases q
  exact k σ H R
/-! ### x = e -/
def mAsg (ws : List Nat) (i : Nat) (m : M) : MS := fun n => (m (hide ws n)).bind fun d => if scalD d = true then some (.nx (n.set i (.v d))) else some (.nx ((frz ws n).set i (.v d)))
theorem asg_ok {K : PySem.W.Frag} {ws : List Nat} {i : Nat} {G0 H0 H : Hp} {σ : L2.St} {n : En} {o : Out} {D : Ends} (R : SR K G0 H0 σ H n) (q : mAsg ws i m n = some o) (k : Post K G0 H0 D o) : tAsg (tM K m) (gName i) D σ H := by
  obtain ⟨F, g, R⟩ := R
  obtain ⟨d, hd, q⟩ := Option.bind_eq_some_iff.mp q
  refine ⟨withO ws n σ F H, hide ws n, d, withO_s ws g.s, vr_hide ws R, hd, fun v H1 G1 g1 d1 => ?_⟩
  split at q
  · rename_i hs
    cases q
    refine k _ _ ⟨F, ⟨g.g, g.s.trans g1.h, g.h.trans g1.h, g.f⟩, (R.stay g1.h).set (dp_scalar d1 hs)⟩
  · cases q
    refine k _ _ ⟨G1, (withO_gr ws g R).trans g1, (R.frz ws g1).set d1⟩
theorem psv_set (ws : List Nat) (i : Nat) {x : Str} {pos' : Pos} (hN : X.N.Nodup) (he : PV X e m) (hi : X.N[i]? = some x := by rfl) (hx : Loc X.env.scope x := by first | exact .inl rfl | exact .inr rfl) (hs : swapsWith e (some (.Name x pos')) pos.line X.env = pure false := by rfl) (hf : X.fn x = true ∨ X.env.scope.names.lookup x = some .local := by first | exact .inl rfl | exact .inr rfl) :
    PSV X (.Assign [.Name x pos'] e pos) (mAsg ws i m) := PS.mono (ps_set hN hi hx he hs hf) fun D σ H h => by
  obtain ⟨G0, H0, n, o, R, q, k⟩ := h
  exact asg_ok R q k
/-- x = a fresh list, x's own -/
def mAsgO (ws : List Nat) (i : Nat) (ms : MA) : MS := fun n => (ms (hide ws n)).bind fun xs => some (.nx ((frz ws n).set i (.o xs)))
theorem asgO_ok {K : PySem.W.Frag} {ws : List Nat} {i : Nat} {G0 H0 H : Hp} {σ : L2.St} {n : En} {o : Out} {D : Ends} (R : SR K G0 H0 σ H n) (q : mAsgO ws i ms n = some o) (k : Post K G0 H0 D o) : tAsg (tMF K ms) (gName i) D σ H := by
  obtain ⟨F, g, R⟩ := R
  obtain ⟨xs, hd, q⟩ := Option.bind_eq_some_iff.mp q
  cases q
  refine ⟨withO ws n σ F H, hide ws n, xs, withO_s ws g.s, vr_hide ws R, hd, fun p vs H1 G1 g1 hp hG hH d1 => ?_⟩
  have h0 : H0 p = none := fresh_back g.h hp
  refine k _ _ ⟨G1, (withO_gr ws g R).trans g1, (R.frz ws g1).own hG h0 hH d1 fun j ys hj hji z => ?_⟩
  rcases frz_get hj with ⟨_, _, _, e⟩ | ⟨h1, _⟩
  · cases e
  · obtain ⟨p', vs', e, hF, h0', hH', _⟩ := R.o j ys h1
    rw [z] at e
    cases e
    rw [hp] at hH'
    cases hH'
theorem psv_setO (ws : List Nat) (i : Nat) {x : Str} {pos' : Pos} (hN : X.N.Nodup) (he : PF X e ms) (hi : X.N[i]? = some x := by rfl) (hx : Loc X.env.scope x := by first | exact .inl rfl | exact .inr rfl) (hs : swapsWith e (some (.Name x pos')) pos.line X.env = pure false := by rfl) (hf : X.fn x = true ∨ X.env.scope.names.lookup x = some .local := by first | exact .inl rfl | exact .inr rfl) :
    PSV X (.Assign [.Name x pos'] e pos) (mAsgO ws i ms) := PS.mono (ps_set hN hi hx he hs hf) fun D σ H h => by
  obtain ⟨G0, H0, n, o, R, q, k⟩ := h
  exact asgO_ok R q k
/-! ### return -/
def mRet (ws : List Nat) (m : M) : MS := fun n => (m (hide ws n)).map .rt
theorem psv_ret (ws : List Nat) (he : PV X e m) : PSV X (.Return (some e) pos) (mRet ws m) := PS.mono (ps_ret he) fun D σ H h => by
  obtain ⟨G0, H0, n, o, ⟨F, g, R⟩, q, k⟩ := h
  obtain ⟨d, hd, rfl⟩ := Option.map_eq_some_iff.mp q
  exact ⟨withO ws n σ F H, hide ws n, d, withO_s ws g.s, vr_hide ws R, hd, fun v H1 G1 g1 d1 => k v H1 G1 ((withO_gr ws g R).trans g1) d1⟩
def mRetN : MS := fun _ => some (.rt .none)
theorem psv_retN : PSV X (.Return none pos) mRetN := PS.mono ps_retN fun D σ H h => by
  obtain ⟨G0, H0, n, o, ⟨F, g, R⟩, q, k⟩ := h
  cases q
  exact k .non H F g .non
/-- return a fresh list -/
def mRetF (ws : List Nat) (ms : MA) : MS := fun n => (ms (hide ws n)).map .rl
theorem psv_retF (ws : List Nat) (he : PF X e ms) : PSV X (.Return (some e) pos) (mRetF ws ms) := PS.mono (ps_ret he) fun D σ H h => by
  obtain ⟨G0, H0, n, o, ⟨F, g, R⟩, q, k⟩ := h
  obtain ⟨d, hd, rfl⟩ := Option.map_eq_some_iff.mp q
  exact ⟨withO ws n σ F H, hide ws n, d, withO_s ws g.s, vr_hide ws R, hd, fun p vs H1 G1 g1 hp hG hH d1 => k p vs H1 G1 ((withO_gr ws g R).trans g1) (fresh_back g.h hp) hG hH d1⟩
/-- return an own list -/
def getO (n : En) (i : Nat) : Option (List PyData) := match n[i]? with
  | some (.o xs) => some xs
  | _ => none
theorem getO_eq {n : En} {i : Nat} {xs : List PyData} (h : getO n i = some xs) : n[i]? = some (.o xs) := by
  unfold getO at h
  split at h
  · cases h; assumption
  · cases h
def mRetO (i : Nat) : MS := fun n => (getO n i).map .rl
theorem psv_retO (i : Nat) {x : Str} {pos' : Pos} (hN : X.N[i]? = some x := by rfl) (hv : Vis X.env.scope x := by first | exact Or.inl rfl | exact Or.inr (Or.inl rfl) | exact Or.inr (Or.inr rfl)) (hd : (x == ("__debug__" : Str)) = false := by decide)
    (hcd : (x == ("__classdict__" : Str)) = false := by decide) : PSV X (.Return (some (.Name x pos')) pos) (mRetO i) := PS.mono (ps_ret (pe_var hN hv hd hcd)) fun D σ H h => by
  obtain ⟨G0, H0, n, o, ⟨F, g, R⟩, q, k⟩ := h
  obtain ⟨xs, hx, rfl⟩ := Option.map_eq_some_iff.mp q
  obtain ⟨p, vs, e, hF, h0, hH, a⟩ := R.o i xs (getO_eq hx)
  exact ⟨.ref p, e, k p vs H F g h0 hF hH a⟩
/-! ### if -/
def mIfS (ws : List Nat) (mt : MT) (a b : MS) : MS := fun n => (mt (hide ws n)).bind fun c => if c = true then a n else b n
theorem psv_if (ws : List Nat) {aa bb : List Stmt} (hc : PB X c mt) (ha : PSsV X aa s1) (hb : PSsV X bb s2) : PSV X (.If c aa bb pos) (mIfS ws mt s1 s2) := PS.mono (ps_if hc ha hb) fun D σ H h => by
  obtain ⟨G0, H0, n, o, ⟨F, g, R⟩, q, k⟩ := h
  obtain ⟨x, hx, q⟩ := Option.bind_eq_some_iff.mp q
  refine ⟨withO ws n σ F H, hide ws n, x, withO_s ws g.s, vr_hide ws R, hx, fun H1 G1 g1 => ?_⟩
  have R1 : SR X.K G0 H0 σ H1 n := ⟨F, ⟨g.g, g.s.trans g1.h, g.h.trans g1.h, g.f⟩, R.stay g1.h⟩
  cases x with
  | true => exact iteT ⟨G0, H0, n, o, R1, by simpa using q, k⟩
  | false => exact iteF ⟨G0, H0, n, o, R1, by simpa using q, k⟩
/-! ### an expression alone -/
def mDrop (ws : List Nat) (m : M) : MS := fun n => (m (hide ws n)).bind fun _ => some (.nx n)
theorem psv_expr (ws : List Nat) (he : PV X e m) (hs : swapsWith e none pos.line X.env = pure false := by rfl) : PSV X (.Expr e pos) (mDrop ws m) := PS.mono (ps_expr he hs) fun D σ H h => by
  obtain ⟨G0, H0, n, o, ⟨F, g, R⟩, q, k⟩ := h
  obtain ⟨x, hx, q⟩ := Option.bind_eq_some_iff.mp q
  cases q
  exact ⟨withO ws n σ F H, hide ws n, x, withO_s ws g.s, vr_hide ws R, hx, fun v H1 G1 g1 d1 => k _ _ ⟨F, ⟨g.g, g.s.trans g1.h, g.h.trans g1.h, g.f⟩, R.stay g1.h⟩⟩
theorem psv_doc {x : Str} {j : Nat} {p2 : Pos} : PSV X (.Expr (.Constant (.str x) j p2) pos) mSkip := PS.mono ps_doc fun D σ H h => by
  obtain ⟨G0, H0, n, o, R, q, k⟩ := h
  cases q
  exact k σ H R
/-! ### own lists change -/
def mApp (ws : List Nat) (i : Nat) (m : M) : MS := fun n => (getO n i).bind fun xs => (m (hide ws n)).bind fun d => @ite _ (xs.length < 16000000 ∧ ws.contains i = false) (Classical.propDecidable _) ((if scalD d = true then some (.nx (n.set i (.o (xs ++ [d])))) else some (.nx ((frz ws n).set i (.o (xs ++ [d])))))) none
theorem psv_app (ws : List Nat) (i : Nat) {x : Str} {p1 p2 p3 : Pos} (he : PV X e m) (hN : X.N[i]? = some x := by rfl) (hv : Vis X.env.scope x := by first | exact Or.inl rfl | exact Or.inr (Or.inl rfl) | exact Or.inr (Or.inr rfl)) (hd : (x == ("__debug__" : Str)) = false := by decide)
    (hcd : (x == ("__classdict__" : Str)) = false := by decide) (hst : starEach [e] X.env = (false, eval e X.env) :: starEach [] X.env := by rfl) (hpl : (backTo p3 (starEach [] X.env)).any (·.1) = false := by rfl)
    (hbase : attributeBase (.Name x p1) "append" X.env (eval (.Name x p1) X.env) = eval (.Name x p1) X.env := by rfl)
    (hfew : ((backTo p3 (starEach [e] X.env)).all (fun x => !x.1) && (backToKw p3 (keywordEach [] X.env)).all (fun x => x.1.isSome)
      && decide ([e].length + ([] : List Keyword).length + (if ([] : List Keyword).isEmpty then 0 else 1) < 30)) = true := by rfl)
    (hs : swapsWith (.Call (.Attribute (.Name x p1) "append" p2) [e] [] p3) none pos.line X.env = pure false := by rfl) (hline : (p2.endLine == p3.line) = true := by rfl) :
    PSV X (.Expr (.Call (.Attribute (.Name x p1) "append" p2) [e] [] p3) pos) (mApp ws i m) := PS.mono (ps_expr (pe_bm PySem.F.plainAttrs_list PySem.F.slot_list_append PySem.F.type_list_append mt_append (pe_var hN hv hd hcd) (pa_cons he pa_nil hst) hbase hfew hline hst hpl) hs) fun D σ H h => by
  obtain ⟨G0, H0, n, o, ⟨F, g, R⟩, q, k⟩ := h
  obtain ⟨xs, hx, q⟩ := Option.bind_eq_some_iff.mp q
  obtain ⟨d, hd, q⟩ := Option.bind_eq_some_iff.mp q
  have hx := getO_eq hx
  obtain ⟨p, vs, e, hF, h0, hH, a⟩ := R.o i xs hx
  split at q
  · rename_i hz
    obtain ⟨hz, hw⟩ := hz
    refine ⟨.ref p, e, .inl ⟨rfl, vs, SqL.of hH⟩, withO ws n σ F H, hide ws n, d, withO_s ws g.s, vr_hide ws R, hd, fun v H1 G1 g1 d1 => ?_⟩
    have hz' : vs.length < sizeLine := by
      have : sizeLine = 16777216 := sizeLine_eq
      rw [dpa_len a]
      omega
    refine ⟨p, vs, v, rfl, rfl, g1.h p _ hH, hz', ?_⟩
    split at q
    · rename_i hsc
      cases q
      have R1 := R.stay g1.h
      refine k _ _ ⟨F, gr_mut ⟨g.g, g.s.trans g1.h, g.h.trans g1.h, g.f⟩ hF h0, R1.mut hx e (dpa_app a (.cons (dp_scalar d1 hsc) .nil))⟩
    · cases q
      have R1 := R.frz ws g1
      have hG : G1 p = none := g1.f p _ hH (withO_off R hw hx e)
      refine k _ _ ⟨G1, gr_mut ((withO_gr ws g R).trans g1) hG h0, R1.mut (xs := xs) ?_ e (dpa_app (dpa_ex ((withO_ex ws R).trans g1.g) a) (.cons d1 .nil))⟩
      unfold frz
      rw [frzAt_get, hx, Nat.zero_add]
      simp only [Option.map_some, hw, Bool.false_eq_true, if_false]
  · cases q
/-- y = x.pop() -/
def mPopAsg (i j : Nat) : MS := fun n => (getO n i).bind fun xs => (xs[xs.length - 1]?).bind fun d => some (.nx ((n.set i (.o xs.dropLast)).set j (.v d)))
theorem dpa_dropLast {K : PySem.W.Frag} {G : Hp} {vs : List V} {ds : List PyData} (a : DpAll K G vs ds) : DpAll K G vs.dropLast ds.dropLast := by
  rw [List.dropLast_eq_take, List.dropLast_eq_take, dpa_len a]
  exact dpa_take _ a
theorem psv_popAsg (i j : Nat) {x y : Str} {p1 p2 p3 pos' : Pos} (hnd : X.N.Nodup) (hN : X.N[i]? = some x := by rfl) (hv : Vis X.env.scope x := by first | exact Or.inl rfl | exact Or.inr (Or.inl rfl) | exact Or.inr (Or.inr rfl)) (hd : (x == ("__debug__" : Str)) = false := by decide)
    (hcd : (x == ("__classdict__" : Str)) = false := by decide)
    (hbase : attributeBase (.Name x p1) "pop" X.env (eval (.Name x p1) X.env) = eval (.Name x p1) X.env := by rfl) (hline : (p2.endLine == p3.line) = true := by rfl)
    (hj : X.N[j]? = some y := by rfl) (hy : Loc X.env.scope y := by first | exact .inl rfl | exact .inr rfl) (hs : swapsWith (.Call (.Attribute (.Name x p1) "pop" p2) [] [] p3) (some (.Name y pos')) pos.line X.env = pure false := by rfl) (hf : X.fn y = true ∨ X.env.scope.names.lookup y = some .local := by first | exact .inl rfl | exact .inr rfl) :
    PSV X (.Assign [.Name y pos'] (.Call (.Attribute (.Name x p1) "pop" p2) [] [] p3) pos) (mPopAsg i j) := PS.mono (ps_set hnd hj hy (pe_bm0 PySem.F.plainAttrs_list PySem.F.slot_list_pop PySem.F.type_list_pop mt_pop (pe_var hN hv hd hcd) hbase hline) hs hf) fun D σ H h => by
  obtain ⟨G0, H0, n, o, ⟨F, g, R⟩, q, k⟩ := h
  obtain ⟨xs, hx, q⟩ := Option.bind_eq_some_iff.mp q
  obtain ⟨d, hd, q⟩ := Option.bind_eq_some_iff.mp q
  cases q
  have hx := getO_eq hx
  obtain ⟨p, vs, e, hF, h0, hH, a⟩ := R.o i xs hx
  obtain ⟨v, hv, dv⟩ := dpa_get a hd
  rw [← dpa_len a] at hv
  exact ⟨.ref p, e, .inl ⟨rfl, vs, SqL.of hH⟩, p, vs, v, rfl, rfl, hH, hv, k _ _ ⟨F, gr_mut g hF h0, (R.mut hx e (dpa_dropLast a)).set dv⟩⟩
/-- x.pop() alone -/
def mPop (i : Nat) : MS := fun n => (getO n i).bind fun xs => (xs[xs.length - 1]?).bind fun _ => some (.nx (n.set i (.o xs.dropLast)))
theorem psv_pop (i : Nat) {x : Str} {p1 p2 p3 : Pos} (hN : X.N[i]? = some x := by rfl) (hv : Vis X.env.scope x := by first | exact Or.inl rfl | exact Or.inr (Or.inl rfl) | exact Or.inr (Or.inr rfl)) (hd : (x == ("__debug__" : Str)) = false := by decide)
    (hcd : (x == ("__classdict__" : Str)) = false := by decide)
    (hbase : attributeBase (.Name x p1) "pop" X.env (eval (.Name x p1) X.env) = eval (.Name x p1) X.env := by rfl) (hline : (p2.endLine == p3.line) = true := by rfl)
    (hs : swapsWith (.Call (.Attribute (.Name x p1) "pop" p2) [] [] p3) none pos.line X.env = pure false := by rfl) :
    PSV X (.Expr (.Call (.Attribute (.Name x p1) "pop" p2) [] [] p3) pos) (mPop i) := PS.mono (ps_expr (pe_bm0 PySem.F.plainAttrs_list PySem.F.slot_list_pop PySem.F.type_list_pop mt_pop (pe_var hN hv hd hcd) hbase hline) hs) fun D σ H h => by
  obtain ⟨G0, H0, n, o, ⟨F, g, R⟩, q, k⟩ := h
  obtain ⟨xs, hx, q⟩ := Option.bind_eq_some_iff.mp q
  obtain ⟨d, hd, q⟩ := Option.bind_eq_some_iff.mp q
  cases q
  have hx := getO_eq hx
  obtain ⟨p, vs, e, hF, h0, hH, a⟩ := R.o i xs hx
  obtain ⟨v, hv, dv⟩ := dpa_get a hd
  rw [← dpa_len a] at hv
  exact ⟨.ref p, e, .inl ⟨rfl, vs, SqL.of hH⟩, p, vs, v, rfl, rfl, hH, hv, k _ _ ⟨F, gr_mut g hF h0, R.mut hx e (dpa_dropLast a)⟩⟩
/-- x.reverse() -/
def mRev (i : Nat) : MS := fun n => (getO n i).bind fun xs => some (.nx (n.set i (.o xs.reverse)))
theorem psv_rev (i : Nat) {x : Str} {p1 p2 p3 : Pos} (hN : X.N[i]? = some x := by rfl) (hv : Vis X.env.scope x := by first | exact Or.inl rfl | exact Or.inr (Or.inl rfl) | exact Or.inr (Or.inr rfl)) (hd : (x == ("__debug__" : Str)) = false := by decide)
    (hcd : (x == ("__classdict__" : Str)) = false := by decide)
    (hbase : attributeBase (.Name x p1) "reverse" X.env (eval (.Name x p1) X.env) = eval (.Name x p1) X.env := by rfl) (hline : (p2.endLine == p3.line) = true := by rfl)
    (hs : swapsWith (.Call (.Attribute (.Name x p1) "reverse" p2) [] [] p3) none pos.line X.env = pure false := by rfl) :
    PSV X (.Expr (.Call (.Attribute (.Name x p1) "reverse" p2) [] [] p3) pos) (mRev i) := PS.mono (ps_expr (pe_bm0 PySem.F.plainAttrs_list PySem.F.slot_list_reverse PySem.F.type_list_reverse mt_reverse (pe_var hN hv hd hcd) hbase hline) hs) fun D σ H h => by
  obtain ⟨G0, H0, n, o, ⟨F, g, R⟩, q, k⟩ := h
  obtain ⟨xs, hx, q⟩ := Option.bind_eq_some_iff.mp q
  cases q
  have hx := getO_eq hx
  obtain ⟨p, vs, e, hF, h0, hH, a⟩ := R.o i xs hx
  exact ⟨.ref p, e, .inl ⟨rfl, vs, SqL.of hH⟩, p, vs, rfl, rfl, hH, k _ _ ⟨F, gr_mut g hF h0, R.mut hx e (dpa_rev a)⟩⟩
end
end
end VE
set_option Elab.async false
set_option linter.all false
set_option maxRecDepth 100000
namespace VE
noncomputable section
open PySem PySem.Spec L2 Evl
section
variable {X : Cx} {e a b c : Expr} {es : List Expr} {pos p : Pos} {m ma mb mc : M} {mt : MT} {ms : MA} {st : Stmt} {body : List Stmt} {s1 s2 : MS}
/-! ### name op= e -/
def getV (n : En) (i : Nat) : Option PyData := match n[i]? with
  | some (.v d) => some d
  | _ => none
theorem getV_eq {n : En} {i : Nat} {d : PyData} (h : getV n i = some d) : n[i]? = some (.v d) := by
  unfold getV at h
  split at h
  · cases h; assumption
  · cases h
def mAug (g : PyData → PyData → Option PyData) (ws : List Nat) (i : Nat) (m : M) : MS := fun n => (getV n i).bind fun x => (m (hide ws n)).bind fun y => (g x y).bind fun z => if scalD z = true then some (.nx (n.set i (.v z))) else none
theorem psv_aug {op : Operator} {g : PyData → PyData → Option PyData} (ho : OpD X (inplaceOp op) g) (ws : List Nat) (i : Nat) {x : Str} {pos' : Pos} (hN : X.N.Nodup) (he : PV X e m) (hi : X.N[i]? = some x := by rfl) (hx : Loc X.env.scope x := by first | exact .inl rfl | exact .inr rfl) (hf : X.fn x = true ∨ X.env.scope.names.lookup x = some .local := by first | exact .inl rfl | exact .inr rfl) :
    PSV X (.AugAssign (.Name x pos') op e pos) (mAug g ws i m) := PS.mono (ps_aug hN hi hx he (fun pins s σ H x y v u Q I r1 r2 h => ho pins s σ H x y v u Q I r1 r2 h) hf) fun D σ H h => by
  obtain ⟨G0, H0, n, o, ⟨F, g', R⟩, q, k⟩ := h
  obtain ⟨x, hx, q⟩ := Option.bind_eq_some_iff.mp q
  obtain ⟨y, hy, q⟩ := Option.bind_eq_some_iff.mp q
  obtain ⟨z, hz, q⟩ := Option.bind_eq_some_iff.mp q
  split at q
  · rename_i hs
    cases q
    obtain ⟨v, hv, dv⟩ := R.v i x (getV_eq hx)
    refine ⟨v, hv, withO ws n σ F H, hide ws n, y, withO_s ws g'.s, vr_hide ws R, hy, fun w H1 G1 g1 d1 => ?_⟩
    refine ⟨G1, x, y, z, g1.s, dp_ex ((withO_ex ws R).trans g1.g) dv, d1, hz, fun u H2 G2 g2 d2 => ?_⟩
    have e2 := g1.h.trans g2.h
    exact k _ _ ⟨F, ⟨g'.g, g'.s.trans e2, g'.h.trans e2, g'.f⟩, (R.stay e2).set (dp_scalar d2 hs)⟩
  · cases q
def vAddI : PyData → PyData → Option PyData
  | .int i, .int j => some (.int (i + j))
  | .str x, .str y => @ite _ (x.length + y.length ≤ sizeLine) (Classical.propDecidable _) (some (.str (x ++ y))) none
  | _, _ => none
theorem od_iadd : OpD X (inplaceOp .Add) vAddI := OpR.mono (OpR.or iop_add iop_add_str) fun x y H Q h => by
  obtain ⟨G, d, e, r, g, d1, d2, q, k⟩ := h
  unfold vAddI at q
  split at q
  · cases dp_int d1; cases dp_int d2; cases q
    exact .inl ⟨_, _, rfl, rfl, fin_v g (.int _) k⟩
  · cases dp_str d1; cases dp_str d2
    split at q
    · rename_i hz
      cases q
      exact .inr ⟨_, _, rfl, rfl, hz, fin_v g (.str _) k⟩
    · cases q
  · cases q
theorem od_isub : OpD X (inplaceOp .Sub) vSub := oi0 iop_sub (fun d e z h => by unfold vSub at h; split at h <;> cases h; exact ⟨_, _, rfl, rfl, rfl⟩) fun _ _ _ => .int _
/-! ### another base -/
theorem SR.base {K : PySem.W.Frag} {G0 G1 H0 H : Hp} {σ : L2.St} {n : En} (e : Ex G0 G1) (f : ∀ a o, H0 a = some o → G0 a = none → G1 a = none) (R : SR K G1 H0 σ H n) : SR K G0 H0 σ H n :=
  let ⟨F, g, R⟩ := R
  ⟨F, ⟨e.trans g.g, g.s, g.h, fun a o h q => g.f a o h (f a o h q)⟩, R⟩
theorem Post.base {K : PySem.W.Frag} {G0 G1 H0 : Hp} {D : Ends} {o : Out} (e : Ex G0 G1) (f : ∀ a o, H0 a = some o → G0 a = none → G1 a = none) (k : Post K G0 H0 D o) : Post K G1 H0 D o := by
  cases o with
  | nx n => exact fun σ H R => k σ H (R.base e f)
  | bk n => exact fun σ H R => k σ H (R.base e f)
  | ct n => exact fun σ H R => k σ H (R.base e f)
  | rt d => exact fun v H G g dd => k v H G ⟨e.trans g.g, g.s, g.h, fun a o h q => g.f a o h (f a o h q)⟩ dd
  | rl xs => exact fun p vs H G g h0 hG hH dd => k p vs H G ⟨e.trans g.g, g.s, g.h, fun a o h q => g.f a o h (f a o h q)⟩ h0 hG hH dd
/-! ### what is walked -/
def Yld (K : PySem.W.Frag) (J : It) (G : Hp) (ds : List PyData) : Prop := ∀ i H, Ex G H →
  (∀ d, ds[i]? = some d → J.go i H ∧ ∀ x H', J.yld i H x H' → ∀ F, Ex G F → Ex F H → ∃ F', Gr F H F' H' ∧ Dp K F' x d) ∧ (ds.length ≤ i → J.stop i H)
/-- the walk's data depend on the heap -/
def tMI (K : PySem.W.Frag) (m : MA) : TI := fun σ H R => ∃ G n ds, Ex G H ∧ Vr K G σ n ∧ m n = some ds ∧ ∀ J H' G', Gr G H G' H' → Yld K J G' ds → R J H'
/-- .. do not -/
def nil0 : Hp := fun _ => none
def tMR (K : PySem.W.Frag) (m : MA) : TI := fun σ H R => ∃ G n ds, Ex G H ∧ Vr K G σ n ∧ m n = some ds ∧ ∀ J H' G', Gr G H G' H' → Yld K J nil0 ds → R J H'
abbrev PIV (X : Cx) (tg e : Expr) (m : MA) : Prop := PI X tg e (tMI X.K m)
abbrev PIR (X : Cx) (tg e : Expr) (m : MA) : Prop := PI X tg e (tMR X.K m)
theorem PI.mono {X : Cx} {tg e : Expr} {t t' : TI} (h : PI X tg e t) (i : ∀ σ H R, t' σ H R → t σ H R) : PI X tg e t' := ⟨fun pins s σ H R I q => h.run pins s σ H R I (i σ H R q)⟩
/-- two ways to walk, by the value -/
theorem yld_list {K : PySem.W.Frag} {G : Hp} {a : Addr} {vs : List V} {ds : List PyData} (h : SqL K G a vs) (al : DpAll K G vs ds) : Yld K (Itl K a) G ds := fun i H e => by
  refine ⟨fun d hd => ?_, fun hl => ⟨vs, ex_l e h, by rw [dpa_len al]; exact hl⟩⟩
  obtain ⟨v, hv, dv⟩ := dpa_get al hd
  refine ⟨⟨vs, v, ex_l e h, hv⟩, fun x H' y F e1 e2 => ?_⟩
  obtain ⟨rfl, y⟩ := y
  have z := y vs (ex_l e h)
  rw [hv] at z
  cases z
  exact ⟨F, Gr.refl e2, dp_ex e1 dv⟩
end
end
end VE
set_option Elab.async false
set_option linter.all false
set_option maxRecDepth 100000
namespace VE
noncomputable section
open PySem PySem.Spec L2 Evl
theorem yld_tup {K : PySem.W.Frag} {G : Hp} {a : Addr} {vs : List V} {ds : List PyData} (h : SqT K G a vs) (al : DpAll K G vs ds) : Yld K (Itt K a) G ds := fun i H e => by
  refine ⟨fun d hd => ?_, fun hl => ⟨vs, ex_t e h, by rw [dpa_len al]; exact hl⟩⟩
  obtain ⟨v, hv, dv⟩ := dpa_get al hd
  refine ⟨⟨vs, v, ex_t e h, hv⟩, fun x H' y F e1 e2 => ?_⟩
  obtain ⟨rfl, y⟩ := y
  have z := y vs (ex_t e h)
  rw [hv] at z
  cases z
  exact ⟨F, Gr.refl e2, dp_ex e1 dv⟩
def signsD (z : Str) : List PyData := z.cps.toList.map fun c => .str ⟨#[c]⟩
theorem yld_str {K : PySem.W.Frag} {G : Hp} (z : Str) : Yld K (Its z) G (signsD z) := fun i H e => by
  unfold signsD
  refine ⟨fun d hd => ?_, fun hl => by
    show z.cps.size ≤ i
    simpa using hl⟩
  rw [List.getElem?_map] at hd
  obtain ⟨c, hc, rfl⟩ := Option.map_eq_some_iff.mp hd
  rw [Array.getElem?_toList] at hc
  refine ⟨(Array.getElem?_eq_some_iff.mp hc).1, fun x H' y F e1 e2 => ?_⟩
  obtain ⟨rfl, c', hc', rfl⟩ := y
  rw [hc] at hc'
  cases hc'
  exact ⟨F, Gr.refl e2, .str _⟩
def rangeD (lo : Int) (n : Nat) : List PyData := (List.range n).map fun k : Nat => .int (lo + (k : Int))
theorem yld_range {K : PySem.W.Frag} {G : Hp} (lo : Int) (n : Nat) : Yld K (Itr lo n) G (rangeD lo n) := fun i H e => by
  unfold rangeD
  refine ⟨fun d hd => ?_, fun hl => by
    show n ≤ i
    simpa using hl⟩
  rw [List.getElem?_map] at hd
  obtain ⟨c, hc, rfl⟩ := Option.map_eq_some_iff.mp hd
  obtain ⟨hi, hc'⟩ := List.getElem?_eq_some_iff.mp hc
  rw [List.length_range] at hi
  rw [List.getElem_range] at hc'
  subst hc'
  refine ⟨hi, fun x H' y F e1 e2 => ?_⟩
  obtain ⟨rfl, rfl⟩ := y
  exact ⟨F, Gr.refl e2, .int _⟩
def rangeDC (lo c : Int) (n : Nat) : List PyData := (List.range n).map fun k : Nat => .int (lo + (k : Int) * c)
theorem yld_rangeC {K : PySem.W.Frag} {G : Hp} (lo c : Int) (n : Nat) : Yld K (Itc lo c n) G (rangeDC lo c n) := fun i H e => by
  unfold rangeDC
  refine ⟨fun d hd => ?_, fun hl => by
    show n ≤ i
    simpa using hl⟩
  rw [List.getElem?_map] at hd
  obtain ⟨c', hc, rfl⟩ := Option.map_eq_some_iff.mp hd
  obtain ⟨hi, hc'⟩ := List.getElem?_eq_some_iff.mp hc
  rw [List.length_range] at hi
  rw [List.getElem_range] at hc'
  subst hc'
  refine ⟨hi, fun x H' y F e1 e2 => ?_⟩
  obtain ⟨rfl, rfl⟩ := y
  exact ⟨F, Gr.refl e2, .int _⟩
section
variable {X : Cx} {tg e a b c : Expr} {es : List Expr} {pos p : Pos} {m ma mb mc : M} {mt : MT} {ms : MA} {st : Stmt} {body : List Stmt} {s1 s2 : MS}
def itemsD : PyData → Option (List PyData)
  | .list xs => some xs
  | .tuple xs => some xs
  | .str z => some (signsD z)
  | _ => none
def mItems (m : M) : MA := fun n => (m n).bind itemsD
theorem piv_seq (he : PV X e m) : PIV X tg e (mItems m) := by
  refine ⟨fun pins s σ H R I h => ?_⟩
  obtain ⟨G, n, ds, g, r, q, k⟩ := h
  obtain ⟨d, hd, q⟩ := Option.bind_eq_some_iff.mp q
  refine thn (he.run pins s σ H (fun x H1 => ∃ G1, Gr G H G1 H1 ∧ Dp X.K G1 x d) I ⟨G, n, d, g, r, hd, fun v H1 G1 g1 d1 => ⟨G1, g1, d1⟩⟩) fun v s1 ⟨x, H1, I1, r1, G1, g1, d1⟩ => ?_
  cases d with
  | list xs =>
    have q : some xs = some ds := q
    cases q
    obtain ⟨a, vs, rfl, h1, al⟩ := dp_lst d1
    cases r1
    obtain ⟨its, rv, p, hz⟩ := I1.list (ex_l g1.s h1)
    refine wpAny_pyIter_list p.isList ?_
    refine ⟨s1.heap.objs.size, [s1.heap.objs.size], _, _, H1, rfl, I1.kept (t' := s1.toks) fun b o e => Heap.get?_push_of_some _ e, turn_list a _, ⟨_, Heap.get?_push_size _ rfl, rfl, rfl⟩, fun b hb => ?_, k _ H1 G1 g1 (yld_list h1 al)⟩
    have e : b = s1.heap.objs.size := by simpa using hb
    subst e
    exact I1.fpOk (Nat.le_refl _) (I1.hok.fresh (Nat.le_refl _))
  | tuple xs =>
    have q : some xs = some ds := q
    cases q
    obtain ⟨a, vs, rfl, h1, al⟩ := dp_tup d1
    cases r1
    obtain ⟨its, rv, p, hz⟩ := I1.tuple (ex_t g1.s h1)
    refine wpAny_pyIter_tuple (show s1.heap.IsTuple a its.toArray from p) ?_
    refine ⟨s1.heap.objs.size, [s1.heap.objs.size], _, _, H1, rfl, I1.kept (t' := s1.toks) fun b o e => Heap.get?_push_of_some _ e, turn_tuple a _, ⟨_, Heap.get?_push_size _ rfl, rfl, rfl⟩, fun b hb => ?_, k _ H1 G1 g1 (yld_tup h1 al)⟩
    have e : b = s1.heap.objs.size := by simpa using hb
    subst e
    exact I1.fpOk (Nat.le_refl _) (I1.hok.fresh (Nat.le_refl _))
  | str z =>
    have q : some (signsD z) = some ds := q
    cases q
    cases dp_str d1
    obtain ⟨t, rfl⟩ := r1
    cases ha : z.cps.all (· < 128)
    · exact wpAny_pyIter_wide ha (pi_one (tk := s1.toks) I1 _ (turn_str _ z t "str_iterator" (.inr rfl)) ⟨_, Heap.get?_push_size _ rfl, rfl, rfl⟩ (k _ H1 G1 g1 (yld_str z)))
    · exact wpAny_pyIter_ascii ha (pi_one (tk := s1.toks) I1 _ (turn_str _ z t "str_ascii_iterator" (.inl rfl)) ⟨_, Heap.get?_push_size _ rfl, rfl, rfl⟩ (k _ H1 G1 g1 (yld_str z)))
  | none => cases q
  | bool _ => cases q
  | int _ => cases q
  | dict _ => cases q
def rng1 : List PyData → Option (List PyData)
  | [.int j] => @ite _ (-(2 ^ 62) ≤ j ∧ j < 2 ^ 62) (Classical.propDecidable _) (some (rangeD 0 j.toNat)) none
  | _ => none
def rng2 : List PyData → Option (List PyData)
  | [.int i, .int j] => @ite _ (-(2 ^ 62) ≤ i ∧ i < 2 ^ 62 ∧ -(2 ^ 62) ≤ j ∧ j < 2 ^ 62) (Classical.propDecidable _) (some (rangeD i (j - i).toNat)) none
  | _ => none
/-- range(a, b, -1) -/
def rng3 : List PyData → Option (List PyData)
  | [.int i, .int j, .int c] => @ite _ (c = -1 ∧ -(2 ^ 62) ≤ i ∧ i < 2 ^ 62 ∧ -(2 ^ 62) ≤ j ∧ j < 2 ^ 62) (Classical.propDecidable _) (some (rangeDC i (-1) (i - j).toNat)) none
  | _ => none
def mRng (f : List PyData → Option (List PyData)) (ms : MA) : MA := fun n => (ms n).bind f
theorem pir_range1 (hm : X.mg "range" = none) (ha : PL X [a] ms) (hg : Gl X "range" := by rfl) (hs : starEach [a] X.env = [(false, eval a X.env)] := by rfl) : PIR X tg (.Call (.Name "range" p) [a] [] pos) (mRng rng1 ms) := PI.mono (pi_range1 hg hm ha hs) fun σ H R h => by
  obtain ⟨G, n, ds, g, r, q, k⟩ := h
  obtain ⟨d, hd, q⟩ := Option.bind_eq_some_iff.mp q
  refine ⟨G, n, d, g, r, hd, fun vs H1 G1 g1 d1 => ?_⟩
  unfold rng1 at q
  split at q
  · split at q
    · rename_i hz
      cases q
      obtain ⟨v, rfl, h1⟩ := dpa1 d1
      cases dp_int h1
      exact ⟨_, rfl, hz.1, hz.2, k _ H1 G1 g1 (yld_range 0 _)⟩
    · cases q
  · cases q
theorem pir_range2 (hm : X.mg "range" = none) (ha : PL X [a, b] ms) (hg : Gl X "range" := by rfl) (hs : starEach [a, b] X.env = [(false, eval a X.env), (false, eval b X.env)] := by rfl) (hs2 : starEach [b] X.env = [(false, eval b X.env)] := by rfl) : PIR X tg (.Call (.Name "range" p) [a, b] [] pos) (mRng rng2 ms) := PI.mono (pi_range2 hg hm ha hs hs2) fun σ H R h => by
  obtain ⟨G, n, ds, g, r, q, k⟩ := h
  obtain ⟨d, hd, q⟩ := Option.bind_eq_some_iff.mp q
  refine ⟨G, n, d, g, r, hd, fun vs H1 G1 g1 d1 => ?_⟩
  unfold rng2 at q
  split at q
  · split at q
    · rename_i hz
      cases q
      obtain ⟨v, w, rfl, h1, h2⟩ := dpa2 d1
      cases dp_int h1; cases dp_int h2
      exact ⟨_, _, rfl, hz, k _ H1 G1 g1 (yld_range _ _)⟩
    · cases q
  · cases q
theorem dpa3 {K : PySem.W.Frag} {G : Hp} {vs : List V} {d d' d'' : PyData} (h : DpAll K G vs [d, d', d'']) : ∃ v v' v'', vs = [v, v', v''] ∧ Dp K G v d ∧ Dp K G v' d' ∧ Dp K G v'' d'' := by
  cases h with
  | cons h a =>
    obtain ⟨v, v', rfl, h', h''⟩ := dpa2 a
    exact ⟨_, _, _, rfl, h, h', h''⟩
theorem pir_range3 (hm : X.mg "range" = none) (ha : PL X [a, b, c] ms) (hg : Gl X "range" := by rfl) (hs : starEach [a, b, c] X.env = (false, eval a X.env) :: starEach [b, c] X.env := by rfl) (hpl : (backTo pos (starEach [b, c] X.env)).any (·.1) = false := by rfl) : PIR X tg (.Call (.Name "range" p) [a, b, c] [] pos) (mRng rng3 ms) := PI.mono (pi_range3 hg hm ha hs hpl) fun σ H R h => by
  obtain ⟨G, n, ds, g, r, q, k⟩ := h
  obtain ⟨d, hd, q⟩ := Option.bind_eq_some_iff.mp q
  refine ⟨G, n, d, g, r, hd, fun vs H1 G1 g1 d1 => ?_⟩
  unfold rng3 at q
  split at q
  · split at q
    · rename_i hz
      obtain ⟨rfl, h1, h2, h3, h4⟩ := hz
      cases q
      obtain ⟨v, w, u, rfl, e1, e2, e3⟩ := dpa3 d1
      cases dp_int e1; cases dp_int e2; cases dp_int e3
      exact ⟨_, _, _, _, rfl, RgC.neg h1 h2 h3 h4, k _ H1 G1 g1 (yld_rangeC _ _ _)⟩
    · cases q
  · cases q
/-! ### targets: the slots that are stored, and what -/
abbrev Fl := PyData → Option (List (Nat × PyData))
def setsE : En → List (Nat × PyData) → En
  | n, [] => n
  | n, (i, d) :: r => setsE (n.set i (.v d)) r
def setsV : L2.St → List (Nat × V) → L2.St
  | σ, [] => σ
  | σ, (i, v) :: r => setsV (σ.set i (some v)) r
inductive PairD (K : PySem.W.Frag) (F : Hp) : List (Nat × V) → List (Nat × PyData) → Prop where
  | nil : PairD K F [] []
  | cons {i : Nat} {v : V} {d : PyData} {bs : List (Nat × V)} {as : List (Nat × PyData)} : Dp K F v d → PairD K F bs as → PairD K F ((i, v) :: bs) ((i, d) :: as)
theorem PairD.append {K : PySem.W.Frag} {F : Hp} {bs bs' : List (Nat × V)} {as as' : List (Nat × PyData)} (h : PairD K F bs as) (h' : PairD K F bs' as') : PairD K F (bs ++ bs') (as ++ as') := by
  induction h with
  | nil => exact h'
  | cons d _ ih => exact .cons d ih
theorem setsV_append (bs bs' : List (Nat × V)) : ∀ σ, setsV σ (bs ++ bs') = setsV (setsV σ bs) bs' := by
  induction bs with
  | nil => intro σ; rfl
  | cons b bs ih => intro σ; exact ih _
theorem Rows.sets {K : PySem.W.Frag} {H0 F H : Hp} {bs : List (Nat × V)} {as : List (Nat × PyData)} (h : PairD K F bs as) : ∀ {σ : L2.St} {n : En}, Rows K H0 F H σ n → Rows K H0 F H (setsV σ bs) (setsE n as) := by
  induction h with
  | nil => exact fun R => R
  | cons d _ ih => exact fun R => ih (R.set d)
def TGD (K : PySem.W.Frag) (g : TG) (f : Fl) : Prop := ∀ F H σ d v as, Ex F H → Dp K F v d → f d = some as → ∀ Q : L2.St → Hp → Prop, (∀ bs, PairD K F bs as → Q (setsV σ bs) H) → g v σ H Q
def TGDs (K : PySem.W.Frag) (g : TGs) (f : List PyData → Option (List (Nat × PyData))) : Prop := ∀ F H σ ds vs as, Ex F H → DpAll K F vs ds → f ds = some as → ∀ Q : L2.St → Hp → Prop, (∀ bs, PairD K F bs as → Q (setsV σ bs) H) → g vs σ H Q
def flN (i : Nat) : Fl := fun d => some [(i, d)]
theorem tgd_name {K : PySem.W.Frag} (i : Nat) : TGD K (gName i) (flN i) := fun F H σ d v as _ dd q Q k => by
  cases q
  exact k [(i, v)] (.cons dd .nil)
def flNil : List PyData → Option (List (Nat × PyData))
  | [] => some []
  | _ => none
def flCons (f : Fl) (fs : List PyData → Option (List (Nat × PyData))) : List PyData → Option (List (Nat × PyData))
  | d :: ds => (f d).bind fun a => (fs ds).bind fun b => some (a ++ b)
  | [] => none
theorem tgds_nil {K : PySem.W.Frag} : TGDs K gNil flNil := fun F H σ ds vs as _ dd q Q k => by
  cases dd with
  | nil =>
    cases q
    exact ⟨rfl, k [] .nil⟩
  | cons _ _ => cases q
theorem tgds_cons {K : PySem.W.Frag} {g : TG} {gs : TGs} {f : Fl} {fs : List PyData → Option (List (Nat × PyData))} (h1 : TGD K g f) (h2 : TGDs K gs fs) : TGDs K (gCons g gs) (flCons f fs) := fun F H σ ds vs as e dd q Q k => by
  cases dd with
  | nil => cases q
  | cons dv da =>
    obtain ⟨a, ha, q⟩ := Option.bind_eq_some_iff.mp q
    obtain ⟨b, hb, q⟩ := Option.bind_eq_some_iff.mp q
    cases q
    refine ⟨_, _, rfl, h1 F H σ _ _ a e dv ha _ fun bs p1 => h2 F H _ _ _ b e da hb _ fun bs' p2 => ?_⟩
    rw [← setsV_append]
    exact k _ (p1.append p2)
def flTup (fs : List PyData → Option (List (Nat × PyData))) (l : Nat) : Fl
  | .tuple ds => if ds.length = l then fs ds else none
  | .list ds => if ds.length = l then fs ds else none
  | _ => none
/-- a, b = a tuple or a list -/
def gBoth (K : PySem.W.Frag) (l : Nat) (gs : TGs) : TG := fun v σ H Q => gTup K l gs v σ H Q ∨ gUnl K l gs v σ H Q
theorem pg_both {X : Cx} {es : List Expr} {pos : Pos} {k : Nat} {t : TGs} {n : Nat} (hc : X.calm = true) (h : PGs X es t) (hn : (assignEach es X.env).length = n := by rfl) (hst : (assignEach es X.env).findIdx? (·.1) = none := by rfl) : PG X (.Tuple es k pos) (gBoth X.K n t) :=
  ⟨fun pins s σ H v u Q I r hw => hw.elim (fun w => (pg_tup hc h hn hst).run pins s σ H v u Q I r w) fun w => (pg_unl hc h hn hst).run pins s σ H v u Q I r w⟩
theorem tgd_tup {K : PySem.W.Frag} {gs : TGs} {l : Nat} {fs : List PyData → Option (List (Nat × PyData))} (h : TGDs K gs fs) : TGD K (gBoth K l gs) (flTup fs l) := fun F H σ d v as e dd q Q k => by
  cases d with
  | tuple ds =>
    have q : (if ds.length = l then fs ds else none) = some as := q
    split at q
    · rename_i hl
      obtain ⟨a, vs, rfl, h1, al⟩ := dp_tup dd
      exact .inl ⟨a, vs, rfl, ex_t e h1, by rw [dpa_len al, hl], h F H σ ds vs as e al q Q k⟩
    · cases q
  | list ds =>
    have q : (if ds.length = l then fs ds else none) = some as := q
    split at q
    · rename_i hl
      obtain ⟨a, vs, rfl, h1, al⟩ := dp_lst dd
      exact .inr ⟨a, vs, rfl, ex_l e h1, by rw [dpa_len al, hl], h F H σ ds vs as e al q Q k⟩
    · cases q
  | _ => cases q
def PT1 (X : Cx) (tg : Expr) (f : Fl) : Prop := ∃ g : TG, PG X tg g ∧ TGD X.K g f
theorem pt_name (i : Nat) {x : Str} {pos' : Pos} (hN : X.N.Nodup) (hi : X.N[i]? = some x := by rfl) (hx : Loc X.env.scope x := by first | exact .inl rfl | exact .inr rfl) (hf : X.fn x = true ∨ X.env.scope.names.lookup x = some .local := by first | exact .inl rfl | exact .inr rfl) : PT1 X (.Name x pos') (flN i) :=
  ⟨gName i, pg_name hN hi hx hf, tgd_name i⟩
def PTs1 (X : Cx) (ts : List Expr) (f : List PyData → Option (List (Nat × PyData))) : Prop := ∃ g : TGs, PGs X ts g ∧ TGDs X.K g f
theorem pts_nil1 : PTs1 X [] flNil := ⟨gNil, pgs_nil, tgds_nil⟩
theorem pts_cons1 {f : Fl} {fs : List PyData → Option (List (Nat × PyData))} (h1 : PT1 X e f) (h2 : PTs1 X es fs) (hs : (assignEach (e :: es) X.env).map (·.2) = assign e X.env :: (assignEach es X.env).map (·.2) := by rfl) : PTs1 X (e :: es) (flCons f fs) := by
  obtain ⟨g1, p1, k1⟩ := h1
  obtain ⟨g2, p2, k2⟩ := h2
  exact ⟨gCons g1 g2, pgs_cons p1 p2 hs, tgds_cons k1 k2⟩
theorem pt_tup {k : Nat} (l : Nat) {fs : List PyData → Option (List (Nat × PyData))} (h : PTs1 X es fs) (hc : X.calm = true := by rfl) (hn : (assignEach es X.env).length = l := by rfl) (hst : (assignEach es X.env).findIdx? (·.1) = none := by rfl) : PT1 X (.Tuple es k pos) (flTup fs l) := by
  obtain ⟨g1, p1, k1⟩ := h
  exact ⟨gBoth X.K l g1, pg_both hc p1 hn hst, tgd_tup k1⟩
/-- a, b = e -/
def mAsgT (ws : List Nat) (f : Fl) (m : M) : MS := fun n => (m (hide ws n)).bind fun d => (f d).bind fun as => some (.nx (setsE (frz ws n) as))
theorem psv_asgT {f : Fl} (ws : List Nat) (he : PV X e m) (hg : PT1 X tg f) (hs : swapsWithSole [tg] e pos.line X.env = pure false := by rfl) (hw : swappedStores [tg] e X.env = pure none := by rfl)
    (h1 : (assignEach [tg] X.env).map (·.2) = [assign tg X.env] := by rfl) : PSV X (.Assign [tg] e pos) (mAsgT ws f m) := by
  obtain ⟨g, pg, kg⟩ := hg
  refine PS.mono (ps_asg he pg hs hw h1) fun D σ H h => ?_
  obtain ⟨G0, H0, n, o, ⟨F, g', R⟩, q, k⟩ := h
  obtain ⟨d, hd, q⟩ := Option.bind_eq_some_iff.mp q
  obtain ⟨as, ha, q⟩ := Option.bind_eq_some_iff.mp q
  cases q
  refine ⟨withO ws n σ F H, hide ws n, d, withO_s ws g'.s, vr_hide ws R, hd, fun v H1 G1 g1 d1 => ?_⟩
  exact kg G1 H1 σ d v as g1.s d1 ha _ fun bs hp => k _ _ ⟨G1, (withO_gr ws g' R).trans g1, (R.frz ws g1).sets hp⟩
/-! ### for -/
def forL (f : Fl) (b : MS) : List PyData → En → Option Out
  | [], n => some (.nx n)
  | d :: ds, n => (f d).bind fun as => (b (setsE n as)).bind fun o => match o with
    | .nx n2 => forL f b ds n2
    | .ct n2 => forL f b ds n2
    | .bk n2 => some (.nx n2)
    | .rt d => some (.rt d)
    | .rl d => some (.rl d)
theorem for_ok {K : PySem.W.Frag} {g : TG} {f : Fl} {b : MS} {J : It} {D : Ends} {G0 H0 G1 H1 : Hp} {σ : L2.St} {ds : List PyData} {n : En} {o : Out}
    (hg : TGD K g f)
    (y : Yld K J G1 ds) (e0 : Ex G0 G1) (f0 : ∀ a o, H0 a = some o → G0 a = none → G1 a = none) (R : SR K G1 H0 σ H1 n) (q : forL f b ds n = some o) (k : Post K G0 H0 D o) :
    ∃ W : Nat → Nat → L2.St → Hp → Prop, (∃ m, W 0 m σ H1) ∧ ∀ i m σ H, W i m σ H →
      (J.stop i H ∧ D.nx σ H) ∨ (J.go i H ∧ ∃ N : L2.St → Hp → Prop, (∀ σ' H', N σ' H' → ∃ m', m' < m ∧ W (i + 1) m' σ' H') ∧ ∀ x H', J.yld i H x H' → g x σ H' fun σ2 H2 => tMS K b { D with nx := N, ct := N, bk := D.nx } σ2 H2) := by
  have k1 : Post K G1 H0 D o := k.base e0 f0
  refine ⟨fun i m σ H => m = ds.length - i ∧ i ≤ ds.length ∧ ∃ n, SR K G1 H0 σ H n ∧ forL f b (ds.drop i) n = some o, ⟨ds.length, by simp, Nat.zero_le _, n, R, by simpa using q⟩, ?_⟩
  rintro i m σ H ⟨rfl, hi, n, R, q⟩
  by_cases hlt : i < ds.length
  · rw [List.drop_eq_getElem_cons hlt] at q
    obtain ⟨n1, h1, q⟩ := Option.bind_eq_some_iff.mp q
    obtain ⟨o1, h2, q⟩ := Option.bind_eq_some_iff.mp q
    obtain ⟨F, gF, RF⟩ := R
    obtain ⟨hgo, hy⟩ := (y i H (gF.g.trans gF.s)).1 _ (List.getElem?_eq_getElem hlt)
    refine .inr ⟨hgo, fun σ' H' => ∃ n, SR K G1 H0 σ' H' n ∧ forL f b (ds.drop (i + 1)) n = some o, fun σ' H' ⟨n, R, q⟩ => ⟨ds.length - (i + 1), by omega, rfl, hlt, n, R, q⟩, fun x H' hx => ?_⟩
    obtain ⟨F', g', dx⟩ := hy x H' hx F gF.g gF.s
    refine hg F' H' σ _ x n1 g'.s dx h1 _ fun bs hp => ⟨G1, H0, _, o1, ⟨F', gF.trans g', (RF.grow g').sets hp⟩, h2, ?_⟩
    cases o1 with
    | nx n2 => exact fun σ2 H2 R2 => ⟨n2, R2, q⟩
    | ct n2 => exact fun σ2 H2 R2 => ⟨n2, R2, q⟩
    | bk n2 =>
      cases q
      exact k1
    | rt d =>
      cases q
      exact k1
    | rl d =>
      cases q
      exact k1
  · have e : i = ds.length := by omega
    subst e
    obtain ⟨F, gF, RF⟩ := R
    rw [List.drop_length] at q
    cases q
    exact .inl ⟨(y _ H (gF.g.trans gF.s)).2 (Nat.le_refl _), k1 σ H ⟨F, gF, RF⟩⟩
/-- the walked thing and the own lists of ws are frozen -/
def mFor (ws : List Nat) (mi : MA) (f : Fl) (b : MS) : MS := fun n => (mi (hide ws n)).bind fun ds => forL f b ds (frz ws n)
theorem psv_for {f : Fl} (ws : List Nat) (hi : PIV X tg e ms) (hg : PT1 X tg f) (hb : PSsV X body s1) (hp : PassesOwn (model X.prog X.w) X.A X.env X.xe := by first | exact PassesOwn.never | assumption) (hc : X.calm = true := by rfl)
    (hs : ∀ x, foldedSetIterable e X.env x = pure x := by intro _; rfl) : PSV X (.For tg e body [] pos) (mFor ws ms f s1) := by
  obtain ⟨g, pg, kg⟩ := hg
  refine PS.mono (ps_for hp hc hi pg hb hs) fun D σ H h => ?_
  obtain ⟨G0, H0, n, o, ⟨F, g', R⟩, q, k⟩ := h
  obtain ⟨ds, hd, q⟩ := Option.bind_eq_some_iff.mp q
  refine ⟨withO ws n σ F H, hide ws n, ds, withO_s ws g'.s, vr_hide ws R, hd, fun J H1 G1 g1 y => ?_⟩
  have gg := (withO_gr ws g' R).trans g1
  exact for_ok kg y gg.g gg.f ⟨G1, ⟨Ex.refl _, gg.s, gg.h, fun _ _ _ z => z⟩, R.frz ws g1⟩ q k
/-- a range: nothing is frozen -/
def mForR (ws : List Nat) (mi : MA) (f : Fl) (b : MS) : MS := fun n => (mi (hide ws n)).bind fun ds => forL f b ds n
theorem psv_forR {f : Fl} (ws : List Nat) (hi : PIR X tg e ms) (hg : PT1 X tg f) (hb : PSsV X body s1) (hp : PassesOwn (model X.prog X.w) X.A X.env X.xe := by first | exact PassesOwn.never | assumption) (hc : X.calm = true := by rfl)
    (hs : ∀ x, foldedSetIterable e X.env x = pure x := by intro _; rfl) : PSV X (.For tg e body [] pos) (mForR ws ms f s1) := by
  obtain ⟨g, pg, kg⟩ := hg
  refine PS.mono (ps_for hp hc hi pg hb hs) fun D σ H h => ?_
  obtain ⟨G0, H0, n, o, ⟨F, g', R⟩, q, k⟩ := h
  obtain ⟨ds, hd, q⟩ := Option.bind_eq_some_iff.mp q
  refine ⟨withO ws n σ F H, hide ws n, ds, withO_s ws g'.s, vr_hide ws R, hd, fun J H1 G1 g1 y => ?_⟩
  have y' : Yld X.K J G0 ds := fun i H e => by
    obtain ⟨y1, y2⟩ := y i H fun _ _ z => nomatch z
    exact ⟨fun d hd => ⟨(y1 d hd).1, fun x H' hx F e1 e2 => (y1 d hd).2 x H' hx F (fun _ _ z => nomatch z) e2⟩, y2⟩
  exact for_ok kg y' (Ex.refl _) (fun _ _ _ z => z) ⟨F, ⟨g'.g, g'.s.trans g1.h, g'.h.trans g1.h, g'.f⟩, R.stay g1.h⟩ q k
/-! ### while -/
def whl (ws : List Nat) (t : MT) (b : MS) : Nat → En → Option Out
  | 0, _ => none
  | j + 1, n => (t (hide ws n)).bind fun c => if c = true then (b n).bind fun o => match o with
    | .nx n2 => whl ws t b j n2
    | .ct n2 => whl ws t b j n2
    | .bk n2 => some (.nx n2)
    | .rt d => some (.rt d)
    | .rl d => some (.rl d)
    else some (.nx n)
theorem whl_mono (ws : List Nat) (t : MT) (b : MS) : ∀ (j i : Nat) (n : En) (o : Out), whl ws t b j n = some o → j ≤ i → whl ws t b i n = some o
  | 0, _, _, _, h, _ => by cases h
  | j + 1, 0, _, _, _, h => by omega
  | j + 1, i + 1, n, o, h, hi => by
    unfold whl at h ⊢
    obtain ⟨c, hc, h⟩ := Option.bind_eq_some_iff.mp h
    rw [hc, Option.bind_some]
    cases c with
    | false => exact h
    | true =>
      rw [if_pos rfl] at h ⊢
      obtain ⟨o1, h1, h⟩ := Option.bind_eq_some_iff.mp h
      rw [h1, Option.bind_some]
      cases o1 with
      | nx n2 => exact whl_mono ws t b j i n2 o h (by omega)
      | ct n2 => exact whl_mono ws t b j i n2 o h (by omega)
      | bk n2 => exact h
      | rt d => exact h
      | rl d => exact h
noncomputable def mWhile (ws : List Nat) (t : MT) (b : MS) : MS := open Classical in fun n => if h : ∃ o j, whl ws t b j n = some o then some h.choose else none
theorem mWhile_of {ws : List Nat} {t : MT} {b : MS} {n : En} {o : Out} {j : Nat} (h : whl ws t b j n = some o) : mWhile ws t b n = some o := by
  have hex : ∃ o j, whl ws t b j n = some o := ⟨o, j, h⟩
  unfold mWhile
  rw [dif_pos hex]
  obtain ⟨i, hi⟩ := hex.choose_spec
  have e1 := whl_mono ws t b i (max i j) n _ hi (Nat.le_max_left _ _)
  have e2 := whl_mono ws t b j (max i j) n _ h (Nat.le_max_right _ _)
  rw [e1] at e2
  exact e2
theorem of_mWhile {ws : List Nat} {t : MT} {b : MS} {n : En} {o : Out} (h : mWhile ws t b n = some o) : ∃ j, whl ws t b j n = some o := by
  unfold mWhile at h
  split at h
  · rename_i hex
    obtain ⟨i, hi⟩ := hex.choose_spec
    cases h
    exact ⟨i, hi⟩
  · cases h
theorem psv_while (ws : List Nat) (hc : PB X c mt) (hb : PSsV X body s1) (hp : PassesOwn (model X.prog X.w) X.A X.env X.xe := by first | exact PassesOwn.never | assumption) : PSV X (.While c body [] pos) (mWhile ws mt s1) := PS.mono (ps_while hp hc hb) fun D σ H h => by
  obtain ⟨G0, H0, n, o, R, q, k⟩ := h
  obtain ⟨j, q⟩ := of_mWhile q
  refine ⟨fun m σ H => ∃ n, SR X.K G0 H0 σ H n ∧ whl ws mt s1 m n = some o, ⟨j, n, R, q⟩, ?_⟩
  rintro m σ H ⟨n, ⟨F, g, R⟩, q⟩
  cases m with
  | zero => cases q
  | succ m =>
    unfold whl at q
    obtain ⟨c, hc, q⟩ := Option.bind_eq_some_iff.mp q
    refine ⟨withO ws n σ F H, hide ws n, c, withO_s ws g.s, vr_hide ws R, hc, fun H1 G1 g1 => ?_⟩
    have R1 : SR X.K G0 H0 σ H1 n := ⟨F, ⟨g.g, g.s.trans g1.h, g.h.trans g1.h, g.f⟩, R.stay g1.h⟩
    cases c with
    | false =>
      refine iteF ?_
      cases q
      exact k σ H1 R1
    | true =>
      refine iteT ?_
      rw [if_pos rfl] at q
      obtain ⟨o1, h1, q⟩ := Option.bind_eq_some_iff.mp q
      refine ⟨fun σ' H' => ∃ n, SR X.K G0 H0 σ' H' n ∧ whl ws mt s1 m n = some o, fun σ' H' z => ⟨m, Nat.lt_succ_self m, z⟩, G0, H0, n, o1, R1, h1, ?_⟩
      cases o1 with
      | nx n2 => exact fun σ2 H2 R2 => ⟨n2, R2, q⟩
      | ct n2 => exact fun σ2 H2 R2 => ⟨n2, R2, q⟩
      | bk n2 =>
        cases q
        exact k
      | rt d =>
        cases q
        exact k
      | rl d =>
        cases q
        exact k
end
end
end VE
set_option Elab.async false
set_option linter.all false
set_option maxRecDepth 100000
namespace VE
noncomputable section
open PySem PySem.Spec L2 Evl
/-! ### comprehensions -/
theorem wipe_get (σ : L2.St) : ∀ (vs : List Nat) (j : Nat), (wipe σ vs)[j]? = if j ∈ vs then (σ[j]?).map (fun _ => none) else σ[j]?
  | [], j => by simp [wipe]
  | v :: vs, j => by
    have ih := wipe_get σ vs j
    unfold wipe
    rw [List.getElem?_set]
    by_cases h : v = j
    · subst h
      simp only [if_true, List.mem_cons, true_or, wipe_length]
      by_cases hl : v < σ.length
      · simp [hl]
      · simp [hl]
    · rw [if_neg h, ih]
      have h' : ¬ j = v := fun z => h z.symm
      simp only [List.mem_cons, h', false_or]
theorem wipe_set {σ : L2.St} {vs : List Nat} {i : Nat} {x : Option V} (h : i ∈ vs) : wipe (σ.set i x) vs = wipe σ vs := by
  apply List.ext_getElem?
  intro j
  rw [wipe_get, wipe_get]
  by_cases hj : j ∈ vs
  · rw [if_pos hj, if_pos hj, List.getElem?_set]
    split
    · rename_i e
      subst e
      split
      · rename_i hl
        simp [hl]
      · rename_i hl
        simp [hl]
    · rfl
  · rw [if_neg hj, if_neg hj, List.getElem?_set_ne (fun z => by subst z; exact hj h)]
theorem wipe_wipe {σ : L2.St} {vs : List Nat} : wipe (wipe σ vs) vs = wipe σ vs := by
  apply List.ext_getElem?
  intro j
  rw [wipe_get, wipe_get]
  by_cases hj : j ∈ vs
  · rw [if_pos hj, if_pos hj]
    cases σ[j]? <;> rfl
  · rw [if_neg hj, if_neg hj]
theorem wipe_setsV {vs : List Nat} : ∀ {bs : List (Nat × V)} {σ : L2.St}, (∀ b ∈ bs, b.1 ∈ vs) → wipe (setsV σ bs) vs = wipe σ vs
  | [], _, _ => rfl
  | (i, v) :: bs, σ, h => by
    have h1 := wipe_setsV (bs := bs) (σ := σ.set i (some v)) fun b hb => h b (List.mem_cons_of_mem _ hb)
    show wipe (setsV (σ.set i (some v)) bs) vs = wipe σ vs
    rw [h1]
    exact wipe_set (h (i, v) (List.mem_cons_self ..))
def wipeE (n : En) : List Nat → En
  | [] => n
  | v :: vs => (wipeE n vs).set v .no
theorem wipeE_get {n : En} {s : Sl} {i : Nat} : ∀ {vs : List Nat}, (wipeE n vs)[i]? = some s → (s = .no ∨ (n[i]? = some s ∧ i ∉ vs))
  | [], h => .inr ⟨h, by simp⟩
  | v :: vs, h => by
    unfold wipeE at h
    by_cases hi : v = i
    · subst hi
      rw [List.getElem?_set] at h
      simp only [if_true] at h
      split at h
      · cases h
        exact .inl rfl
      · cases h
    · rw [List.getElem?_set_ne hi] at h
      rcases wipeE_get h with h | ⟨h, h'⟩
      · exact .inl h
      · exact .inr ⟨h, by simp [h', Ne.symm hi]⟩
theorem wipeE_len (n : En) : ∀ vs : List Nat, (wipeE n vs).length = n.length
  | [] => rfl
  | v :: vs => by unfold wipeE; rw [List.length_set, wipeE_len n vs]
theorem vr_wipe {K : PySem.W.Frag} {G : Hp} {σ : L2.St} {n : En} {vs : List Nat} (r : Vr K G σ n) : Vr K G (wipe σ vs) (wipeE n vs) := ⟨by rw [wipe_length, wipeE_len]; exact r.len, fun i s d h1 h2 => by
  rcases wipeE_get h1 with h | ⟨h, h'⟩
  · subst h
    cases h2
  · obtain ⟨v, e, dd⟩ := r.sl i s d h h2
    exact ⟨v, by rw [wipe_get, if_neg h']; exact e, dd⟩⟩
theorem vr_set {K : PySem.W.Frag} {G : Hp} {σ : L2.St} {n : En} {i : Nat} {v : V} {d : PyData} (r : Vr K G σ n) (h : Dp K G v d) : Vr K G (σ.set i (some v)) (n.set i (.v d)) := ⟨by rw [List.length_set, List.length_set]; exact r.len, fun j s e h1 h2 => by
  have hl := r.len
  by_cases z : i = j
  · subst z
    by_cases hi : i < n.length
    · rw [List.getElem?_set_self hi] at h1
      cases h1
      cases h2
      exact ⟨v, by rw [List.getElem?_set_self (by omega)], h⟩
    · simp [List.getElem?_set, hi] at h1
  · rw [List.getElem?_set_ne z] at h1 ⊢
    exact r.sl j s e h1 h2⟩
theorem vr_sets {K : PySem.W.Frag} {G : Hp} {bs : List (Nat × V)} {as : List (Nat × PyData)} (h : PairD K G bs as) : ∀ {σ : L2.St} {n : En}, Vr K G σ n → Vr K G (setsV σ bs) (setsE n as) := by
  induction h with
  | nil => exact fun r => r
  | cons d _ ih => exact fun r => ih (vr_set r d)
/-- what a comprehension gives -/
def compL (f : Fl) (vs : List Nat) (mt : MT) (me : M) (n : En) : List PyData → Option (List PyData)
  | [] => some []
  | d :: ds => (f d).bind fun as => if as.all (fun p => vs.contains p.1) = true then
      (mt (setsE n as)).bind fun c => if c = true then (me (setsE n as)).bind fun y => (compL f vs mt me n ds).bind fun r => some (y :: r)
        else compL f vs mt me n ds
      else none
def mLc (vs : List Nat) (mi : MA) (f : Fl) (mt : MT) (me : M) : MA := fun n => (mi n).bind fun ds => (compL f vs mt me (wipeE n vs) ds).bind fun rs => @ite _ (rs.length < 16000000) (Classical.propDecidable _) (some rs) none
theorem pd_all {K : PySem.W.Frag} {F : Hp} {vs : List Nat} {bs : List (Nat × V)} {as : List (Nat × PyData)} (h : PairD K F bs as) : as.all (fun p => vs.contains p.1) = true → ∀ b ∈ bs, b.1 ∈ vs := by
  induction h with
  | nil => intro _ b hb; cases hb
  | cons d _ ih =>
    intro ha b hb
    simp only [List.all_cons, Bool.and_eq_true, List.contains_iff_mem] at ha
    rcases List.mem_cons.mp hb with rfl | hb
    · exact ha.1
    · exact ih ha.2 b hb
theorem PairD.mono {K : PySem.W.Frag} {F F' : Hp} {bs : List (Nat × V)} {as : List (Nat × PyData)} (h : PairD K F bs as) (e : Ex F F') : PairD K F' bs as := by
  induction h with
  | nil => exact .nil
  | cons d _ ih => exact .cons (dp_ex e d) ih
theorem comp_ok {K : PySem.W.Frag} {g : TG} {f : Fl} {vs : List Nat} {mi : MA} {mt : MT} {me : M} (hg : TGD K g f) : ∀ σ H Q, tMF K (mLc vs mi f mt me) σ H Q → tLc (tMI K mi) g (tMT K mt) (tM K me) vs σ H Q := fun σ H Q h => by
  obtain ⟨G, n, rs, e, r, q, k⟩ := h
  obtain ⟨ds, hd, q⟩ := Option.bind_eq_some_iff.mp q
  obtain ⟨rs', hrs, q⟩ := Option.bind_eq_some_iff.mp q
  split at q
  · rename_i hz
    cases q
    refine ⟨G, n, ds, e, r, hd, fun J H1 G1 g1 y D hD => ?_⟩
    refine ⟨fun i m H' => m = ds.length - i ∧ i ≤ ds.length ∧ ∃ F acc done rest, Gr G1 H1 F H' ∧ F D = none ∧ H' D = some (.lst acc) ∧ DpAll K F acc done ∧ compL f vs mt me (wipeE n vs) (ds.drop i) = some rest ∧ done ++ rest = rs,
      ⟨ds.length, by simp, Nat.zero_le _, G1, [], [], rs, Gr.newo g1.s hD, fresh_back g1.s hD, upd_same, .nil, by simpa using hrs, rfl⟩, ?_⟩
    rintro i m H2 ⟨rfl, hi, F, acc, done, rest, g2, hF, hH, a, hc, hdone⟩
    by_cases hlt : i < ds.length
    · rw [List.drop_eq_getElem_cons hlt] at hc
      obtain ⟨as, h1, hc⟩ := Option.bind_eq_some_iff.mp hc
      split at hc
      · rename_i hall
        obtain ⟨c, h2, hc⟩ := Option.bind_eq_some_iff.mp hc
        obtain ⟨hgo, hy⟩ := (y i H2 (g2.g.trans g2.s)).1 _ (List.getElem?_eq_getElem hlt)
        refine .inr ⟨hgo, fun H' => i < ds.length ∧ ∃ F acc done rest, Gr G1 H1 F H' ∧ F D = none ∧ H' D = some (.lst acc) ∧ DpAll K F acc done ∧ compL f vs mt me (wipeE n vs) (ds.drop (i + 1)) = some rest ∧ done ++ rest = rs,
          fun H' z => ⟨ds.length - (i + 1), by omega, rfl, hlt, z.2⟩, fun x H3 hx => ?_⟩
        obtain ⟨F3, g3, dx⟩ := hy x H3 hx F g2.g g2.s
        refine hg F3 H3 (wipe σ vs) _ x as g3.s dx h1 _ fun bs hp => ⟨?_, ?_⟩
        · rw [wipe_setsV (pd_all hp hall), wipe_wipe]
        · have vr : Vr K F3 (setsV (wipe σ vs) bs) (setsE (wipeE n vs) as) := vr_sets hp (vr_wipe (r.mono ((g1.g.trans g2.g).trans g3.g)))
          refine ⟨F3, _, c, g3.s, vr, h2, fun H4 F4 g4 => ?_⟩
          have g24 := (g2.trans g3).trans g4
          have hF4 : F4 D = none := (g3.trans g4).f D _ hH hF
          have hH4 : H4 D = some (.lst acc) := (g3.trans g4).h D _ hH
          have a4 := dpa_ex (g3.trans g4).g a
          cases c with
          | true =>
            refine iteT ?_
            rw [if_pos rfl] at hc
            obtain ⟨yv, h3, hc⟩ := Option.bind_eq_some_iff.mp hc
            obtain ⟨rest', h4, hc⟩ := Option.bind_eq_some_iff.mp hc
            cases hc
            refine ⟨F4, _, yv, g4.s, vr.mono g4.g, h3, fun v H5 F5 g5 d5 => ?_⟩
            have hF5 : F5 D = none := g5.f D _ hH4 hF4
            refine ⟨acc, g5.h D _ hH4, ?_, hlt, F5, acc ++ [v], done ++ [yv], rest', ?_, hF5, upd_same, dpa_app (dpa_ex g5.g a4) (.cons d5 .nil), h4, by rw [← hdone]; simp⟩
            · have e1 := dpa_len a
              have e2 : rs.length = done.length + (rest'.length + 1) := by rw [← hdone]; simp
              have : sizeLine = 16777216 := sizeLine_eq
              omega
            · exact gr_mut (g24.trans g5) hF5 hD
          | false =>
            refine iteF ?_
            rw [if_neg Bool.false_ne_true] at hc
            exact ⟨hlt, F4, acc, done, rest, g24, hF4, hH4, a4, hc, hdone⟩
      · cases hc
    · have e : i = ds.length := by omega
      subst e
      rw [List.drop_length] at hc
      cases hc
      rw [List.append_nil] at hdone
      subst hdone
      refine .inl ⟨(y _ H2 (g2.g.trans g2.s)).2 (Nat.le_refl _), k D acc H2 F (g1.trans g2) (fresh_back g1.h hD) hF hH a⟩
  · cases q
section
variable {X : Cx} {tg e a b c elt iter : Expr} {es : List Expr} {pos p : Pos} {m ma mb mc me : M} {mt : MT} {ms mi : MA} {ifs : List Expr} {f : Fl}
def mYes : MT := fun _ => some true
abbrev PTsV (X : Cx) (ifs : List Expr) (m : MT) : Prop := PTs X ifs (tMT X.K m)
theorem PTs.mono {X : Cx} {e : List Expr} {t t' : TT} (h : PTs X e t) (i : ∀ σ H Q, t' σ H Q → t σ H Q) : PTs X e t' := ⟨fun pins s σ H Q I q => h.run pins s σ H Q I (i σ H Q q)⟩
theorem ptv_nil : PTsV X [] mYes := PTs.mono pts_nil fun σ H Q h => by
  obtain ⟨G, n, b, e, r, q, k⟩ := h
  cases q
  exact k H G (Gr.refl e)
theorem ptv_one (h : PB X c mt) : PTsV X [c] mt := pts_one h
/-- [elt for x in iter if ..], x at slot i -/
theorem pf_lc {x : Str} {scope : Scope} (i : Nat) (hN : X.N.Nodup) (hi : PIV X tg iter mi) (ok : blkC X.N X.env.scope scope [(x, i)] = true)
    (hg : ∀ (s : Shared) (H : Hp) (C : Addr) (cl : List (Str × Addr)) (fp : List Addr), PG (X.blk s H scope (compEnvC scope cl C X.env) fp) tg (gName i)) (ht : ∀ (s : Shared) (H : Hp) (C : Addr) (cl : List (Str × Addr)) (fp : List Addr), PTsV (X.blk s H scope (compEnvC scope cl C X.env) fp) ifs mt)
    (he : ∀ (s : Shared) (H : Hp) (C : Addr) (cl : List (Str × Addr)) (fp : List Addr), PV (X.blk s H scope (compEnvC scope cl C X.env) fp) elt me) (hc : X.calm = true := by rfl) (hs : ∀ x, foldedSetIterable iter X.env x = pure x := by intro _; rfl) :
    PF X (.ListComp elt [⟨tg, iter, ifs, 0⟩] scope pos) (mLc [i] mi (flN i) mt me) :=
  PE.mono (pe_lc (own := [(x, i)]) hc hN hi (blkOk_by ok) hg ht he hs) (comp_ok (tgd_name i))
/-- ranges are walked likewise -/
theorem piv_of_pir (h : PIR X tg iter mi) : PIV X tg iter mi := PI.mono h fun σ H R h => by
  obtain ⟨G, n, b, e, r, q, k⟩ := h
  exact ⟨G, n, b, e, r, q, fun J H' G' g y => k J H' G' g fun i H e => by
    obtain ⟨y1, y2⟩ := y i H fun _ _ z => nomatch z
    exact ⟨fun d hd => ⟨(y1 d hd).1, fun x H' hx F e1 e2 => (y1 d hd).2 x H' hx F (fun _ _ z => nomatch z) e2⟩, y2⟩⟩
/-- y = [..] : as an own list, as a value -/
theorem psv_lcO {x y : Str} {py spos : Pos} {scope : Scope} (ws : List Nat) (j i : Nat) (hN : X.N.Nodup) (hi : PIV X tg iter mi) (ok : blkC X.N X.env.scope scope [(x, i)] = true)
    (hg : ∀ (s : Shared) (H : Hp) (C : Addr) (cl : List (Str × Addr)) (fp : List Addr), PG (X.blk s H scope (compEnvC scope cl C X.env) fp) tg (gName i)) (ht : ∀ (s : Shared) (H : Hp) (C : Addr) (cl : List (Str × Addr)) (fp : List Addr), PTsV (X.blk s H scope (compEnvC scope cl C X.env) fp) ifs mt)
    (he : ∀ (s : Shared) (H : Hp) (C : Addr) (cl : List (Str × Addr)) (fp : List Addr), PV (X.blk s H scope (compEnvC scope cl C X.env) fp) elt me)
    (hsw : swapsWith (.ListComp elt [⟨tg, iter, ifs, 0⟩] scope pos) (some (.Name y py)) spos.line X.env = pure true) (hy : X.N[j]? = some y := by rfl) (hyl : X.env.scope.names.lookup y = some .local := by rfl) (hc : X.calm = true := by rfl) (hs : ∀ x, foldedSetIterable iter X.env x = pure x := by intro _; rfl) :
    PSV X (.Assign [.Name y py] (.ListComp elt [⟨tg, iter, ifs, 0⟩] scope pos) spos) (mAsgO ws j (mLc [i] mi (flN i) mt me)) := PS.mono (ps_setLc (own := [(x, i)]) hc hN hy hyl hsw hi (blkOk_by ok) hg ht he hs) fun D σ H h => by
  obtain ⟨G0, H0, n, o, R, q, k⟩ := h
  have h1 := asgO_ok R q k
  exact comp_ok (tgd_name i) σ H _ h1
theorem psv_lc {x y : Str} {py spos : Pos} {scope : Scope} (ws : List Nat) (j i : Nat) (hN : X.N.Nodup) (hi : PIV X tg iter mi) (ok : blkC X.N X.env.scope scope [(x, i)] = true)
    (hg : ∀ (s : Shared) (H : Hp) (C : Addr) (cl : List (Str × Addr)) (fp : List Addr), PG (X.blk s H scope (compEnvC scope cl C X.env) fp) tg (gName i)) (ht : ∀ (s : Shared) (H : Hp) (C : Addr) (cl : List (Str × Addr)) (fp : List Addr), PTsV (X.blk s H scope (compEnvC scope cl C X.env) fp) ifs mt)
    (he : ∀ (s : Shared) (H : Hp) (C : Addr) (cl : List (Str × Addr)) (fp : List Addr), PV (X.blk s H scope (compEnvC scope cl C X.env) fp) elt me)
    (hsw : swapsWith (.ListComp elt [⟨tg, iter, ifs, 0⟩] scope pos) (some (.Name y py)) spos.line X.env = pure true) (hy : X.N[j]? = some y := by rfl) (hyl : X.env.scope.names.lookup y = some .local := by rfl) (hc : X.calm = true := by rfl) (hs : ∀ x, foldedSetIterable iter X.env x = pure x := by intro _; rfl) :
    PSV X (.Assign [.Name y py] (.ListComp elt [⟨tg, iter, ifs, 0⟩] scope pos) spos) (mAsg ws j (mL (mLc [i] mi (flN i) mt me))) := PS.mono (ps_setLc (own := [(x, i)]) hc hN hy hyl hsw hi (blkOk_by ok) hg ht he hs) fun D σ H h => by
  obtain ⟨G0, H0, n, o, R, q, k⟩ := h
  have h1 := asg_ok R q k
  exact comp_ok (tgd_name i) σ H _ (t_mL σ H _ h1)
end
/-! ### a def -/
def runM (N : List Str) (body : MS) (ds : List PyData) : Option PyData := (body (ds.map .v ++ List.replicate (N.length - ds.length) .no)).bind fun o => match o with
  | .rt d => some d
  | .rl xs => some (.list xs)
  | .nx _ => some .none
  | _ => none
theorem start_rows {K : PySem.W.Frag} {G H : Hp} {N : List Str} {vs : List V} {ds : List PyData} (e : Ex G H) (a : DpAll K G vs ds) : Rows K H G H (L2.start N vs) (ds.map .v ++ List.replicate (N.length - ds.length) .no) := by
  have hl := dpa_len a
  have f : ∀ (i : Nat) (s : Sl), (ds.map Sl.v ++ List.replicate (N.length - ds.length) Sl.no)[i]? = some s → s = .no ∨ ∃ d, s = .v d ∧ ds[i]? = some d := fun i s h => by
    by_cases hi : i < ds.length
    · rw [List.getElem?_append_left (by simpa using hi), List.getElem?_map] at h
      obtain ⟨d, hd, rfl⟩ := Option.map_eq_some_iff.mp h
      exact .inr ⟨d, rfl, hd⟩
    · rw [List.getElem?_append_right (by simpa using hi), List.getElem?_replicate] at h
      split at h
      · cases h
        exact .inl rfl
      · cases h
  refine ⟨by simp [L2.start, hl], fun i d h => ?_, fun i xs h => ?_, fun i j xs ys _ h _ => ?_⟩
  · rcases f i _ h with h | ⟨d', h, hd⟩
    · cases h
    · cases h
      obtain ⟨v, hv, dv⟩ := dpa_get a hd
      refine ⟨v, ?_, dv⟩
      unfold L2.start
      have hi := (List.getElem?_eq_some_iff.mp hv).1
      rw [List.getElem?_append_left (by simpa using hi), List.getElem?_map, hv]
      rfl
  · rcases f i _ h with h | ⟨d', h, hd⟩ <;> cases h
  · rcases f i _ h with h | ⟨d', h, hd⟩ <;> cases h
section
variable {P : Program} {w : World} {K : PySem.W.Frag} {mg : Str → Option Value} {base : Heap}
theorem body_ok {N : List Str} {body : MS} {vs : List V} {H : Hp} {Q : VK} {E : XK} {n : Nat} (h : spM K n (runM N body) vs H Q E) : tMS K body { nx := fun _ H' => Q .non H', rt := Q } (L2.start N vs) H := by
  obtain ⟨G, ds, d, e, a, hl, q, k⟩ := h
  obtain ⟨o, ho, q⟩ := Option.bind_eq_some_iff.mp q
  refine ⟨G, H, _, o, ⟨G, Gr.refl e, start_rows e a⟩, ho, ?_⟩
  cases o with
  | rt d' =>
    cases q
    exact fun v H' G' g dd => k v H' G' g dd
  | rl xs =>
    cases q
    intro p ws H1 G1 g1 h0 hp h1 d1
    have g2 : Gr G H (upd G1 p (.lst ws)) H1 :=
      ⟨g1.g.trans (Ex.new hp), fun a o h => by
        by_cases z : a = p
        · subst z
          rw [upd_same] at h
          rw [h1]
          exact h
        · rw [upd_ne z] at h
          exact g1.s a o h, g1.h, fun a o h q => by
        rw [upd_ne (ne_of_none h h0)]
        exact g1.f a o h q⟩
    exact k (.ref p) H1 _ g2 (.lst (SqL.of upd_same) (dpa_ex (Ex.new hp) d1))
  | nx n' =>
    cases q
    rintro σ' H' ⟨F, g, R⟩
    exact k .non H' F g .non
  | bk _ => cases q
  | ct _ => cases q
/-- THE RULE for a def -/
theorem def_ok {x qual : Str} {st : Stmt} {f : Addr} {fd : FuncData} {N ps : List Str} {k : Nat} {body : MS} (F : Fun K x qual st f fd) (S : FnScope N ps (defScope st)) (hm : mg x = some (.ref f)) (hb : L2.Binds K fd ps [])
    (h : ∀ (cdv : Value) (A : Around) (outer : List Env) (s : Shared) (H : Hp) (E : XK), Room k (A.deeper (PyProof.Rows.envOfC qual (defScope st) s.heap.objs.size f cdv)) → PSsV (cxOf CX0 P w K mg base N qual (defScope st) f cdv A outer s H E).nox (defBody st) body) :
    Def P w K mg base x (k + 1) ps.length (runM N body) :=
  ⟨CX0, f, fd, ps, fun _ _ _ => pass0, F.ok S (fun vs H Q E h => spM_len h) (fun cdv A outer s H vs Q E hr hs => ⟨_, h cdv A outer s H E hr, body_ok hs⟩), hm, F.kp, hb⟩
end
end
end VE
set_option Elab.async false
set_option linter.all false
set_option maxRecDepth 100000
/-! list(reversed(a list)) at the library's level -/
namespace VL
open PySem PySem.Spec PyProof.Rows
section
variable {prog : Program} {w : World} {A : Around} {E : Value → Shared → Prop} {s : Shared}
theorem extend_rev {R : Result → Shared → Prop} {it l S : Addr} {items : Array Value} {c₀ : Nat} (res : Value) (hh : A.handled = none) (hit : s.heap.IsRevIter it l ((items.size : Int) - 1)) (hl : s.heap.IsList l items) (hne : l ≠ it) (hn : items.size ≤ sizeLine)
    (hS : s.heap.get? S = some { cls := .type "list", data := .seq #[] c₀ }) (hSi : S ≠ it) (hSl : S ≠ l)
    (hR : ∀ h' tk acc' c', (∀ b o, b ≠ S → b ≠ it → s.heap.get? b = some o → h'.get? b = some o) → h'.get? S = some { cls := .type "list", dict := none, data := .seq acc' c', slots := #[] } →
      ItemsOf (fun i v => items[items.size - 1 - i]? = some v) acc' items.size → R (.ok (.ret res)) { s with heap := h', toks := tk }) :
    wpAny (model prog w) A.in1 (Builtin.List.listExtendWith (.ref S) (.ref it) res)
      (fun fin s' => match fin with | .done f => R (.ok f) s' | .again c' => c'.quiet = true ∧ codeAny (model prog w) A c' R s') (fun e s' => R (.error e) s') s := by
  have W := (Walks.listRev (prog := prog) (w := w) (A := A.in1) hh it l hne items).toS
  have hSf : S ∉ [it, l] := by simp only [List.mem_cons, List.not_mem_nil, or_false, not_or]; exact ⟨hSi, hSl⟩
  have hT : s.TypeIs (.ref it) "list_reverseiterator" := hit.typeIs
  have h1 : Builtin.List.listSameRef (.ref S) (.ref it) = false := by simp [Builtin.List.listSameRef, hSi]
  unfold Builtin.List.listExtendWith
  refine wpAny_bind (wpAny_typeOf hT ?_)
  rw [if_neg (by rw [h1]; decide)]
  refine wpAny_bind (wpAny_pyIter_revIter hit ?_)
  refine wpAny_bind (wpAny_holding ?_)
  unfold Builtin.List.listLengthHint
  refine wpAny_bind (wpAny_specialOf hT RT.nolen_lri ?_)
  show wpAny _ A.in1 (specialOf (Value.ref it) (Str.ofString "__length_hint__") >>= _) _ _ _
  refine wpAny_bind (wpAny_specialOf hT RT.hint_lri ?_)
  generalize hid : ("list_reverseiterator.__length_hint__" : String) = id0
  wp_delta
  rw [show splitId id0 = some ("list_reverseiterator", "__length_hint__") from by subst hid; decide +kernel]
  subst hid
  refine wpAny_bind (wpAny_isInstance (b := true) hT (by rw [isSubtype_type]; kernel_rfl) ?_)
  refine wpAny_pure ?_
  rw [if_neg (by decide)]
  have e0 : ((items.size : Nat) : Int) - 1 - ((0 : Nat) : Int) = (items.size : Int) - 1 := by omega
  refine wpAny_pure ⟨plainId_quiet F.plain_extend_loop _, codeAny_extend_loopS W hn _ hSf _ items.size 0 _ _ _ rfl (Nat.zero_le _) ⟨Nat.zero_le _, by rw [e0]; exact hit, hl⟩ hS (ItemsOf.nil _) fun s' acc' c' hm hS' hacc => ?_⟩
  rw [Moved.eq_with hm]
  refine hR s'.heap s'.toks acc' c' (fun b o hb hbi e => hm.heap b o (fun hmem => ?_) e) hS' hacc
  rcases List.mem_cons.mp hmem with e' | hmem
  · exact hb e'
  · exact hbi (List.mem_singleton.mp hmem)
theorem call_list_rev {Q : Value → Shared → Prop} {it l : Addr} {items : Array Value} (hh : A.handled = none) (hit : s.heap.IsRevIter it l ((items.size : Int) - 1)) (hl : s.heap.IsList l items) (hne : l ≠ it) (hn : items.size ≤ sizeLine)
    (hQ : ∀ h' tk acc' c', (∀ b o, b ≠ it → s.heap.get? b = some o → h'.get? b = some o) →
      h'.get? s.heap.objs.size = some { cls := .type "list", dict := none, data := .seq acc' c', slots := #[] } → ItemsOf (fun i v => items[items.size - 1 - i]? = some v) acc' items.size → Q (.ref s.heap.objs.size) { s with heap := h', toks := tk }) :
    wpAny (model prog w) A (call (.type "list") [.ref it]) Q E s := by
  refine callType_codes (Q₁ := fun obj s₁ => obj = .ref s.heap.objs.size ∧ s₁ = { s with heap := s.heap.push { cls := .type "list", data := .seq #[] } }) F.called_list (F.typeCall_list_1 _) F.entry_list_init
    (code_list_new _ ⟨rfl, rfl⟩) fun obj s₁ h₁ => ?_
  obtain ⟨rfl, rfl⟩ := h₁
  have hS : (s.heap.push { cls := .type "list", data := .seq #[] }).get? s.heap.objs.size = some { cls := .type "list", data := .seq #[] } := Heap.get?_push_size _ rfl
  obtain ⟨oi, hoi, _⟩ := id hit
  obtain ⟨ol, hol, _⟩ := id hl
  have hSi : s.heap.objs.size ≠ it := Nat.ne_of_gt (Heap.lt_size hoi)
  have hSl : s.heap.objs.size ≠ l := Nat.ne_of_gt (Heap.lt_size hol)
  refine ⟨⟨_, hS, rfl⟩, F.args_list_init_2 _ _, ?_⟩
  show wpAny _ _ (do let old ← Builtin.List.listItems (.ref s.heap.objs.size); Builtin.List.listUpdate (.ref s.heap.objs.size) (fun _ => #[]); letGo old.toList.reverse; Builtin.List.listExtendWith (.ref s.heap.objs.size) (.ref it) .none) _ _ _
  refine wpAny_bind ?_
  unfold Builtin.List.listItems
  refine wpAny_bind (wpAny_seqItems hS rfl (wpAny_pure ?_))
  show wpAny _ _ (updateSeq s.heap.objs.size (fun _ => #[]) >>= fun _ => letGo (#[] : Array Value).toList.reverse >>= fun _ => Builtin.List.listExtendWith (.ref s.heap.objs.size) (.ref it) .none) _ _ _
  refine wpAny_bind (wpAny_updateSeq hS rfl ?_)
  have hS₂ := Heap.get?_update_self (Obj.mapSeq (fun _ => (#[] : Array Value))) hS rfl
  have oth : ∀ b o, b ≠ s.heap.objs.size → s.heap.get? b = some o → ((s.heap.push { cls := .type "list", data := .seq #[] }).update s.heap.objs.size (Obj.mapSeq (fun _ => (#[] : Array Value)))).get? b = some o :=
    fun b o hb e => (Heap.get?_update_other _ _ (Ne.symm hb)).trans (Heap.get?_push_of_some _ e)
  refine wpAny_bind (wpAny_letGo ?_)
  refine extend_rev (l := l) .none hh (hit.at fun o e => oth it o (Ne.symm hSi) e) ?_ hne hn hS₂ hSi hSl fun h' tk acc' c' hk hS' hacc => ?_
  · obtain ⟨o, e, x⟩ := hl
    exact ⟨o, oth l o (Ne.symm hSl) e, x⟩
  · exact ⟨rfl, hQ h' tk acc' c' (fun b o hb e => hk b o (Nat.ne_of_lt (Heap.lt_size e)) hb (oth b o (Nat.ne_of_lt (Heap.lt_size e)) e)) hS' hacc⟩
end
end VL
namespace L2
open PySem PySem.Spec PyProof.Rows PySem.Calls PySem.W
/-- an object that stands already is tracked from now on -/
theorem Inv.track {X : Cx} {pins : List (Addr × Obj)} {σ : St} {H : Hp} {s : Shared} {a : Addr} {o : HO} (I : Inv X pins σ H s) (hs : X.s_0.heap.objs.size ≤ a) (f : FpOk X pins H a) (new : ObjOk X.prog X.w (upd H a o) s.heap a o) : Inv X pins σ (upd H a o) s := by
  obtain ⟨f0, f1, f2, _, f4, f5⟩ := f
  refine ⟨I.ok, I.os, I.bare, ⟨I.base.keep, I.base.slot, fun b u e n x => ?_, I.base.there, fun b xs e => ?_, fun b u v e => ?_, fun b ps e => ?_⟩, I.loc, I.cell, ?_, fun x c e => ?_, fun p hp => ?_, fun b u e => ?_, I.len⟩
  · rw [upd_ne (Nat.ne_of_lt (Nat.lt_of_lt_of_le (Heap.lt_size e) hs))]
    exact I.base.free b u e n x
  · have q := I.base.tups b xs e
    rw [upd_ne (ne_of_none q f0)]
    exact q
  · have q := I.base.frzs b u v e
    rw [upd_ne (ne_of_none q f0)]
    exact q
  · obtain ⟨m, q⟩ := I.base.tbls b ps e
    exact ⟨m, by rw [upd_ne (ne_of_none q f0)]; exact q⟩
  · rw [upd_ne (Ne.symm f1)]
    exact I.free
  · rw [upd_ne (f4 x c e)]
    exact I.freeC x c e
  · obtain ⟨p1, p2, p3, p4, p5⟩ := I.pin p hp
    exact ⟨p1, by rw [upd_ne (f5 p hp)]; exact p2, p3, p4, p5⟩
  · by_cases hb : b = a
    · subst hb
      rw [upd_same] at e
      cases e
      exact new
    · rw [upd_ne hb] at e
      exact (I.hok b u e).stay (fun _ _ _ q => q) (fun c q => by rw [upd_ne (ne_of_none q f0)]; exact q) fun c xs q => by rw [upd_ne (ne_of_none q f0)]; exact q
section
variable {X : Cx} {tg e a b c : Expr} {es : List Expr} {pos p : Pos} 
/-- list(reversed(x)), x a list -/
theorem pe_listRev {te : TE} {p p2 pos pos2 : Pos} (hc : X.calm = true) (hg : Gl X "list") (hm : X.mg "list" = none) (hg2 : Gl X "reversed") (hm2 : X.mg "reversed" = none) (he : PE X e te)
    (hs : starEach [e] X.env = (false, eval e X.env) :: starEach [] X.env := by rfl)
    (hs2 : starEach [.Call (.Name "reversed" p2) [e] [] pos2] X.env = (false, eval (.Call (.Name "reversed" p2) [e] [] pos2) X.env) :: starEach [] X.env := by rfl) :
    PE X (.Call (.Name "list" p) [.Call (.Name "reversed" p2) [e] [] pos2] [] pos) (fun σ H Q => te σ H fun v H1 => ∃ (a : Addr) (xs : List V), v = .ref a ∧ SqL X.K H1 a xs ∧ ∀ q, H1 q = none → Q (.ref q) (upd H1 q (.lst xs.reverse))) := by
  refine ⟨fun pins s σ H Q I h => ?_⟩
  refine Call_ (ld_blt I hg hm (show bootBuiltins ("list" : Str) = some (.type "list") by decide +kernel) (PyProof.Rows.callWith_type1 (args_cons (Call_ (ld_blt I hg2 hm2 PyProof.Rows.boot_reversed (PyProof.Rows.callWith_type1 (args_cons (thn (he.run pins s σ H _ I h) fun u s1 ⟨v, H1, I1, r1, q1⟩ => args_nil ?_) hs) hs rfl))) hs2) hs2 rfl))
  obtain ⟨a, xs, ev, hq, q⟩ := q1
  subst ev
  obtain rfl : u = Value.ref a := r1
  obtain ⟨its, rv, p', hz⟩ := I1.list hq
  refine call_reversed_list p'.isList (args_nil ?_)
  have k0 : ∀ b o, s1.heap.get? b = some o → (s1.heap.push (revObj a ((its.toArray.size : Int) - 1))).get? b = some o := fun b o e => Heap.get?_push_of_some _ e
  have I2 : Inv X pins σ H1 { s1 with heap := s1.heap.push (revObj a ((its.toArray.size : Int) - 1)) } := I1.kept (t' := s1.toks) k0
  obtain ⟨f0, f1, f2, f3, f4, f5⟩ := I1.fpOk (H' := H1) (b := s1.heap.objs.size) (Nat.le_refl _) (I1.hok.fresh (Nat.le_refl _))
  have hl := p'.isList
  obtain ⟨ol, hol, _⟩ := id hl
  have hne : a ≠ s1.heap.objs.size := Nat.ne_of_lt (Heap.lt_size hol)
  have hn : its.toArray.size ≤ sizeLine := by rw [List.size_toArray, ← rv.length]; exact hz
  refine VL.call_list_rev (s := { s1 with heap := s1.heap.push (revObj a ((its.toArray.size : Int) - 1)) }) (I1.ok.hd hc) ⟨_, Heap.get?_push_size _ rfl, rfl, rfl⟩ (hl.push _) hne hn fun h' tk acc c' hk hS hi => ?_
  have I3 : Inv X pins σ H1 { s1 with heap := h', toks := tk } := I2.turned (t' := tk) (fun b o hb e => hk b o hb e) f0 f1 f3 f4 f5
  have hsz : (s1.heap.push (revObj a ((its.toArray.size : Int) - 1))).objs.size = s1.heap.objs.size + 1 := by simp [Heap.push]
  have hfr : H1 (s1.heap.push (revObj a ((its.toArray.size : Int) - 1))).objs.size = none := I2.hok.fresh (Nat.le_refl _)
  have hfp : FpOk X pins H1 (s1.heap.push (revObj a ((its.toArray.size : Int) - 1))).objs.size := I2.fpOk (Nat.le_refl _) hfr
  refine ⟨.ref _, upd H1 (s1.heap.push (revObj a ((its.toArray.size : Int) - 1))).objs.size (.lst xs.reverse), I3.track ?_ hfp ⟨by rw [List.length_reverse]; exact hz, acc.toList, c', RT.vals_rev rv hi, ?_⟩, rfl, q _ hfr⟩
  · exact Nat.le_trans I2.sz (Nat.le_refl _)
  · rw [Array.toArray_toList]
    exact hS
end
end L2
set_option Elab.async false
set_option linter.all false
set_option maxRecDepth 100000
namespace VE
noncomputable section
open PySem PySem.Spec L2 Evl
section
variable {X : Cx} {tg e a b c : Expr} {es : List Expr} {pos p : Pos} {m ma mb mc : M} {mt : MT} {ms mi : MA}
/-! ### fresh lists -/
def mListRev (m : M) : MA := fun n => (m n).bind fun d => match d with
  | .list xs => some xs.reverse
  | _ => none
theorem pf_listrev {p p2 pos pos2 : Pos} (hm : X.mg "list" = none) (hm2 : X.mg "reversed" = none) (he : PV X e m) (hc : X.calm = true := by rfl) (hg : Gl X "list" := by rfl) (hg2 : Gl X "reversed" := by rfl)
    (hs : starEach [e] X.env = (false, eval e X.env) :: starEach [] X.env := by rfl)
    (hs2 : starEach [.Call (.Name "reversed" p2) [e] [] pos2] X.env = (false, eval (.Call (.Name "reversed" p2) [e] [] pos2) X.env) :: starEach [] X.env := by rfl) :
    PF X (.Call (.Name "list" p) [.Call (.Name "reversed" p2) [e] [] pos2] [] pos) (mListRev m) := PE.mono (pe_listRev hc hg hm hg2 hm2 he hs hs2) fun σ H Q h => by
  obtain ⟨G, n, rs, g, r, q, k⟩ := h
  obtain ⟨d, hd, q⟩ := Option.bind_eq_some_iff.mp q
  refine ⟨G, n, d, g, r, hd, fun v H1 G1 g1 d1 => ?_⟩
  cases d with
  | list xs =>
    have q : some xs.reverse = some rs := q
    cases q
    obtain ⟨a, vs, rfl, h1, al⟩ := dp_lst d1
    exact ⟨a, vs, rfl, ex_l g1.s h1, fin_f g1.s (dpa_rev al) fun p ws H2 G2 g2 h0 h1 h2 h3 => k p ws H2 G2 (g1.trans g2) (fresh_back g1.h h0) h1 h2 h3⟩
  | _ => cases q
theorem dpa_ints {K : PySem.W.Frag} {G : Hp} : ∀ (is : List Int), DpAll K G (is.map V.int) (is.map PyData.int)
  | [] => .nil
  | i :: is => .cons (.int i) (dpa_ints is)
theorem rangeD_eq (a b : Int) : rangeD a (b - a).toNat = ((List.range (b - a).toNat).map fun i : Nat => a + (i : Int)).map PyData.int := by
  unfold rangeD
  rw [List.map_map]
  rfl
theorem rgV_eq (a b : Int) : rgV a b = ((List.range (b - a).toNat).map fun i : Nat => a + (i : Int)).map V.int := by
  unfold rgV
  rw [List.map_map]
  rfl
def lrg (a b : Int) : Option (List PyData) := @ite _ (-(2 ^ 62) ≤ a ∧ a < 2 ^ 62 ∧ -(2 ^ 62) ≤ b ∧ b < 2 ^ 62 ∧ (b - a).toNat ≤ 16000000) (Classical.propDecidable _) (some (rangeD a (b - a).toNat)) none
def mLR1 (m : M) : MA := fun n => (m n).bind fun d => (asI d).bind fun i => lrg 0 i
def mLR2 (ma mb : M) : MA := fun n => (ma n).bind fun d => (mb n).bind fun e => (asI d).bind fun i => (asI e).bind fun j => lrg i j
theorem lrg_ok {K : PySem.W.Frag} {a b : Int} {rs : List PyData} {G H : Hp} {Q : VK} (q : lrg a b = some rs) (g : Ex G H) (k : ∀ p vs H' G', Gr G H G' H' → H p = none → G' p = none → H' p = some (.lst vs) → DpAll K G' vs rs → Q (.ref p) H') : RgOk a b ∧ ∀ q, H q = none → Q (.ref q) (upd H q (.lst (rgV a b))) := by
  unfold lrg at q
  split at q
  · rename_i h
    cases q
    obtain ⟨h1, h2, h3, h4, h5⟩ := h
    refine ⟨⟨h1, h2, h3, h4, by omega⟩, ?_⟩
    rw [rgV_eq]
    rw [rangeD_eq] at k
    exact fin_f g (dpa_ints _) k
  · cases q
theorem pf_listrange1 {p pos p2 pos2 : Pos} (hm : X.mg "list" = none) (hm2 : X.mg "range" = none) (ha : PV X a m) (hc : X.calm = true := by rfl) (hg : Gl X "list" := by rfl) (hg2 : Gl X "range" := by rfl)
    (na : starEach [a] X.env = (false, eval a X.env) :: starEach [] X.env := by rfl)
    (ns : starEach [.Call (.Name "range" p2) [a] [] pos2] X.env = (false, eval (.Call (.Name "range" p2) [a] [] pos2) X.env) :: starEach [] X.env := by rfl) :
    PF X (.Call (.Name "list" p) [.Call (.Name "range" p2) [a] [] pos2] [] pos) (mLR1 m) := PE.mono (pe_listRg hc hg hm (prg_1 hg2 hm2 ha na) ns) fun σ H Q h => by
  obtain ⟨G, n, rs, g, r, q, k⟩ := h
  obtain ⟨d, hd, q⟩ := Option.bind_eq_some_iff.mp q
  obtain ⟨i, hi, q⟩ := Option.bind_eq_some_iff.mp q
  cases asI_eq hi
  refine ⟨G, n, _, g, r, hd, fun v H1 G1 g1 d1 => ?_⟩
  cases dp_int d1
  exact ⟨i, rfl, lrg_ok q g1.s fun p ws H2 G2 g2 h0 h1 h2 h3 => k p ws H2 G2 (g1.trans g2) (fresh_back g1.h h0) h1 h2 h3⟩
theorem pf_listrange2 {p pos p2 pos2 : Pos} (hm : X.mg "list" = none) (hm2 : X.mg "range" = none) (ha : PV X a ma) (hb : PV X b mb) (hc : X.calm = true := by rfl) (hg : Gl X "list" := by rfl) (hg2 : Gl X "range" := by rfl)
    (na : starEach [a, b] X.env = (false, eval a X.env) :: starEach [b] X.env := by rfl) (nb : starEach [b] X.env = (false, eval b X.env) :: starEach [] X.env := by rfl) (hp : (backTo pos2 (starEach [b] X.env)).any (·.1) = false := by rfl)
    (ns : starEach [.Call (.Name "range" p2) [a, b] [] pos2] X.env = (false, eval (.Call (.Name "range" p2) [a, b] [] pos2) X.env) :: starEach [] X.env := by rfl) :
    PF X (.Call (.Name "list" p) [.Call (.Name "range" p2) [a, b] [] pos2] [] pos) (mLR2 ma mb) := PE.mono (pe_listRg hc hg hm (prg_2 hg2 hm2 ha hb na nb hp) ns) fun σ H Q h => by
  obtain ⟨G, n, rs, g, r, q, k⟩ := h
  obtain ⟨d, hd, q⟩ := Option.bind_eq_some_iff.mp q
  obtain ⟨d', hd', q⟩ := Option.bind_eq_some_iff.mp q
  obtain ⟨i, hi, q⟩ := Option.bind_eq_some_iff.mp q
  obtain ⟨j, hj, q⟩ := Option.bind_eq_some_iff.mp q
  cases asI_eq hi
  cases asI_eq hj
  refine ⟨G, n, _, g, r, hd, fun v H1 G1 g1 d1 => ?_⟩
  refine ⟨G1, n, _, g1.s, r.mono g1.g, hd', fun w H2 G2 g2 d2 => ?_⟩
  cases dp_int d1
  cases dp_int d2
  exact ⟨i, j, rfl, rfl, lrg_ok q g2.s fun p ws H3 G3 g3 h0 h1 h2 h3 => k p ws H3 G3 ((g1.trans g2).trans g3) (fresh_back (g1.trans g2).h h0) h1 h2 h3⟩
/-- [..] * n -/
def mRep (ms : MA) (m : M) : MA := fun n => (ms n).bind fun xs => (m n).bind fun d => (asI d).bind fun k => @ite _ (-(2 ^ 63) ≤ k ∧ k < 2 ^ 63 ∧ xs.length * k.toNat ≤ 16000000) (Classical.propDecidable _) (some (repD xs k.toNat)) none
theorem pf_rep (ha : PF X a ms) (hb : PV X b m) : PF X (.BinOp a .Mult b pos) (mRep ms m) := PE.mono (pe_op op_rep ha hb) fun σ H Q h => by
  obtain ⟨G, n, rs, g, r, q, k⟩ := h
  obtain ⟨xs, hx, q⟩ := Option.bind_eq_some_iff.mp q
  obtain ⟨d, hd, q⟩ := Option.bind_eq_some_iff.mp q
  obtain ⟨j, hj, q5⟩ := Option.bind_eq_some_iff.mp q
  cases asI_eq hj
  split at q5
  · rename_i hz
    cases q5
    refine ⟨G, n, xs, g, r, hx, fun l vs H1 G1 g1 h0 hG hH al => ?_⟩
    refine ⟨G1, n, _, g1.s, r.mono g1.g, hd, fun w H2 G2 g2 d2 => ?_⟩
    cases dp_int d2
    have : sizeLine = 16777216 := sizeLine_eq
    refine ⟨l, j, vs, rfl, rfl, g2.h l _ hH, hz.1, hz.2.1, by rw [dpa_len al]; omega, fin_f g2.s (dpa_rep (dpa_ex g2.g al) _) fun p ws H3 G3 g3 h0 h1 h2 h3 => k p ws H3 G3 ((g1.trans g2).trans g3) (fresh_back (g1.trans g2).h h0) h1 h2 h3⟩
  · cases q5
/-- xs + ys -/
def mCatF (ma mb : M) : MA := fun n => (ma n).bind fun x => (mb n).bind fun y => match x, y with
  | .list xs, .list ys => @ite _ (xs.length + ys.length ≤ sizeLine) (Classical.propDecidable _) (some (xs ++ ys)) none
  | _, _ => none
theorem pf_cat (ha : PV X a ma) (hb : PV X b mb) : PF X (.BinOp a .Add b pos) (mCatF ma mb) := PE.mono (pe_op op_catS ha hb) fun σ H Q h => by
  obtain ⟨G, n, rs, g, r, q, k⟩ := h
  obtain ⟨x, hx, q⟩ := Option.bind_eq_some_iff.mp q
  obtain ⟨y, hy, q⟩ := Option.bind_eq_some_iff.mp q
  refine ⟨G, n, x, g, r, hx, fun v H1 G1 g1 d1 => ?_⟩
  refine ⟨G1, n, y, g1.s, r.mono g1.g, hy, fun w H2 G2 g2 d2 => ?_⟩
  split at q
  · split at q
    · rename_i hz
      cases q
      obtain ⟨l, vs, rfl, h1, al⟩ := dp_lst d1
      obtain ⟨l', vs', rfl, h1', al'⟩ := dp_lst d2
      exact ⟨l, l', vs, vs', rfl, rfl, ex_l (g2.g.trans g2.s) h1, ex_l g2.s h1', by rw [dpa_len al, dpa_len al']; exact hz, fin_f g2.s (dpa_app (dpa_ex g2.g al) al') fun p ws H3 G3 g3 h0 h1 h2 h3 => k p ws H3 G3 ((g1.trans g2).trans g3) (fresh_back (g1.trans g2).h h0) h1 h2 h3⟩
    · cases q
  · cases q
/-- xs[lo:hi] -/
def mSlF (m : M) (ml mh : MO) : MA := fun n => (m n).bind fun x => (ml n).bind fun l => (mh n).bind fun h => match x with
  | .list xs => some (cutD xs l h)
  | _ => none
theorem pf_slice {lo hi : Option Expr} {ml mh : MO} {p2 : Pos} (ha : PV X a m) (hl : POV X lo ml) (hh : POV X hi mh) : PF X (.Subscript a (.Slice lo hi none p2) pos) (mSlF m ml mh) := PE.mono (pe_slice sl_list ha hl hh) fun σ H Q h => by
  obtain ⟨G, n, rs, g, r, q, k⟩ := h
  obtain ⟨x, hx, q⟩ := Option.bind_eq_some_iff.mp q
  obtain ⟨l, hl, q⟩ := Option.bind_eq_some_iff.mp q
  obtain ⟨u, hu, q⟩ := Option.bind_eq_some_iff.mp q
  refine ⟨G, n, x, g, r, hx, fun v H1 G1 g1 d1 => ?_⟩
  refine ⟨G1, n, l, g1.s, r.mono g1.g, hl, fun H2 G2 g2 => ?_⟩
  refine ⟨G2, n, u, g2.s, r.mono (g1.trans g2).g, hu, fun H3 G3 g3 => ?_⟩
  split at q
  · cases q
    obtain ⟨p, vs, rfl, h1, a1⟩ := dp_lst (dp_ex (g2.trans g3).g d1)
    exact ⟨p, vs, rfl, ex_l g3.s h1, fin_f g3.s (dpa_cut a1) fun p ws H4 G4 g4 h0 h1 h2 h3 => k p ws H4 G4 (((g1.trans g2).trans g3).trans g4) (fresh_back ((g1.trans g2).trans g3).h h0) h1 h2 h3⟩
  · cases q
/-! ### x[i] = e -/
def mPut (ws : List Nat) (i : Nat) (m mb : M) : MS := fun n => (m (hide ws n)).bind fun d => (mb (hide ws n)).bind fun k => (asI k).bind fun k => (getO n i).bind fun xs => (ixN xs.length k).bind fun j =>
  if scalD d = true then some (.nx (n.set i (.o (xs.set j d)))) else if ws.contains i = false then some (.nx ((frz ws n).set i (.o (xs.set j d)))) else none
theorem psv_put (ws : List Nat) (i : Nat) {x : Str} {p1 p2 : Pos} (he : PV X e m) (hb : PV X b mb) (hN : X.N[i]? = some x := by rfl) (hv : Vis X.env.scope x := by first | exact Or.inl rfl | exact Or.inr (Or.inl rfl) | exact Or.inr (Or.inr rfl)) (hd : (x == ("__debug__" : Str)) = false := by decide)
    (hcd : (x == ("__classdict__" : Str)) = false := by decide)
    (hs : swapsWithSole [.Subscript (.Name x p1) b p2] e pos.line X.env = pure false := by rfl) (hw : swappedStores [.Subscript (.Name x p1) b p2] e X.env = pure none := by rfl)
    (h1 : (assignEach [.Subscript (.Name x p1) b p2] X.env).map (·.2) = [assign (.Subscript (.Name x p1) b p2) X.env] := by rfl)
    (hst : ∀ v, assign (.Subscript (.Name x p1) b p2) X.env v = (do
      let ov ← holding [v] (eval (.Name x p1) X.env)
      let iv ← holding [v, ov] (eval b X.env)
      standAt p2
      holding [v, ov, iv] (setItem ov iv v)
      release [v, ov, iv] []) := by intro _; rfl) :
    PSV X (.Assign [.Subscript (.Name x p1) b p2] e pos) (mPut ws i m mb) := PS.mono (ps_asg he (pg_sub (pe_var hN hv hd hcd) hb set_list hst) hs hw h1) fun D σ H h => by
  obtain ⟨G0, H0, n, o, ⟨F, g, R⟩, q, k⟩ := h
  obtain ⟨d, hd, q⟩ := Option.bind_eq_some_iff.mp q
  obtain ⟨kd, hk, q⟩ := Option.bind_eq_some_iff.mp q
  obtain ⟨kk, hkk, q3⟩ := Option.bind_eq_some_iff.mp q
  obtain ⟨xs, hx, q4⟩ := Option.bind_eq_some_iff.mp q3
  obtain ⟨j, hj, q5⟩ := Option.bind_eq_some_iff.mp q4
  cases asI_eq hkk
  have hx := getO_eq hx
  obtain ⟨p, vs, e, hF, h0, hH, al⟩ := R.o i xs hx
  refine ⟨withO ws n σ F H, hide ws n, d, withO_s ws g.s, vr_hide ws R, hd, fun v H1 G1 g1 d1 => ?_⟩
  refine ⟨.ref p, e, G1, hide ws n, _, g1.s, (vr_hide ws R).mono g1.g, hk, fun w H2 G2 g2 d2 => ?_⟩
  cases dp_int d2
  have g12 := g1.trans g2
  refine ⟨p, vs, kk, j, rfl, rfl, g12.h p _ hH, by rw [dpa_len al]; exact hj, ?_⟩
  split at q5
  · rename_i hsc
    cases q5
    exact k _ _ ⟨F, gr_mut ⟨g.g, g.s.trans g12.h, g.h.trans g12.h, g.f⟩ hF h0, (R.stay g12.h).mut hx e (dpa_set (dp_scalar d1 hsc) j al)⟩
  · split at q5
    · rename_i hw
      cases q5
      have R1 := R.frz ws g12
      have hG : G2 p = none := g12.f p _ hH (withO_off R hw hx e)
      refine k _ _ ⟨G2, gr_mut ((withO_gr ws g R).trans g12) hG h0, R1.mut (xs := xs) ?_ e (dpa_set (dp_ex g2.g d1) j (dpa_ex ((withO_ex ws R).trans g12.g) al))⟩
      unfold frz
      rw [frzAt_get, hx, Nat.zero_add]
      simp only [Option.map_some, hw, Bool.false_eq_true, if_false]
    · cases q5
/-! ### methods of texts, ints -/
def vBits : PyData → Option PyData
  | .int i => some (.int (Builtin.Int.intBits i : Nat))
  | _ => none
theorem pv_bits {apos pos : Pos} (ho : PV X a m) (hbase : attributeBase a "bit_length" X.env (eval a X.env) = eval a X.env := by rfl) (hline : (apos.endLine == pos.line) = true := by rfl) : PV X (.Call (.Attribute a "bit_length" apos) [] [] pos) (mUn vBits m) := PE.mono (pe_bits ho hbase hline) fun σ H Q h => by
  obtain ⟨G, n, d, g, r, q, k⟩ := h
  obtain ⟨x, hx, q⟩ := Option.bind_eq_some_iff.mp q
  refine ⟨G, n, x, g, r, hx, fun v H1 G1 g1 d1 => ?_⟩
  unfold vBits at q
  split at q
  · cases q
    cases dp_int d1
    exact ⟨_, rfl, k _ H1 G1 g1 (.int _)⟩
  · cases q
def strsD : List PyData → Option (List Str)
  | [] => some []
  | .str x :: r => (strsD r).map (x :: ·)
  | _ => none
theorem strsD_ok {K : PySem.W.Frag} {G : Hp} : ∀ {ds : List PyData} {xs : List Str} {vs : List V}, strsD ds = some xs → DpAll K G vs ds → vs = xs.map V.str
  | [], xs, vs, h, a => by
    cases h
    cases a
    rfl
  | d :: ds, xs, vs, h, a => by
    cases d with
    | str x =>
      obtain ⟨ys, hy, rfl⟩ := Option.map_eq_some_iff.mp (show (strsD ds).map (x :: ·) = some xs from h)
      cases a with
      | cons d1 a1 =>
        cases dp_str d1
        rw [strsD_ok hy a1]
        rfl
    | _ => cases h
def vJoin : PyData → PyData → Option PyData
  | .str z, .list ds => (strsD ds).bind fun ys => if (ys.map (·.length)).sum + ys.length * z.length ≤ 16777216 then some (.str (Txt.join z ys)) else none
  | .str z, .tuple ds => (strsD ds).bind fun ys => if (ys.map (·.length)).sum + ys.length * z.length ≤ 16777216 then some (.str (Txt.join z ys)) else none
  | _, _ => none
theorem pv_join {apos pos : Pos} (ho : PV X a ma) (he : PV X e mb) (hs : starEach [e] X.env = [(false, eval e X.env)] := by rfl) (hbase : attributeBase a "join" X.env (eval a X.env) = eval a X.env := by rfl) (hline : (apos.endLine == pos.line) = true := by rfl) :
    PV X (.Call (.Attribute a "join" apos) [e] [] pos) (mBin vJoin ma mb) := PE.mono (pe_join ho he hs hbase hline) fun σ H Q h => by
  obtain ⟨G, n, d, g, r, q, k⟩ := h
  unfold mBin at q
  obtain ⟨x, hx, q⟩ := Option.bind_eq_some_iff.mp q
  obtain ⟨y, hy, q⟩ := Option.bind_eq_some_iff.mp q
  refine ⟨G, n, x, g, r, hx, fun v H1 G1 g1 d1 => ?_⟩
  unfold vJoin at q
  split at q
  · cases dp_str d1
    obtain ⟨ys, hys, q⟩ := Option.bind_eq_some_iff.mp q
    split at q
    · rename_i hz
      cases q
      refine ⟨⟨_, rfl⟩, G1, n, _, g1.s, r.mono g1.g, hy, fun w H2 G2 g2 d2 => ?_⟩
      obtain ⟨l, vs, rfl, h1, al⟩ := dp_lst d2
      cases strsD_ok hys al
      exact ⟨_, l, ys, rfl, rfl, .inl (ex_l g2.s h1), hz, k _ H2 G2 (g1.trans g2) (.str _)⟩
    · cases q
  · cases dp_str d1
    obtain ⟨ys, hys, q⟩ := Option.bind_eq_some_iff.mp q
    split at q
    · rename_i hz
      cases q
      refine ⟨⟨_, rfl⟩, G1, n, _, g1.s, r.mono g1.g, hy, fun w H2 G2 g2 d2 => ?_⟩
      obtain ⟨l, vs, rfl, h1, al⟩ := dp_tup d2
      cases strsD_ok hys al
      exact ⟨_, l, ys, rfl, rfl, .inr (ex_t g2.s h1), hz, k _ H2 G2 (g1.trans g2) (.str _)⟩
    · cases q
  · cases q
/-! ### sums -/
def intsD : List PyData → Option (List Int)
  | [] => some []
  | .int x :: r => (intsD r).map (x :: ·)
  | _ => none
theorem intsD_ok {K : PySem.W.Frag} {G : Hp} : ∀ {ds : List PyData} {xs : List Int} {vs : List V}, intsD ds = some xs → DpAll K G vs ds → vs = xs.map V.int
  | [], xs, vs, h, a => by
    cases h
    cases a
    rfl
  | d :: ds, xs, vs, h, a => by
    cases d with
    | int x =>
      obtain ⟨ys, hy, rfl⟩ := Option.map_eq_some_iff.mp (show (intsD ds).map (x :: ·) = some xs from h)
      cases a with
      | cons d1 a1 =>
        cases dp_int d1
        rw [intsD_ok hy a1]
        rfl
    | _ => cases h
def vSum : List PyData → Option PyData
  | [.list ds] => (intsD ds).map fun is => .int is.sum
  | _ => none
theorem cd_sum (hc : X.calm = true := by rfl) : CallD X (.builtin "sum") vSum := CallR.mono (cr_sum hc) fun vs H Q h => by
  obtain ⟨G, ds, d, g, al, q, k⟩ := h
  unfold vSum at q
  split at q
  · obtain ⟨is, hi, rfl⟩ := Option.map_eq_some_iff.mp q
    obtain ⟨v, rfl, h1⟩ := dpa1 al
    obtain ⟨p, ws, rfl, h2, a2⟩ := dp_lst h1
    cases intsD_ok hi a2
    exact ⟨p, is, rfl, ex_l g h2, fin_v g (.int _) k⟩
  · cases q
end
end
end VE
set_option Elab.async false
set_option linter.all false
set_option maxRecDepth 100000
namespace VE
noncomputable section
open PySem PySem.Spec L2 Evl
section
variable {P : Program} {w : World} {K : PySem.W.Frag} {mg : Str → Option Value} {base : Heap}
abbrev FnP (K : PySem.W.Frag) (x : Str) (st : Stmt) (f : Addr) (fd : FuncData) : Prop := FunD K x x (defArgs st) (defBody st) (defScope st) [] [] f fd
theorem fn_okD {x : Str} {st : Stmt} {f : Addr} {fd : FuncData} {N ps : List Str} {k : Nat} {body : MS} (F : FnP K x st f fd) (S : FnScope N ps (defScope st))
    (h : ∀ (cdv : Value) (A : Around) (outer : List Env) (s : Shared) (H : Hp) (E : XK), Room k (A.deeper (PyProof.Rows.envOfC x (defScope st) s.heap.objs.size f cdv)) → PSsV (cxOf CX0 P w K mg base N x (defScope st) f cdv A outer s H E).nox (defBody st) body) :
    FnOk P w K mg base CX0 (k + 1) f fd ps (spM K ps.length (runM N body)) :=
  F.ok S (fun vs H Q E h => spM_len h) fun cdv A outer s H vs Q E hr hs => ⟨_, L2.PSs.nox (h cdv A outer s H E hr), body_ok hs⟩
theorem def_okD {x : Str} {st : Stmt} {f : Addr} {fd : FuncData} {N ps : List Str} {k : Nat} {body : MS} (F : FnP K x st f fd) (S : FnScope N ps (defScope st)) (hm : mg x = some (.ref f)) (hb : L2.Binds K fd ps [])
    (h : ∀ (cdv : Value) (A : Around) (outer : List Env) (s : Shared) (H : Hp) (E : XK), Room k (A.deeper (PyProof.Rows.envOfC x (defScope st) s.heap.objs.size f cdv)) → PSsV (cxOf CX0 P w K mg base N x (defScope st) f cdv A outer s H E).nox (defBody st) body) :
    Def P w K mg base x (k + 1) ps.length (runM N body) :=
  ⟨CX0, f, fd, ps, fun _ _ _ => pass0, fn_okD F S h, hm, F.kp, hb⟩
end
section
variable {X : Cx} {pos : Pos} {x : Str}
theorem pv_gint {i : Int} (h : ∃ t, X.mg x = some (.int i t)) (hg : Gl X x := by rfl) (h1 : (x == ("__debug__" : Str)) = false := by decide) : PV X (.Name x pos) (mC (.int i)) := by
  obtain ⟨t, e⟩ := h
  exact pv_glob (v := .int i) hg e ⟨t, rfl⟩ (fun _ => .int i) h1
theorem pv_gstr {z : Str} (h : ∃ t, X.mg x = some (.str z t)) (hg : Gl X x := by rfl) (h1 : (x == ("__debug__" : Str)) = false := by decide) : PV X (.Name x pos) (mC (.str z)) := by
  obtain ⟨t, e⟩ := h
  exact pv_glob (v := .str z) hg e ⟨t, rfl⟩ (fun _ => .str z) h1
theorem pv_gtup {ds : List PyData} (h : ∃ a vs, X.mg x = some (.ref a) ∧ ∀ H, SqT X.K H a vs ∧ DpAll X.K H vs ds) (hg : Gl X x := by rfl) (h1 : (x == ("__debug__" : Str)) = false := by decide) : PV X (.Name x pos) (mC (.tuple ds)) := by
  obtain ⟨a, vs, e, k⟩ := h
  exact pv_glob (v := .ref a) hg e rfl (fun H => .tup (k H).1 (k H).2) h1
end
/-! ### x.insert(i, e) -/
section
variable {X : Cx} {e b : Expr} {pos : Pos} {m mb : M}
def insD (xs : List PyData) (i : Int) (d : PyData) : List PyData := xs.take i.toNat ++ [d] ++ xs.drop i.toNat
def mIns (ws : List Nat) (i : Nat) (mb m : M) : MS := fun n => (getO n i).bind fun xs => (mb (hide ws n)).bind fun kd => (m (hide ws n)).bind fun d => (asI kd).bind fun k => @ite _ (xs.length < 16000000 ∧ 0 ≤ k ∧ k < 2 ^ 63 ∧ scalD d = true) (Classical.propDecidable _) (some (.nx (n.set i (.o (insD xs k d))))) none
theorem psv_ins (ws : List Nat) (i : Nat) {x : Str} {p1 p2 p3 : Pos} (hb : PV X b mb) (he : PV X e m) (hN : X.N[i]? = some x := by rfl) (hv : Vis X.env.scope x := by first | exact Or.inl rfl | exact Or.inr (Or.inl rfl) | exact Or.inr (Or.inr rfl)) (hd : (x == ("__debug__" : Str)) = false := by decide)
    (hcd : (x == ("__classdict__" : Str)) = false := by decide) (hst : starEach [b, e] X.env = (false, eval b X.env) :: starEach [e] X.env := by rfl) (hst2 : starEach [e] X.env = (false, eval e X.env) :: starEach [] X.env := by rfl) (hpl : (backTo p3 (starEach [e] X.env)).any (·.1) = false := by rfl)
    (hbase : attributeBase (.Name x p1) "insert" X.env (eval (.Name x p1) X.env) = eval (.Name x p1) X.env := by rfl)
    (hfew : ((backTo p3 (starEach [b, e] X.env)).all (fun x => !x.1) && (backToKw p3 (keywordEach [] X.env)).all (fun x => x.1.isSome)
      && decide ([b, e].length + ([] : List Keyword).length + (if ([] : List Keyword).isEmpty then 0 else 1) < 30)) = true := by rfl)
    (hs : swapsWith (.Call (.Attribute (.Name x p1) "insert" p2) [b, e] [] p3) none pos.line X.env = pure false := by rfl) (hline : (p2.endLine == p3.line) = true := by rfl) :
    PSV X (.Expr (.Call (.Attribute (.Name x p1) "insert" p2) [b, e] [] p3) pos) (mIns ws i mb m) := PS.mono (ps_expr (pe_bm PySem.F.plainAttrs_list PySem.F.slot_list_insert PySem.F.type_list_insert mt_insert (pe_var hN hv hd hcd) (pa_cons hb (pa_cons he pa_nil hst2) hst) hbase hfew hline hst hpl) hs) fun D σ H h => by
  obtain ⟨G0, H0, n, o, ⟨F, g, R⟩, q, k⟩ := h
  obtain ⟨xs, hx, q⟩ := Option.bind_eq_some_iff.mp q
  obtain ⟨kd, hk, q⟩ := Option.bind_eq_some_iff.mp q
  obtain ⟨d, hd, q⟩ := Option.bind_eq_some_iff.mp q
  obtain ⟨kk, hkk, q5⟩ := Option.bind_eq_some_iff.mp q
  cases asI_eq hkk
  have hx := getO_eq hx
  obtain ⟨p, vs, e, hF, h0, hH, a⟩ := R.o i xs hx
  split at q5
  · rename_i hz
    obtain ⟨hz, hk0, hk1, hsc⟩ := hz
    cases q5
    refine ⟨.ref p, e, .inl ⟨rfl, vs, SqL.of hH⟩, withO ws n σ F H, hide ws n, _, withO_s ws g.s, vr_hide ws R, hk, fun v H1 G1 g1 d1 => ?_⟩
    refine ⟨G1, hide ws n, d, g1.s, (vr_hide ws R).mono g1.g, hd, fun w H2 G2 g2 d2 => ?_⟩
    cases dp_int d1
    have hz' : vs.length < sizeLine := by
      have : sizeLine = 16777216 := sizeLine_eq
      rw [dpa_len a]
      omega
    have g12 := g1.h.trans g2.h
    refine ⟨p, vs, kk, w, rfl, rfl, g12 p _ hH, hz', hk0, hk1, ?_⟩
    refine k _ _ ⟨F, gr_mut ⟨g.g, g.s.trans g12, g.h.trans g12, g.f⟩ hF h0, (R.stay g12).mut hx e ?_⟩
    exact dpa_app (dpa_app (dpa_take _ a) (.cons (dp_scalar d2 hsc) .nil)) (dpa_drop _ a)
  · cases q5
end
end
end VE
set_option Elab.async false
set_option linter.all false
set_option maxRecDepth 100000
set_option maxHeartbeats 2000000
namespace VL
open PySem PySem.Spec PySem.SeqAt PyProof.Rows PySem.Calls PySem.W
/-- enumerate(v), whatever v is -/
theorem meets_enumB {v : Value} {o : Obj} {Hd : Heap → Prop} (B : Begins v o Hd) :
    Meets (Builtin.«enumerate.__new__» ⟨[.type "enumerate", v], []⟩) (fun _ R s => Hd s.heap ∧
      R (.ok (.ret (.ref (s.heap.push o).objs.size))) { s with heap := (s.heap.push o).push { cls := .type "enumerate", data := .fields #[.none, .bool false, .ref s.heap.objs.size, rawInt 0, .none, .none] } }) :=
  .of_wp fun prog w A R s h => by
    obtain ⟨hp, g, d, tk, os⟩ := s
    obtain ⟨h1, h⟩ := h
    have hsub := sub_enumerate
    have q1 : ∀ {A' : Around} {E : Value → Shared → Prop} {Q : Value → Shared → Prop}, Q (.ref hp.objs.size) ⟨(hp.push o), g, d, tk, os⟩ → wpAny (model prog w) A' (pyIter v) Q E ⟨hp, g, d, tk, os⟩ :=
      fun q => B.iter prog w _ _ ⟨hp, g, d, tk, os⟩ _ h1 q
    wp_walk
    refine wpAny_stack_any fun st => wpAny_pure ?_
    split
    · rename_i c _ _ _ _ _
      cases (c == Value.type "enumerate")
      · wp_walk using q1
        exact ⟨_, rfl, h⟩
      · wp_walk using q1
        exact ⟨_, rfl, h⟩
    · wp_walk using q1
      exact ⟨_, rfl, h⟩
end VL
namespace VL
open PySem PySem.Spec PySem.SeqAt PyProof.Rows PySem.Calls PySem.W
section
variable {prog : Program} {w : World} {A : Around} {E : Value → Shared → Prop} {s : Shared}
theorem call_enumT {l : Addr} {items : Array Value} {Q : Value → Shared → Prop} (hT : s.heap.IsTuple l items)
    (h : ∀ hp, IsEnum hp (s.heap.objs.size + 1) s.heap.objs.size 0 .none → hp.IsTupleIter s.heap.objs.size l 0 → (∀ b o, s.heap.get? b = some o → hp.get? b = some o) → Q (.ref (s.heap.objs.size + 1)) { s with heap := hp }) :
    wpAny (model prog w) A (call (.type "enumerate") [.ref l]) Q E s := by
  refine callType_new F.called_enumerate (by decide) (F.typeCall_enumerate_1 _) (F.newCall_enumerate_1 _) (fun obj => F.args_object_init_2 obj _) F.entry_enumerate_new (meets_enumB (begins_tuple l items)) ⟨hT, ?_⟩
  generalize ho : ({ cls := .type "tuple_iterator", data := .fields #[.ref l, .int 0 0] } : Obj) = o1
  have z1 : (s.heap.push o1).objs.size = s.heap.objs.size + 1 := Heap.size_push ..
  have g1 : (s.heap.push o1).get? s.heap.objs.size = some o1 := Heap.get?_push_size _ (by rw [← ho]; rfl)
  generalize ho2 : ({ cls := .type "enumerate", data := .fields #[.none, .bool false, .ref s.heap.objs.size, rawInt 0, .none, .none] } : Obj) = o2
  have g2 := Heap.get?_push_size (s.heap.push o1) (o := o2) (by rw [← ho2]; rfl)
  rw [z1] at g2 ⊢
  rw [← ho2] at g2 ⊢
  exact ⟨⟨_, g2, rfl⟩, h _ g2 ⟨o1, Heap.get?_push_of_some _ g1, by rw [← ho], by rw [← ho]; rfl⟩ fun b o x => Heap.get?_push_of_some _ (Heap.get?_push_of_some _ x)⟩
end
end VL
namespace L2
open PySem PySem.Spec PyProof.Rows PySem.Calls PySem.W
/-- the tuple at a, each item in a new pair -/
def IteT (K : PySem.W.Frag) (a : Addr) : It :=
  ⟨fun i H => ∃ (xs : List V) (x : V), SqT K H a xs ∧ xs[i]? = some x, fun i H v F => ∃ T x, v = .ref T ∧ H T = none ∧ F = upd H T (.tup [.int (i : Nat), x]) ∧ ∀ xs, SqT K H a xs → xs[i]? = some x, fun i H => ∃ xs : List V, SqT K H a xs ∧ xs.length ≤ i⟩
theorem turn_enT {P : Program} {w : World} {K : PySem.W.Frag} {elts : List Expr} {kk : Nat} {tpos : Pos} (a e it : Addr) :
    Turn P w K (.Tuple elts kk tpos) (IteT K a) [e, it] e (fun i h => (∃ old, IsEnum h e it ((i : Nat) : Int) old) ∧ h.IsTupleIter it a i ∧ e ≠ it ∧ a ≠ it ∧ e ≠ a) where
  mem := List.mem_cons_self ..
  obj := fun i h st b hb => by
    obtain ⟨⟨old, he⟩, ⟨o, ho, _, hd⟩, _⟩ := st
    simp only [List.mem_cons, List.not_mem_nil, or_false] at hb
    rcases hb with rfl | rfl
    · exact ⟨_, he, fun _ z => nomatch z⟩
    · refine ⟨o, ho, fun v z => ?_⟩
      rw [hd] at z
      cases z
  keep := fun i h h' ⟨⟨old, he⟩, hi, rest⟩ k => ⟨⟨old, k e (List.mem_cons_self ..) _ he⟩, hi.at fun o q => k it (List.mem_cons_of_mem _ (List.mem_cons_self ..)) o q, rest⟩
  item := by
    intro X hP hw hK hc i pins s σ H E I hf st hg
    subst hP hw hK
    obtain ⟨⟨old, he⟩, hit, n1, n2, n3⟩ := st
    obtain ⟨xs, x, hq, hx⟩ := hg
    obtain ⟨its, rv, p, hz⟩ := I.tuple hq
    obtain ⟨u, hu, ru⟩ := rv.get hx
    have le : e < s.heap.objs.size := Heap.lt_size he
    have li : it < s.heap.objs.size := by
      obtain ⟨_, q, _⟩ := id hit
      exact Heap.lt_size q
    have hp : s.heap.IsTuple a its.toArray := p
    have hi : i < its.toArray.size := by
      have := (List.getElem?_eq_some_iff.mp hu).1
      simpa using this
    refine wpAny_pyNext_enum_itemD (Draws.tuple (A := X.A.in1) (I.ok.hd hc) it a n2 its.toArray) he ⟨hit, hp⟩ hi n1 (by simp [n1, n3]) fun y h' tk hy ho hst hT hsz hk => ?_
    have ey : y = u := by
      have : its.toArray[i]? = some u := by simpa using hu
      rw [this] at hy
      cases hy
      rfl
    subst ey
    refine ⟨_, rfl, wpAny_letOwnedTupleGo_enum (s := { s with heap := h', toks := tk + 1 }) ho fun h2 he2 sb => ?_⟩
    have hT2 : h2.get? s.heap.objs.size = some { cls := .type "tuple", data := .seq #[.int i tk, y] } := (sb.2 _ (Nat.ne_of_gt le)).trans hT
    have new : ObjOk X.prog X.w (upd H s.heap.objs.size (.tup [.int (i : Nat), x])) h2 s.heap.objs.size (.tup [.int (i : Nat), x]) :=
      ⟨(by decide : 2 ≤ sizeLine), [.int i tk, y], .cons ⟨_, rfl⟩ (.cons ru .nil), ⟨_, hT2, rfl, _, rfl⟩⟩
    have I1 : Inv X pins σ (upd H s.heap.objs.size (.tup [.int (i : Nat), x])) { s with heap := h2, toks := tk + 1 } :=
      I.turnedNew (ch := [e, it]) (fun b ob hb q => by
        simp only [List.mem_cons, List.not_mem_nil, or_false, not_or] at hb
        exact (sb.2 b hb.1).trans (hk b ob hb.1 hb.2 q)) hf (Nat.le_refl _) new
    refine ⟨.ref s.heap.objs.size, _, I1, rfl, ⟨_, x, rfl, I.hok.fresh (Nat.le_refl _), rfl, fun ys hy => by rw [I.tuple_inj hy hq]; exact hx⟩, ⟨⟨y, ?_⟩, hst.1.at fun o q => (sb.2 it (Ne.symm n1)).trans q, n1, n2, n3⟩, fun b hb => ?_⟩
    · rw [Int.natCast_add]
      exact he2
    · have hb' : b < s.heap.objs.size := by
        simp only [List.mem_cons, List.not_mem_nil, or_false] at hb
        rcases hb with rfl | rfl
        · exact le
        · exact li
      rw [upd_ne (Nat.ne_of_lt hb')]
      exact (hf b hb).1
  done := by
    intro X hP hw hK hc i pins s σ H E I hf st hg
    subst hP hw hK
    obtain ⟨⟨old, he⟩, hit, n1, n2, n3⟩ := st
    obtain ⟨xs, hq, hx⟩ := hg
    obtain ⟨its, rv, p, hz⟩ := I.tuple hq
    obtain ⟨f0, f1, f2, f3, f4, f5⟩ := hf it (List.mem_cons_of_mem _ (List.mem_cons_self ..))
    have hl := rv.length
    have hn : its.toArray[i]? = none := by
      rw [Array.getElem?_eq_none_iff, List.size_toArray]
      omega
    have D2 : Draws X.prog X.w X.A.in1 it [it, a] i (fun _ _ => True) (fun j h => j = i ∧ h.IsTupleIter it a i ∧ h.IsTuple a its.toArray) :=
      { live := fun _ _ st => let ⟨_, ⟨o, ho, _⟩, _⟩ := st; ⟨o, ho⟩
        frame := fun _ _ _ st hk => ⟨st.1, st.2.1.at fun o q => hk it (List.mem_cons_self ..) o q, st.2.2.at fun o q => hk a (List.mem_cons_of_mem _ (List.mem_cons_self ..)) o q⟩
        item := fun j s Q E hj st => absurd st.1 (Nat.ne_of_lt hj)
        done := fun s Q E st hE => wpAny_nextOf_tuple_end (A := X.A.in1) (I.ok.hd hc) st.2.1 st.2.2 hn hE }
    exact wpAny_pyNext_enum_endD D2 he ⟨rfl, hit, p⟩ fun h' eb => ⟨rfl, I.turned (t' := s.toks) (fun b o hb q => eb b o hb q) f0 f1 f3 f4 f5⟩
  self := fun A i s Q E st h => let ⟨⟨_, he⟩, _⟩ := st; wpAny_pyIter_enum he h
end L2
namespace VE
noncomputable section
open PySem PySem.Spec L2 Evl
/-! ### enumerate, zip -/
def enumD (ds : List PyData) : List PyData := ds.mapIdx fun i d => .tuple [.int (i : Int), d]
def zipD : List PyData → List PyData → List PyData
  | d :: ds, e :: es => .tuple [d, e] :: zipD ds es
  | _, _ => []
theorem zipD_get : ∀ {ds es : List PyData} {i : Nat} {r : PyData}, (zipD ds es)[i]? = some r → ∃ d e, ds[i]? = some d ∧ es[i]? = some e ∧ r = .tuple [d, e]
  | [], _, i, r, h => by simp [zipD] at h
  | _ :: _, [], i, r, h => by simp [zipD] at h
  | d :: ds, e :: es, 0, r, h => by
    simp [zipD] at h
    exact ⟨d, e, rfl, rfl, h.symm⟩
  | d :: ds, e :: es, i + 1, r, h => by
    simp only [zipD, List.getElem?_cons_succ] at h ⊢
    exact zipD_get h
theorem zipD_end : ∀ {ds es : List PyData} {i : Nat}, (zipD ds es).length ≤ i → ds.length ≤ i ∨ es.length ≤ i
  | [], _, i, h => .inl (Nat.zero_le _)
  | _ :: _, [], i, h => .inr (Nat.zero_le _)
  | d :: ds, e :: es, 0, h => by simp [zipD] at h
  | d :: ds, e :: es, i + 1, h => by
    simp only [zipD, List.length_cons] at h ⊢
    have := zipD_end (ds := ds) (es := es) (i := i) (by omega)
    omega
theorem gr_pair {K : PySem.W.Frag} {G F H : Hp} {T : Addr} {x y : V} {d e : PyData} (e1 : Ex G F) (e2 : Ex F H) (hT : H T = none) (dx : Dp K F x d) (dy : Dp K F y e) : ∃ F', Gr F H F' (upd H T (.tup [x, y])) ∧ Dp K F' (.ref T) (.tuple [d, e]) := by
  have g : Gr F H (upd F T (.tup [x, y])) (upd H T (.tup [x, y])) := Gr.new e2 hT
  exact ⟨_, g, .tup (SqT.of upd_same) (.cons (dp_ex g.g dx) (.cons (dp_ex g.g dy) .nil))⟩
theorem yld_enum {K : PySem.W.Frag} {G : Hp} {a : Addr} {vs : List V} {ds : List PyData} (h : SqL K G a vs) (al : DpAll K G vs ds) : Yld K (Ite K a) G (enumD ds) := fun i H e => by
  refine ⟨fun d hd => ?_, fun hl => ⟨vs, ex_l e h, by rw [dpa_len al]; simpa [enumD] using hl⟩⟩
  unfold enumD at hd
  rw [List.getElem?_mapIdx] at hd
  obtain ⟨d', hd', rfl⟩ := Option.map_eq_some_iff.mp hd
  obtain ⟨v, hv, dv⟩ := dpa_get al hd'
  refine ⟨⟨vs, v, ex_l e h, hv⟩, fun x H' y F e1 e2 => ?_⟩
  obtain ⟨T, z, rfl, hT, rfl, y⟩ := y
  have q := y vs (ex_l e h)
  rw [hv] at q
  cases q
  exact gr_pair e1 e2 hT (.int _) (dp_ex e1 dv)
theorem yld_enT {K : PySem.W.Frag} {G : Hp} {a : Addr} {vs : List V} {ds : List PyData} (h : SqT K G a vs) (al : DpAll K G vs ds) : Yld K (IteT K a) G (enumD ds) := fun i H e => by
  refine ⟨fun d hd => ?_, fun hl => ⟨vs, ex_t e h, by rw [dpa_len al]; simpa [enumD] using hl⟩⟩
  unfold enumD at hd
  rw [List.getElem?_mapIdx] at hd
  obtain ⟨d', hd', rfl⟩ := Option.map_eq_some_iff.mp hd
  obtain ⟨v, hv, dv⟩ := dpa_get al hd'
  refine ⟨⟨vs, v, ex_t e h, hv⟩, fun x H' y F e1 e2 => ?_⟩
  obtain ⟨T, z, rfl, hT, rfl, y⟩ := y
  have q := y vs (ex_t e h)
  rw [hv] at q
  cases q
  exact gr_pair e1 e2 hT (.int _) (dp_ex e1 dv)
theorem yld_zip {K : PySem.W.Frag} {G : Hp} {a b : Addr} {vs ws : List V} {ds es : List PyData} (h : SqL K G a vs) (h2 : SqL K G b ws) (al : DpAll K G vs ds) (al2 : DpAll K G ws es) : Yld K (Itz K a b) G (zipD ds es) := fun i H e => by
  refine ⟨fun d hd => ?_, fun hl => ⟨vs, ws, ex_l e h, ex_l e h2, by rw [dpa_len al, dpa_len al2]; exact zipD_end hl⟩⟩
  obtain ⟨d1, d2, g1, g2, rfl⟩ := zipD_get hd
  obtain ⟨v, hv, dv⟩ := dpa_get al g1
  obtain ⟨u, hu, du⟩ := dpa_get al2 g2
  refine ⟨⟨vs, ws, v, u, ex_l e h, ex_l e h2, hv, hu⟩, fun x H' y F e1 e2 => ?_⟩
  obtain ⟨T, z, z2, rfl, hT, rfl, y, y2⟩ := y
  have q := y vs (ex_l e h)
  have q2 := y2 ws (ex_l e h2)
  rw [hv] at q
  rw [hu] at q2
  cases q
  cases q2
  exact gr_pair e1 e2 hT (dp_ex e1 dv) (dp_ex e1 du)
theorem yld_zipT {K : PySem.W.Frag} {G : Hp} {a b : Addr} {vs ws : List V} {ds es : List PyData} (h : SqT K G a vs) (h2 : SqT K G b ws) (al : DpAll K G vs ds) (al2 : DpAll K G ws es) : Yld K (RZ.ItzT K a b) G (zipD ds es) := fun i H e => by
  refine ⟨fun d hd => ?_, fun hl => ⟨vs, ws, ex_t e h, ex_t e h2, by rw [dpa_len al, dpa_len al2]; exact zipD_end hl⟩⟩
  obtain ⟨d1, d2, g1, g2, rfl⟩ := zipD_get hd
  obtain ⟨v, hv, dv⟩ := dpa_get al g1
  obtain ⟨u, hu, du⟩ := dpa_get al2 g2
  refine ⟨⟨vs, ws, v, u, ex_t e h, ex_t e h2, hv, hu⟩, fun x H' y F e1 e2 => ?_⟩
  obtain ⟨T, z, z2, rfl, hT, rfl, y, y2⟩ := y
  have q := y vs (ex_t e h)
  have q2 := y2 ws (ex_t e h2)
  rw [hv] at q
  rw [hu] at q2
  cases q
  cases q2
  exact gr_pair e1 e2 hT (dp_ex e1 dv) (dp_ex e1 du)
section
variable {X : Cx} {tg e a b c elt iter : Expr} {es : List Expr} {pos p : Pos} {m ma mb mc me : M} {mt : MT} {ms mi : MA} {ifs : List Expr} {f : Fl}
def mEnum (m : M) : MA := fun n => (m n).bind fun d => match d with
  | .list xs => some (enumD xs)
  | .tuple xs => some (enumD xs)
  | _ => none
def mZip (ma mb : M) : MA := fun n => (ma n).bind fun d => (mb n).bind fun e => match d, e with
  | .list xs, .list ys => some (zipD xs ys)
  | .tuple xs, .tuple ys => some (zipD xs ys)
  | _, _ => none
open PyProof.Rows in
theorem piv_enum {elts : List Expr} {kk : Nat} {tpos p : Pos} (he : PV X e m) (hm : X.mg "enumerate" = none) (hg : Gl X "enumerate" := by rfl) (hs : starEach [e] X.env = (false, eval e X.env) :: starEach [] X.env := by rfl) :
    PIV X (.Tuple elts kk tpos) (.Call (.Name "enumerate" p) [e] [] pos) (mEnum m) := by
  refine ⟨fun pins s σ H R I h => ?_⟩
  obtain ⟨G, n, rs, g, r, q, k⟩ := h
  obtain ⟨d, hd, q⟩ := Option.bind_eq_some_iff.mp q
  refine PyProof.Rows.Call_ (ld_blt I hg hm boot_enumerate (PyProof.Rows.callWith_type1 (args_cons (thn (he.run pins s σ H (fun x H1 => ∃ G1, Gr G H G1 H1 ∧ Dp X.K G1 x d) I ⟨G, n, d, g, r, hd, fun v H1 G1 g1 d1 => ⟨G1, g1, d1⟩⟩) fun v s1 ⟨x, H1, I1, r1, G1, g1, d1⟩ => args_nil ?_) hs) hs rfl))
  have two : ∀ b, b ∈ [s1.heap.objs.size + 1, s1.heap.objs.size] → FpOk X pins H1 b := fun b hb => by
    simp only [List.mem_cons, List.not_mem_nil, or_false] at hb
    have hle : s1.heap.objs.size ≤ b := by omega
    exact I1.fpOk hle (I1.hok.fresh hle)
  cases d with
  | list xs =>
    have q : some (enumD xs) = some rs := q
    cases q
    obtain ⟨a, vs, rfl, h1, al⟩ := dp_lst d1
    cases r1
    obtain ⟨its, rv, p', hz⟩ := I1.list (ex_l g1.s h1)
    refine call_enumerate_list p'.isList fun h' he' hit hsz hk => wpAny_pyIter_enum he' ?_
    exact ⟨s1.heap.objs.size + 1, [s1.heap.objs.size + 1, s1.heap.objs.size], _, _, H1, rfl, I1.kept (t' := s1.toks) hk, turn_enum a (s1.heap.objs.size + 1) s1.heap.objs.size, ⟨⟨.none, he'⟩, hit, Nat.succ_ne_self _⟩, two, k _ H1 G1 g1 (yld_enum h1 al)⟩
  | tuple xs =>
    have q : some (enumD xs) = some rs := q
    cases q
    obtain ⟨a, vs, rfl, h1, al⟩ := dp_tup d1
    cases r1
    obtain ⟨its, rv, p', hz⟩ := I1.tuple (ex_t g1.s h1)
    obtain ⟨o, ho, _⟩ := id p'
    have la := Heap.lt_size ho
    refine VL.call_enumT (items := its.toArray) p' fun h' he' hit hk => wpAny_pyIter_enum he' ?_
    exact ⟨s1.heap.objs.size + 1, [s1.heap.objs.size + 1, s1.heap.objs.size], _, _, H1, rfl, I1.kept (t' := s1.toks) hk, turn_enT a (s1.heap.objs.size + 1) s1.heap.objs.size, ⟨⟨.none, he'⟩, hit, Nat.succ_ne_self _, Nat.ne_of_lt la, Ne.symm (Nat.ne_of_lt (Nat.lt_succ_of_lt la))⟩, two, k _ H1 G1 g1 (yld_enT h1 al)⟩
  | none => cases q
  | bool _ => cases q
  | int _ => cases q
  | str _ => cases q
  | dict _ => cases q
theorem piv_zip {e2 : Expr} {elts : List Expr} {kk : Nat} {tpos p : Pos} (ha : PV X e ma) (hb : PV X e2 mb) (hm : X.mg "zip" = none) (hg : Gl X "zip" := by rfl)
    (hs : starEach [e, e2] X.env = (false, eval e X.env) :: starEach [e2] X.env := by rfl) (hs2 : starEach [e2] X.env = (false, eval e2 X.env) :: starEach [] X.env := by rfl) (hpl : (backTo pos (starEach [e2] X.env)).any (·.1) = false := by rfl) :
    PIV X (.Tuple elts kk tpos) (.Call (.Name "zip" p) [e, e2] [] pos) (mZip ma mb) := PI.mono (RZ.pi_zipA hg hm (pl_cons ha (pl_cons hb pl_nil hs2) hs) hs hpl) fun σ H R h => by
  obtain ⟨G, n, rs, g, r, q, k⟩ := h
  obtain ⟨d, hd, q⟩ := Option.bind_eq_some_iff.mp q
  obtain ⟨d', hd', q⟩ := Option.bind_eq_some_iff.mp q
  have hm2 : mCons ma (mCons mb mNil) n = some [d, d'] := by
    show (ma n).bind _ = _
    rw [hd, Option.bind_some]
    show ((mb n).bind _).bind _ = _
    rw [hd']
    rfl
  refine ⟨G, n, _, g, r, hm2, fun vs H1 G1 g1 al => ?_⟩
  cases al with
  | cons dx al =>
    cases al with
    | cons dy al =>
      cases al
      split at q
      · cases q
        obtain ⟨a, us, rfl, h1, a1⟩ := dp_lst dx
        obtain ⟨b, ws, rfl, h2, a2⟩ := dp_lst dy
        exact ⟨a, b, us, ws, rfl, .inl ⟨ex_l g1.s h1, ex_l g1.s h2, k _ H1 G1 g1 (yld_zip h1 h2 a1 a2)⟩⟩
      · cases q
        obtain ⟨a, us, rfl, h1, a1⟩ := dp_tup dx
        obtain ⟨b, ws, rfl, h2, a2⟩ := dp_tup dy
        exact ⟨a, b, us, ws, rfl, .inr ⟨ex_t g1.s h1, ex_t g1.s h2, k _ H1 G1 g1 (yld_zipT h1 h2 a1 a2)⟩⟩
      · cases q
/-- a comprehension whose target is any -/
theorem pf_lcG {scope : Scope} (own : List (Str × Nat)) (g : TG) (hgd : TGD X.K g f) (hN : X.N.Nodup) (hi : PIV X tg iter mi) (ok : blkC X.N X.env.scope scope own = true)
    (hg : ∀ (s : Shared) (H : Hp) (C : Addr) (cl : List (Str × Addr)) (fp : List Addr), PG (X.blk s H scope (compEnvC scope cl C X.env) fp) tg g) (ht : ∀ (s : Shared) (H : Hp) (C : Addr) (cl : List (Str × Addr)) (fp : List Addr), PTsV (X.blk s H scope (compEnvC scope cl C X.env) fp) ifs mt)
    (he : ∀ (s : Shared) (H : Hp) (C : Addr) (cl : List (Str × Addr)) (fp : List Addr), PV (X.blk s H scope (compEnvC scope cl C X.env) fp) elt me) (hc : X.calm = true := by rfl) (hs : ∀ x, foldedSetIterable iter X.env x = pure x := by intro _; rfl) :
    PF X (.ListComp elt [⟨tg, iter, ifs, 0⟩] scope pos) (mLc (own.map (·.2)) mi f mt me) :=
  PE.mono (pe_lc (own := own) hc hN hi (blkOk_by ok) hg ht he hs) (comp_ok hgd)
theorem psv_lcOG {y : Str} {py spos : Pos} {scope : Scope} (ws : List Nat) (j : Nat) (own : List (Str × Nat)) (g : TG) (hgd : TGD X.K g f) (hN : X.N.Nodup) (hi : PIV X tg iter mi) (ok : blkC X.N X.env.scope scope own = true)
    (hg : ∀ (s : Shared) (H : Hp) (C : Addr) (cl : List (Str × Addr)) (fp : List Addr), PG (X.blk s H scope (compEnvC scope cl C X.env) fp) tg g) (ht : ∀ (s : Shared) (H : Hp) (C : Addr) (cl : List (Str × Addr)) (fp : List Addr), PTsV (X.blk s H scope (compEnvC scope cl C X.env) fp) ifs mt)
    (he : ∀ (s : Shared) (H : Hp) (C : Addr) (cl : List (Str × Addr)) (fp : List Addr), PV (X.blk s H scope (compEnvC scope cl C X.env) fp) elt me)
    (hsw : swapsWith (.ListComp elt [⟨tg, iter, ifs, 0⟩] scope pos) (some (.Name y py)) spos.line X.env = pure true) (hy : X.N[j]? = some y := by rfl) (hyl : X.env.scope.names.lookup y = some .local := by rfl) (hc : X.calm = true := by rfl) (hs : ∀ x, foldedSetIterable iter X.env x = pure x := by intro _; rfl) :
    PSV X (.Assign [.Name y py] (.ListComp elt [⟨tg, iter, ifs, 0⟩] scope pos) spos) (mAsgO ws j (mLc (own.map (·.2)) mi f mt me)) := PS.mono (ps_setLc (own := own) hc hN hy hyl hsw hi (blkOk_by ok) hg ht he hs) fun D σ H h => by
  obtain ⟨G0, H0, n, o, R, q, k⟩ := h
  exact comp_ok hgd σ H _ (asgO_ok R q k)
theorem psv_lcG {y : Str} {py spos : Pos} {scope : Scope} (ws : List Nat) (j : Nat) (own : List (Str × Nat)) (g : TG) (hgd : TGD X.K g f) (hN : X.N.Nodup) (hi : PIV X tg iter mi) (ok : blkC X.N X.env.scope scope own = true)
    (hg : ∀ (s : Shared) (H : Hp) (C : Addr) (cl : List (Str × Addr)) (fp : List Addr), PG (X.blk s H scope (compEnvC scope cl C X.env) fp) tg g) (ht : ∀ (s : Shared) (H : Hp) (C : Addr) (cl : List (Str × Addr)) (fp : List Addr), PTsV (X.blk s H scope (compEnvC scope cl C X.env) fp) ifs mt)
    (he : ∀ (s : Shared) (H : Hp) (C : Addr) (cl : List (Str × Addr)) (fp : List Addr), PV (X.blk s H scope (compEnvC scope cl C X.env) fp) elt me)
    (hsw : swapsWith (.ListComp elt [⟨tg, iter, ifs, 0⟩] scope pos) (some (.Name y py)) spos.line X.env = pure true) (hy : X.N[j]? = some y := by rfl) (hyl : X.env.scope.names.lookup y = some .local := by rfl) (hc : X.calm = true := by rfl) (hs : ∀ x, foldedSetIterable iter X.env x = pure x := by intro _; rfl) :
    PSV X (.Assign [.Name y py] (.ListComp elt [⟨tg, iter, ifs, 0⟩] scope pos) spos) (mAsg ws j (mL (mLc (own.map (·.2)) mi f mt me))) := PS.mono (ps_setLc (own := own) hc hN hy hyl hsw hi (blkOk_by ok) hg ht he hs) fun D σ H h => by
  obtain ⟨G0, H0, n, o, R, q, k⟩ := h
  exact comp_ok hgd σ H _ (t_mL σ H _ (asg_ok R q k))
/-! ### max(xs), min(xs) of a list of ints -/
def vMaxL : List PyData → Option PyData
  | [.list ds] => (intsD ds).bind fun is => is.max?.map .int
  | _ => none
def vMinL : List PyData → Option PyData
  | [.list ds] => (intsD ds).bind fun is => is.min?.map .int
  | _ => none
theorem len_of_max {is : List Int} {m : Int} (h : is.max? = some m) : 0 < is.length := by
  cases is with
  | nil => cases h
  | cons x r => simp
theorem len_of_min {is : List Int} {m : Int} (h : is.min? = some m) : 0 < is.length := by
  cases is with
  | nil => cases h
  | cons x r => simp
theorem cd_maxL (hc : X.calm = true := by rfl) : CallD X (.builtin "max") vMaxL := CallR.mono (cr_max hc) fun vs H Q h => by
  obtain ⟨G, ds, d, g, al, q, k⟩ := h
  unfold vMaxL at q
  split at q
  · obtain ⟨is, hi, q⟩ := Option.bind_eq_some_iff.mp q
    obtain ⟨m, hm, rfl⟩ := Option.map_eq_some_iff.mp q
    obtain ⟨v, rfl, h1⟩ := dpa1 al
    obtain ⟨p, ws, rfl, h2, a2⟩ := dp_lst h1
    cases intsD_ok hi a2
    refine ⟨p, is, rfl, ex_l g h2, len_of_max hm, fun m' h1 h2 => ?_⟩
    obtain ⟨g1, g2⟩ := List.max?_eq_some_iff.mp hm
    have e : m' = m := Int.le_antisymm (g2 _ h1) (h2 _ g1)
    subst e
    exact fin_v g (.int _) k
  · cases q
theorem cd_minL (hc : X.calm = true := by rfl) : CallD X (.builtin "min") vMinL := CallR.mono (cr_min hc) fun vs H Q h => by
  obtain ⟨G, ds, d, g, al, q, k⟩ := h
  unfold vMinL at q
  split at q
  · obtain ⟨is, hi, q⟩ := Option.bind_eq_some_iff.mp q
    obtain ⟨m, hm, rfl⟩ := Option.map_eq_some_iff.mp q
    obtain ⟨v, rfl, h1⟩ := dpa1 al
    obtain ⟨p, ws, rfl, h2, a2⟩ := dp_lst h1
    cases intsD_ok hi a2
    refine ⟨p, is, rfl, ex_l g h2, len_of_min hm, fun m' h1 h2 => ?_⟩
    obtain ⟨g1, g2⟩ := List.min?_eq_some_iff.mp hm
    have e : m' = m := Int.le_antisymm (h2 _ g1) (g2 _ h1)
    subst e
    exact fin_v g (.int _) k
  · cases q
end
end
end VE
set_option Elab.async false
set_option linter.all false
set_option maxRecDepth 100000
set_option maxHeartbeats 100000
/-! running the mirrors in plain Lean -/
namespace VE
open PySem L2
/-! ### expressions, applied -/
section
variable {n : En} {m ma mb mc : M} {mt mu : MT} {ms : MA}
@[simp] theorem mC_ap {d : PyData} : mC d n = some d := rfl
@[simp] theorem mVar_ap {i : Nat} : mVar i n = (n[i]?).bind Sl.val := rfl
@[simp] theorem mBin_ap {g : PyData → PyData → Option PyData} : mBin g ma mb n = (ma n).bind fun x => (mb n).bind fun y => g x y := rfl
@[simp] theorem mUn_ap {g : PyData → Option PyData} : mUn g m n = (m n).bind g := rfl
@[simp] theorem mBool_ap : mBool m n = (m n).bind asB := rfl
@[simp] theorem mTru_ap : mTru m n = (m n).bind truD := rfl
@[simp] theorem mNot_ap : mNot mt n = (mt n).map not := rfl
@[simp] theorem mAnd_ap : mAnd mt mu n = (mt n).bind fun a => if a = true then mu n else some false := rfl
@[simp] theorem mOr_ap : mOr mt mu n = (mt n).bind fun a => if a = true then some true else mu n := rfl
@[simp] theorem mAndV_ap : mAndV ma mb n = (ma n).bind fun x => (truD x).bind fun k => if k = true then mb n else some x := rfl
@[simp] theorem mOrV_ap : mOrV ma mb n = (ma n).bind fun x => (truD x).bind fun k => if k = true then some x else mb n := rfl
@[simp] theorem mNotV_ap : mNotV m n = (m n).bind fun x => (truD x).map fun k => .bool (!k) := rfl
@[simp] theorem mIf_ap : mIf mt ma mb n = (mt n).bind fun c => if c = true then ma n else mb n := rfl
@[simp] theorem mChain_ap {g g' : PyData → PyData → Option PyData} : mChain g g' ma mb mc n = (ma n).bind fun x => (mb n).bind fun y => (g x y).bind fun z => (asB z).bind fun k => if k = true then (mc n).bind fun w => g' y w else some (.bool false) := rfl
@[simp] theorem mON_ap : mON n = some none := rfl
@[simp] theorem mOS_ap : mOS m n = (m n).bind fun x => (asI x).map some := rfl
@[simp] theorem mSl_ap {ml mh : MO} : mSl m ml mh n = (m n).bind fun x => (ml n).bind fun l => (mh n).bind fun h => vSl x l h := rfl
@[simp] theorem mSlF_ap {ml mh : MO} : mSlF m ml mh n = (m n).bind fun x => (ml n).bind fun l => (mh n).bind fun h => match x with
  | .list xs => some (cutD xs l h)
  | _ => none := rfl
@[simp] theorem mNil_ap : mNil n = some [] := rfl
@[simp] theorem mCons_ap : mCons m ms n = (m n).bind fun d => (ms n).bind fun ds => some (d :: ds) := rfl
@[simp] theorem mTup_ap : mTup ms n = (ms n).bind fun ds => @ite _ (ds.length ≤ sizeLine) (Classical.propDecidable _) (some (.tuple ds)) none := rfl
@[simp] theorem mL_ap : mL ms n = (ms n).map .list := rfl
@[simp] theorem mLst_ap : mLst ms n = (ms n).bind fun ds => @ite _ (ds.length ≤ sizeLine) (Classical.propDecidable _) (some ds) none := rfl
@[simp] theorem mCall_ap {g : List PyData → Option PyData} : mCall g ms n = (ms n).bind g := rfl
@[simp] theorem mCallF_ap {g : List PyData → Option (List PyData)} : mCallF g ms n = (ms n).bind g := rfl
@[simp] theorem mDef_ap {N : Nat} {g : List PyData → Option PyData} : mDef N g ms n = (ms n).bind fun ds => if ds.length = N then g ds else none := rfl
@[simp] theorem mItems_ap : mItems m n = (m n).bind itemsD := rfl
@[simp] theorem mRng_ap {f : List PyData → Option (List PyData)} : mRng f ms n = (ms n).bind f := rfl
@[simp] theorem mListRev_ap : mListRev m n = (m n).bind fun d => match d with
  | .list xs => some xs.reverse
  | _ => none := rfl
@[simp] theorem mLR1_ap : mLR1 m n = (m n).bind fun d => (asI d).bind fun i => lrg 0 i := rfl
@[simp] theorem mLR2_ap : mLR2 ma mb n = (ma n).bind fun d => (mb n).bind fun e => (asI d).bind fun i => (asI e).bind fun j => lrg i j := rfl
@[simp] theorem mRep_ap : mRep ms m n = (ms n).bind fun xs => (m n).bind fun d => (asI d).bind fun k => @ite _ (-(2 ^ 63) ≤ k ∧ k < 2 ^ 63 ∧ xs.length * k.toNat ≤ 16000000) (Classical.propDecidable _) (some (repD xs k.toNat)) none := rfl
@[simp] theorem mCatF_ap : mCatF ma mb n = (ma n).bind fun x => (mb n).bind fun y => match x, y with
  | .list xs, .list ys => @ite _ (xs.length + ys.length ≤ sizeLine) (Classical.propDecidable _) (some (xs ++ ys)) none
  | _, _ => none := rfl
@[simp] theorem mYes_ap : mYes n = some true := rfl
@[simp] theorem mLc_ap {vs : List Nat} {f : Fl} {me : M} : mLc vs ms f mt me n = (ms n).bind fun ds => (compL f vs mt me (wipeE n vs) ds).bind fun rs => @ite _ (rs.length < 16000000) (Classical.propDecidable _) (some rs) none := rfl
end
end VE
namespace VE
open PySem L2
@[simp] theorem sl_val_v {d : PyData} : (Sl.v d).val = some d := rfl
@[simp] theorem sl_val_o {d : List PyData} : (Sl.o d).val = some (.list d) := rfl
@[simp] theorem sl_val_no : (Sl.no).val = none := rfl
@[simp] theorem asB_b {b : Bool} : asB (.bool b) = some b := rfl
@[simp] theorem asI_i {b : Int} : asI (.int b) = some b := rfl
@[simp] theorem truD_b {b : Bool} : truD (.bool b) = some b := rfl
@[simp] theorem truD_i {b : Int} : truD (.int b) = some (b != 0) := rfl
@[simp] theorem truD_n : truD .none = some false := rfl
@[simp] theorem truD_l {b : List PyData} : truD (.list b) = some (!b.isEmpty) := rfl
@[simp] theorem truD_t {b : List PyData} : truD (.tuple b) = some (!b.isEmpty) := rfl
@[simp] theorem vAdd_ii {i j : Int} : vAdd (.int i) (.int j) = some (.int (i + j)) := rfl
@[simp] theorem vAdd_ss {i j : Str} : vAdd (.str i) (.str j) = @ite _ (i.length + j.length ≤ sizeLine) (Classical.propDecidable _) (some (.str (i ++ j))) none := rfl
@[simp] theorem vAdd_ll {i j : List PyData} : vAdd (.list i) (.list j) = @ite _ (i.length + j.length ≤ sizeLine) (Classical.propDecidable _) (some (.list (i ++ j))) none := rfl
@[simp] theorem vAdd_tt {i j : List PyData} : vAdd (.tuple i) (.tuple j) = @ite _ (i.length + j.length ≤ sizeLine) (Classical.propDecidable _) (some (.tuple (i ++ j))) none := rfl
@[simp] theorem vAddI_ii {i j : Int} : vAddI (.int i) (.int j) = some (.int (i + j)) := rfl
@[simp] theorem vSub_ii {i j : Int} : vSub (.int i) (.int j) = some (.int (i - j)) := rfl
@[simp] theorem vMul_ii {i j : Int} : vMul (.int i) (.int j) = @ite _ (CM i j) (Classical.propDecidable _) (some (.int (i * j))) none := rfl
@[simp] theorem vMul_si {i : Str} {j : Int} : vMul (.str i) (.int j) = @ite _ (0 ≤ j ∧ j ≤ 1000000 ∧ i.length * j.toNat ≤ 1000000) (Classical.propDecidable _) (some (.str (strRep i j.toNat))) none := rfl
@[irreducible] def DB (j : Int) : Prop := 0 < j ∧ j.natAbs.log2 < 9000
theorem db_of {j : Int} (h0 : 0 < j) (h : j < 1152921504606846976) : DB j := by
  unfold DB
  refine ⟨h0, ?_⟩
  have h1 : j.natAbs < 2 ^ 60 := by
    have : (2 : Nat) ^ 60 = 1152921504606846976 := by decide
    omega
  have := (Nat.log2_lt (by omega) (k := 60)).mpr h1
  omega
@[simp] theorem db_lit {n : Nat} (h0 : 0 < n) (h : n < 1152921504606846976) : DB (no_index (OfNat.ofNat n)) := db_of (j := ((n : Nat) : Int)) (Int.natCast_pos.mpr h0) (by omega)
@[simp] theorem vDiv_ii {i j : Int} : vDiv (.int i) (.int j) = @ite _ (DB j) (Classical.propDecidable _) (some (.int (i / j))) none := by
  unfold DB
  rfl
theorem cm_right {i j : Int} (h1 : -18446744073709551616 < j) (h2 : j < 18446744073709551616) : CM i j := .inl (.inr ⟨h1, h2⟩)
theorem cm_left {i j : Int} (h1 : -18446744073709551616 < i) (h2 : i < 18446744073709551616) : CM i j := .inl (.inl ⟨h1, h2⟩)
@[simp] theorem cm_litR {i : Int} {n : Nat} (h : n < 1152921504606846976) : CM i (no_index (OfNat.ofNat n)) := cm_right (j := ((n : Nat) : Int)) (by omega) (by omega)
@[simp] theorem cm_litL {i : Int} {n : Nat} (h : n < 1152921504606846976) : CM (no_index (OfNat.ofNat n)) i := cm_left (i := ((n : Nat) : Int)) (by omega) (by omega)
@[irreducible] def RB (j : Int) : Prop := -(2 ^ 62) ≤ j ∧ j < 2 ^ 62
theorem rb_of {j : Int} (h0 : -1152921504606846976 ≤ j) (h : j ≤ 1152921504606846976) : RB j := by
  unfold RB
  constructor
  · exact Int.le_trans (by decide) h0
  · exact Int.lt_of_le_of_lt h (by decide)
theorem rb_nat {n : Nat} (h : n ≤ 1152921504606846976) : RB (n : Int) := rb_of (by omega) (by omega)
@[simp] theorem rb_lit {n : Nat} (h : n ≤ 1152921504606846976) : RB (no_index (OfNat.ofNat n)) := rb_of (j := ((n : Nat) : Int)) (by omega) (by omega)
@[simp] theorem rb_m1 : RB (-1) := rb_of (by decide) (by decide)
@[simp] theorem vMod_ii {i j : Int} : vMod (.int i) (.int j) = if 0 < j then some (.int (i % j)) else none := rfl
@[simp] theorem vPow_ii {i j : Int} : vPow (.int i) (.int j) = @ite _ (0 ≤ j ∧ j ≤ 1000000 ∧ i.natAbs < 2 ^ 64) (Classical.propDecidable _) (some (.int (i ^ j.toNat))) none := rfl
@[simp] theorem vShl_ii {i j : Int} : vShl (.int i) (.int j) = @ite _ (0 ≤ j ∧ (Builtin.Int.intBits i : Int) + j ≤ 2 ^ 27) (Classical.propDecidable _) (some (.int (i * 2 ^ j.toNat))) none := rfl
@[simp] theorem vShr_ii {i j : Int} : vShr (.int i) (.int j) = if 0 ≤ j then some (.int (i / 2 ^ j.toNat)) else none := rfl
@[simp] theorem vAnd_ii {i j : Int} : vAnd (.int i) (.int j) = some (.int (Builtin.bitAnd i j)) := rfl
@[simp] theorem vNeg_i {i : Int} : vNeg (.int i) = some (.int (-i)) := rfl
@[simp] theorem vBits_i {i : Int} : vBits (.int i) = some (.int (Builtin.Int.intBits i : Nat)) := rfl
@[simp] theorem vEq_ii {i j : Int} : vEq (.int i) (.int j) = some (.bool (decide (i = j))) := rfl
@[simp] theorem vEq_ss {i j : Str} : vEq (.str i) (.str j) = some (.bool (decide (i = j))) := rfl
@[simp] theorem vEq_bb {i j : Bool} : vEq (.bool i) (.bool j) = some (.bool (decide (i = j))) := rfl
@[simp] theorem vNe_ii {i j : Int} : vNe (.int i) (.int j) = some (.bool (!decide (i = j))) := rfl
@[simp] theorem vNe_ss {i j : Str} : vNe (.str i) (.str j) = some (.bool (!decide (i = j))) := rfl
@[simp] theorem vNe_bb {i j : Bool} : vNe (.bool i) (.bool j) = some (.bool (!decide (i = j))) := rfl
@[simp] theorem vLt_ii {i j : Int} : vLt (.int i) (.int j) = some (.bool (decide (i < j))) := rfl
@[simp] theorem vLe_ii {i j : Int} : vLe (.int i) (.int j) = some (.bool (decide (i ≤ j))) := rfl
@[simp] theorem vGt_ii {i j : Int} : vGt (.int i) (.int j) = some (.bool (decide (j < i))) := rfl
@[simp] theorem vGe_ii {i j : Int} : vGe (.int i) (.int j) = some (.bool (decide (j ≤ i))) := rfl
@[simp] theorem vIs_n {d : PyData} : vIs d .none = some (.bool (isNonD d)) := by cases d <;> rfl
@[simp] theorem vIs_bb {a b : Bool} : vIs (.bool a) (.bool b) = some (.bool (decide (a = b))) := rfl
@[simp] theorem vIsNot_n {d : PyData} : vIsNot d .none = some (.bool (!isNonD d)) := by cases d <;> rfl
@[simp] theorem isNon_n : isNonD .none = true := rfl
@[simp] theorem isNon_i {i : Int} : isNonD (.int i) = false := rfl
@[simp] theorem isNon_s {i : Str} : isNonD (.str i) = false := rfl
@[simp] theorem isNon_b {i : Bool} : isNonD (.bool i) = false := rfl
@[simp] theorem isNon_l {i : List PyData} : isNonD (.list i) = false := rfl
@[simp] theorem isNon_t {i : List PyData} : isNonD (.tuple i) = false := rfl
@[simp] theorem vIx_l {xs : List PyData} {i : Int} : vIx (.list xs) (.int i) = atI xs i := rfl
@[simp] theorem vIx_t {xs : List PyData} {i : Int} : vIx (.tuple xs) (.int i) = atI xs i := rfl
@[simp] theorem vIx_s {z : Str} {i : Int} : vIx (.str z) (.int i) = @ite _ (z.length ≤ sizeLine) (Classical.propDecidable _) ((atI z.cps.toList i).map fun c => .str ⟨#[c]⟩) none := rfl
@[simp] theorem vSl_l {xs : List PyData} {l h : Option Int} : vSl (.list xs) l h = some (.list (cutD xs l h)) := rfl
@[simp] theorem vSl_t {xs : List PyData} {l h : Option Int} : vSl (.tuple xs) l h = some (.tuple (cutD xs l h)) := rfl
@[simp] theorem vSl_s {z : Str} {l h : Option Int} : vSl (.str z) l h = @ite _ (z.length ≤ sizeLine) (Classical.propDecidable _) (some (.str (cutS z l h))) none := rfl
@[simp] theorem vLen_l {xs : List PyData} : vLen [.list xs] = some (.int xs.length) := rfl
@[simp] theorem vLen_t {xs : List PyData} : vLen [.tuple xs] = some (.int xs.length) := rfl
@[simp] theorem vLen_s {z : Str} : vLen [.str z] = @ite _ (z.length ≤ sizeLine) (Classical.propDecidable _) (some (.int z.length)) none := rfl
@[simp] theorem vAbs_i {i : Int} : vAbs [.int i] = some (.int (if i < 0 then -i else i)) := rfl
@[simp] theorem vMax2_ii {i j : Int} : vMax2 [.int i, .int j] = some (.int (if j > i then j else i)) := rfl
@[simp] theorem vMin2_ii {i j : Int} : vMin2 [.int i, .int j] = some (.int (if j < i then j else i)) := rfl
@[simp] theorem vInt_i {i : Int} : vInt [.int i] = some (.int i) := rfl
@[simp] theorem vInt_b {i : Bool} : vInt [.bool i] = some (.int (if i = true then 1 else 0)) := rfl
@[simp] theorem vInt_s {i : Str} : vInt [.str i] = @ite _ (i.length ≤ 640) (Classical.propDecidable _) ((PySem.intText? i).map .int) none := rfl
@[simp] theorem vStr_i {i : Int} : vStr [.int i] = @ite _ (i.natAbs.log2 < 1920) (Classical.propDecidable _) (some (.str (toString i))) none := rfl
@[simp] theorem vTuple_l {xs : List PyData} : vTuple [.list xs] = some (.tuple xs) := rfl
@[simp] theorem vTuple_t {xs : List PyData} : vTuple [.tuple xs] = some (.tuple xs) := rfl
@[simp] theorem vListF_l {xs : List PyData} : vListF [.list xs] = some xs := rfl
@[simp] theorem vListF_t {xs : List PyData} : vListF [.tuple xs] = some xs := rfl
@[simp] theorem intsD_map {is : List Int} : intsD (is.map .int) = some is := by
  induction is with
  | nil => rfl
  | cons x r ih => rw [List.map_cons, intsD, ih]; rfl
@[simp] theorem vSum_ints {is : List Int} : vSum [.list (is.map .int)] = some (.int is.sum) := by rw [vSum, intsD_map]; rfl
@[simp] theorem mEnum_ap {m : M} {n : En} : mEnum m n = (m n).bind fun d => match d with
  | .list xs => some (enumD xs)
  | .tuple xs => some (enumD xs)
  | _ => none := rfl
@[simp] theorem mZip_ap {ma mb : M} {n : En} : mZip ma mb n = (ma n).bind fun d => (mb n).bind fun e => match d, e with
  | .list xs, .list ys => some (zipD xs ys)
  | .tuple xs, .tuple ys => some (zipD xs ys)
  | _, _ => none := rfl
@[simp] theorem vMaxL_ints {is : List Int} : vMaxL [.list (is.map .int)] = is.max?.map .int := by rw [vMaxL, intsD_map]; rfl
@[simp] theorem vMinL_ints {is : List Int} : vMinL [.list (is.map .int)] = is.min?.map .int := by rw [vMinL, intsD_map]; rfl
@[simp] theorem itemsD_l {xs : List PyData} : itemsD (.list xs) = some xs := rfl
@[simp] theorem itemsD_t {xs : List PyData} : itemsD (.tuple xs) = some xs := rfl
@[simp] theorem itemsD_s {xs : Str} : itemsD (.str xs) = some (signsD xs) := rfl
@[simp] theorem rng1_i {j : Int} : rng1 [.int j] = @ite _ (RB j) (Classical.propDecidable _) (some (rangeD 0 j.toNat)) none := by
  unfold RB
  rfl
@[simp] theorem rng2_i {i j : Int} : rng2 [.int i, .int j] = @ite _ (RB i ∧ RB j) (Classical.propDecidable _) (some (rangeD i (j - i).toNat)) none := by
  unfold RB
  by_cases h : -(2 ^ 62) ≤ i ∧ i < 2 ^ 62 ∧ -(2 ^ 62) ≤ j ∧ j < 2 ^ 62
  · rw [if_pos ⟨⟨h.1, h.2.1⟩, h.2.2⟩]
    exact if_pos h
  · rw [if_neg (fun q => h ⟨q.1.1, q.1.2, q.2⟩)]
    exact if_neg h
@[simp] theorem rng3_i {i j c : Int} : rng3 [.int i, .int j, .int c] = @ite _ (c = -1 ∧ RB i ∧ RB j) (Classical.propDecidable _) (some (rangeDC i (-1) (i - j).toNat)) none := by
  unfold RB
  by_cases h : c = -1 ∧ -(2 ^ 62) ≤ i ∧ i < 2 ^ 62 ∧ -(2 ^ 62) ≤ j ∧ j < 2 ^ 62
  · rw [if_pos ⟨h.1, ⟨h.2.1, h.2.2.1⟩, h.2.2.2⟩]
    exact if_pos h
  · rw [if_neg (fun q => h ⟨q.1, q.2.1.1, q.2.1.2, q.2.2⟩)]
    exact if_neg h
@[simp] theorem scalD_i {i : Int} : scalD (.int i) = true := rfl
@[simp] theorem scalD_s {i : Str} : scalD (.str i) = true := rfl
@[simp] theorem scalD_b {i : Bool} : scalD (.bool i) = true := rfl
@[simp] theorem scalD_n : scalD .none = true := rfl
@[simp] theorem scalD_l {i : List PyData} : scalD (.list i) = false := rfl
@[simp] theorem scalD_t {i : List PyData} : scalD (.tuple i) = false := rfl
theorem kit_str : kitB "NoneType" "str" = some false ∧ kitB "bool" "str" = some false ∧ kitB "int" "str" = some false ∧ kitB "str" "str" = some true ∧ kitB "list" "str" = some false ∧ kitB "tuple" "str" = some false ∧ kitB "dict" "str" = some false := by decide +kernel
@[simp] theorem isi_str {d : PyData} : vIsi "str" d = some (.bool (match d with | .str _ => true | _ => false)) := by
  obtain ⟨h1, h2, h3, h4, h5, h6, h7⟩ := kit_str
  unfold vIsi
  cases d <;> simp only [tyD, h1, h2, h3, h4, h5, h6, h7, Option.map_some]
theorem kit_int : kitB "NoneType" "int" = some false ∧ kitB "bool" "int" = some true ∧ kitB "int" "int" = some true ∧ kitB "str" "int" = some false ∧ kitB "list" "int" = some false ∧ kitB "tuple" "int" = some false ∧ kitB "dict" "int" = some false := by decide +kernel
@[simp] theorem isi_int {d : PyData} : vIsi "int" d = some (.bool (match d with | .int _ => true | .bool _ => true | _ => false)) := by
  obtain ⟨h1, h2, h3, h4, h5, h6, h7⟩ := kit_int
  unfold vIsi
  cases d <;> simp only [tyD, h1, h2, h3, h4, h5, h6, h7, Option.map_some]
theorem kit_bool : kitB "NoneType" "bool" = some false ∧ kitB "bool" "bool" = some true ∧ kitB "int" "bool" = some false ∧ kitB "str" "bool" = some false ∧ kitB "list" "bool" = some false ∧ kitB "tuple" "bool" = some false ∧ kitB "dict" "bool" = some false := by decide +kernel
@[simp] theorem isi_bool {d : PyData} : vIsi "bool" d = some (.bool (match d with | .bool _ => true | _ => false)) := by
  obtain ⟨h1, h2, h3, h4, h5, h6, h7⟩ := kit_bool
  unfold vIsi
  cases d <;> simp only [tyD, h1, h2, h3, h4, h5, h6, h7, Option.map_some]
theorem kit_tuple : kitB "NoneType" "tuple" = some false ∧ kitB "bool" "tuple" = some false ∧ kitB "int" "tuple" = some false ∧ kitB "str" "tuple" = some false ∧ kitB "list" "tuple" = some false ∧ kitB "tuple" "tuple" = some true ∧ kitB "dict" "tuple" = some false := by decide +kernel
@[simp] theorem isi_tuple {d : PyData} : vIsi "tuple" d = some (.bool (match d with | .tuple _ => true | _ => false)) := by
  obtain ⟨h1, h2, h3, h4, h5, h6, h7⟩ := kit_tuple
  unfold vIsi
  cases d <;> simp only [tyD, h1, h2, h3, h4, h5, h6, h7, Option.map_some]
theorem kit_list : kitB "NoneType" "list" = some false ∧ kitB "bool" "list" = some false ∧ kitB "int" "list" = some false ∧ kitB "str" "list" = some false ∧ kitB "list" "list" = some true ∧ kitB "tuple" "list" = some false ∧ kitB "dict" "list" = some false := by decide +kernel
@[simp] theorem isi_list {d : PyData} : vIsi "list" d = some (.bool (match d with | .list _ => true | _ => false)) := by
  obtain ⟨h1, h2, h3, h4, h5, h6, h7⟩ := kit_list
  unfold vIsi
  cases d <;> simp only [tyD, h1, h2, h3, h4, h5, h6, h7, Option.map_some]
@[simp] theorem atI_cast {α : Type} {xs : List α} {n : Nat} : atI xs (n : Int) = xs[n]? := by
  unfold atI ixN
  rw [if_pos (by omega)]
  by_cases h : n < xs.length
  · rw [if_pos (by omega), Int.toNat_natCast]
    rfl
  · rw [if_neg (by omega), List.getElem?_eq_none (by omega)]
    rfl
@[simp] theorem atI_lit {α : Type} {xs : List α} {n : Nat} : atI xs (no_index (OfNat.ofNat n : Int)) = xs[n]? := atI_cast
@[simp] theorem atI_m1 {α : Type} {xs : List α} : atI xs (-1) = xs.getLast? := by
  rcases List.eq_nil_or_concat xs with rfl | ⟨ys, y, rfl⟩
  · rfl
  · rw [List.concat_eq_append, atI_last, List.getLast?_append]
    rfl
theorem rangeD_nats (n : Nat) : rangeD 0 n = (List.range n).map fun k : Nat => PyData.int (k : Int) := by
  unfold rangeD
  refine List.map_congr_left fun k _ => ?_
  rw [Int.zero_add]
@[simp] theorem lrg_nats {n : Nat} : lrg 0 (n : Int) = @ite _ (n ≤ 16000000) (Classical.propDecidable _) (some ((List.range n).map fun k : Nat => PyData.int (k : Int))) none := by
  have e : (((n : Nat) : Int) - 0).toNat = n := by omega
  have l1 : (-(2 ^ 62) : Int) ≤ 0 := by decide
  have l2 : (0 : Int) < 2 ^ 62 := by decide
  by_cases h : n ≤ 16000000
  · rw [if_pos h]
    unfold lrg
    rw [if_pos ⟨l1, l2, Int.le_trans l1 (by omega), Int.lt_of_le_of_lt (Int.ofNat_le.mpr h) (by decide), by rw [e]; exact h⟩, e, rangeD_nats]
  · rw [if_neg h]
    unfold lrg
    rw [if_neg fun q => h (by have := q.2.2.2.2; rwa [e] at this)]
@[simp] theorem lrg_lit {n : Nat} : lrg 0 (no_index (OfNat.ofNat n : Int)) = @ite _ (n ≤ 16000000) (Classical.propDecidable _) (some ((List.range n).map fun k : Nat => PyData.int (k : Int))) none := lrg_nats
@[simp] theorem sz_lit {n : Nat} (h : n ≤ 16777216) : (no_index (OfNat.ofNat n : Nat)) ≤ sizeLine := by
  have : sizeLine = 16777216 := sizeLine_eq
  rw [this]
  exact h
theorem sz_of {n : Nat} (h : n ≤ 16000000) : n ≤ sizeLine := by
  have : sizeLine = 16777216 := sizeLine_eq
  rw [this]
  omega
@[simp] theorem vMul_li {xs : List PyData} {k : Int} : vMul (.list xs) (.int k) = @ite _ (RB k ∧ xs.length * k.toNat ≤ 16000000) (Classical.propDecidable _) (some (.list (repD xs k.toNat))) none := by
  unfold RB
  by_cases h : -(2 ^ 62) ≤ k ∧ k < 2 ^ 62 ∧ xs.length * k.toNat ≤ 16000000
  · rw [if_pos ⟨⟨h.1, h.2.1⟩, h.2.2⟩]
    exact if_pos h
  · rw [if_neg (fun q => h ⟨q.1.1, q.1.2, q.2⟩)]
    exact if_neg h
/-! ### slices at natural numbers -/
@[simp] theorem cutD_nn {xs : List PyData} {a b : Nat} : cutD xs (some (a : Int)) (some (b : Int)) = (xs.drop a).take (b - a) := by
  unfold cutD
  rw [HT.sIx_nat, HT.sIx_nat]
  rcases Nat.lt_or_ge a xs.length with h | h
  · rw [Nat.min_eq_left (Nat.le_of_lt h)]
    apply List.ext_getElem?
    intro i
    rw [List.getElem?_take, List.getElem?_take]
    by_cases h1 : i < b - a
    · rw [if_pos h1]
      by_cases h2 : i < min b xs.length - a
      · rw [if_pos h2]
      · rw [if_neg h2, List.getElem?_eq_none (by rw [List.length_drop]; omega)]
    · rw [if_neg h1, if_neg (by omega)]
  · rw [Nat.min_eq_right h, List.drop_eq_nil_of_le (Nat.le_refl _), List.drop_eq_nil_of_le h]
    simp
@[simp] theorem cutD_to {xs : List PyData} {b : Nat} : cutD xs none (some (b : Int)) = xs.take b := by
  unfold cutD
  rw [HT.sIx_nat, HT.sIx_none, Nat.sub_zero, List.drop_zero]
  apply List.ext_getElem?
  intro i
  rw [List.getElem?_take, List.getElem?_take]
  by_cases h1 : i < b
  · rw [if_pos h1]
    by_cases h2 : i < xs.length
    · rw [if_pos (by omega)]
    · rw [if_neg (by omega), List.getElem?_eq_none (by omega)]
  · rw [if_neg h1, if_neg (by omega)]
@[simp] theorem cutD_from {xs : List PyData} {a : Nat} : cutD xs (some (a : Int)) none = xs.drop a := by
  unfold cutD
  rw [HT.sIx_nat, HT.sIx_none]
  rcases Nat.lt_or_ge a xs.length with h | h
  · rw [Nat.min_eq_left (Nat.le_of_lt h)]
    exact List.take_of_length_le (by rw [List.length_drop]; omega)
  · rw [Nat.min_eq_right h, List.drop_eq_nil_of_le (Nat.le_refl _), List.drop_eq_nil_of_le h]
    simp
@[simp] theorem cutD_all {xs : List PyData} : cutD xs none none = xs := by
  unfold cutD
  rw [HT.sIx_none, HT.sIx_none]
  simp
theorem cutD_lit1 {xs : List PyData} {a : Nat} {b : Int} : cutD xs (some (no_index (OfNat.ofNat a : Int))) (some b) = cutD xs (some ((a : Nat) : Int)) (some b) := rfl
/-! ### statements by what is wanted behind them -/
def Wp (m : MS) (n : En) (Q : Out → Prop) : Prop := ∃ o, m n = some o ∧ Q o
def Thn (b : MS) (Q : Out → Prop) : Out → Prop
  | .nx n => Wp b n Q
  | o => Q o
section
variable {n : En} {Q : Out → Prop} {a b : MS} {m mb : M} {mt : MT} {ms : MA} {ws : List Nat} {i : Nat}
@[simp] theorem thn_nx : Thn b Q (.nx n) = Wp b n Q := rfl
@[simp] theorem thn_rt {d : PyData} : Thn b Q (.rt d) = Q (.rt d) := rfl
@[simp] theorem thn_rl {d : List PyData} : Thn b Q (.rl d) = Q (.rl d) := rfl
@[simp] theorem thn_bk : Thn b Q (.bk n) = Q (.bk n) := rfl
@[simp] theorem thn_ct : Thn b Q (.ct n) = Q (.ct n) := rfl
@[simp] theorem wp_seq : Wp (mSeq a b) n Q ↔ Wp a n (Thn b Q) := by
  unfold Wp mSeq
  constructor
  · rintro ⟨o, h, q⟩
    obtain ⟨o1, h1, h⟩ := Option.bind_eq_some_iff.mp h
    refine ⟨o1, h1, ?_⟩
    cases o1 with
    | nx n1 => exact ⟨o, h, q⟩
    | rt d => cases h; exact q
    | rl d => cases h; exact q
    | bk d => cases h; exact q
    | ct d => cases h; exact q
  · rintro ⟨o1, h1, q⟩
    cases o1 with
    | nx n1 =>
      obtain ⟨o, h, q⟩ := q
      exact ⟨o, by rw [h1]; exact h, q⟩
    | rt d => exact ⟨_, by rw [h1]; rfl, q⟩
    | rl d => exact ⟨_, by rw [h1]; rfl, q⟩
    | bk d => exact ⟨_, by rw [h1]; rfl, q⟩
    | ct d => exact ⟨_, by rw [h1]; rfl, q⟩
theorem wp_one {f : Out} (h : a n = some f) : Wp a n Q ↔ Q f := by
  unfold Wp
  rw [h]
  simp
@[simp] theorem wp_skip : Wp mSkip n Q ↔ Q (.nx n) := wp_one rfl
@[simp] theorem wp_break : Wp mBreak n Q ↔ Q (.bk n) := wp_one rfl
@[simp] theorem wp_cont : Wp mCont n Q ↔ Q (.ct n) := wp_one rfl
@[simp] theorem wp_retN : Wp mRetN n Q ↔ Q (.rt .none) := wp_one rfl
@[simp] theorem wp_asg : Wp (mAsg ws i m) n Q ↔ ∃ d, m (hide ws n) = some d ∧ Q (.nx (if scalD d = true then n.set i (.v d) else (frz ws n).set i (.v d))) := by
  unfold Wp mAsg
  constructor
  · rintro ⟨o, h, q⟩
    obtain ⟨d, hd, h⟩ := Option.bind_eq_some_iff.mp h
    refine ⟨d, hd, ?_⟩
    split at h <;> (rename_i hs; cases h; simpa [hs] using q)
  · rintro ⟨d, hd, q⟩
    refine ⟨_, by rw [hd, Option.bind_some, ← apply_ite some, ← apply_ite Out.nx], q⟩
@[simp] theorem wp_asgO : Wp (mAsgO ws i ms) n Q ↔ ∃ d, ms (hide ws n) = some d ∧ Q (.nx ((frz ws n).set i (.o d))) := by
  unfold Wp mAsgO
  constructor
  · rintro ⟨o, h, q⟩
    obtain ⟨d, hd, h⟩ := Option.bind_eq_some_iff.mp h
    cases h
    exact ⟨d, hd, q⟩
  · rintro ⟨d, hd, q⟩
    exact ⟨_, by rw [hd]; rfl, q⟩
@[simp] theorem wp_asgT {f : Fl} : Wp (mAsgT ws f m) n Q ↔ ∃ d, m (hide ws n) = some d ∧ ∃ as, f d = some as ∧ Q (.nx (setsE (frz ws n) as)) := by
  unfold Wp mAsgT
  constructor
  · rintro ⟨o, h, q⟩
    obtain ⟨d, hd, h⟩ := Option.bind_eq_some_iff.mp h
    obtain ⟨as, ha, h⟩ := Option.bind_eq_some_iff.mp h
    cases h
    exact ⟨d, hd, as, ha, q⟩
  · rintro ⟨d, hd, as, ha, q⟩
    exact ⟨_, by rw [hd, Option.bind_some, ha]; rfl, q⟩
@[simp] theorem wp_ret : Wp (mRet ws m) n Q ↔ ∃ d, m (hide ws n) = some d ∧ Q (.rt d) := by
  unfold Wp mRet
  constructor
  · rintro ⟨o, h, q⟩
    obtain ⟨d, hd, rfl⟩ := Option.map_eq_some_iff.mp h
    exact ⟨d, hd, q⟩
  · rintro ⟨d, hd, q⟩
    exact ⟨_, by rw [hd]; rfl, q⟩
@[simp] theorem wp_retF : Wp (mRetF ws ms) n Q ↔ ∃ d, ms (hide ws n) = some d ∧ Q (.rl d) := by
  unfold Wp mRetF
  constructor
  · rintro ⟨o, h, q⟩
    obtain ⟨d, hd, rfl⟩ := Option.map_eq_some_iff.mp h
    exact ⟨d, hd, q⟩
  · rintro ⟨d, hd, q⟩
    exact ⟨_, by rw [hd]; rfl, q⟩
@[simp] theorem wp_retO : Wp (mRetO i) n Q ↔ ∃ d, getO n i = some d ∧ Q (.rl d) := by
  unfold Wp mRetO
  constructor
  · rintro ⟨o, h, q⟩
    obtain ⟨d, hd, rfl⟩ := Option.map_eq_some_iff.mp h
    exact ⟨d, hd, q⟩
  · rintro ⟨d, hd, q⟩
    exact ⟨_, by rw [hd]; rfl, q⟩
@[simp] theorem wp_ifS : Wp (mIfS ws mt a b) n Q ↔ ∃ c, mt (hide ws n) = some c ∧ if c = true then Wp a n Q else Wp b n Q := by
  unfold Wp mIfS
  constructor
  · rintro ⟨o, h, q⟩
    obtain ⟨d, hd, h⟩ := Option.bind_eq_some_iff.mp h
    refine ⟨d, hd, ?_⟩
    split at h <;> (rename_i hs; simp only [hs]; exact ⟨o, h, q⟩)
  · rintro ⟨d, hd, q⟩
    split at q
    · rename_i hs
      obtain ⟨o, h, q⟩ := q
      exact ⟨o, by rw [hd, Option.bind_some, if_pos hs]; exact h, q⟩
    · rename_i hs
      obtain ⟨o, h, q⟩ := q
      exact ⟨o, by rw [hd, Option.bind_some, if_neg hs]; exact h, q⟩
@[simp] theorem wp_drop : Wp (mDrop ws m) n Q ↔ ∃ d, m (hide ws n) = some d ∧ Q (.nx n) := by
  unfold Wp mDrop
  constructor
  · rintro ⟨o, h, q⟩
    obtain ⟨d, hd, h⟩ := Option.bind_eq_some_iff.mp h
    cases h
    exact ⟨d, hd, q⟩
  · rintro ⟨d, hd, q⟩
    exact ⟨_, by rw [hd]; rfl, q⟩
@[simp] theorem wp_app : Wp (mApp ws i m) n Q ↔ ∃ xs, getO n i = some xs ∧ ∃ d, m (hide ws n) = some d ∧ (xs.length < 16000000 ∧ ws.contains i = false) ∧ Q (.nx (if scalD d = true then n.set i (.o (xs ++ [d])) else (frz ws n).set i (.o (xs ++ [d])))) := by
  unfold Wp mApp
  constructor
  · rintro ⟨o, h, q⟩
    obtain ⟨xs, hx, h⟩ := Option.bind_eq_some_iff.mp h
    obtain ⟨d, hd, h⟩ := Option.bind_eq_some_iff.mp h
    split at h
    · rename_i hz
      refine ⟨xs, hx, d, hd, hz, ?_⟩
      split at h <;> (rename_i hs; cases h; simpa [hs] using q)
    · cases h
  · rintro ⟨xs, hx, d, hd, hz, q⟩
    refine ⟨_, by rw [hx, Option.bind_some, hd, Option.bind_some, if_pos hz, ← apply_ite some, ← apply_ite Out.nx], q⟩
@[simp] theorem wp_popAsg {j : Nat} : Wp (mPopAsg i j) n Q ↔ ∃ xs, getO n i = some xs ∧ ∃ d, xs[xs.length - 1]? = some d ∧ Q (.nx ((n.set i (.o xs.dropLast)).set j (.v d))) := by
  unfold Wp mPopAsg
  constructor
  · rintro ⟨o, h, q⟩
    obtain ⟨xs, hx, h⟩ := Option.bind_eq_some_iff.mp h
    obtain ⟨d, hd, h⟩ := Option.bind_eq_some_iff.mp h
    cases h
    exact ⟨xs, hx, d, hd, q⟩
  · rintro ⟨xs, hx, d, hd, q⟩
    exact ⟨_, by rw [hx, Option.bind_some, hd]; rfl, q⟩
@[simp] theorem wp_pop : Wp (mPop i) n Q ↔ ∃ xs, getO n i = some xs ∧ ∃ d, xs[xs.length - 1]? = some d ∧ Q (.nx (n.set i (.o xs.dropLast))) := by
  unfold Wp mPop
  constructor
  · rintro ⟨o, h, q⟩
    obtain ⟨xs, hx, h⟩ := Option.bind_eq_some_iff.mp h
    obtain ⟨d, hd, h⟩ := Option.bind_eq_some_iff.mp h
    cases h
    exact ⟨xs, hx, d, hd, q⟩
  · rintro ⟨xs, hx, d, hd, q⟩
    exact ⟨_, by rw [hx, Option.bind_some, hd]; rfl, q⟩
@[simp] theorem wp_rev : Wp (mRev i) n Q ↔ ∃ xs, getO n i = some xs ∧ Q (.nx (n.set i (.o xs.reverse))) := by
  unfold Wp mRev
  constructor
  · rintro ⟨o, h, q⟩
    obtain ⟨xs, hx, h⟩ := Option.bind_eq_some_iff.mp h
    cases h
    exact ⟨xs, hx, q⟩
  · rintro ⟨xs, hx, q⟩
    exact ⟨_, by rw [hx]; rfl, q⟩
@[simp] theorem wp_aug {g : PyData → PyData → Option PyData} : Wp (mAug g ws i m) n Q ↔ ∃ x, getV n i = some x ∧ ∃ y, m (hide ws n) = some y ∧ ∃ z, g x y = some z ∧ scalD z = true ∧ Q (.nx (n.set i (.v z))) := by
  unfold Wp mAug
  constructor
  · rintro ⟨o, h, q⟩
    obtain ⟨x, hx, h⟩ := Option.bind_eq_some_iff.mp h
    obtain ⟨y, hy, h⟩ := Option.bind_eq_some_iff.mp h
    obtain ⟨z, hz, h⟩ := Option.bind_eq_some_iff.mp h
    split at h
    · rename_i hs
      cases h
      exact ⟨x, hx, y, hy, z, hz, hs, q⟩
    · cases h
  · rintro ⟨x, hx, y, hy, z, hz, hs, q⟩
    exact ⟨_, by rw [hx, Option.bind_some, hy, Option.bind_some, hz, Option.bind_some, if_pos hs], q⟩
@[simp] theorem wp_ins : Wp (mIns ws i mb m) n Q ↔ ∃ xs, getO n i = some xs ∧ ∃ kd, mb (hide ws n) = some kd ∧ ∃ d, m (hide ws n) = some d ∧ ∃ k, asI kd = some k ∧ (xs.length < 16000000 ∧ 0 ≤ k ∧ k < 2 ^ 63 ∧ scalD d = true) ∧ Q (.nx (n.set i (.o (insD xs k d)))) := by
  unfold Wp mIns
  constructor
  · rintro ⟨o, h, q⟩
    obtain ⟨xs, hx, h⟩ := Option.bind_eq_some_iff.mp h
    obtain ⟨kd, hk, h⟩ := Option.bind_eq_some_iff.mp h
    obtain ⟨d, hd, h⟩ := Option.bind_eq_some_iff.mp h
    obtain ⟨k, hkk, h⟩ := Option.bind_eq_some_iff.mp h
    split at h
    · rename_i hz
      cases h
      exact ⟨xs, hx, kd, hk, d, hd, k, hkk, hz, q⟩
    · cases h
  · rintro ⟨xs, hx, kd, hk, d, hd, k, hkk, hz, q⟩
    exact ⟨_, by rw [hx, Option.bind_some, hk, Option.bind_some, hd, Option.bind_some, hkk, Option.bind_some, if_pos hz], q⟩
@[simp] theorem wp_put : Wp (mPut ws i m mb) n Q ↔ ∃ d, m (hide ws n) = some d ∧ ∃ kd, mb (hide ws n) = some kd ∧ ∃ k, asI kd = some k ∧ ∃ xs, getO n i = some xs ∧ ∃ j, ixN xs.length k = some j ∧ (scalD d = true ∨ ws.contains i = false) ∧ Q (.nx (if scalD d = true then n.set i (.o (xs.set j d)) else (frz ws n).set i (.o (xs.set j d)))) := by
  unfold Wp mPut
  constructor
  · rintro ⟨o, h, q⟩
    obtain ⟨d, hd, h⟩ := Option.bind_eq_some_iff.mp h
    obtain ⟨kd, hk, h⟩ := Option.bind_eq_some_iff.mp h
    obtain ⟨k, hkk, h⟩ := Option.bind_eq_some_iff.mp h
    obtain ⟨xs, hx, h⟩ := Option.bind_eq_some_iff.mp h
    obtain ⟨j, hj, h⟩ := Option.bind_eq_some_iff.mp h
    refine ⟨d, hd, kd, hk, k, hkk, xs, hx, j, hj, ?_⟩
    split at h
    · rename_i hs
      cases h
      exact ⟨.inl hs, by simpa [hs] using q⟩
    · rename_i hs
      split at h
      · rename_i hw
        cases h
        exact ⟨.inr hw, by simpa [hs] using q⟩
      · cases h
  · rintro ⟨d, hd, kd, hk, k, hkk, xs, hx, j, hj, hz, q⟩
    by_cases hs : scalD d = true
    · exact ⟨_, by rw [hd, Option.bind_some, hk, Option.bind_some, hkk, Option.bind_some, hx, Option.bind_some, hj, Option.bind_some, if_pos hs], by simpa [hs] using q⟩
    · exact ⟨_, by rw [hd, Option.bind_some, hk, Option.bind_some, hkk, Option.bind_some, hx, Option.bind_some, hj, Option.bind_some, if_neg hs, if_pos (hz.resolve_left hs)], by simpa [hs] using q⟩
end
@[simp] theorem getO_nil {i : Nat} : getO [] i = none := by unfold getO; rfl
@[simp] theorem getO_zero_o {r : En} {xs : List PyData} : getO (.o xs :: r) 0 = some xs := rfl
@[simp] theorem getO_zero_v {r : En} {d : PyData} : getO (.v d :: r) 0 = none := rfl
@[simp] theorem getO_zero_n {r : En} : getO (.no :: r) 0 = none := rfl
@[simp] theorem getO_succ {s : Sl} {r : En} {i : Nat} : getO (s :: r) (i + 1) = getO r i := rfl
@[simp] theorem getV_zero_v {r : En} {d : PyData} : getV (.v d :: r) 0 = some d := rfl
@[simp] theorem getV_succ {s : Sl} {r : En} {i : Nat} : getV (s :: r) (i + 1) = getV r i := rfl
@[simp] theorem hide_eq {ws : List Nat} {n : En} : hide ws n = hideAt ws 0 n := rfl
@[simp] theorem frz_eq {ws : List Nat} {n : En} : frz ws n = frzAt ws 0 n := rfl
@[simp] theorem hideAt_nil {ws : List Nat} {k : Nat} : hideAt ws k [] = [] := rfl
@[simp] theorem frzAt_nil {ws : List Nat} {k : Nat} : frzAt ws k [] = [] := rfl
def hid1 (ws : List Nat) (k : Nat) : Sl → Sl
  | .o xs => if ws.contains k then .o xs else .no
  | s => s
def frz1 (ws : List Nat) (k : Nat) : Sl → Sl
  | .o xs => if ws.contains k then .v (.list xs) else .o xs
  | s => s
@[simp] theorem hideAt_cons {ws : List Nat} {k : Nat} {s : Sl} {r : En} : hideAt ws k (s :: r) = hid1 ws k s :: hideAt ws (k + 1) r := by cases s <;> rfl
@[simp] theorem frzAt_cons {ws : List Nat} {k : Nat} {s : Sl} {r : En} : frzAt ws k (s :: r) = frz1 ws k s :: frzAt ws (k + 1) r := by cases s <;> rfl
@[simp] theorem frz1_none {k : Nat} {s : Sl} : frz1 [] k s = s := by cases s <;> rfl
@[simp] theorem hid1_v {ws : List Nat} {k : Nat} {d : PyData} : hid1 ws k (.v d) = .v d := rfl
@[simp] theorem hid1_n {ws : List Nat} {k : Nat} : hid1 ws k .no = .no := rfl
@[simp] theorem hid1_o {ws : List Nat} {k : Nat} {d : List PyData} : hid1 ws k (.o d) = if ws.contains k = true then .o d else .no := rfl
@[simp] theorem frz1_out {ws : List Nat} {k : Nat} {s : Sl} (h : ws.contains k = false) : frz1 ws k s = s := by
  cases s with
  | o d =>
    show (if ws.contains k = true then _ else _) = _
    rw [h]
    rfl
  | _ => rfl
@[simp] theorem frz1_v {ws : List Nat} {k : Nat} {d : PyData} : frz1 ws k (.v d) = .v d := rfl
@[simp] theorem frz1_n {ws : List Nat} {k : Nat} : frz1 ws k .no = .no := rfl
@[simp] theorem frz1_o {ws : List Nat} {k : Nat} {d : List PyData} : frz1 ws k (.o d) = if ws.contains k = true then .v (.list d) else .o d := rfl
@[simp] theorem frzAt_none {n : En} : ∀ {k : Nat}, frzAt [] k n = n := by
  induction n with
  | nil => intro k; rfl
  | cons s r ih =>
    intro k
    cases s with
    | o d =>
      rw [frzAt_cons, ih]
      rfl
    | v d =>
      rw [frzAt_cons, ih]
      rfl
    | no =>
      rw [frzAt_cons, ih]
      rfl
@[simp] theorem setsE_nil {n : En} : setsE n [] = n := rfl
@[simp] theorem setsE_cons {n : En} {i : Nat} {d : PyData} {r : List (Nat × PyData)} : setsE n ((i, d) :: r) = setsE (n.set i (.v d)) r := rfl
@[simp] theorem flNil_ap : flNil [] = some [] := rfl
@[simp] theorem flCons_ap {f : Fl} {fs : List PyData → Option (List (Nat × PyData))} {d : PyData} {ds : List PyData} : flCons f fs (d :: ds) = (f d).bind fun a => (fs ds).bind fun b => some (a ++ b) := rfl
@[simp] theorem flTup_t {fs : List PyData → Option (List (Nat × PyData))} {l : Nat} {ds : List PyData} : flTup fs l (.tuple ds) = if ds.length = l then fs ds else none := rfl
@[simp] theorem flTup_l {fs : List PyData → Option (List (Nat × PyData))} {l : Nat} {ds : List PyData} : flTup fs l (.list ds) = if ds.length = l then fs ds else none := rfl
@[simp] theorem flN_ap {i : Nat} {d : PyData} : flN i d = some [(i, d)] := rfl
/-! ### a def's value -/
theorem comp_filter {α : Type} {emb g : α → PyData} {p : α → Bool} {i : Nat} {mt : MT} {me : M} {n : En} : ∀ {xs : List α}, (∀ x ∈ xs, mt (n.set i (.v (emb x))) = some (p x)) → (∀ x ∈ xs, p x = true → me (n.set i (.v (emb x))) = some (g x)) → compL (flN i) [i] mt me n (xs.map emb) = some ((xs.filter p).map g)
  | [], _, _ => rfl
  | x :: xs, h1, h2 => by
    have h3 := comp_filter (xs := xs) (fun y hy => h1 y (List.mem_cons_of_mem _ hy)) (fun y hy => h2 y (List.mem_cons_of_mem _ hy))
    have a := h1 x (List.mem_cons_self ..)
    have b := h2 x (List.mem_cons_self ..)
    rw [List.map_cons, compL, flN_ap, Option.bind_some, if_pos (by simp), setsE_cons, setsE_nil, a, Option.bind_some, List.filter_cons]
    split
    · rename_i hp
      rw [b hp, Option.bind_some, h3]
      rfl
    · exact h3
/-- any target -/
theorem comp_filterG {α : Type} {emb g : α → PyData} {p : α → Bool} {as : α → List (Nat × PyData)} {f : Fl} {vs : List Nat} {mt : MT} {me : M} {n : En} (hf : ∀ x, f (emb x) = some (as x)) (hv : ∀ x, (as x).all (fun p => vs.contains p.1) = true) : ∀ {xs : List α}, (∀ x ∈ xs, mt (setsE n (as x)) = some (p x)) → (∀ x ∈ xs, p x = true → me (setsE n (as x)) = some (g x)) → compL f vs mt me n (xs.map emb) = some ((xs.filter p).map g)
  | [], _, _ => rfl
  | x :: xs, h1, h2 => by
    have h3 := comp_filterG hf hv (xs := xs) (fun y hy => h1 y (List.mem_cons_of_mem _ hy)) (fun y hy => h2 y (List.mem_cons_of_mem _ hy))
    have a := h1 x (List.mem_cons_self ..)
    have b := h2 x (List.mem_cons_self ..)
    rw [List.map_cons, compL, hf, Option.bind_some, if_pos (hv x), a, Option.bind_some, List.filter_cons]
    split
    · rename_i hp
      rw [b hp, Option.bind_some, h3]
      rfl
    · exact h3
theorem comp_map {α : Type} {emb g : α → PyData} {i : Nat} {me : M} {n : En} {xs : List α} (h : ∀ x ∈ xs, me (n.set i (.v (emb x))) = some (g x)) : compL (flN i) [i] mYes me n (xs.map emb) = some (xs.map g) := by
  have := comp_filter (p := fun _ => true) (mt := mYes) (i := i) (n := n) (emb := emb) (g := g) (me := me) (xs := xs) (fun _ _ => rfl) (fun x hx _ => h x hx)
  rwa [List.filter_eq_self.mpr fun _ _ => rfl] at this
@[simp] theorem wipeE_nil {n : En} : wipeE n [] = n := rfl
@[simp] theorem wipeE_cons {n : En} {v : Nat} {vs : List Nat} : wipeE n (v :: vs) = (wipeE n vs).set v .no := rfl
theorem shl_one (k : Nat) (h : k ≤ 1000000) : vShl (.int 1) (.int (k : Int)) = some (.int ((2 ^ k : Nat) : Int)) := by
  have b : Builtin.Int.intBits 1 = 1 := by decide
  rw [vShl_ii, b, if_pos ⟨by omega, by omega⟩, Int.toNat_natCast, Int.one_mul, PySem.W.kbt_cast]
theorem wp_mid {a b : MS} {n : En} {Q : Out → Prop} (P : En → Prop) (h1 : Wp a n fun o => ∃ n', o = .nx n' ∧ P n') (h2 : ∀ n', P n' → Wp b n' Q) : Wp (mSeq a b) n Q := by
  refine wp_seq.mpr ?_
  obtain ⟨o, h, n', rfl, hp⟩ := h1
  exact ⟨_, h, h2 n' hp⟩
theorem thn_mid {a b : MS} {n : En} {Q : Out → Prop} (P : En → Prop) (h1 : Wp a n fun o => ∃ n', o = .nx n' ∧ P n') (h2 : ∀ n', P n' → Wp b n' Q) : Wp a n (Thn b Q) := by
  obtain ⟨o, h, n', rfl, hp⟩ := h1
  exact ⟨_, h, h2 n' hp⟩
theorem runM_of {N : List Str} {body : MS} {ds : List PyData} {d : PyData} (h : Wp body (ds.map .v ++ List.replicate (N.length - ds.length) .no) fun o => match o with
    | .rt e => e = d
    | .rl xs => PyData.list xs = d
    | .nx _ => PyData.none = d
    | _ => False) : runM N body ds = some d := by
  obtain ⟨o, ho, q⟩ := h
  unfold runM
  rw [ho]
  cases o <;> simp_all
theorem runM_ex {N : List Str} {body : MS} {ds : List PyData} {P : PyData → Prop} (h : Wp body (ds.map .v ++ List.replicate (N.length - ds.length) .no) fun o => match o with
    | .rt e => P e
    | .rl xs => P (.list xs)
    | .nx _ => P .none
    | _ => False) : ∃ d, runM N body ds = some d ∧ P d := by
  obtain ⟨o, ho, q⟩ := h
  unfold runM
  rw [ho]
  cases o <;> first | exact ⟨_, rfl, q⟩ | exact q.elim
/-! ### loops -/
def Lp (I : En → Prop) (Q : Out → Prop) : Out → Prop
  | .nx n => I n
  | .ct n => I n
  | .bk n => Q (.nx n)
  | .rt d => Q (.rt d)
  | .rl d => Q (.rl d)
@[simp] theorem lp_nx {I : En → Prop} {Q : Out → Prop} {n : En} : Lp I Q (.nx n) = I n := rfl
@[simp] theorem lp_ct {I : En → Prop} {Q : Out → Prop} {n : En} : Lp I Q (.ct n) = I n := rfl
@[simp] theorem lp_bk {I : En → Prop} {Q : Out → Prop} {n : En} : Lp I Q (.bk n) = Q (.nx n) := rfl
@[simp] theorem lp_rt {I : En → Prop} {Q : Out → Prop} {n : PyData} : Lp I Q (.rt n) = Q (.rt n) := rfl
@[simp] theorem lp_rl {I : En → Prop} {Q : Out → Prop} {n : List PyData} : Lp I Q (.rl n) = Q (.rl n) := rfl
theorem forL_wp {f : Fl} {b : MS} {Q : Out → Prop} (I : Nat → En → Prop) : ∀ (ds : List PyData) (k : Nat) (n : En), I k n →
    (∀ i d n, ds[i]? = some d → I (k + i) n → ∃ as, f d = some as ∧ Wp b (setsE n as) (Lp (I (k + i + 1)) Q)) → (∀ n, I (k + ds.length) n → Q (.nx n)) → ∃ o, forL f b ds n = some o ∧ Q o
  | [], k, n, h0, _, hd => ⟨_, rfl, hd n h0⟩
  | d :: ds, k, n, h0, hs, hd => by
    obtain ⟨as, ha, o, ho, q⟩ := hs 0 d n rfl h0
    have rec_ : ∀ n, I (k + 1) n → ∃ o, forL f b ds n = some o ∧ Q o := fun n hn => forL_wp I ds (k + 1) n hn
      (fun i d n hi h => by
        have := hs (i + 1) d n (by simpa using hi) (by rw [show k + (i + 1) = k + 1 + i by omega]; exact h)
        rw [show k + (i + 1) + 1 = k + 1 + i + 1 by omega] at this
        exact this) (fun n h => hd n (by rw [List.length_cons, show k + (ds.length + 1) = k + 1 + ds.length by omega]; exact h))
    unfold forL
    rw [ha, Option.bind_some, ho, Option.bind_some]
    cases o with
    | nx n1 => exact rec_ n1 q
    | ct n1 => exact rec_ n1 q
    | bk n1 => exact ⟨_, rfl, q⟩
    | rt d => exact ⟨_, rfl, q⟩
    | rl d => exact ⟨_, rfl, q⟩
section
variable {n : En} {Q : Out → Prop} {b : MS} {mt : MT} {mi : MA} {ws : List Nat} {f : Fl}
theorem wp_for (I : Nat → En → Prop) {ds : List PyData} (hi : mi (hide ws n) = some ds) (h0 : I 0 (frz ws n)) (hs : ∀ i d n, ds[i]? = some d → I i n → ∃ as, f d = some as ∧ Wp b (setsE n as) (Lp (I (i + 1)) Q)) (hd : ∀ n, I ds.length n → Q (.nx n)) : Wp (mFor ws mi f b) n Q := by
  unfold Wp mFor
  rw [hi, Option.bind_some]
  exact forL_wp I ds 0 _ h0 (fun i d n h1 h2 => by rw [Nat.zero_add] at h2 ⊢; exact hs i d n h1 h2) (fun n h => hd n (by rw [Nat.zero_add] at h; exact h))
theorem wp_forR (I : Nat → En → Prop) {ds : List PyData} (hi : mi (hide ws n) = some ds) (h0 : I 0 n) (hs : ∀ i d n, ds[i]? = some d → I i n → ∃ as, f d = some as ∧ Wp b (setsE n as) (Lp (I (i + 1)) Q)) (hd : ∀ n, I ds.length n → Q (.nx n)) : Wp (mForR ws mi f b) n Q := by
  unfold Wp mForR
  rw [hi, Option.bind_some]
  exact forL_wp I ds 0 _ h0 (fun i d n h1 h2 => by rw [Nat.zero_add] at h2 ⊢; exact hs i d n h1 h2) (fun n h => hd n (by rw [Nat.zero_add] at h; exact h))
/-- over range(k) -/
theorem wp_forN (I : Nat → En → Prop) {j : Nat} {lo : Int} {k : Nat} (hi : mi (hide ws n) = some (rangeD lo k)) (h0 : I 0 n) (hs : ∀ i n, i < k → I i n → Wp b (n.set j (.v (.int (lo + (i : Int))))) (Lp (I (i + 1)) Q)) (hd : ∀ n, I k n → Q (.nx n)) : Wp (mForR ws mi (flN j) b) n Q := by
  refine wp_forR I hi h0 (fun i d n h1 h2 => ?_) (fun n h => hd n (by simpa [rangeD] using h))
  unfold rangeD at h1
  rw [List.getElem?_map] at h1
  obtain ⟨x, hx, rfl⟩ := Option.map_eq_some_iff.mp h1
  obtain ⟨hl, hx⟩ := List.getElem?_eq_some_iff.mp hx
  rw [List.getElem_range] at hx
  rw [List.length_range] at hl
  subst hx
  exact ⟨_, rfl, hs _ n hl h2⟩
theorem wp_forL (I : Nat → En → Prop) {j : Nat} {ds : List PyData} (hi : mi (hide ws n) = some ds) (h0 : I 0 (frz ws n)) (hs : ∀ i d n, ds[i]? = some d → I i n → Wp b (n.set j (.v d)) (Lp (I (i + 1)) Q)) (hd : ∀ n, I ds.length n → Q (.nx n)) : Wp (mFor ws mi (flN j) b) n Q :=
  wp_for I hi h0 (fun i d n h1 h2 => ⟨_, rfl, hs i d n h1 h2⟩) hd
/-- over a list of ints -/
theorem wp_forI (I : Nat → En → Prop) {j : Nat} {is : List Int} (hi : mi (hide ws n) = some (is.map .int)) (h0 : I 0 (frz ws n)) (hs : ∀ i x n, is[i]? = some x → I i n → Wp b (n.set j (.v (.int x))) (Lp (I (i + 1)) Q)) (hd : ∀ n, I is.length n → Q (.nx n)) : Wp (mFor ws mi (flN j) b) n Q := by
  refine wp_forL I hi h0 (fun i d n h1 h2 => ?_) (fun n h => hd n (by simpa using h))
  rw [List.getElem?_map] at h1
  obtain ⟨x, hx, rfl⟩ := Option.map_eq_some_iff.mp h1
  exact hs i x n hx h2
theorem whl_wp {t : MT} {Q : Out → Prop} (I : Nat → En → Prop) (hs : ∀ k n, I k n → ∃ c, t (hide ws n) = some c ∧ if c = true then Wp b n (Lp (fun n' => ∃ k', k' < k ∧ I k' n') Q) else Q (.nx n)) : ∀ (k : Nat) (n : En), I k n → ∃ j o, whl ws t b j n = some o ∧ Q o := by
  intro k
  induction k using Nat.strongRecOn with
  | _ k ih =>
    intro n h
    obtain ⟨c, hc, q⟩ := hs k n h
    cases c with
    | false =>
      simp only [Bool.false_eq_true, if_false] at q
      exact ⟨1, _, by unfold whl; rw [hc]; rfl, q⟩
    | true =>
      simp only [if_true] at q
      obtain ⟨o, ho, q⟩ := q
      have step : ∀ j r, (match o with
          | .nx n2 => whl ws t b j n2
          | .ct n2 => whl ws t b j n2
          | .bk n2 => some (.nx n2)
          | .rt d => some (.rt d)
          | .rl d => some (.rl d)) = some r → whl ws t b (j + 1) n = some r := fun j r h => by
        rw [whl, hc, Option.bind_some, if_pos rfl, ho, Option.bind_some]
        exact h
      cases o with
      | nx n1 =>
        obtain ⟨k', hk, hI⟩ := q
        obtain ⟨j, r, hr, qr⟩ := ih k' hk n1 hI
        exact ⟨j + 1, r, step j r hr, qr⟩
      | ct n1 =>
        obtain ⟨k', hk, hI⟩ := q
        obtain ⟨j, r, hr, qr⟩ := ih k' hk n1 hI
        exact ⟨j + 1, r, step j r hr, qr⟩
      | bk n1 => exact ⟨1, _, step 0 _ rfl, q⟩
      | rt d => exact ⟨1, _, step 0 _ rfl, q⟩
      | rl d => exact ⟨1, _, step 0 _ rfl, q⟩
theorem wp_while (I : Nat → En → Prop) (k : Nat) (h0 : I k n) (hs : ∀ k n, I k n → ∃ c, mt (hide ws n) = some c ∧ if c = true then Wp b n (Lp (fun n' => ∃ k', k' < k ∧ I k' n') Q) else Q (.nx n)) : Wp (mWhile ws mt b) n Q := by
  obtain ⟨j, o, h, q⟩ := whl_wp I hs k n h0
  exact ⟨o, mWhile_of h, q⟩
end
section
variable {n : En} {Q : Out → Prop} {b : MS} {mt : MT} {mi : MA} {ws : List Nat} {f : Fl}
/-- over a list of natural numbers -/
theorem wp_forX (I : Nat → En → Prop) {j : Nat} {is : List Nat} (hi : mi (hide ws n) = some (is.map fun k : Nat => PyData.int (k : Int))) (h0 : I 0 (frz ws n)) (hs : ∀ i (x : Nat) n, is[i]? = some x → I i n → Wp b (n.set j (.v (.int (x : Int)))) (Lp (I (i + 1)) Q)) (hd : ∀ n, I is.length n → Q (.nx n)) : Wp (mFor ws mi (flN j) b) n Q := by
  refine wp_forL I hi h0 (fun i d n h1 h2 => ?_) (fun n h => hd n (by simpa using h))
  rw [List.getElem?_map] at h1
  obtain ⟨x, hx, rfl⟩ := Option.map_eq_some_iff.mp h1
  exact hs i x n hx h2
end
end VE
set_option Elab.async false
set_option linter.all false
set_option maxRecDepth 100000
set_option maxHeartbeats 4000000
namespace LW
open PySem PySem.Spec L2 VE
/-! ### the mirrors -/
def N__law_cell : List Str := ["script", "k", "seed", "cell"]
noncomputable def m__law_cell : MS := (mSeq (mIfS [] (mBool (mBin vLt (mVar 1) (mCall vLen (mCons (mVar 0) mNil)))) (mRet [] (mBin vIx (mVar 0) (mVar 1))) mSkip)
    (mSeq (mAsg [] 2 (mC (.int 17)))
    (mSeq (mFor [] (mItems (mVar 0)) (flN 3) (mAsg [] 2 (mBin vMod (mCall vInt (mCons (mBin vAdd (mBin vMul (mVar 2) (mC (.int 31))) (mBin vMod (mCall vInt (mCons (mVar 3) mNil)) (mC (.int 1000003)))) mNil)) (mC (.int 1000003)))))
    (mRet [] (mBin vMod (mCall vInt (mCons (mBin vMul (mBin vMul (mBin vAdd (mVar 2) (mC (.int 7))) (mBin vAdd (mVar 1) (mC (.int 3)))) (mC (.int 69621))) mNil)) (mC (.int 2147483647)))))))
noncomputable def r__law_cell : List PyData → Option PyData := runM N__law_cell m__law_cell
def N__law_digits : List Str := ["cell", "sizes", "row", "rest", "seed", "k", "size", "twice"]
noncomputable def m__law_digits : MS := (mSeq (mAsgO [] 2 (mLst mNil))
    (mSeq (mAsg [] 3 (mCall vInt (mCons (mVar 0) mNil)))
    (mSeq (mIfS [] (mBool (mBin vGe (mVar 3) (mBin vPow (mC (.int 10)) (mC (.int 18))))) (mSeq (mAsg [] 3 (mBin vSub (mVar 3) (mBin vPow (mC (.int 10)) (mC (.int 18)))))
    (mSeq (mFor [] (mItems (mVar 1)) (flN 6) (mSeq (mApp [] 2 (mBin vMod (mCall vInt (mCons (mVar 3) mNil)) (mVar 6)))
    (mAsg [] 3 (mBin vDiv (mCall vInt (mCons (mVar 3) mNil)) (mVar 6)))))
    (mRetO 2))) mSkip)
    (mSeq (mAsg [] 4 (mBin vMod (mCall vInt (mCons (mVar 3) mNil)) (mC (.int 2147483629))))
    (mSeq (mForR [] (mRng rng1 (mCons (mCall vLen (mCons (mVar 1) mNil)) mNil)) (flN 5) (mSeq (mAsg [] 4 (mBin vMod (mCall vInt (mCons (mBin vAdd (mBin vAdd (mBin vMul (mVar 4) (mC (.int 48271))) (mBin vMul (mC (.int 974711)) (mVar 5))) (mC (.int 12345))) mNil)) (mC (.int 2147483647))))
    (mSeq (mAsg [] 7 (mBin vMod (mCall vInt (mCons (mBin vMul (mVar 4) (mBin vAdd (mBin vDiv (mVar 4) (mC (.int 65537))) (mC (.int 3)))) mNil)) (mC (.int 2147483629))))
    (mApp [] 2 (mBin vMod (mBin vDiv (mVar 7) (mC (.int 19))) (mBin vIx (mVar 1) (mVar 5)))))))
    (mRetO 2))))))
noncomputable def r__law_digits : List PyData → Option PyData := runM N__law_digits m__law_digits
def N__law_drawn_table : List Str := ["cell", "row", "wide", "high", "pairs", "place", "k"]
noncomputable def m__law_drawn_table : MS := (mSeq (mAsg [] 1 (mDef 2 r__law_digits (mCons (mVar 0) (mCons (mBin vAdd (mL (mLst (mCons (mC (.int 41)) (mCons (mC (.int 4)) (mCons (mC (.int 4)) mNil))))) (mL (mRep (mLst (mCons (mC (.int 201)) (mCons (mC (.int 201)) mNil))) (mC (.int 40))))) mNil))))
    (mSeq (mAsg [] 2 (mBin vIx (mL (mLst (mCons (mC (.int 1)) (mCons (mC (.int 3)) (mCons (mC (.int 8)) (mCons (mC (.int 201)) mNil)))))) (mBin vIx (mVar 1) (mC (.int 1)))))
    (mSeq (mAsg [] 3 (mBin vIx (mL (mLst (mCons (mC (.int 1)) (mCons (mC (.int 2)) (mCons (mC (.int 10)) (mCons (mC (.int 201)) mNil)))))) (mBin vIx (mVar 1) (mC (.int 2)))))
    (mSeq (mAsgO [] 4 (mLst mNil))
    (mSeq (mAsg [] 5 (mUn vNeg (mC (.int 1))))
    (mSeq (mForR [] (mRng rng1 (mCons (mBin vIx (mVar 1) (mC (.int 0))) mNil)) (flN 6) (mSeq (mAsg [] 5 (mBin vAdd (mBin vAdd (mVar 5) (mC (.int 1))) (mBin vMod (mCall vInt (mCons (mBin vIx (mVar 1) (mBin vAdd (mC (.int 3)) (mBin vMul (mC (.int 2)) (mVar 6)))) mNil)) (mVar 2))))
    (mSeq (mIfS [] (mBool (mBin vGt (mVar 5) (mC (.int 199)))) mBreak mSkip)
    (mApp [] 4 (mTup (mCons (mVar 5) (mCons (mBin vMod (mCall vInt (mCons (mBin vIx (mVar 1) (mBin vAdd (mC (.int 4)) (mBin vMul (mC (.int 2)) (mVar 6)))) mNil)) (mVar 3)) mNil)))))))
    (mRet [4] (mCall vTuple (mCons (mVar 4) mNil)))))))))
noncomputable def r__law_drawn_table : List PyData → Option PyData := runM N__law_drawn_table m__law_drawn_table
def N__law_great : List Str := ["cell", "less", "part", "number", "k"]
noncomputable def m__law_great : MS := (mSeq (mAsg [] 2 (mBin vMod (mCall vInt (mCons (mVar 0) mNil)) (mC (.int 2305843009213693951))))
    (mSeq (mAsg [] 3 (mBin vAdd (mBin vShl (mC (.int 1)) (mC (.int 48))) (mBin vMod (mCall vInt (mCons (mVar 2) mNil)) (mBin vShl (mC (.int 1)) (mC (.int 48))))))
    (mSeq (mForR [] (mRng rng1 (mCons (mC (.int 491)) mNil)) (flN 4) (mAsg [] 3 (mBin vAdd (mBin vShl (mVar 3) (mC (.int 61))) (mVar 2))))
    (mRet [] (mBin vShr (mVar 3) (mVar 1))))))
noncomputable def r__law_great : List PyData → Option PyData := runM N__law_great m__law_great
def N__law_is : List Str := ["shown", "due", "waiting", "turn", "pair", "k"]
noncomputable def m__law_is : MS := (mSeq (mAsgO [] 2 (mLst (mCons (mL (mLst (mCons (mVar 0) (mCons (mVar 1) mNil)))) mNil)))
    (mSeq (mForR [] (mRng rng1 (mCons (mC (.int 1000000)) mNil)) (flN 3) (mSeq (mIfS [2] (mBool (mBin vEq (mCall vLen (mCons (mVar 2) mNil)) (mC (.int 0)))) (mRet [] (mC (.bool true))) mSkip)
    (mSeq (mPopAsg 2 4)
    (mIfS [] (mTru (mUn (vIsi "tuple") (mBin vIx (mVar 4) (mC (.int 1))))) (mSeq (mIfS [] (mOr (mNot (mTru (mUn (vIsi "tuple") (mBin vIx (mVar 4) (mC (.int 0)))))) (mBool (mBin vNe (mCall vLen (mCons (mBin vIx (mVar 4) (mC (.int 0))) mNil)) (mCall vLen (mCons (mBin vIx (mVar 4) (mC (.int 1))) mNil))))) (mRet [] (mC (.bool false))) mSkip)
    (mForR [] (mRng rng1 (mCons (mCall vLen (mCons (mBin vIx (mVar 4) (mC (.int 1))) mNil)) mNil)) (flN 5) (mApp [] 2 (mL (mLst (mCons (mBin vIx (mBin vIx (mVar 4) (mC (.int 0))) (mVar 5)) (mCons (mBin vIx (mBin vIx (mVar 4) (mC (.int 1))) (mVar 5)) mNil))))))) (mIfS [] (mBool (mBin vIs (mBin vIx (mVar 4) (mC (.int 1))) (mC .none))) (mIfS [] (mBool (mBin vIsNot (mBin vIx (mVar 4) (mC (.int 0))) (mC .none))) (mRet [] (mC (.bool false))) mSkip) (mIfS [] (mTru (mUn (vIsi "str") (mBin vIx (mVar 4) (mC (.int 1))))) (mIfS [] (mOr (mNot (mTru (mUn (vIsi "str") (mBin vIx (mVar 4) (mC (.int 0)))))) (mBool (mBin vNe (mBin vIx (mVar 4) (mC (.int 0))) (mBin vIx (mVar 4) (mC (.int 1)))))) (mRet [] (mC (.bool false))) mSkip) (mIfS [] (mOr (mNot (mTru (mUn (vIsi "int") (mBin vIx (mVar 4) (mC (.int 0)))))) (mOr (mBool (mBin vNe (mUn (vIsi "bool") (mBin vIx (mVar 4) (mC (.int 0)))) (mUn (vIsi "bool") (mBin vIx (mVar 4) (mC (.int 1)))))) (mBool (mBin vNe (mBin vIx (mVar 4) (mC (.int 0))) (mBin vIx (mVar 4) (mC (.int 1))))))) (mRet [] (mC (.bool false))) mSkip)))))))
    (mRet [] (mC (.bool false)))))
noncomputable def r__law_is : List PyData → Option PyData := runM N__law_is m__law_is
def N__law_neighbours : List Str := ["table", "digit", "at", "pair"]
noncomputable def m__law_neighbours : MS := (mSeq (mIfS [] (mBool (mBin vEq (mCall vLen (mCons (mVar 0) mNil)) (mC (.int 0)))) (mRet [] (mL (mLst (mCons (mTup (mCons (mTup (mCons (mBin vMod (mCall vInt (mCons (mVar 1) mNil)) (mC (.int 200))) (mCons (mC (.int 0)) mNil))) mNil)) mNil)))) mSkip)
    (mSeq (mAsg [] 2 (mBin vMod (mCall vInt (mCons (mVar 1) mNil)) (mCall vLen (mCons (mVar 0) mNil))))
    (mSeq (mAsg [] 3 (mBin vIx (mVar 0) (mVar 2)))
    (mRet [] (mL (mLst (mCons (mBin vAdd (mSl (mVar 0) mON (mOS (mVar 2))) (mSl (mVar 0) (mOS (mBin vAdd (mVar 2) (mC (.int 1)))) mON)) (mCons (mBin vAdd (mBin vAdd (mSl (mVar 0) mON (mOS (mVar 2))) (mTup (mCons (mTup (mCons (mBin vIx (mVar 3) (mC (.int 0))) (mCons (mBin vMod (mCall vInt (mCons (mBin vAdd (mBin vIx (mVar 3) (mC (.int 1))) (mC (.int 1))) mNil)) (mC (.int 201))) mNil))) mNil))) (mSl (mVar 0) (mOS (mBin vAdd (mVar 2) (mC (.int 1)))) mON)) mNil))))))))
noncomputable def r__law_neighbours : List PyData → Option PyData := runM N__law_neighbours m__law_neighbours
def N__law_entries : List Str := ["number", "values", "zeros", "rest", "k"]
noncomputable def m__law_entries : MS := (mSeq (mAsgO [] 1 (mLst mNil))
    (mSeq (mAsg [] 2 (mC (.int 0)))
    (mSeq (mAsg [] 3 (mVar 0))
    (mSeq (mForR [] (mRng rng1 (mCons (mUn vBits (mVar 0)) mNil)) (flN 4) (mSeq (mIfS [] (mBool (mBin vEq (mBin vAnd (mVar 3) (mC (.int 1))) (mC (.int 1)))) (mSeq (mApp [] 1 (mVar 2))
    (mAsg [] 2 (mC (.int 0)))) (mAsg [] 2 (mBin vAdd (mVar 2) (mC (.int 1)))))
    (mAsg [] 3 (mBin vShr (mVar 3) (mC (.int 1))))))
    (mRetO 1)))))
noncomputable def r__law_entries : List PyData → Option PyData := runM N__law_entries m__law_entries
def N__law_due_table : List Str := ["number", "values", "k"]
noncomputable def m__law_due_table : MS := (mSeq (mAsg [] 1 (mDef 1 r__law_entries (mCons (mVar 0) mNil)))
    (mSeq (mIfS [] (mAnd (mBool (mBin vGt (mCall vLen (mCons (mVar 1) mNil)) (mC (.int 0)))) (mBool (mBin vEq (mBin vIx (mVar 1) (mUn vNeg (mC (.int 1)))) (mC (.int 0))))) (mRet [] (mC .none)) mSkip)
    (mRet [] (mCall vTuple (mCons (mL (mLc [2] (mRng rng1 (mCons (mCall vLen (mCons (mVar 1) mNil)) mNil)) (flN 2) (mBool (mBin vGt (mBin vIx (mVar 1) (mVar 2)) (mC (.int 0)))) (mTup (mCons (mVar 2) (mCons (mBin vSub (mBin vIx (mVar 1) (mVar 2)) (mC (.int 1))) mNil))))) mNil)))))
noncomputable def r__law_due_table : List PyData → Option PyData := runM N__law_due_table m__law_due_table
def N__law_fit : List Str := ["table", "pair"]
noncomputable def m__law_fit : MS := (mSeq (mIfS [] (mOr (mBool (mBin vGt (mCall vLen (mCons (mVar 0) mNil)) (mC (.int 40)))) (mAnd (mBool (mBin vGt (mCall vLen (mCons (mVar 0) mNil)) (mC (.int 0)))) (mBool (mBin vGt (mBin vIx (mBin vIx (mVar 0) (mUn vNeg (mC (.int 1)))) (mC (.int 0))) (mC (.int 199)))))) (mRet [] (mC (.bool false))) mSkip)
    (mRet [] (mBin vLe (mCall vMaxL (mCons (mBin vAdd (mL (mLst (mCons (mC (.int 0)) mNil))) (mL (mLc [1] (mItems (mVar 0)) (flN 1) mYes (mBin vIx (mVar 1) (mC (.int 1)))))) mNil)) (mC (.int 200)))))
noncomputable def r__law_fit : List PyData → Option PyData := runM N__law_fit m__law_fit
def N_row_number : List Str := ["values", "number", "place", "value"]
noncomputable def m_row_number : MS := (mSeq (mAsg [] 1 (mC (.int 0)))
    (mSeq (mAsg [] 2 (mC (.int 0)))
    (mSeq (mFor [] (mItems (mVar 0)) (flN 3) (mSeq (mAug vAddI [] 2 (mVar 3))
    (mSeq (mAug vAddI [] 1 (mBin vShl (mC (.int 1)) (mVar 2)))
    (mAug vAddI [] 2 (mC (.int 1))))))
    (mRet [] (mVar 1)))))
noncomputable def r_row_number : List PyData → Option PyData := runM N_row_number m_row_number
def N_table_number : List Str := ["table", "values", "place", "value"]
noncomputable def m_table_number : MS := (mSeq (mAsgO [] 1 (mLst mNil))
    (mSeq (mFor [] (mItems (mVar 0)) (flTup (flCons (flN 2) (flCons (flN 3) flNil)) 2) (mSeq (mWhile [1] (mBool (mBin vLt (mCall vLen (mCons (mVar 1) mNil)) (mVar 2))) (mApp [] 1 (mC (.int 0))))
    (mApp [] 1 (mBin vAdd (mVar 3) (mC (.int 1))))))
    (mRet [1] (mDef 1 r_row_number (mCons (mVar 1) mNil)))))
noncomputable def r_table_number : List PyData → Option PyData := runM N_table_number m_table_number
def N_lowest_zeros : List Str := ["number"]
noncomputable def m_lowest_zeros : MS := (mRet [] (mBin vSub (mUn vBits (mBin vAnd (mVar 0) (mUn vNeg (mVar 0)))) (mC (.int 1))))
noncomputable def r_lowest_zeros : List PyData → Option PyData := runM N_lowest_zeros m_lowest_zeros
def N_row_values : List Str := ["number", "values", "rest", "zeros"]
noncomputable def m_row_values : MS := (mSeq (mAsgO [] 1 (mLst mNil))
    (mSeq (mAsg [] 2 (mVar 0))
    (mSeq (mWhile [] (mBool (mBin vGt (mVar 2) (mC (.int 0)))) (mSeq (mAsg [] 3 (mDef 1 r_lowest_zeros (mCons (mVar 2) mNil)))
    (mSeq (mApp [] 1 (mVar 3))
    (mAsg [] 2 (mBin vShr (mVar 2) (mBin vAdd (mVar 3) (mC (.int 1))))))))
    (mRet [1] (mCall vTuple (mCons (mVar 1) mNil))))))
noncomputable def r_row_values : List PyData → Option PyData := runM N_row_values m_row_values
def N_table_of : List Str := ["number", "values", "place", "value"]
noncomputable def m_table_of : MS := (mSeq (mAsg [] 1 (mDef 1 r_row_values (mCons (mVar 0) mNil)))
    (mSeq (mIfS [] (mAnd (mTru (mVar 1)) (mBool (mBin vEq (mBin vIx (mVar 1) (mUn vNeg (mC (.int 1)))) (mC (.int 0))))) (mRet [] (mC .none)) mSkip)
    (mRet [] (mCall vTuple (mCons (mL (mLc [2, 3] (mEnum (mVar 1)) (flTup (flCons (flN 2) (flCons (flN 3) flNil)) 2) (mBool (mBin vGt (mVar 3) (mC (.int 0)))) (mTup (mCons (mVar 2) (mCons (mBin vSub (mVar 3) (mC (.int 1))) mNil))))) mNil)))))
noncomputable def r_table_of : List PyData → Option PyData := runM N_table_of m_table_of
def N__law_right_number : List Str := ["number", "due", "told"]
noncomputable def m__law_right_number : MS := (mSeq (mAsg [] 1 (mDef 1 r__law_due_table (mCons (mVar 0) mNil)))
    (mSeq (mAsg [] 2 (mDef 1 r_table_of (mCons (mVar 0) mNil)))
    (mSeq (mIfS [] (mBool (mBin vIs (mVar 1) (mC .none))) (mRet [] (mBin vIs (mVar 2) (mC .none))) mSkip)
    (mSeq (mIfS [] (mNot (mTru (mDef 2 r__law_is (mCons (mVar 2) (mCons (mVar 1) mNil))))) (mRet [] (mC (.bool false))) mSkip)
    (mRet [] (mOrV (mNotV (mDef 1 r__law_fit (mCons (mVar 1) mNil))) (mDef 2 r__law_is (mCons (mDef 1 r_table_number (mCons (mVar 1) mNil)) (mCons (mVar 0) mNil)))))))))
noncomputable def r__law_right_number : List PyData → Option PyData := runM N__law_right_number m__law_right_number
def N__law_row_number : List Str := ["values", "number", "place", "value"]
noncomputable def m__law_row_number : MS := (mSeq (mAsg [] 1 (mC (.int 0)))
    (mSeq (mAsg [] 2 (mC (.int 0)))
    (mSeq (mFor [] (mItems (mVar 0)) (flN 3) (mSeq (mAsg [] 2 (mBin vAdd (mVar 2) (mVar 3)))
    (mSeq (mAsg [] 1 (mBin vAdd (mVar 1) (mBin vShl (mC (.int 1)) (mVar 2))))
    (mAsg [] 2 (mBin vAdd (mVar 2) (mC (.int 1)))))))
    (mRet [] (mVar 1)))))
noncomputable def r__law_row_number : List PyData → Option PyData := runM N__law_row_number m__law_row_number
def N__law_table_number : List Str := ["table", "values", "pair"]
noncomputable def m__law_table_number : MS := (mSeq (mAsg [] 1 (mL (mLst mNil)))
    (mSeq (mFor [] (mItems (mVar 0)) (flN 2) (mAsg [] 1 (mBin vAdd (mBin vAdd (mVar 1) (mL (mRep (mLst (mCons (mC (.int 0)) mNil)) (mBin vSub (mBin vIx (mVar 2) (mC (.int 0))) (mCall vLen (mCons (mVar 1) mNil)))))) (mL (mLst (mCons (mBin vAdd (mBin vIx (mVar 2) (mC (.int 1))) (mC (.int 1))) mNil))))))
    (mRet [] (mDef 1 r__law_row_number (mCons (mVar 1) mNil)))))
noncomputable def r__law_table_number : List PyData → Option PyData := runM N__law_table_number m__law_table_number
def N_row_entry : List Str := ["number", "index", "rest", "_"]
noncomputable def m_row_entry : MS := (mSeq (mAsg [] 2 (mVar 0))
    (mSeq (mForR [] (mRng rng1 (mCons (mCall vMin2 (mCons (mVar 1) (mCons (mUn vBits (mVar 0)) mNil))) mNil)) (flN 3) (mSeq (mIfS [] (mBool (mBin vEq (mVar 2) (mC (.int 0)))) (mRet [] (mC (.int 0))) mSkip)
    (mAsg [] 2 (mBin vShr (mVar 2) (mBin vAdd (mDef 1 r_lowest_zeros (mCons (mVar 2) mNil)) (mC (.int 1)))))))
    (mSeq (mIfS [] (mBool (mBin vEq (mVar 2) (mC (.int 0)))) (mRet [] (mC (.int 0))) mSkip)
    (mRet [] (mDef 1 r_lowest_zeros (mCons (mVar 2) mNil))))))
noncomputable def r_row_entry : List PyData → Option PyData := runM N_row_entry m_row_entry
def N__law_right_row : List Str := ["table", "digit", "number", "values", "place", "due", "pair"]
noncomputable def m__law_right_row : MS := (mSeq (mAsg [] 2 (mDef 1 r__law_table_number (mCons (mVar 0) mNil)))
    (mSeq (mAsg [] 3 (mDef 1 r__law_entries (mCons (mVar 2) mNil)))
    (mSeq (mIfS [] (mNot (mTru (mDef 2 r__law_is (mCons (mDef 1 r_row_values (mCons (mVar 2) mNil)) (mCons (mCall vTuple (mCons (mVar 3) mNil)) mNil))))) (mRet [] (mC (.bool false))) mSkip)
    (mSeq (mFor [] (mItems (mBin vAdd (mL (mLst (mCons (mBin vMod (mCall vInt (mCons (mVar 1) mNil)) (mC (.int 201))) (mCons (mCall vLen (mCons (mVar 3) mNil)) (mCons (mC (.int 0)) mNil))))) (mL (mLc [6] (mItems (mSl (mVar 0) mON (mOS (mC (.int 9))))) (flN 6) mYes (mBin vIx (mVar 6) (mC (.int 0))))))) (flN 4) (mSeq (mAsg [] 5 (mC (.int 0)))
    (mSeq (mIfS [] (mBool (mBin vLt (mVar 4) (mCall vLen (mCons (mVar 3) mNil)))) (mAsg [] 5 (mBin vIx (mVar 3) (mVar 4))) mSkip)
    (mIfS [] (mNot (mTru (mDef 2 r__law_is (mCons (mDef 2 r_row_entry (mCons (mVar 2) (mCons (mVar 4) mNil))) (mCons (mVar 5) mNil))))) (mRet [] (mC (.bool false))) mSkip))))
    (mRet [] (mC (.bool true)))))))
noncomputable def r__law_right_row : List PyData → Option PyData := runM N__law_right_row m__law_right_row
def N__law_right_table : List Str := ["table", "due", "given", "pair"]
noncomputable def m__law_right_table : MS := (mSeq (mAsg [] 1 (mDef 1 r__law_table_number (mCons (mVar 0) mNil)))
    (mSeq (mAsg [] 2 (mL (mLc [3] (mItems (mVar 0)) (flN 3) mYes (mL (mCallF vListF (mCons (mVar 3) mNil))))))
    (mSeq (mIfS [] (mOr (mNot (mTru (mDef 2 r__law_is (mCons (mDef 1 r_table_number (mCons (mVar 2) mNil)) (mCons (mVar 1) mNil))))) (mBool (mBin vNe (mVar 2) (mL (mLc [3] (mItems (mVar 0)) (flN 3) mYes (mL (mCallF vListF (mCons (mVar 3) mNil)))))))) (mRet [] (mC (.bool false))) mSkip)
    (mRet [] (mAndV (mDef 2 r__law_is (mCons (mDef 1 r_table_number (mCons (mVar 0) mNil)) (mCons (mVar 1) mNil))) (mDef 2 r__law_is (mCons (mDef 1 r_table_of (mCons (mVar 1) mNil)) (mCons (mVar 0) mNil))))))))
noncomputable def r__law_right_table : List PyData → Option PyData := runM N__law_right_table m__law_right_table
def N_law : List Str := ["script", "table", "row", "other", "high", "values", "numbers", "number", "k"]
noncomputable def m_law : MS := (mSeq (mAsg [] 1 (mDef 1 r__law_drawn_table (mCons (mDef 2 r__law_cell (mCons (mVar 0) (mCons (mC (.int 0)) mNil))) mNil)))
    (mSeq (mAsg [] 2 (mDef 2 r__law_digits (mCons (mDef 2 r__law_cell (mCons (mVar 0) (mCons (mC (.int 1)) mNil))) (mCons (mBin vAdd (mL (mLst (mCons (mC (.int 61)) (mCons (mC (.int 4)) (mCons (mC (.int 200)) (mCons (mC (.int 4000)) (mCons (mC (.int 12)) (mCons (mC (.int 100)) (mCons (mC (.int 201)) mNil))))))))) (mL (mRep (mLst (mCons (mC (.int 201)) mNil)) (mC (.int 60))))) mNil))))
    (mSeq (mIfS [] (mOr (mNot (mTru (mDef 1 r__law_right_table (mCons (mVar 1) mNil)))) (mNot (mTru (mDef 2 r__law_right_row (mCons (mVar 1) (mCons (mBin vIx (mVar 2) (mC (.int 6))) mNil)))))) (mRet [] (mC (.bool false))) mSkip)
    (mSeq (mFor [] (mItems (mDef 2 r__law_neighbours (mCons (mVar 1) (mCons (mBin vIx (mVar 2) (mC (.int 6))) mNil)))) (flN 3) (mIfS [] (mNot (mTru (mDef 1 r__law_right_table (mCons (mVar 3) mNil)))) (mRet [] (mC (.bool false))) mSkip))
    (mSeq (mAsg [] 4 (mBin vIx (mL (mLst (mCons (mC (.int 1)) (mCons (mC (.int 2)) (mCons (mC (.int 9)) (mCons (mC (.int 201)) mNil)))))) (mBin vIx (mVar 2) (mC (.int 1)))))
    (mSeq (mAsg [] 5 (mL (mLc [8] (mRng rng1 (mCons (mBin vIx (mVar 2) (mC (.int 0))) mNil)) (flN 8) mYes (mBin vMod (mCall vInt (mCons (mBin vIx (mVar 2) (mBin vAdd (mC (.int 7)) (mVar 8))) mNil)) (mVar 4)))))
    (mSeq (mAsgO [] 6 (mLst (mCons (mDef 1 r__law_row_number (mCons (mBin vAdd (mVar 5) (mL (mLst (mCons (mBin vAdd (mBin vIx (mVar 2) (mC (.int 2))) (mC (.int 1))) mNil)))) mNil)) (mCons (mDef 1 r__law_row_number (mCons (mBin vAdd (mVar 5) (mL (mLst (mCons (mBin vAdd (mBin vIx (mVar 2) (mC (.int 2))) (mC (.int 1))) (mCons (mC (.int 0)) mNil))))) mNil)) (mCons (mBin vIx (mVar 2) (mC (.int 3))) mNil)))))
    (mSeq (mApp [] 6 (mBin vMod (mCall vInt (mCons (mDef 2 r__law_cell (mCons (mVar 0) (mCons (mC (.int 2)) mNil))) mNil)) (mBin vShl (mC (.int 1)) (mC (.int 2000)))))
    (mSeq (mIfS [] (mBool (mBin vEq (mBin vIx (mVar 2) (mC (.int 4))) (mC (.int 0)))) (mApp [] 6 (mDef 2 r__law_great (mCons (mDef 2 r__law_cell (mCons (mVar 0) (mCons (mC (.int 3)) mNil))) (mCons (mBin vIx (mVar 2) (mC (.int 5))) mNil)))) mSkip)
    (mSeq (mFor [6] (mItems (mVar 6)) (flN 7) (mIfS [] (mNot (mTru (mDef 1 r__law_right_number (mCons (mVar 7) mNil)))) (mRet [] (mC (.bool false))) mSkip))
    (mSeq (mIfS [6] (mOr (mBool (mBin vIs (mDef 1 r_table_of (mCons (mBin vIx (mVar 6) (mC (.int 0))) mNil)) (mC .none))) (mOr (mBool (mBin vIsNot (mDef 1 r_table_of (mCons (mBin vIx (mVar 6) (mC (.int 1))) mNil)) (mC .none))) (mNot (mTru (mDef 1 r__law_right_table (mCons (mVar 1) mNil)))))) (mRet [] (mC (.bool false))) mSkip)
    (mRet [] (mAndV (mDef 2 r__law_is (mCons (mDef 1 r_table_number (mCons (mTup mNil) mNil)) (mCons (mC (.int 0)) mNil))) (mAndV (mDef 2 r__law_is (mCons (mDef 1 r_table_number (mCons (mL (mLst mNil)) mNil)) (mCons (mC (.int 0)) mNil))) (mDef 2 r__law_is (mCons (mDef 1 r_table_of (mCons (mC (.int 0)) mNil)) (mCons (mTup mNil) mNil)))))))))))))))))
noncomputable def r_law : List PyData → Option PyData := runM N_law m_law
end LW
set_option Elab.async false
set_option linter.all false
set_option maxRecDepth 100000
set_option maxHeartbeats 2000000
namespace LW
open PySem L2 VE
def nL (vs : List Nat) : List PyData := vs.map fun k : Nat => PyData.int (k : Int)
def iL (xs : List Int) : PyData := .list (xs.map .int)
theorem at_ints {xs : List Int} {i : Int} (h0 : 0 ≤ i) (h1 : i < xs.length) : ∃ x, xs[i.toNat]? = some x ∧ atI (xs.map PyData.int) i = some (.int x) := by
  have hl : i.toNat < xs.length := by omega
  refine ⟨xs[i.toNat], List.getElem?_eq_getElem hl, ?_⟩
  have h := atI_nat (xs := xs.map PyData.int) (j := i.toNat) (v := .int xs[i.toNat]) (by simp [hl])
  rwa [Int.toNat_of_nonneg h0] at h
theorem cell_ok (ns : List Int) (k : Int) (hk : 0 ≤ k) (hk2 : k < 2 ^ 60) : ∃ c : Int, r__law_cell [iL ns, .int k] = some (.int c) := by
  suffices h : ∃ d, r__law_cell [iL ns, .int k] = some d ∧ ∃ c : Int, d = .int c by
    obtain ⟨d, h, c, rfl⟩ := h
    exact ⟨c, h⟩
  refine runM_ex ?_
  unfold m__law_cell iL
  simp [N__law_cell]
  split
  · rename_i h
    obtain ⟨x, _, hx⟩ := at_ints hk h
    exact ⟨_, hx, x, rfl⟩
  · refine wp_forI (fun _ n => ∃ (s : Int) (x : Sl), n = [.v (.list (ns.map .int)), .v (.int k), .v (.int s), x] ∧ 0 ≤ s ∧ s < 1000003) (by simp; rfl) ⟨17, .no, by simp, by omega, by omega⟩ ?_ ?_
    · rintro i x n _ ⟨s, y, rfl, h0, h1⟩
      simp
      omega
    · rintro n ⟨s, y, rfl, h0, h1⟩
      have c1 : CM (s + 7) (k + 3) := cm_left (by omega) (by omega)
      simp [c1]
theorem digits_ok (c : Int) (sz : List Int) (hp : ∀ s ∈ sz, 0 < s ∧ s < 1152921504606846976) (hl : sz.length ≤ 1000) :
    ∃ row : List Int, r__law_digits [.int c, iL sz] = some (iL row) ∧ row.length = sz.length ∧ ∀ (i : Nat) (s x : Int), sz[i]? = some s → row[i]? = some x → 0 ≤ x ∧ x < s := by
  suffices h : ∃ d, r__law_digits [.int c, iL sz] = some d ∧ ∃ row : List Int, d = iL row ∧ row.length = sz.length ∧ ∀ (i : Nat) (s x : Int), sz[i]? = some s → row[i]? = some x → 0 ≤ x ∧ x < s by
    obtain ⟨d, h, row, rfl, h2⟩ := h
    exact ⟨row, h, h2⟩
  refine runM_ex ?_
  unfold m__law_digits iL
  have push : ∀ (row : List Int) (i : Nat) (s x : Int), row.length = i → (∀ (j : Nat) (s x : Int), sz[j]? = some s → row[j]? = some x → 0 ≤ x ∧ x < s) → sz[i]? = some s → 0 ≤ x → x < s → (∀ (j : Nat) (s x' : Int), sz[j]? = some s → (row ++ [x])[j]? = some x' → 0 ≤ x' ∧ x' < s) := by
    intro row i s x hr h hs h0 h1 j s' x' hj hx
    by_cases hji : j < row.length
    · rw [List.getElem?_append_left hji] at hx
      exact h j s' x' hj hx
    · rw [List.getElem?_append_right (by omega)] at hx
      have : j = i := by
        have := (List.getElem?_eq_some_iff.mp hx).1
        simp at this
        omega
      subst this
      rw [hs] at hj
      cases hj
      rw [hr, Nat.sub_self] at hx
      cases hx
      exact ⟨h0, h1⟩
  rcases Int.lt_or_le c 1000000000000000000 with hb | hb
  rotate_left
  · simp [N__law_digits, hb, Int.not_lt.mpr hb]
    refine wp_forI (fun i n => ∃ (row : List Int) (r : Int) (y : Sl), n = [.v (.int c), .v (.list (sz.map .int)), .o (row.map .int), .v (.int r), .no, .no, y, .no] ∧ row.length = i ∧ ∀ (j : Nat) (s x : Int), sz[j]? = some s → row[j]? = some x → 0 ≤ x ∧ x < s)
      (by simp; rfl) ⟨[], _, _, by simp; exact ⟨rfl, rfl⟩, rfl, by simp⟩ ?_ ?_
    · rintro i s n hi ⟨row, r, y, rfl, hr, h⟩
      obtain ⟨hs0, hs1⟩ := hp s (List.mem_of_getElem? hi)
      have hil := (List.getElem?_eq_some_iff.mp hi).1
      simp [hs0, db_of hs0 hs1]
      refine ⟨by omega, row ++ [r % s], by simp, by simp [hr], push row i s _ hr h hi (Int.emod_nonneg _ (by omega)) (Int.emod_lt_of_pos _ hs0)⟩
    · rintro n ⟨row, r, y, rfl, hr, h⟩
      simp
      exact ⟨row, rfl, hr, h⟩
  · simp [N__law_digits, hb, Int.not_le.mpr hb]
    refine wp_forN (lo := 0) (k := sz.length) (fun i n => ∃ (row : List Int) (r s : Int) (y z : Sl), n = [.v (.int c), .v (.list (sz.map .int)), .o (row.map .int), .v (.int r), .v (.int s), y, .no, z] ∧ 0 ≤ s ∧ s < 2147483647 ∧ row.length = i ∧ ∀ (j : Nat) (s x : Int), sz[j]? = some s → row[j]? = some x → 0 ≤ x ∧ x < s)
      (by simp [rb_nat (n := sz.length) (by omega)]) ⟨[], _, _, _, _, by simp; exact ⟨rfl, rfl, rfl, rfl⟩, by omega, by omega, rfl, by simp⟩ ?_ ?_
    · rintro i n hi ⟨row, r, s, y, z, rfl, hs0, hs1, hr, h⟩
      have hsz : sz[i]? = some sz[i] := List.getElem?_eq_getElem hi
      obtain ⟨hp0, hp1⟩ := hp _ (List.mem_of_getElem? hsz)
      obtain ⟨x, hx, hx2⟩ := at_ints (xs := sz) (i := (i : Int)) (by omega) (by omega)
      have ex : x = sz[i] := by
        rw [Int.toNat_natCast, hsz] at hx
        cases hx
        rfl
      subst ex
      have c3 : ∀ t : Int, CM (t % 2147483647) (t % 2147483647 / 65537 + 3) := fun t => cm_left (by omega) (by omega)
      simp [c3, hx2, hp0]
      refine ⟨by omega, row ++ [_], _, _, ⟨(List.map_append (l₂ := [_])).symm, rfl, rfl⟩, by omega, by omega, by simp [hr], push row i _ _ hr h hsz (Int.emod_nonneg _ (by omega)) (Int.emod_lt_of_pos _ hp0)⟩
    · rintro n ⟨row, r, s, y, z, rfl, hs0, hs1, hr, h⟩
      simp
      exact ⟨row, rfl, hr, h⟩
theorem digits_nat (c : Int) (sz : List Nat) (hp : ∀ s ∈ sz, 0 < s ∧ s < 1152921504606846976) (hl : sz.length ≤ 1000) :
    ∃ row : List Nat, r__law_digits [.int c, .list (nL sz)] = some (.list (nL row)) ∧ row.length = sz.length ∧ ∀ (i : Nat) (s x : Nat), sz[i]? = some s → row[i]? = some x → x < s := by
  obtain ⟨row, h1, h2, h3⟩ := digits_ok c (sz.map fun k : Nat => (k : Int)) (fun s hs => by
    obtain ⟨k, hk, rfl⟩ := List.mem_map.mp hs
    have := hp k hk
    omega) (by simpa using hl)
  rw [List.length_map] at h2
  have e0 : iL (sz.map fun k : Nat => (k : Int)) = .list (nL sz) := by
    unfold iL nL
    rw [List.map_map]
    rfl
  have pos : ∀ x ∈ row, 0 ≤ x := fun x hx => by
    obtain ⟨i, hi, rfl⟩ := List.mem_iff_getElem.mp hx
    have hi2 : i < sz.length := by omega
    exact (h3 i (sz[i] : Int) _ (by simp [hi2]) (List.getElem?_eq_getElem hi)).1
  have e1 : (row.map Int.toNat).map (fun k : Nat => (k : Int)) = row := by
    rw [List.map_map]
    refine (List.map_congr_left fun x hx => ?_).trans (List.map_id _)
    exact Int.toNat_of_nonneg (pos x hx)
  refine ⟨row.map Int.toNat, ?_, by simp [h2], fun i s x hs hx => ?_⟩
  · rw [← e0, h1]
    unfold iL nL
    rw [show ((row.map Int.toNat).map fun k : Nat => PyData.int (k : Int)) = ((row.map Int.toNat).map fun k : Nat => (k : Int)).map PyData.int by rw [List.map_map (g := PyData.int)]; rfl, e1]
  · rw [List.getElem?_map] at hx
    obtain ⟨y, hy, rfl⟩ := Option.map_eq_some_iff.mp hx
    have := h3 i s y (by simp [hs]) hy
    omega
/-! rows as numbers -/
def rn : List Nat → Nat
  | [] => 0
  | v :: r => 2 ^ v * (2 * rn r + 1)
def wsum : List Nat → Nat
  | [] => 0
  | v :: r => v + 1 + wsum r
theorem wsum_cons (v : Nat) (r : List Nat) : wsum (v :: r) = v + 1 + wsum r := rfl
@[simp] theorem rn_nil : rn [] = 0 := rfl
theorem rn_cons (v : Nat) (r : List Nat) : rn (v :: r) = 2 ^ v * (2 * rn r + 1) := rfl
theorem two_pos (k : Nat) : 0 < 2 ^ k := Nat.pow_pos (by decide)
theorem rn_lt : ∀ vs, rn vs < 2 ^ wsum vs
  | [] => by decide
  | v :: r => by
    have h := rn_lt r
    unfold rn wsum
    rw [Nat.pow_add, Nat.pow_succ, Nat.mul_assoc]
    exact Nat.mul_lt_mul_of_pos_left (by omega) (two_pos v)
theorem rn_pos (v : Nat) (r : List Nat) : 0 < rn (v :: r) := by
  unfold rn
  exact Nat.mul_pos (two_pos v) (by omega)
theorem wsum_le : ∀ vs, vs ≠ [] → 2 ^ wsum vs ≤ 2 * rn vs
  | [], h => absurd rfl h
  | v :: r, _ => by
    rw [rn_cons]
    unfold wsum
    have h : 2 ^ wsum r ≤ 2 * rn r + 1 := by
      cases r with
      | nil => decide
      | cons w s => exact Nat.le_trans (wsum_le (w :: s) (by simp)) (by omega)
    rw [Nat.pow_add, Nat.pow_succ, Nat.mul_assoc, Nat.mul_left_comm]
    exact Nat.mul_le_mul_left _ (Nat.mul_le_mul_left _ h)
theorem wsum_of_lt {vs : List Nat} {k : Nat} (h : rn vs < 2 ^ k) : wsum vs ≤ k := by
  cases vs with
  | nil => exact Nat.zero_le _
  | cons v r =>
    have h1 := wsum_le (v :: r) (by simp)
    have h2 : 2 ^ wsum (v :: r) < 2 ^ (k + 1) := by
      rw [Nat.pow_succ]
      omega
    have := (Nat.pow_lt_pow_iff_right (by decide : 1 < 2)).mp h2
    omega
theorem len_le_wsum : ∀ vs, vs.length ≤ wsum vs
  | [] => Nat.le_refl _
  | v :: r => by
    have := len_le_wsum r
    unfold wsum
    simp only [List.length_cons]
    omega
theorem len_le_rn : ∀ vs, 2 ^ vs.length ≤ rn vs + 1
  | [] => by decide
  | v :: r => by
    have h := len_le_rn r
    have h1 := two_pos v
    unfold rn
    rw [List.length_cons, Nat.pow_succ]
    have h2 : 1 * (2 * rn r + 1) ≤ 2 ^ v * (2 * rn r + 1) := Nat.mul_le_mul_right _ h1
    omega
theorem rn_div (v : Nat) (r : List Nat) : rn (v :: r) / 2 ^ (v + 1) = rn r := by
  rw [rn_cons, Nat.pow_succ, Nat.mul_comm (2 ^ v) (2 * rn r + 1), Nat.mul_comm (2 ^ v) 2, Nat.mul_div_mul_right _ _ (two_pos v)]
  omega
theorem rn_ex : ∀ n, ∃ vs, rn vs = n := by
  intro n
  induction n using Nat.strongRecOn with
  | _ n ih =>
    by_cases h0 : n = 0
    · exact ⟨[], h0.symm⟩
    · obtain ⟨vs, h⟩ := ih (n / 2) (by omega)
      by_cases h1 : n % 2 = 1
      · refine ⟨0 :: vs, ?_⟩
        unfold rn
        rw [h]
        omega
      · cases vs with
        | nil =>
          unfold rn at h
          omega
        | cons v r =>
          refine ⟨(v + 1) :: r, ?_⟩
          unfold rn at h ⊢
          rw [Nat.pow_succ, Nat.mul_comm (2 ^ v) 2, Nat.mul_assoc, h]
          omega
theorem intBits_lt {n k : Nat} : Builtin.Int.intBits (n : Int) ≤ k ↔ n < 2 ^ k := by
  rw [intBits_le_iff, Int.natAbs_natCast]
theorem intBits_pow (k : Nat) : Builtin.Int.intBits ((2 : Int) ^ k) = k + 1 := by
  rw [← PySem.W.kbt_cast]
  have h1 : Builtin.Int.intBits ((2 ^ k : Nat) : Int) ≤ k + 1 := intBits_lt.mpr (Nat.pow_lt_pow_right (by decide) (Nat.lt_succ_self k))
  have h2 : ¬ Builtin.Int.intBits ((2 ^ k : Nat) : Int) ≤ k := fun h => Nat.lt_irrefl _ (intBits_lt.mp h)
  omega
theorem len_bits (vs : List Nat) : vs.length ≤ Builtin.Int.intBits (rn vs : Int) := by
  cases vs with
  | nil => exact Nat.zero_le _
  | cons v r =>
    have h := len_le_rn (v :: r)
    have hn : ¬ Builtin.Int.intBits (rn (v :: r) : Int) ≤ r.length := fun hc => by
      have h1 := intBits_lt.mp hc
      have h2 := two_pos r.length
      rw [List.length_cons, Nat.pow_succ] at h
      omega
    rw [List.length_cons]
    omega
theorem bits_rn {vs : List Nat} : Builtin.Int.intBits (rn vs : Int) ≤ wsum vs := intBits_lt.mpr (rn_lt vs)
theorem rn_cast (v : Nat) (r : List Nat) : (rn (v :: r) : Int) = 2 ^ v * (2 * (rn r : Int) + 1) := by
  rw [← PySem.W.kbt_cast]
  rw [rn_cons, Int.natCast_mul]
  rfl
theorem drop_at {α : Type} {vs : List α} {i : Nat} {v : α} (h : vs[i]? = some v) : vs.drop i = v :: vs.drop (i + 1) := by
  obtain ⟨hl, h⟩ := List.getElem?_eq_some_iff.mp h
  rw [List.drop_eq_getElem_cons hl, h]
theorem rn_inj : ∀ vs ws, rn vs = rn ws → vs = ws
  | [], [], _ => rfl
  | [], v :: r, h => absurd h.symm (Nat.ne_of_gt (rn_pos v r))
  | v :: r, [], h => absurd h (Nat.ne_of_gt (rn_pos v r))
  | v :: r, w :: s, h => by
    have key : ∀ a b x y : Nat, 2 ^ a * (2 * x + 1) = 2 ^ b * (2 * y + 1) → a = b ∧ x = y := by
      intro a
      induction a with
      | zero =>
        intro b x y e
        cases b with
        | zero => simp at e; exact ⟨rfl, by omega⟩
        | succ b =>
          rw [Nat.pow_succ, Nat.mul_comm (2 ^ b) 2, Nat.mul_assoc] at e
          omega
      | succ a ih =>
        intro b x y e
        cases b with
        | zero =>
          rw [Nat.pow_succ, Nat.mul_comm (2 ^ a) 2, Nat.mul_assoc] at e
          omega
        | succ b =>
          rw [Nat.pow_succ, Nat.mul_comm (2 ^ a) 2, Nat.mul_assoc, Nat.pow_succ, Nat.mul_comm (2 ^ b) 2, Nat.mul_assoc] at e
          obtain ⟨e1, e2⟩ := ih b x y (by omega)
          exact ⟨by rw [e1], e2⟩
    rw [rn_cons, rn_cons] at h
    obtain ⟨e1, e2⟩ := key _ _ _ _ h
    rw [e1, rn_inj r s e2]
theorem wsum_app : ∀ a b : List Nat, wsum (a ++ b) = wsum a + wsum b
  | [], b => by simp [wsum]
  | x :: a, b => by
    show x + 1 + wsum (a ++ b) = x + 1 + wsum a + wsum b
    rw [wsum_app a b]
    omega
theorem wsum_bd {B : Nat} : ∀ vs : List Nat, (∀ x ∈ vs, x ≤ B) → wsum vs ≤ vs.length * (B + 1)
  | [], _ => by simp [wsum]
  | v :: r, h => by
    have h1 := wsum_bd r fun x hx => h x (List.mem_cons_of_mem _ hx)
    have h2 := h v (List.mem_cons_self ..)
    rw [wsum_cons, List.length_cons, Nat.add_mul]
    omega
theorem nL_app (a b : List Nat) : nL (a ++ b) = nL a ++ nL b := by simp [nL]
theorem nL_len (a : List Nat) : (nL a).length = a.length := by simp [nL]
theorem nL_rep (k : Nat) (a : List Nat) : repD (nL a) k = nL (List.replicate k a).flatten := by
  induction k with
  | zero => rfl
  | succ k ih =>
    unfold repD at ih ⊢
    rw [List.replicate_succ, List.flatten_cons, ih, List.replicate_succ, List.flatten_cons, nL_app]
theorem len_rep (k : Nat) (a : List Nat) : (List.replicate k a).flatten.length = k * a.length := by
  induction k with
  | zero => simp
  | succ k ih => rw [List.replicate_succ, List.flatten_cons, List.length_append, ih, Nat.succ_mul, Nat.add_comm]
theorem mem_rep {k : Nat} {a : List Nat} {x : Nat} (h : x ∈ (List.replicate k a).flatten) : x ∈ a := by
  obtain ⟨l, h1, h2⟩ := List.mem_flatten.mp h
  obtain ⟨_, rfl⟩ := List.mem_replicate.mp h1
  exact h2
theorem sum_nats (vs : List Nat) : vSum [.list (nL vs)] = some (.int ((vs.sum : Nat) : Int)) := by
  have := vSum_ints (is := vs.map fun k : Nat => (k : Int))
  rw [List.map_map] at this
  refine this.trans ?_
  have e : (vs.map fun k : Nat => (k : Int)).sum = ((vs.sum : Nat) : Int) := by
    induction vs with
    | nil => rfl
    | cons x r ih => rw [List.map_cons, List.sum_cons, ih (vSum_ints (is := r.map fun k : Nat => (k : Int)) |> fun h => by rwa [List.map_map] at h), List.sum_cons, Int.natCast_add]
  rw [e]
theorem sum_bd {B : Nat} : ∀ vs : List Nat, (∀ x ∈ vs, x ≤ B) → vs.sum ≤ vs.length * B
  | [], _ => by simp
  | v :: r, h => by
    have h1 := sum_bd r fun x hx => h x (List.mem_cons_of_mem _ hx)
    have h2 := h v (List.mem_cons_self ..)
    rw [List.sum_cons, List.length_cons, Nat.succ_mul]
    omega
theorem lowest_ok (k a : Nat) : r_lowest_zeros [.int ((2 ^ k * (2 * a + 1) : Nat) : Int)] = some (.int (k : Int)) := by
  refine runM_of ?_
  unfold m_lowest_zeros
  have e : (((2 ^ k * (2 * a + 1) : Nat)) : Int) = 2 ^ k * (2 * (a : Int) + 1) := by
    rw [← PySem.W.kbt_cast, Int.natCast_mul]
    rfl
  have h := PySem.W.kbt_low k (a : Int)
  rw [← e] at h
  simp [N_lowest_zeros, -Int.natCast_mul, h, intBits_pow]
theorem lowest_rn (v : Nat) (r : List Nat) : r_lowest_zeros [.int ((rn (v :: r) : Nat) : Int)] = some (.int (v : Int)) := lowest_ok v (rn r)
theorem row_number_ok {vs : List Nat} {d : PyData} (hd : itemsD d = some (nL vs)) (hb : wsum vs ≤ 100000000) : r_row_number [d] = some (.int (rn vs : Int)) := by
  refine runM_of ?_
  unfold m_row_number
  simp [N_row_number]
  refine wp_forX (is := vs) (fun i n => ∃ (num pl : Nat) (y : Sl), n = [.v d, .v (.int num), .v (.int pl), y] ∧ num + 2 ^ pl * rn (vs.drop i) = rn vs ∧ pl + wsum (vs.drop i) = wsum vs)
    (by simp [hd, nL]) ⟨0, 0, .no, by simp, by simp, by simp⟩ ?_ ?_
  · rintro i v n hi ⟨num, pl, y, rfl, h1, h2⟩
    rw [drop_at hi] at h1 h2
    rw [wsum_cons] at h2
    rw [rn_cons] at h1
    obtain ⟨p, hp⟩ : ∃ p : Nat, (pl : Int) + v = p := ⟨pl + v, by omega⟩
    have hp' : p = pl + v := by omega
    have b1 : Builtin.Int.intBits 1 = 1 := by decide
    have b2 : (1 : Int) + p ≤ 134217728 := by omega
    simp [hp, b1, b2]
    refine ⟨num + 2 ^ p, p + 1, ⟨by rw [Int.natCast_add, PySem.W.kbt_cast], by omega⟩, ?_, by omega⟩
    rw [← h1, hp', Nat.pow_succ, Nat.pow_add, Nat.mul_assoc (2 ^ pl), Nat.mul_add (2 ^ v), Nat.mul_add (2 ^ pl), Nat.mul_one, Nat.add_assoc, Nat.add_comm (2 ^ pl * 2 ^ v), ← Nat.mul_assoc (2 ^ v) 2, Nat.mul_assoc (2 ^ pl), Nat.mul_assoc (2 ^ v)]
  · rintro n ⟨num, pl, y, rfl, h1, h2⟩
    simp at h1
    simp [h1, rn]
theorem row_values_ok {vs : List Nat} (hb : vs.length ≤ 10000000) : r_row_values [.int (rn vs : Int)] = some (.tuple (nL vs)) := by
  refine runM_of ?_
  unfold m_row_values
  simp [N_row_values]
  refine wp_while (fun k n => ∃ (pre suf : List Nat) (y : Sl), n = [.v (.int (rn vs : Int)), .o (nL pre), .v (.int (rn suf : Int)), y] ∧ vs = pre ++ suf ∧ suf.length = k) vs.length ⟨[], vs, .no, rfl, rfl, rfl⟩ ?_
  rintro k n ⟨pre, suf, y, rfl, h1, h2⟩
  cases suf with
  | nil =>
    refine ⟨false, by simp [rn], ?_⟩
    simp at h1
    subst h1
    simp
  | cons v r =>
    have hp := rn_pos v r
    refine ⟨true, by simp; omega, ?_⟩
    have hl : pre.length < 16000000 := by
      rw [h1, List.length_append] at hb
      omega
    obtain ⟨q, hq⟩ : ∃ q : Nat, (v : Int) + 1 = q := ⟨v + 1, by omega⟩
    have hq' : q = v + 1 := by omega
    have hd : ((rn (v :: r) : Nat) : Int) / 2 ^ q = (rn r : Int) := by
      rw [← PySem.W.kbt_cast, ← Int.natCast_ediv, hq', rn_div]
    simp [lowest_rn, hq, hd, nL, hl]
    refine ⟨k - 1, ?_, pre ++ [v], r, ⟨by simp, rfl⟩, by simp [h1], ?_⟩ <;> simp at h2 <;> omega
theorem row_entry_ok {vs : List Nat} (i : Nat) (hb : wsum vs ≤ 100000000) : r_row_entry [.int (rn vs : Int), .int (i : Int)] = some (.int (((vs[i]?).getD 0 : Nat) : Int)) := by
  refine runM_of ?_
  unfold m_row_entry
  have hm : ∃ m : Nat, (m : Int) = (if Builtin.Int.intBits (rn vs : Int) < i then (Builtin.Int.intBits (rn vs : Int) : Int) else (i : Int)) ∧ m ≤ 100000000 ∧ (m = i ∨ (m < i ∧ vs.length ≤ m)) := by
    have h1 := len_bits vs
    have h2 := bits_rn (vs := vs)
    split
    · exact ⟨Builtin.Int.intBits (rn vs : Int), rfl, by omega, .inr ⟨by omega, h1⟩⟩
    · exact ⟨i, rfl, by omega, .inl rfl⟩
  obtain ⟨m, hm, hmb, hmi⟩ := hm
  have end_ : rn (vs.drop m) = 0 → vs[i]? = none := fun h => by
    have : vs.drop m = [] := by
      cases hd : vs.drop m with
      | nil => rfl
      | cons v r =>
        rw [hd] at h
        exact absurd h (Nat.ne_of_gt (rn_pos v r))
    have := List.drop_eq_nil_iff.mp this
    exact List.getElem?_eq_none (by omega)
  have end2 : ∀ v r, vs.drop m = v :: r → vs[i]? = some v := fun v r h => by
    have hl : m < vs.length := by
      rcases Nat.lt_or_ge m vs.length with hl | hl
      · exact hl
      · rw [List.drop_eq_nil_of_le hl] at h
        cases h
    rcases hmi with rfl | hmi
    · rw [List.drop_eq_getElem_cons hl] at h
      cases h
      exact List.getElem?_eq_getElem hl
    · omega
  simp [N_row_entry, ← hm]
  refine wp_forN (lo := 0) (k := m) (fun j n => ∃ y : Sl, n = [.v (.int (rn vs : Int)), .v (.int (i : Int)), .v (.int (rn (vs.drop j) : Int)), y]) (by simp [← hm, rb_nat (n := m) (by omega)]) ⟨.no, rfl⟩ ?_ ?_
  · rintro j n hj ⟨y, rfl⟩
    cases hd : vs.drop j with
    | nil =>
      have := List.drop_eq_nil_iff.mp hd
      have hn : vs[i]? = none := List.getElem?_eq_none (by omega)
      simp [rn, hn]
    | cons v r =>
      have hp := rn_pos v r
      have hne : ¬ rn (v :: r) = 0 := by omega
      obtain ⟨q, hq⟩ : ∃ q : Nat, (v : Int) + 1 = q := ⟨v + 1, by omega⟩
      have hq' : q = v + 1 := by omega
      have hd1 : ((rn (v :: r) : Nat) : Int) / 2 ^ q = (rn r : Int) := by
        rw [← PySem.W.kbt_cast, ← Int.natCast_ediv, hq', rn_div]
      have hr : vs.drop (j + 1) = r := by
        rw [← List.drop_drop, hd]
        rfl
      simp [lowest_rn, hq, hd1, hne, hr]
  · rintro n ⟨y, rfl⟩
    cases hd : vs.drop m with
    | nil => simp [rn, end_ (by rw [hd]; rfl)]
    | cons v r =>
      have hp := rn_pos v r
      have hne : ¬ rn (v :: r) = 0 := by omega
      simp [hne, lowest_rn, end2 v r hd]
/-- a stack of plain things (top first) and the turns it takes -/
inductive PlL : List PyData → Nat → Prop
  | nil : PlL [] 0
  | int {ds n} (i : Int) : PlL ds n → PlL (.int i :: ds) (n + 1)
  | bool {ds n} (i : Bool) : PlL ds n → PlL (.bool i :: ds) (n + 1)
  | str {ds n} (i : Str) : PlL ds n → PlL (.str i :: ds) (n + 1)
  | none {ds n} : PlL ds n → PlL (.none :: ds) (n + 1)
  | tup {ds n} (es : List PyData) : PlL (es.reverse ++ ds) n → PlL (.tuple es :: ds) (n + 1)
theorem PlL.app {ds es : List PyData} {n m : Nat} (h : PlL ds n) (g : PlL es m) : PlL (ds ++ es) (n + m) := by
  induction h with
  | nil => simpa using g
  | int i _ ih => rw [Nat.add_right_comm]; exact ih.int i
  | bool i _ ih => rw [Nat.add_right_comm]; exact ih.bool i
  | str i _ ih => rw [Nat.add_right_comm]; exact ih.str i
  | none _ ih => rw [Nat.add_right_comm]; exact ih.none
  | tup es' _ ih => rw [Nat.add_right_comm]; exact PlL.tup es' (by rw [List.append_assoc] at ih; exact ih)
theorem PlL.ints : ∀ xs : List Int, PlL (xs.map .int) xs.length
  | [] => .nil
  | x :: xs => (PlL.ints xs).int x
theorem PlL.nats : ∀ xs : List Nat, PlL (xs.map fun k : Nat => .int (k : Int)) xs.length
  | [] => .nil
  | x :: xs => (PlL.nats xs).int _
/-- a pair that waits -/
def prD (d : PyData) : PyData := .list [d, d]
theorem law_is_ok {d : PyData} {n : Nat} (hd : PlL [d] n) (hn : n < 1000000) : r__law_is [d, d] = some (.bool true) := by
  refine runM_of ?_
  unfold m__law_is
  simp [N__law_is]
  refine wp_forN (lo := 0) (k := 1000000) (fun i n => ∃ (ps : List PyData) (m : Nat) (x y z : Sl), n = [.v d, .v d, .o (ps.reverse.map prD), x, y, z] ∧ PlL ps m ∧ i + m < 1000000)
    (by simp) ⟨[d], _, .no, .no, .no, rfl, hd, by omega⟩ ?_ ?_
  · rintro i n hi ⟨ps, m, x, y, z, rfl, hp, hm⟩
    have hlen : ∀ {ds : List PyData} {n}, PlL ds n → ds.length ≤ n := fun h => by
      induction h with
      | nil => exact Nat.le_refl _
      | tup es _ ih => simp at ih ⊢; omega
      | _ => simp; assumption
    cases hp with
    | nil => simp
    | int i h => simp [prD]; exact fun _ => ⟨_, rfl, _, h, by omega⟩
    | bool i h => simp [prD]; exact fun _ => ⟨_, rfl, _, h, by omega⟩
    | str i h => simp [prD]; exact fun _ => ⟨_, rfl, _, h, by omega⟩
    | none h => simp [prD]; exact fun _ => ⟨_, rfl, _, h, by omega⟩
    | @tup ds m' es h =>
      have hl := hlen h
      rw [List.length_append, List.length_reverse] at hl
      simp [prD]
      intro _
      refine wp_forN (lo := 0) (k := es.length) (fun j n => ∃ w : Sl, n = [.v d, .v d, .o ((ds.map prD).reverse ++ (es.take j).map prD), .v (.int (i : Int)), .v (.list [.tuple es, .tuple es]), w])
        (by simp [rb_nat (n := es.length) (by omega)]) ⟨z, by simp⟩ ?_ ?_
      · rintro j n hj ⟨w, rfl⟩
        obtain ⟨e, he⟩ : ∃ e, es[j]? = some e := ⟨_, List.getElem?_eq_getElem hj⟩
        have hz : ds.length + min j es.length < 16000000 := by omega
        have ht : es.take (j + 1) = es.take j ++ [e] := by rw [List.take_add_one, he]; rfl
        simp [he, hz, ht, prD]
      · rintro n ⟨w, rfl⟩
        simp
        exact ⟨es.reverse ++ ds, by simp, _, h, by omega⟩
  · rintro n ⟨ps, m, x, y, z, rfl, hp, hm⟩
    omega
theorem is_int (i : Int) : r__law_is [.int i, .int i] = some (.bool true) := law_is_ok (n := 1) (.int i .nil) (by omega)
theorem is_tup {vs : List Nat} (h : vs.length < 900000) : r__law_is [.tuple (nL vs), .tuple (nL vs)] = some (.bool true) := by
  have hp : PlL (nL vs.reverse) vs.reverse.length := PlL.nats vs.reverse
  refine law_is_ok (n := vs.reverse.length + 1) (PlL.tup _ ?_) (by simp; omega)
  have e : (nL vs).reverse ++ [] = nL vs.reverse := by simp [nL]
  rw [e]
  exact hp
theorem can_ints : ∀ xs : List Int, PyData.canLayAll0 (xs.map .int) = true
  | [] => by simp [PyData.canLayAll0]
  | x :: xs => by simp [PyData.canLayAll0, PyData.canLay0, can_ints xs]
theorem depth_ints : ∀ xs : List Int, PyData.depthAll (xs.map .int) = 0
  | [] => by simp [PyData.depthAll]
  | x :: xs => by simp [PyData.depthAll, PyData.depth, depth_ints xs]
theorem ne_ints (xs : List Int) : vNe (.list (xs.map .int)) (.list (xs.map .int)) = some (.bool false) := by
  have hc : PyData.canLay0 (.list (xs.map .int)) = true := by
    simp [PyData.canLay0, can_ints]
  have hs : SeqAt.shaped (.list (xs.map .int)) = true := by
    simp [SeqAt.shaped, hc, PyData.depth, depth_ints]
  unfold vNe vEqB
  simp only [hs, and_self, if_true, SeqAt.eqv_refl _ hc]
  rfl
theorem ne_nats (vs : List Nat) : vNe (.list (nL vs)) (.list (nL vs)) = some (.bool false) := by
  have := ne_ints (vs.map fun k : Nat => (k : Int))
  rw [List.map_map] at this
  exact this
/-! tables of places and values -/
def tv : Nat → List (Nat × Nat) → List Nat
  | _, [] => []
  | l, (p, v) :: r => List.replicate (p - l) 0 ++ (v + 1) :: tv (p + 1) r
/-- the places grow, from l on -/
def Inc : Nat → List (Nat × Nat) → Prop
  | _, [] => True
  | l, (p, _) :: r => l ≤ p ∧ Inc (p + 1) r
/-- the table of a row that starts at place i -/
def tof : Nat → List Nat → List (Nat × Nat)
  | _, [] => []
  | i, v :: r => if 0 < v then (i, v - 1) :: tof (i + 1) r else tof (i + 1) r
theorem tof_zeros : ∀ (k i : Nat) (r : List Nat), tof i (List.replicate k 0 ++ r) = tof (i + k) r
  | 0, i, r => rfl
  | k + 1, i, r => by
    rw [List.replicate_succ, List.cons_append]
    show (if 0 < 0 then _ else tof (i + 1) _) = _
    rw [if_neg (by omega), tof_zeros k (i + 1) r, Nat.add_right_comm, Nat.add_assoc]
theorem tof_tv : ∀ (l : Nat) (t : List (Nat × Nat)), Inc l t → tof l (tv l t) = t
  | _, [], _ => rfl
  | l, (p, v) :: r, h => by
    show tof l (List.replicate (p - l) 0 ++ (v + 1) :: tv (p + 1) r) = _
    rw [tof_zeros, Nat.add_sub_cancel' h.1]
    show (if 0 < v + 1 then (p, v + 1 - 1) :: tof (p + 1) (tv (p + 1) r) else _) = _
    rw [if_pos (by omega), tof_tv (p + 1) r h.2, Nat.add_sub_cancel]
theorem inc_mono : ∀ {t : List (Nat × Nat)} {l m : Nat}, m ≤ l → Inc l t → Inc m t
  | [], _, _, _, _ => trivial
  | (_, _) :: _, _, _, h, ⟨a, b⟩ => ⟨by omega, b⟩
theorem inc_tof : ∀ (i : Nat) (vs : List Nat), Inc i (tof i vs)
  | _, [] => trivial
  | i, v :: r => by
    show Inc i (if 0 < v then (i, v - 1) :: tof (i + 1) r else tof (i + 1) r)
    split
    · exact ⟨Nat.le_refl _, inc_tof (i + 1) r⟩
    · exact inc_mono (Nat.le_succ _) (inc_tof (i + 1) r)
/-- a row that ends above 0, or is empty, comes back -/
theorem tv_tof : ∀ (vs : List Nat) (i j : Nat), i ≤ j → (∀ x, vs.getLast? = some x → 0 < x) → vs ≠ [] → tv i (tof j vs) = List.replicate (j - i) 0 ++ vs
  | [], _, _, _, _, h => absurd rfl h
  | [v], i, j, hij, h, _ => by
    have := h v rfl
    show tv i (if 0 < v then (j, v - 1) :: tof (j + 1) [] else _) = _
    rw [if_pos this]
    show List.replicate (j - i) 0 ++ (v - 1 + 1) :: [] = _
    rw [Nat.sub_add_cancel this]
  | v :: w :: r, i, j, hij, h, _ => by
    have hl : ∀ x, (w :: r).getLast? = some x → 0 < x := fun x hx => h x (by rw [List.getLast?_cons_cons]; exact hx)
    show tv i (if 0 < v then (j, v - 1) :: tof (j + 1) (w :: r) else tof (j + 1) (w :: r)) = _
    split
    · rename_i hv
      show List.replicate (j - i) 0 ++ (v - 1 + 1) :: tv (j + 1) (tof (j + 1) (w :: r)) = _
      rw [tv_tof (w :: r) (j + 1) (j + 1) (Nat.le_refl _) hl (by simp), Nat.sub_self, Nat.sub_add_cancel hv]
      rfl
    · have hv : v = 0 := by omega
      subst hv
      rw [tv_tof (w :: r) i (j + 1) (by omega) hl (by simp), show j + 1 - i = (j - i) + 1 by omega, List.replicate_succ', List.append_assoc]
      rfl
theorem tv_tof0 (vs : List Nat) (h : ∀ x, vs.getLast? = some x → 0 < x) : tv 0 (tof 0 vs) = vs := by
  cases vs with
  | nil => rfl
  | cons v r => exact tv_tof (v :: r) 0 0 (Nat.le_refl _) h (by simp)
theorem tv_last : ∀ (l : Nat) (t : List (Nat × Nat)) (x : Nat), (tv l t).getLast? = some x → 0 < x
  | _, [], _, h => by cases h
  | l, (p, v) :: r, x, h => by
    have e : tv l ((p, v) :: r) = List.replicate (p - l) 0 ++ ((v + 1) :: tv (p + 1) r) := rfl
    rw [e, List.getLast?_append] at h
    cases hr : tv (p + 1) r with
    | nil =>
      rw [hr] at h
      simp at h
      omega
    | cons a s =>
      rw [hr, List.getLast?_cons_cons] at h
      have : (a :: s).getLast? = some x := by
        cases hq : (a :: s).getLast? with
        | none => simp at hq
        | some q => rw [hq] at h; simpa using h
      exact tv_last (p + 1) r x (by rw [hr]; exact this)
theorem tv_len : ∀ (l : Nat) (t : List (Nat × Nat)) (B : Nat), l ≤ B → (∀ x ∈ t, x.1 < B) → Inc l t → l + (tv l t).length ≤ B
  | l, [], B, hl, _, _ => by simpa [tv] using hl
  | l, (p, v) :: r, B, hl, h, hi => by
    have hp : p < B := h (p, v) (List.mem_cons_self ..)
    have := tv_len (p + 1) r B (by omega) (fun x hx => h x (List.mem_cons_of_mem _ hx)) hi.2
    have h1 : l ≤ p := hi.1
    show l + (List.replicate (p - l) 0 ++ (v + 1) :: tv (p + 1) r).length ≤ B
    rw [List.length_append, List.length_replicate, List.length_cons]
    omega
theorem tv_mem : ∀ (l : Nat) (t : List (Nat × Nat)) (B : Nat), (∀ x ∈ t, x.2 < B) → ∀ v ∈ tv l t, v ≤ B
  | _, [], _, _, v, hv => by cases hv
  | l, (p, w) :: r, B, h, v, hv => by
    rcases List.mem_append.mp (show v ∈ List.replicate (p - l) 0 ++ (w + 1) :: tv (p + 1) r from hv) with hv | hv
    · rw [(List.mem_replicate.mp hv).2]
      exact Nat.zero_le _
    · rcases List.mem_cons.mp hv with rfl | hv
      · exact h (p, w) (List.mem_cons_self ..)
      · exact tv_mem (p + 1) r B (fun x hx => h x (List.mem_cons_of_mem _ hx)) v hv
theorem tv_snoc : ∀ (l : Nat) (t : List (Nat × Nat)) (p v : Nat), Inc l (t ++ [(p, v)]) → tv l (t ++ [(p, v)]) = tv l t ++ (List.replicate (p - (l + (tv l t).length)) 0 ++ [v + 1])
  | l, [], p, v, _ => by simp [tv]
  | l, (q, w) :: r, p, v, h => by
    have e := tv_snoc (q + 1) r p v h.2
    have hq : l ≤ q := h.1
    show List.replicate (q - l) 0 ++ (w + 1) :: tv (q + 1) (r ++ [(p, v)]) = (List.replicate (q - l) 0 ++ (w + 1) :: tv (q + 1) r) ++ _
    have e2 : (tv l ((q, w) :: r)).length = (q - l) + 1 + (tv (q + 1) r).length := by
      show (List.replicate (q - l) 0 ++ (w + 1) :: tv (q + 1) r).length = _
      rw [List.length_append, List.length_replicate, List.length_cons]
      omega
    rw [e, e2, show l + (q - l + 1 + (tv (q + 1) r).length) = q + 1 + (tv (q + 1) r).length by omega]
    simp
theorem inc_take : ∀ {t : List (Nat × Nat)} {l : Nat} (i : Nat), Inc l t → Inc l (t.take i)
  | [], _, i, _ => by simp [Inc]
  | (_, _) :: _, _, 0, _ => trivial
  | (_, _) :: _, _, i + 1, ⟨a, b⟩ => ⟨a, inc_take i b⟩
/-- a pair, as a tuple, as a list -/
def pT (x : Nat × Nat) : PyData := .tuple [.int (x.1 : Int), .int (x.2 : Int)]
def pLs (x : Nat × Nat) : PyData := .list [.int (x.1 : Int), .int (x.2 : Int)]
theorem sum_take_le (t : List (Nat × Nat)) (B : Nat) (h : ∀ x ∈ t, x.1 < B) (hi : Inc 0 t) (i : Nat) : (tv 0 (t.take i)).length ≤ B := by
  have := tv_len 0 (t.take i) B (Nat.zero_le _) (fun x hx => h x (List.mem_of_mem_take hx)) (inc_take i hi)
  omega
theorem take_at {α : Type} {t : List α} {i : Nat} {x : α} (h : t[i]? = some x) : t.take (i + 1) = t.take i ++ [x] := by rw [List.take_add_one, h]; rfl
theorem table_number_ok {t : List (Nat × Nat)} {d : PyData} {emb : Nat × Nat → PyData} (he : emb = pT ∨ emb = pLs) (hd : itemsD d = some (t.map emb)) (hi : Inc 0 t) (hB : ∀ x ∈ t, x.1 < 1000000) (hw : wsum (tv 0 t) ≤ 100000000) : r_table_number [d] = some (.int (rn (tv 0 t) : Int)) := by
  refine runM_of ?_
  unfold m_table_number
  simp [N_table_number]
  refine wp_for (fun i n => ∃ y z : Sl, n = [.v d, .o (nL (tv 0 (t.take i))), y, z]) (by simp [hd]; rfl) ⟨.no, .no, rfl⟩ ?_ ?_
  · rintro i d' n hd' ⟨y, z, rfl⟩
    rw [List.getElem?_map] at hd'
    obtain ⟨⟨p, v⟩, hx, rfl⟩ := Option.map_eq_some_iff.mp hd'
    refine ⟨[(2, .int (p : Int)), (3, .int (v : Int))], by rcases he with rfl | rfl <;> rfl, ?_⟩
    have hlen := sum_take_le t 1000000 hB hi i
    have hs := tv_snoc 0 (t.take i) p v (by rw [← take_at hx]; exact inc_take (i + 1) hi)
    rw [← take_at hx, Nat.zero_add] at hs
    have hp := hB _ (List.mem_of_getElem? hx)
    generalize hA : tv 0 (t.take i) = A at *
    simp
    refine wp_while (fun k n => ∃ j, n = [.v d, .o (nL (A ++ List.replicate j 0)), .v (.int (p : Int)), .v (.int (v : Int))] ∧ k = (p - A.length) - j ∧ j ≤ p - A.length) (p - A.length) ⟨0, by simp, rfl, Nat.zero_le _⟩ ?_
    rintro k n ⟨j, rfl, hk, hj⟩
    have l1 : (nL (A ++ List.replicate j 0)).length = A.length + j := by simp [nL]
    have l2 : A.length + j < 16000000 := by simp at hp; omega
    by_cases hlt : A.length + j < p
    · refine ⟨true, by simp [l1]; omega, ?_⟩
      simp [l1, l2]
      exact ⟨k - 1, by omega, j + 1, by simp [nL, List.replicate_succ'], by omega, by omega⟩
    · refine ⟨false, by simp [l1]; omega, ?_⟩
      have hj' : j = p - A.length := by omega
      subst hj'
      simp [l1, l2, hs]
      simp [nL]
  · rintro n ⟨y, z, rfl⟩
    have hn : r_row_number [.list (nL (tv 0 t))] = some (.int (rn (tv 0 t) : Int)) := row_number_ok (by simp) hw
    simp [hn]
theorem law_row_number_ok {vs : List Nat} (hb : wsum vs ≤ 100000000) : r__law_row_number [.list (nL vs)] = some (.int (rn vs : Int)) := by
  refine runM_of ?_
  unfold m__law_row_number
  simp [N__law_row_number]
  refine wp_forX (is := vs) (fun i n => ∃ (num pl : Nat) (y : Sl), n = [.v (.list (nL vs)), .v (.int num), .v (.int pl), y] ∧ num + 2 ^ pl * rn (vs.drop i) = rn vs ∧ pl + wsum (vs.drop i) = wsum vs)
    (by simp [nL]) ⟨0, 0, .no, by simp, by simp, by simp⟩ ?_ ?_
  · rintro i v n hi ⟨num, pl, y, rfl, h1, h2⟩
    rw [drop_at hi] at h1 h2
    rw [wsum_cons] at h2
    rw [rn_cons] at h1
    obtain ⟨p, hp⟩ : ∃ p : Nat, (pl : Int) + v = p := ⟨pl + v, by omega⟩
    have hp' : p = pl + v := by omega
    have b1 : Builtin.Int.intBits 1 = 1 := by decide
    have b2 : (1 : Int) + p ≤ 134217728 := by omega
    simp [hp, b1, b2]
    refine ⟨num + 2 ^ p, p + 1, ⟨by rw [Int.natCast_add, PySem.W.kbt_cast], by omega⟩, ?_, by omega⟩
    rw [← h1, hp', Nat.pow_succ, Nat.pow_add, Nat.mul_assoc (2 ^ pl), Nat.mul_add (2 ^ v), Nat.mul_add (2 ^ pl), Nat.mul_one, Nat.add_assoc, Nat.add_comm (2 ^ pl * 2 ^ v), ← Nat.mul_assoc (2 ^ v) 2, Nat.mul_assoc (2 ^ pl), Nat.mul_assoc (2 ^ v)]
  · rintro n ⟨num, pl, y, rfl, h1, h2⟩
    simp at h1
    simp [h1, rn]
theorem law_table_number_ok {t : List (Nat × Nat)} (hi : Inc 0 t) (hB : ∀ x ∈ t, x.1 < 1000000) (hw : wsum (tv 0 t) ≤ 100000000) : r__law_table_number [.tuple (t.map pT)] = some (.int (rn (tv 0 t) : Int)) := by
  refine runM_of ?_
  unfold m__law_table_number
  simp [N__law_table_number]
  refine wp_forL (ds := t.map pT) (fun i n => ∃ z : Sl, n = [.v (.tuple (t.map pT)), .v (.list (nL (tv 0 (t.take i)))), z]) (by simp) ⟨.no, by simp [tv, nL]⟩ ?_ ?_
  · rintro i d' n hd' ⟨z, rfl⟩
    rw [List.getElem?_map] at hd'
    obtain ⟨⟨p, v⟩, hx, rfl⟩ := Option.map_eq_some_iff.mp hd'
    have hlen := sum_take_le t 1000000 hB hi i
    have hs := tv_snoc 0 (t.take i) p v (by rw [← take_at hx]; exact inc_take (i + 1) hi)
    rw [← take_at hx, Nat.zero_add] at hs
    have hp := hB _ (List.mem_of_getElem? hx)
    simp at hp
    generalize hA : tv 0 (t.take i) = A at *
    have l1 : (nL A).length = A.length := nL_len A
    have rep : repD [PyData.int 0] (p - A.length) = nL (List.replicate (p - A.length) 0) := nL_rep (p - A.length) [0] |>.trans (by
      congr 1
      induction p - A.length with
      | zero => rfl
      | succ k ih => rw [List.replicate_succ, List.flatten_cons, ih]; rfl)
    have tn : ((p : Int) - (A.length : Int)).toNat = p - A.length := by omega
    have z1 : A.length + (p - A.length) ≤ sizeLine := sz_of (by omega)
    have z2 : A.length + (p - A.length) + 1 ≤ sizeLine := sz_of (by omega)
    have c1 : -9223372036854775808 ≤ (p : Int) - (A.length : Int) ∧ (p : Int) - (A.length : Int) < 9223372036854775808 ∧ p - A.length ≤ 16000000 := by omega
    simp [pT, l1, tn, rep, c1, nL_len, z1, z2, hs]
    simp [nL]
  · rintro n ⟨z, rfl⟩
    simp [law_row_number_ok hw]
theorem law_entries_ok {vs : List Nat} (hb : wsum vs ≤ 10000000) : r__law_entries [.int (rn vs : Int)] = some (.list (nL vs)) := by
  refine runM_of ?_
  unfold m__law_entries
  have fin : ∀ pre suf : List Nat, vs = pre ++ suf → ∀ z, 2 ^ z * 0 = rn suf → vs = pre := fun pre suf h1 z h2 => by
    cases suf with
    | nil => simpa using h1
    | cons v r =>
      have := rn_pos v r
      omega
  obtain ⟨K, hK⟩ : ∃ K, Builtin.Int.intBits (rn vs : Int) = K := ⟨_, rfl⟩
  have hK1 : rn vs < 2 ^ K := intBits_lt.mp (by omega)
  have hK2 : K ≤ 10000000 := by
    have := bits_rn (vs := vs)
    omega
  simp [N__law_entries]
  refine wp_forN (lo := 0) (k := K) (fun i n => ∃ (pre suf : List Nat) (z rest : Nat) (y : Sl), n = [.v (.int (rn vs : Int)), .o (nL pre), .v (.int (z : Int)), .v (.int (rest : Int)), y] ∧ vs = pre ++ suf ∧ 2 ^ z * rest = rn suf ∧ pre.length ≤ i ∧ rest < 2 ^ (K - i))
    (by simp [hK, rb_nat (n := K) (by omega)]) ⟨[], vs, 0, rn vs, .no, rfl, rfl, by simp, by simp, hK1⟩ ?_ ?_
  · rintro i n hi ⟨pre, suf, z, rest, y, rfl, h1, h2, hl, h3⟩
    have hl2 : (nL pre).length < 16000000 := by simp [nL]; omega
    have hhalf : rest / 2 < 2 ^ (K - (i + 1)) := by
      have e : K - i = K - (i + 1) + 1 := by omega
      rw [e, Nat.pow_succ] at h3
      omega
    have hb : Builtin.bitAnd (rest : Int) 1 = (rest : Int) % 2 := PyProof.Rows.bitAnd_m1 _
    obtain ⟨q, hq⟩ : ∃ q, rest / 2 = q := ⟨_, rfl⟩
    have hd : (rest : Int) / 2 = (q : Int) := by omega
    by_cases hodd : (rest : Int) % 2 = 1
    · have hsuf : ∃ r, suf = z :: r ∧ rest / 2 = rn r := by
        obtain ⟨r, hr⟩ := rn_ex (rest / 2)
        refine ⟨r, ?_, hr.symm⟩
        have he : rn (z :: r) = rn suf := by
          rw [rn_cons, hr, ← h2]
          congr 1
          omega
        exact (rn_inj _ _ he).symm
      obtain ⟨r, rfl, hr⟩ := hsuf
      rw [hq] at hr hhalf
      simp [hb, hodd, hl2, hd]
      exact ⟨pre ++ [z], r, 0, q, ⟨by simp [nL], by simp⟩, by simp [h1], by simpa using hr, by simp; omega, hhalf⟩
    · rw [hq] at hhalf
      simp [hb, hodd, hl2, hd]
      refine ⟨pre, suf, z + 1, q, ⟨rfl, rfl, rfl⟩, h1, ?_, by omega, hhalf⟩
      rw [← h2, Nat.pow_succ, Nat.mul_assoc]
      congr 1
      omega
  · rintro n ⟨pre, suf, z, rest, y, rfl, h1, h2, hl, h3⟩
    have h0 : rest = 0 := by
      rw [Nat.sub_self] at h3
      omega
    subst h0
    have := fin pre suf h1 z h2
    simp [this]
theorem tof_filter : ∀ (vs : List Nat) (i : Nat), tof i vs = ((vs.mapIdx fun k v => (k + i, v)).filter fun x => decide (0 < x.2)).map fun x => (x.1, x.2 - 1)
  | [], _ => rfl
  | v :: r, i => by
    have ih := tof_filter r (i + 1)
    rw [List.mapIdx_cons, List.filter_cons]
    have e : (r.mapIdx fun k w => (k + 1 + i, w)) = r.mapIdx fun k w => (k + (i + 1), w) := by
      congr 1
      funext k w
      rw [Nat.add_assoc, Nat.add_comm 1 i]
    show (if 0 < v then (i, v - 1) :: tof (i + 1) r else tof (i + 1) r) = _
    rw [e, ih]
    by_cases h : 0 < v
    · simp [h]
    · simp [h]
/-- the last entry is 0 -/
def zl (vs : List Nat) : Bool := vs.getLast? == some 0
theorem nL_last (vs : List Nat) : (nL vs).getLast? = vs.getLast?.map fun k : Nat => PyData.int (k : Int) := by unfold nL; rw [List.getLast?_map]
theorem tof_len : ∀ (vs : List Nat) (i : Nat), (tof i vs).length ≤ vs.length
  | [], _ => Nat.le_refl _
  | v :: r, i => by
    have := tof_len r (i + 1)
    show (if 0 < v then (i, v - 1) :: tof (i + 1) r else tof (i + 1) r).length ≤ _
    split <;> simp <;> omega
theorem mapIdx_map' {α β γ : Type} (f : α → β) (g : Nat → β → γ) : ∀ (xs : List α), (xs.map f).mapIdx g = xs.mapIdx fun i a => g i (f a) := fun xs => by
  apply List.ext_getElem?
  intro i
  simp [List.getElem?_mapIdx, Option.map_map]
  rfl
theorem map_mapIdx' {α β γ : Type} (f : β → γ) (g : Nat → α → β) : ∀ (xs : List α), (xs.mapIdx g).map f = xs.mapIdx fun i a => f (g i a) := fun xs => by
  apply List.ext_getElem?
  intro i
  simp [List.getElem?_mapIdx, Option.map_map]
  rfl
theorem enumD_nats (vs : List Nat) : enumD (nL vs) = (vs.mapIdx fun k v => (k, v)).map pT := by
  unfold enumD nL
  rw [mapIdx_map', map_mapIdx']
  rfl
theorem table_of_ok {vs : List Nat} (hb : vs.length ≤ 10000000) : r_table_of [.int (rn vs : Int)] = some (if zl vs then .none else .tuple ((tof 0 vs).map pT)) := by
  refine runM_of ?_
  unfold m_table_of
  have hv := row_values_ok hb
  have comp : ∀ a : Sl, compL (flTup (flCons (flN 2) (flCons (flN 3) flNil)) 2) [2, 3] (mBool (mBin vGt (mVar 3) (mC (.int 0)))) (mTup (mCons (mVar 2) (mCons (mBin vSub (mVar 3) (mC (.int 1))) mNil))) [a, .v (.tuple (nL vs)), .no, .no] (enumD (nL vs)) = some ((tof 0 vs).map pT) := fun a => by
    rw [enumD_nats, tof_filter vs 0, List.map_map]
    refine (comp_filterG (emb := pT) (as := fun x : Nat × Nat => [(2, PyData.int (x.1 : Int)), (3, PyData.int (x.2 : Int))]) (p := fun x => decide (0 < x.2)) (g := fun x => .tuple [.int (x.1 : Int), .int ((x.2 : Int) - 1)]) (fun x => rfl) (fun x => rfl) (fun x _ => by simp) (fun x _ _ => by simp)).trans ?_
    congr 1
    refine List.map_congr_left fun x hx => ?_
    have : 0 < x.2 := of_decide_eq_true (List.mem_filter.mp hx).2
    show PyData.tuple _ = PyData.tuple [.int (x.1 : Int), .int ((x.2 - 1 : Nat) : Int)]
    rw [Int.natCast_sub this]
    rfl
  have hl : ((tof 0 vs).map pT).length < 16000000 := by
    have := tof_len vs 0
    rw [List.length_map]
    omega
  have hl2 : (tof 0 vs).length < 16000000 := by simpa using hl
  cases hz : vs.getLast? with
  | none =>
    have : vs = [] := by simpa using hz
    subst this
    have hv0 : r_row_values [.int 0] = some (.tuple []) := row_values_ok (vs := []) (by simp)
    simp [N_table_of, hv0, zl, enumD, compL, tof]
  | some x =>
    have hne : nL vs ≠ [] := by
      intro h
      have : vs = [] := by simpa [nL] using h
      rw [this] at hz
      cases hz
    by_cases hx : x = 0
    · subst hx
      simp [N_table_of, hv, nL_last, zl, hz, hne]
    · simp [N_table_of, hv, nL_last, zl, hz, hne, hx, comp, hl2]
theorem pls_pairs : ∀ t : List (Nat × Nat), PlL (t.map pT) (3 * t.length)
  | [] => .nil
  | (p, v) :: r => by
    have h := pls_pairs r
    show PlL (.tuple [.int (p : Int), .int (v : Int)] :: r.map pT) (3 * (r.length + 1))
    rw [show 3 * (r.length + 1) = 3 * r.length + 1 + 1 + 1 by omega]
    exact PlL.tup _ (PlL.int _ (PlL.int _ h))
theorem is_tab {t : List (Nat × Nat)} (h : t.length ≤ 300000) : r__law_is [.tuple (t.map pT), .tuple (t.map pT)] = some (.bool true) := by
  refine law_is_ok (n := 3 * t.length + 1) (PlL.tup _ ?_) (by omega)
  have := pls_pairs t.reverse
  rw [List.length_reverse, List.map_reverse] at this
  rwa [List.append_nil]
theorem law_due_ok {vs : List Nat} (hb : wsum vs ≤ 10000000) : r__law_due_table [.int (rn vs : Int)] = some (if zl vs then .none else .tuple ((tof 0 vs).map pT)) := by
  refine runM_of ?_
  unfold m__law_due_table
  have hl0 := len_le_wsum vs
  have he := law_entries_ok hb
  have comp : compL (flN 2) [2] (mBool (mBin vGt (mBin vIx (mVar 1) (mVar 2)) (mC (.int 0)))) (mTup (mCons (mVar 2) (mCons (mBin vSub (mBin vIx (mVar 1) (mVar 2)) (mC (.int 1))) mNil))) [.v (.int (rn vs : Int)), .v (.list (nL vs)), .no] (rangeD 0 vs.length) = some ((tof 0 vs).map pT) := by
    rw [rangeD_nats, tof_filter vs 0, List.map_map]
    have hx : ∀ x ∈ List.range vs.length, (nL vs)[x]? = some (.int ((vs.getD x 0 : Nat) : Int)) := fun x hx => by
      have := List.mem_range.mp hx
      simp [nL, this]
    refine (comp_filter (emb := fun k : Nat => PyData.int (k : Int)) (i := 2) (p := fun x => decide (0 < vs.getD x 0)) (g := fun x => .tuple [.int (x : Int), .int (((vs.getD x 0 : Nat) : Int) - 1)]) (fun x h => by simp only [List.set_cons_succ, List.set_cons_zero]; simp [hx x h]) (fun x h _ => by simp only [List.set_cons_succ, List.set_cons_zero]; simp [hx x h])).trans ?_
    have e : (vs.mapIdx fun k v => (k + 0, v)) = (List.range vs.length).map fun k => (k, vs.getD k 0) := by
      apply List.ext_getElem?
      intro k
      rw [List.getElem?_mapIdx, List.getElem?_map]
      by_cases hk : k < vs.length
      · rw [List.getElem?_range hk]
        simp [hk]
      · rw [List.getElem?_eq_none (by omega), List.getElem?_eq_none (by simpa using hk)]
        rfl
    rw [e, List.filter_map, List.map_map]
    congr 1
    refine List.map_congr_left fun x hx => ?_
    have : 0 < vs.getD x 0 := of_decide_eq_true (List.mem_filter.mp hx).2
    show PyData.tuple _ = PyData.tuple [.int (x : Int), .int ((vs.getD x 0 - 1 : Nat) : Int)]
    rw [Int.natCast_sub this]
    rfl
  have hl2 : (tof 0 vs).length < 16000000 := by
    have := tof_len vs 0
    omega
  have hrb := rb_nat (n := vs.length) (by omega)
  cases hz : vs.getLast? with
  | none =>
    have : vs = [] := by simpa using hz
    subst this
    have he0 : r__law_entries [.int 0] = some (.list []) := law_entries_ok (vs := []) (by simp [wsum])
    have r0 : RB 0 := rb_of (by decide) (by decide)
    simp [N__law_due_table, he0, zl, tof, compL, rangeD, r0]
  | some x =>
    have hpos : 0 < vs.length := by
      cases vs with
      | nil => cases hz
      | cons _ _ => simp
    by_cases hx : x = 0
    · subst hx
      simp [N__law_due_table, he, nL_last, zl, hz, hpos, nL_len]
    · simp [N__law_due_table, he, nL_last, zl, hz, hpos, nL_len, hx, comp, hl2, hrb]
theorem can_app : ∀ (xs : List (Nat × Nat)), PyData.canLayAll0 (xs.map pLs) = true
  | [] => by simp [PyData.canLayAll0]
  | x :: xs => by simp [PyData.canLayAll0, PyData.canLay0, pLs, can_app xs]
theorem depth_pairs : ∀ (xs : List (Nat × Nat)), PyData.depthAll (xs.map pLs) ≤ 1
  | [] => by simp [PyData.depthAll]
  | x :: xs => by
    have := depth_pairs xs
    simp only [List.map_cons, PyData.depthAll, pLs, PyData.depth]
    simp only [Nat.max_self]
    omega
theorem ne_pairs (t : List (Nat × Nat)) : vNe (.list (t.map pLs)) (.list (t.map pLs)) = some (.bool false) := by
  have hc : PyData.canLay0 (.list (t.map pLs)) = true := by
    simp [PyData.canLay0, can_app]
  have hs : SeqAt.shaped (.list (t.map pLs)) = true := by
    have := depth_pairs t
    simp [SeqAt.shaped, hc, PyData.depth]
    omega
  unfold vNe vEqB
  simp only [hs, and_self, if_true, SeqAt.eqv_refl _ hc]
  rfl
/-- a table that is used here -/
structure Tab (t : List (Nat × Nat)) : Prop where
  inc : Inc 0 t
  low : ∀ x ∈ t, x.1 < 1000000
  wid : wsum (tv 0 t) ≤ 10000000
  len : t.length ≤ 300000
  vlen : (tv 0 t).length ≤ 40000
theorem right_table_ok {t : List (Nat × Nat)} (T : Tab t) : r__law_right_table [.tuple (t.map pT)] = some (.bool true) := by
  refine runM_of ?_
  unfold m__law_right_table
  have h0 := law_table_number_ok T.inc T.low (Nat.le_trans T.wid (by decide))
  have h1 : r_table_number [.list (t.map pLs)] = some (.int (rn (tv 0 t) : Int)) := table_number_ok (.inr rfl) (by simp) T.inc T.low (Nat.le_trans T.wid (by decide))
  have h2 : r_table_number [.tuple (t.map pT)] = some (.int (rn (tv 0 t) : Int)) := table_number_ok (.inl rfl) (by simp) T.inc T.low (Nat.le_trans T.wid (by decide))
  have h3 := table_of_ok (vs := tv 0 t) (Nat.le_trans T.vlen (by decide))
  have hz : zl (tv 0 t) = false := by
    cases hl : (tv 0 t).getLast? with
    | none => simp [zl, hl]
    | some x =>
      have := tv_last 0 t x hl
      simp [zl, hl]
      omega
  rw [hz, tof_tv 0 t T.inc] at h3
  have h3' : r_table_of [.int (rn (tv 0 t) : Int)] = some (.tuple (t.map pT)) := h3
  have c : ∀ a b : Sl, compL (flN 3) [3] mYes (mL (mCallF vListF (mCons (mVar 3) mNil))) [.v (.tuple (t.map pT)), a, b, .no] (t.map pT) = some (t.map pLs) := fun a b =>
    comp_map (emb := pT) (g := pLs) (fun x _ => by simp [pT, pLs])
  have hl : t.length < 16000000 := Nat.lt_of_le_of_lt T.len (by decide)
  simp [N__law_right_table, h0, h1, h2, h3', c, hl, is_int, ne_pairs, is_tab T.len]
theorem tof_low : ∀ (i : Nat) (vs : List Nat), ∀ x ∈ tof i vs, x.1 < i + vs.length
  | _, [], x, h => by cases h
  | i, v :: r, x, h => by
    have ih := tof_low (i + 1) r x
    have h : x ∈ (if 0 < v then (i, v - 1) :: tof (i + 1) r else tof (i + 1) r) := h
    rw [List.length_cons]
    split at h
    · rcases List.mem_cons.mp h with rfl | h
      · show i < _
        omega
      · have := ih h
        omega
    · have := ih h
      omega
theorem fit_ok (t : List (Nat × Nat)) : ∃ b, r__law_fit [.tuple (t.map pT)] = some (.bool b) := by
  suffices h : ∃ d, r__law_fit [.tuple (t.map pT)] = some d ∧ ∃ b, d = .bool b by
    obtain ⟨d, h, b, rfl⟩ := h
    exact ⟨b, h⟩
  refine runM_ex ?_
  unfold m__law_fit
  by_cases h40 : 40 < t.length
  · have : (40 : Int) < (t.length : Int) := by omega
    simp [N__law_fit, h40, this]
  · have h4 : t.length < 16000000 := by omega
    have h5 : 1 + t.length ≤ sizeLine := sz_of (by omega)
    obtain ⟨m, hm⟩ : ∃ m, ((0 : Int) :: t.map fun x => (x.2 : Int)).max? = some m := by
      cases hq : ((0 : Int) :: t.map fun x => (x.2 : Int)).max? with
      | none => simp at hq
      | some m => exact ⟨m, rfl⟩
    have hmx := vMaxL_ints (is := (0 : Int) :: t.map fun x => (x.2 : Int))
    rw [hm] at hmx
    simp at hmx
    have c : ∀ a : Sl, compL (flN 1) [1] mYes (mBin vIx (mVar 1) (mC (.int 1))) [a, .no] (t.map pT) = some ((t.map fun x => (x.2 : Int)).map .int) := fun a =>
      (comp_map (emb := pT) (g := fun x => .int (x.2 : Int)) (fun x _ => by simp [pT])).trans (by simp [Function.comp_def])
    have h40' : ¬ ((40 : Int) < (t.length : Int)) := by omega
    cases hz : t.getLast? with
    | none =>
      have : t = [] := by simpa using hz
      subst this
      have m0 : vMaxL [.list [.int 0]] = some (.int 0) := vMaxL_ints (is := [0])
      simp [N__law_fit, compL, m0]
    | some x =>
      have hpos : 0 < t.length := by
        cases t with
        | nil => cases hz
        | cons _ _ => simp
      by_cases h0 : (199 : Int) < x.1
      · simp [N__law_fit, h40', hz, pT, h0, hpos]
      · simp [N__law_fit, h40', hz, pT, h0, c, h4, h5, hmx, hpos]
        rcases Int.lt_or_le 200 m with h | h
        · exact .inl h
        · exact .inr h
theorem right_number_ok {vs : List Nat} (hb : wsum vs ≤ 10000000) (hl : vs.length ≤ 40000) : r__law_right_number [.int (rn vs : Int)] = some (.bool true) := by
  refine runM_of ?_
  unfold m__law_right_number
  have h1 := law_due_ok hb
  have h2 := table_of_ok (vs := vs) (Nat.le_trans hl (by decide))
  cases hz : zl vs with
  | true =>
    rw [hz] at h1 h2
    simp only [if_true] at h1 h2
    simp [N__law_right_number, h1, h2]
  | false =>
    rw [hz] at h1 h2
    simp only [Bool.false_eq_true, if_false] at h1 h2
    obtain ⟨b, hf⟩ := fit_ok (tof 0 vs)
    have hlast : ∀ x, vs.getLast? = some x → 0 < x := fun x hx => by
      simp [zl, hx] at hz
      omega
    have e := tv_tof0 vs hlast
    have hlen := tof_len vs 0
    have low : ∀ x ∈ tof 0 vs, x.1 < 1000000 := fun x hx => by
      have := tof_low 0 vs x hx
      omega
    have h3 : r_table_number [.tuple ((tof 0 vs).map pT)] = some (.int (rn (tv 0 (tof 0 vs)) : Int)) := table_number_ok (.inl rfl) (by simp) (inc_tof 0 vs) low (by rw [e]; omega)
    rw [e] at h3
    cases b <;> simp [N__law_right_number, h1, h2, hf, h3, is_int, is_tab (t := tof 0 vs) (by omega)]
theorem right_row_ok {t : List (Nat × Nat)} (T : Tab t) (g : Nat) : r__law_right_row [.tuple (t.map pT), .int (g : Int)] = some (.bool true) := by
  refine runM_of ?_
  unfold m__law_right_row
  have h0 := law_table_number_ok T.inc T.low (Nat.le_trans T.wid (by decide))
  have h1 := law_entries_ok T.wid
  have h2 := row_values_ok (vs := tv 0 t) (Nat.le_trans T.vlen (by decide))
  have h3 := is_tup (vs := tv 0 t) (Nat.lt_of_le_of_lt T.vlen (by decide))
  have hw : wsum (tv 0 t) ≤ 100000000 := Nat.le_trans T.wid (by decide)
  have hvl := T.vlen
  generalize tv 0 t = vs at *
  simp [N__law_right_row, h0, h1, h2, h3, nL_len]
  have c : ∀ a b e z : Sl, compL (flN 6) [6] mYes (mBin vIx (mVar 6) (mC (.int 0))) [.v (.tuple (t.map pT)), a, b, e, .no, z, .no] (List.take 9 (t.map pT)) = some (List.take 9 (t.map fun x => PyData.int (x.1 : Int))) := fun a b e z => by
    rw [← List.map_take, ← List.map_take]
    exact comp_map (emb := pT) (g := fun x => .int (x.1 : Int)) (fun x _ => by simp [pT])
  have hm : (g : Int) % 201 = ((g % 201 : Nat) : Int) := rfl
  have l9 : min 9 t.length < 16000000 := by omega
  have l10 : min 9 t.length + 3 ≤ sizeLine := sz_of (by omega)
  refine wp_forX (is := [g % 201, vs.length, 0] ++ (t.take 9).map (·.1)) (fun i n => ∃ y z : Sl, n = [.v (.tuple (t.map pT)), .v (.int (g : Int)), .v (.int (rn vs : Int)), .v (.list (nL vs)), y, z, .no]) ?_ ⟨.no, .no, by simp⟩ ?_ ?_
  · have e : PyData.int ((g : Int) % 201) :: PyData.int (vs.length : Int) :: PyData.int 0 :: nL ((t.take 9).map (·.1)) = ([g % 201, vs.length, 0] ++ (t.take 9).map (·.1)).map fun k : Nat => PyData.int (k : Int) := by simp [nL]
    have c9 : (cutD (t.map pT) none (some 9)) = (t.take 9).map pT := (cutD_to (xs := t.map pT) (b := 9)).trans List.map_take.symm
    have l11 : (3 : Nat) + min 9 t.length ≤ sizeLine := sz_of (by omega)
    simp [nL_len, c9, c, l9, l10, l11, Function.comp_def]
  · rintro i v n hi ⟨y, z, rfl⟩
    by_cases hv : v < vs.length
    · obtain ⟨x, hx⟩ : ∃ x, vs[v]? = some x := ⟨_, List.getElem?_eq_getElem hv⟩
      obtain ⟨_, hx5⟩ := List.getElem?_eq_some_iff.mp hx
      have he := row_entry_ok (vs := vs) v hw
      rw [hx, Option.getD_some] at he
      simp [nL, hv, hx5, he, is_int]
    · have hx : vs[v]? = none := List.getElem?_eq_none (by omega)
      have := is_int 0
      simp [nL_len, hv, row_entry_ok v hw, hx, this]
  · rintro n ⟨y, z, rfl⟩
    simp
theorem inc_iff : ∀ {t : List (Nat × Nat)} {l : Nat}, Inc l t ↔ (∀ x ∈ t, l ≤ x.1) ∧ t.Pairwise fun x y => x.1 < y.1
  | [], l => by simp [Inc]
  | (p, v) :: r, l => by
    show l ≤ p ∧ Inc (p + 1) r ↔ _
    rw [inc_iff (t := r) (l := p + 1), List.pairwise_cons]
    constructor
    · rintro ⟨h1, h2, h3⟩
      refine ⟨fun x hx => ?_, fun x hx => h2 x hx, h3⟩
      rcases List.mem_cons.mp hx with rfl | hx
      · exact h1
      · have := h2 x hx
        omega
    · rintro ⟨h1, h2, h3⟩
      exact ⟨h1 _ (List.mem_cons_self ..), fun x hx => h2 x hx, h3⟩
theorem inc_snoc {t : List (Nat × Nat)} {l p v : Nat} (h : Inc l t) (h1 : ∀ x ∈ t, x.1 < p) (h2 : l ≤ p) : Inc l (t ++ [(p, v)]) := by
  rw [inc_iff] at h ⊢
  refine ⟨fun x hx => ?_, ?_⟩
  · rcases List.mem_append.mp hx with hx | hx
    · exact h.1 x hx
    · cases List.mem_singleton.mp hx
      exact h2
  · rw [List.pairwise_append]
    exact ⟨h.2, by simp, fun a ha b hb => by cases List.mem_singleton.mp hb; exact h1 a ha⟩
theorem inc_sub {s t : List (Nat × Nat)} {l : Nat} (h : Inc l t) (hs : s.Sublist t) : Inc l s := by
  rw [inc_iff] at h ⊢
  exact ⟨fun x hx => h.1 x (hs.subset hx), h.2.sublist hs⟩
theorem inc_fst {s t : List (Nat × Nat)} {l : Nat} (h : Inc l t) (hs : s.map (·.1) = t.map (·.1)) : Inc l s := by
  have e : ∀ u : List (Nat × Nat), Inc l u ↔ (∀ x ∈ u.map (·.1), l ≤ x) ∧ (u.map (·.1)).Pairwise (· < ·) := fun u => by
    rw [inc_iff, List.pairwise_map]
    simp
  rw [e] at h ⊢
  rw [hs]
  exact h
/-- a drawn table -/
structure Good (t : List (Nat × Nat)) : Prop where
  inc : Inc 0 t
  lo : ∀ x ∈ t, x.1 < 200
  hi : ∀ x ∈ t, x.2 < 201
  len : t.length ≤ 41
theorem Good.tab {t : List (Nat × Nat)} (g : Good t) : Tab t := by
  have h1 := tv_len 0 t 200 (Nat.zero_le _) g.lo g.inc
  have h2 := wsum_bd (B := 201) (tv 0 t) (tv_mem 0 t 201 g.hi)
  have h3 : (tv 0 t).length * (201 + 1) ≤ 200 * (201 + 1) := Nat.mul_le_mul_right _ (by omega)
  exact ⟨g.inc, fun x hx => Nat.lt_trans (g.lo x hx) (by decide), by omega, Nat.le_trans g.len (by decide), by omega⟩
theorem drawn_ok (c : Int) : ∃ t, r__law_drawn_table [.int c] = some (.tuple (t.map pT)) ∧ Good t := by
  suffices h : ∃ d, r__law_drawn_table [.int c] = some d ∧ ∃ t, d = .tuple (t.map pT) ∧ Good t by
    obtain ⟨d, h, t, rfl, g⟩ := h
    exact ⟨t, h, g⟩
  refine runM_ex ?_
  unfold m__law_drawn_table
  obtain ⟨row, d0, n0, b0⟩ := digits_nat c ([41, 4, 4] ++ List.replicate 80 201) (fun s hs => by
    rcases List.mem_append.mp hs with h | h
    · simp at h
      omega
    · have := (List.mem_replicate.mp h).2
      omega) (by rw [List.length_append, List.length_replicate]; decide)
  have n1 : row.length = 83 := by rw [n0, List.length_append, List.length_replicate]; rfl
  have d0' : r__law_digits [.int c, .list (.int 41 :: .int 4 :: .int 4 :: repD [.int 201, .int 201] 40)] = some (.list (nL row)) := d0
  match row, n1 with
  | w0 :: w1 :: w2 :: wt, n1 =>
  have q0 := b0 0 _ _ rfl rfl
  have q1 := b0 1 _ _ rfl rfl
  have q2 := b0 2 _ _ rfl rfl
  have l1 : (3 : Nat) + (repD [PyData.int 201, .int 201] 40).length ≤ sizeLine := sz_of (by decide)
  obtain ⟨wd, hw1, hw2⟩ : ∃ k : Nat, [PyData.int 1, .int 3, .int 8, .int 201][w1]? = some (.int (k : Int)) ∧ 0 < k := by
    match w1, q1 with
    | 0, _ => exact ⟨1, rfl, by decide⟩
    | 1, _ => exact ⟨3, rfl, by decide⟩
    | 2, _ => exact ⟨8, rfl, by decide⟩
    | 3, _ => exact ⟨201, rfl, by decide⟩
  obtain ⟨hh, hh1, hh2, hh3⟩ : ∃ k : Nat, [PyData.int 1, .int 2, .int 10, .int 201][w2]? = some (.int (k : Int)) ∧ 0 < k ∧ k ≤ 201 := by
    match w2, q2 with
    | 0, _ => exact ⟨1, rfl, by decide, by decide⟩
    | 1, _ => exact ⟨2, rfl, by decide, by decide⟩
    | 2, _ => exact ⟨10, rfl, by decide, by decide⟩
    | 3, _ => exact ⟨201, rfl, by decide, by decide⟩
  have hw1' : ([PyData.int 1, .int 3, .int 8, .int 201][w1]? : Option PyData) = some (.int (wd : Int)) := hw1
  have hdl : (nL (w0 :: w1 :: w2 :: wt)) = .int (w0 : Int) :: .int (w1 : Int) :: .int (w2 : Int) :: nL wt := rfl
  rw [hdl] at d0'
  simp only [List.length_cons] at n1
  let RW := PyData.list (.int (w0 : Int) :: .int (w1 : Int) :: .int (w2 : Int) :: nL wt)
  refine wp_mid (fun n => n = [.v (.int c), .v RW, .no, .no, .no, .no, .no]) (by simp [N__law_drawn_table, l1, d0', RW]) ?_
  rintro n rfl
  refine wp_mid (fun n => n = [.v (.int c), .v RW, .v (.int (wd : Int)), .no, .no, .no, .no]) (by simp [RW, hw1]) ?_
  rintro n rfl
  refine wp_mid (fun n => n = [.v (.int c), .v RW, .v (.int (wd : Int)), .v (.int (hh : Int)), .no, .no, .no]) (by simp [RW, hh1]) ?_
  rintro n rfl
  refine wp_mid (fun n => n = [.v (.int c), .v RW, .v (.int (wd : Int)), .v (.int (hh : Int)), .o [], .no, .no]) (by simp) ?_
  rintro n rfl
  refine wp_mid (fun n => n = [.v (.int c), .v RW, .v (.int (wd : Int)), .v (.int (hh : Int)), .o [], .v (.int (-1)), .no]) (by simp) ?_
  rintro n rfl
  refine wp_mid (fun n => ∃ (t : List (Nat × Nat)) (y z : Sl), n = [.v (.int c), .v RW, .v (.int (wd : Int)), .v (.int (hh : Int)), .o (t.map pT), y, z] ∧ Good t) ?_ ?_
  · refine wp_forN (lo := 0) (k := w0) (fun i n => ∃ (t : List (Nat × Nat)) (x : Nat) (z : Sl), n = [.v (.int c), .v RW, .v (.int (wd : Int)), .v (.int (hh : Int)), .o (t.map pT), .v (.int ((x : Int) - 1)), z] ∧ Inc 0 t ∧ (∀ y ∈ t, y.1 < x ∧ y.1 < 200 ∧ y.2 < 201) ∧ t.length ≤ i)
      (by simp [RW, rb_nat (n := w0) (by omega)]) ⟨[], 0, .no, rfl, trivial, by simp, by simp⟩ ?_ ?_
    · rintro i n hi ⟨t, x, z, rfl, h1, h2, h3⟩
      obtain ⟨a, ha⟩ : ∃ a, wt[2 * i]? = some a := ⟨_, List.getElem?_eq_getElem (by omega)⟩
      obtain ⟨b, hb⟩ : ∃ b, wt[2 * i + 1]? = some b := ⟨_, List.getElem?_eq_getElem (by omega)⟩
      have e1 : atI (.int (w0 : Int) :: .int (w1 : Int) :: .int (w2 : Int) :: nL wt) (3 + 2 * (i : Int)) = some (.int (a : Int)) := by
        have : (3 + 2 * (i : Int)) = ((2 * i + 3 : Nat) : Int) := by omega
        rw [this, atI_cast]
        simp [nL, ha]
      have e2 : atI (.int (w0 : Int) :: .int (w1 : Int) :: .int (w2 : Int) :: nL wt) (4 + 2 * (i : Int)) = some (.int (b : Int)) := by
        have : (4 + 2 * (i : Int)) = ((2 * i + 1 + 3 : Nat) : Int) := by omega
        rw [this, atI_cast]
        simp [nL, hb]
      obtain ⟨p, hp⟩ : ∃ p : Nat, x + a % wd = p := ⟨_, rfl⟩
      have c2 : (b : Int) % (hh : Int) = ((b % hh : Nat) : Int) := rfl
      have c3 : (x : Int) + (a : Int) % (wd : Int) = (p : Int) := by
        rw [← hp]
        rfl
      have hbh : b % hh < hh := Nat.mod_lt _ hh2
      have hl : t.length < 16000000 := by omega
      by_cases hgt : (199 : Int) < (p : Int)
      · simp [RW, e1, hw2, -Int.natCast_emod, c3, hgt]
        exact ⟨t, rfl, h1, fun y hy => (h2 y hy).2.1, fun y hy => (h2 y hy).2.2, by omega⟩
      · simp [RW, e1, e2, hw2, hh2, -Int.natCast_emod, c2, c3, hgt, hl]
        refine ⟨t ++ [(p, b % hh)], p + 1, ⟨by simp [pT], by omega⟩, inc_snoc h1 (fun y hy => by have := (h2 y hy).1; omega) (Nat.zero_le _), fun y z hy => ?_, by simp; omega⟩
        rcases List.mem_append.mp hy with hy | hy
        · have := h2 _ hy
          simp at this
          omega
        · cases List.mem_singleton.mp hy
          omega
    · rintro n ⟨t, x, z, rfl, h1, h2, h3⟩
      exact ⟨_, rfl, t, _, _, rfl, h1, fun y hy => (h2 y hy).2.1, fun y hy => (h2 y hy).2.2, by omega⟩
  rintro n ⟨t, y, z, rfl, g⟩
  simp
  exact ⟨t, rfl, g⟩
theorem neigh_ok {t : List (Nat × Nat)} (g : Good t) (k : Nat) : ∃ ts : List (List (Nat × Nat)), r__law_neighbours [.tuple (t.map pT), .int (k : Int)] = some (.list (ts.map fun u => .tuple (u.map pT))) ∧ ∀ u ∈ ts, Good u := by
  suffices h : ∃ d, r__law_neighbours [.tuple (t.map pT), .int (k : Int)] = some d ∧ ∃ ts : List (List (Nat × Nat)), d = .list (ts.map fun u => .tuple (u.map pT)) ∧ ∀ u ∈ ts, Good u by
    obtain ⟨d, h, ts, rfl, g⟩ := h
    exact ⟨ts, h, g⟩
  refine runM_ex ?_
  unfold m__law_neighbours
  cases hz : t.length with
  | zero =>
    have : t = [] := List.length_eq_zero_iff.mp hz
    subst this
    have hm : (k : Int) % 200 = ((k % 200 : Nat) : Int) := rfl
    simp [N__law_neighbours]
    refine ⟨[[(k % 200, 0)]], by simp [pT], fun u hu => ?_⟩
    cases List.mem_singleton.mp hu
    have := Nat.mod_lt k (show 200 > 0 by decide)
    exact ⟨⟨Nat.zero_le _, trivial⟩, by simpa using this, by simp, by simp⟩
  | succ len =>
    have hpos : 0 < t.length := by omega
    obtain ⟨a, ha⟩ : ∃ a, k % t.length = a := ⟨_, rfl⟩
    have hal : a < t.length := by
      rw [← ha]
      exact Nat.mod_lt _ hpos
    have hm : (k : Int) % (t.length : Int) = (a : Int) := by
      rw [← ha]
      rfl
    obtain ⟨⟨p, v⟩, hx⟩ : ∃ x, t[a]? = some x := ⟨_, List.getElem?_eq_getElem hal⟩
    have hx2 := (List.getElem?_eq_some_iff.mp hx).2
    have hmem := List.mem_of_getElem? hx
    have hl := g.len
    have hv : ((v : Int) + 1) % 201 = (((v + 1) % 201 : Nat) : Int) := rfl
    have c1 : cutD (t.map pT) (some ((a : Int) + 1)) none = (t.drop (a + 1)).map pT := by
      have := cutD_from (xs := t.map pT) (a := a + 1)
      rw [Int.natCast_add] at this
      exact this.trans List.map_drop.symm
    have c2 : (t.take a).map pT = List.take a (t.map pT) := List.map_take
    have s1 : ∀ j ≤ 50, j ≤ sizeLine := fun j hj => sz_of (by omega)
    have hne : ¬ ((t.length : Int) = 0) := by omega
    have hne' : ¬ t.length = 0 := by omega
    have z1 : min a t.length + (t.length - (a + 1)) ≤ sizeLine := sz_of (by omega)
    have z2 : min a t.length + 1 ≤ sizeLine := sz_of (by omega)
    have z3 : min a t.length + (t.length - (a + 1) + 1) ≤ sizeLine := sz_of (by omega)
    have z4 : min a t.length + 1 + (t.length - (a + 1)) ≤ sizeLine := sz_of (by omega)
    simp [N__law_neighbours, hne, hne', hpos, -Int.natCast_emod, hm, hx, c1, pT, hv, z1, z2, z3, z4]
    refine ⟨[t.take a ++ t.drop (a + 1), t.take a ++ (p, (v + 1) % 201) :: t.drop (a + 1)], by simp [pT], fun u hu => ?_⟩
    have sub : (t.take a ++ t.drop (a + 1)).Sublist t := by
      have e : t = t.take a ++ t.drop a := (List.take_append_drop a t).symm
      conv => rhs; rw [e]
      exact List.Sublist.append (List.Sublist.refl _) (by rw [drop_at hx]; exact List.sublist_cons_self ..)
    rcases List.mem_cons.mp hu with rfl | hu
    · exact ⟨inc_sub g.inc sub, fun x hx => g.lo x (sub.subset hx), fun x hx => g.hi x (sub.subset hx), Nat.le_trans sub.length_le g.len⟩
    · cases List.mem_singleton.mp hu
      have lo : ∀ x ∈ t.take a ++ (p, (v + 1) % 201) :: t.drop (a + 1), x.1 < 200 ∧ x.2 < 201 := fun x hx => by
        rcases List.mem_append.mp hx with h | h
        · have := List.mem_of_mem_take h
          exact ⟨g.lo x this, g.hi x this⟩
        · rcases List.mem_cons.mp h with rfl | h
          · exact ⟨(g.lo (p, v) hmem : p < 200), Nat.mod_lt _ (by decide)⟩
          · have := List.mem_of_mem_drop h
            exact ⟨g.lo x this, g.hi x this⟩
      refine ⟨inc_fst g.inc ?_, fun x hx => (lo x hx).1, fun x hx => (lo x hx).2, ?_⟩
      · conv => rhs; rw [← List.take_append_drop a t, drop_at hx]
        simp
      · have e : (t.take a ++ (p, (v + 1) % 201) :: t.drop (a + 1)).length = t.length := by
          simp
          omega
        rw [e]
        exact hl
theorem great_num (c : Int) (less : Nat) : ∃ n : Nat, r__law_great [.int c, .int (less : Int)] = some (.int (n : Int)) ∧ n < 2 ^ 30000 := by
  suffices h : ∃ d, r__law_great [.int c, .int (less : Int)] = some d ∧ ∃ n : Nat, d = .int (n : Int) ∧ n < 2 ^ 30000 by
    obtain ⟨d, h, n, rfl, g⟩ := h
    exact ⟨n, h, g⟩
  refine runM_ex ?_
  unfold m__law_great
  obtain ⟨pt, hp, hpb⟩ : ∃ pt : Nat, c % 2305843009213693951 = (pt : Int) ∧ pt < 2 ^ 61 := by
    have h1 := Int.emod_nonneg c (show (2305843009213693951 : Int) ≠ 0 by decide)
    have h2 := Int.emod_lt_of_pos c (show (0 : Int) < 2305843009213693951 by decide)
    exact ⟨(c % 2305843009213693951).toNat, by omega, by omega⟩
  have h48 := shl_one 48 (by decide)
  have hm : (pt : Int) % ((2 ^ 48 : Nat) : Int) = ((pt % 2 ^ 48 : Nat) : Int) := rfl
  have hlt : pt % 2 ^ 48 < 2 ^ 48 := Nat.mod_lt _ (by decide)
  have r491 : RB 491 := by simp
  have h48' : vShl (.int 1) (.int 48) = some (.int 281474976710656) := h48
  have hm' : (pt : Int) % 281474976710656 = ((pt % 281474976710656 : Nat) : Int) := rfl
  simp [N__law_great, hp, h48', -vShl_ii, -Int.natCast_emod, hm']
  have hlt' : pt % 281474976710656 < 281474976710656 := Nat.mod_lt _ (by decide)
  generalize pt % 281474976710656 = q at *
  refine wp_forN (lo := 0) (k := 491) (fun i n => ∃ (w : Nat) (z : Sl) (e : Nat), n = [.v (.int c), .v (.int (less : Int)), .v (.int (pt : Int)), .v (.int (w : Int)), z] ∧ e = 49 + 61 * i ∧ w < 2 ^ e) (by simp) ⟨281474976710656 + q, .no, 49, by simp, rfl, by omega⟩ ?_ ?_
  · rintro i n hi ⟨w, z, e, rfl, he, hw⟩
    have hb : Builtin.Int.intBits (w : Int) ≤ e := intBits_lt.mpr hw
    have hb2 : (Builtin.Int.intBits (w : Int) : Int) + 61 ≤ 2 ^ 27 := by omega
    have hs : vShl (.int (w : Int)) (.int 61) = some (.int ((w * 2305843009213693952 : Nat) : Int)) := by
      rw [vShl_ii, if_pos ⟨by decide, hb2⟩]
      rfl
    have hnew : w * 2305843009213693952 + pt < 2 ^ (e + 61) := by
      rw [Nat.pow_add]
      omega
    generalize hW : w * 2305843009213693952 = W at hs hnew
    have hfin : ∃ w' e', ((W : Int) + (pt : Int) = (w' : Nat)) ∧ e' = 49 + 61 * (i + 1) ∧ w' < 2 ^ e' := ⟨W + pt, e + 61, by simp, by omega, hnew⟩
    obtain ⟨w', e', f1, f2, f3⟩ := hfin
    simp only [wp_asg, mBin_ap, mVar_ap, mC_ap, hide_eq, hideAt_cons, hideAt_nil, hid1_v]
    refine ⟨.int ((W : Int) + (pt : Int)), ?_, ?_⟩
    · simp [hs, -vShl_ii]
    · rw [f1]
      exact ⟨w', _, e', rfl, f2, f3⟩
  · rintro n ⟨w, z, e, rfl, he, hw⟩
    have hsh : (w : Int) / 2 ^ less = ((w / 2 ^ less : Nat) : Int) := by
      rw [← PySem.W.kbt_cast]
      rfl
    have he2 : e = 30000 := by omega
    have hlt2 : w / 2 ^ less ≤ w := Nat.div_le_self _ _
    rw [he2] at hw
    generalize w / 2 ^ less = W at hsh hlt2
    have hW : W < 2 ^ 30000 := Nat.lt_of_le_of_lt hlt2 hw
    clear hw
    generalize 2 ^ 30000 = T at *
    simp [hsh]
    exact ⟨W, rfl, hW⟩
theorem some_right {n K : Nat} (hK : K ≤ 100000) (h : n < 2 ^ K) (hl : K ≤ 40000) : r__law_right_number [.int (n : Int)] = some (.bool true) := by
  obtain ⟨vs, rfl⟩ := rn_ex n
  have hw := wsum_of_lt h
  have hv := len_le_wsum vs
  exact right_number_ok (by omega) (by omega)
theorem law_true (ns : List Int) (h : ns.length ≤ 63) : r_law [.list (ns.map .int)] = some (.bool true) := by
  refine runM_of ?_
  unfold m_law
  obtain ⟨c0, e0⟩ := cell_ok ns 0 (by decide) (by decide)
  obtain ⟨c1, e1⟩ := cell_ok ns 1 (by decide) (by decide)
  obtain ⟨c2, e2⟩ := cell_ok ns 2 (by decide) (by decide)
  obtain ⟨c3, e3⟩ := cell_ok ns 3 (by decide) (by decide)
  unfold iL at e0 e1 e2 e3
  generalize PyData.list (ns.map .int) = sc at *
  obtain ⟨t, et, g⟩ := drawn_ok c0
  obtain ⟨row, d0, n0, b0⟩ := digits_nat c1 ([61, 4, 200, 4000, 12, 100, 201] ++ List.replicate 60 201) (fun s hs => by
    rcases List.mem_append.mp hs with h | h
    · simp at h
      omega
    · have := (List.mem_replicate.mp h).2
      omega) (by rw [List.length_append, List.length_replicate]; decide)
  have n1 : row.length = 67 := by rw [n0, List.length_append, List.length_replicate]; rfl
  have d0' : r__law_digits [.int c1, .list (.int 61 :: .int 4 :: .int 200 :: .int 4000 :: .int 12 :: .int 100 :: .int 201 :: repD [.int 201] 60)] = some (.list (nL row)) := d0
  match row, n1 with
  | w0 :: w1 :: w2 :: w3 :: w4 :: w5 :: w6 :: wt, n1 =>
  have q0 := b0 0 _ _ rfl rfl
  have q1 := b0 1 _ _ rfl rfl
  have q2 := b0 2 _ _ rfl rfl
  have q3 := b0 3 _ _ rfl rfl
  clear b0 n0 d0
  have hdl : (nL (w0 :: w1 :: w2 :: w3 :: w4 :: w5 :: w6 :: wt)) = .int (w0 : Int) :: .int (w1 : Int) :: .int (w2 : Int) :: .int (w3 : Int) :: .int (w4 : Int) :: .int (w5 : Int) :: .int (w6 : Int) :: nL wt := rfl
  rw [hdl] at d0'
  simp only [List.length_cons] at n1
  let RW := PyData.list (.int (w0 : Int) :: .int (w1 : Int) :: .int (w2 : Int) :: .int (w3 : Int) :: .int (w4 : Int) :: .int (w5 : Int) :: .int (w6 : Int) :: nL wt)
  let TB := PyData.tuple (t.map pT)
  have l1 : (7 : Nat) + (repD [PyData.int 201] 60).length ≤ sizeLine := sz_of (by decide)
  have hrt := right_table_ok g.tab
  have hrr := right_row_ok g.tab w6
  obtain ⟨ts, hts, gts⟩ := neigh_ok g w6
  obtain ⟨hh, hh1, hh2, hh3⟩ : ∃ k : Nat, [PyData.int 1, .int 2, .int 9, .int 201][w1]? = some (.int (k : Int)) ∧ 0 < k ∧ k ≤ 201 := by
    match w1, q1 with
    | 0, _ => exact ⟨1, rfl, by decide, by decide⟩
    | 1, _ => exact ⟨2, rfl, by decide, by decide⟩
    | 2, _ => exact ⟨9, rfl, by decide, by decide⟩
    | 3, _ => exact ⟨201, rfl, by decide, by decide⟩
  refine wp_mid (fun n => n = [.v sc, .v TB, .no, .no, .no, .no, .no, .no, .no]) (by simp [N_law, e0, et, TB]) ?_
  rintro n rfl
  refine wp_mid (fun n => n = [.v sc, .v TB, .v RW, .no, .no, .no, .no, .no, .no]) (by simp [e1, l1, d0', RW]) ?_
  rintro n rfl
  refine wp_mid (fun n => n = [.v sc, .v TB, .v RW, .no, .no, .no, .no, .no, .no]) (by simp [RW, TB, hrt, hrr]) ?_
  rintro n rfl
  refine wp_mid (fun n => ∃ y : Sl, n = [.v sc, .v TB, .v RW, y, .no, .no, .no, .no, .no]) (by
    refine wp_forL (ds := ts.map fun u => .tuple (u.map pT)) (fun _ n => ∃ y : Sl, n = [.v sc, .v TB, .v RW, y, .no, .no, .no, .no, .no]) (by simp [TB, RW, hts]) ⟨.no, by simp⟩ ?_ ?_
    · rintro i d n hd ⟨y, rfl⟩
      rw [List.getElem?_map] at hd
      obtain ⟨u, hu, rfl⟩ := Option.map_eq_some_iff.mp hd
      simp [right_table_ok (gts u (List.mem_of_getElem? hu)).tab]
    · rintro n ⟨y, rfl⟩
      exact ⟨_, rfl, y, rfl⟩) ?_
  rintro n ⟨y, rfl⟩
  refine wp_mid (fun n => n = [.v sc, .v TB, .v RW, y, .v (.int (hh : Int)), .no, .no, .no, .no]) (by simp [RW, hh1]) ?_
  rintro n rfl
  refine wp_mid (fun n => ∃ vs : List Nat, n = [.v sc, .v TB, .v RW, y, .v (.int (hh : Int)), .v (.list (nL vs)), .no, .no, .no] ∧ vs.length = w0 ∧ ∀ x ∈ vs, x ≤ 201) ?_ ?_
  · have c : ∀ a : Sl, compL (flN 8) [8] mYes (mBin vMod (mCall vInt (mCons (mBin vIx (mVar 2) (mBin vAdd (mC (.int 7)) (mVar 8))) mNil)) (mVar 4)) [.v sc, .v TB, .v RW, a, .v (.int (hh : Int)), .no, .no, .no, .no] (rangeD 0 w0) = some (nL ((List.range w0).map fun k => wt.getD k 0 % hh)) := fun a => by
      rw [rangeD_nats]
      refine (comp_map (emb := fun k : Nat => PyData.int (k : Int)) (g := fun k => .int ((wt.getD k 0 % hh : Nat) : Int)) (fun k hk => ?_)).trans (by simp [nL])
      have hk2 : k < wt.length := by
        have := List.mem_range.mp hk
        omega
      have e : atI (.int (w0 : Int) :: .int (w1 : Int) :: .int (w2 : Int) :: .int (w3 : Int) :: .int (w4 : Int) :: .int (w5 : Int) :: .int (w6 : Int) :: nL wt) (7 + (k : Int)) = some (.int (wt[k] : Int)) := by
        have : (7 + (k : Int)) = ((k + 7 : Nat) : Int) := by omega
        rw [this, atI_cast]
        simp [nL, hk2]
      simp [RW, e, hh2, hk2]
    have hrb : RB (w0 : Int) := rb_nat (by omega)
    have hl : w0 < 16000000 := by omega
    simp only [RW] at c
    simp [RW, hrb, c, nL_len, hl]
    refine ⟨_, rfl, by simp, fun x hx => ?_⟩
    obtain ⟨k, _, rfl⟩ := List.mem_map.mp hx
    exact Nat.le_trans (Nat.le_of_lt (Nat.mod_lt _ hh2)) hh3
  rintro n ⟨vs, rfl, hvl, hvx⟩
  have bd : ∀ us : List Nat, (∀ x ∈ us, x ≤ 201) → us.length ≤ 100 → wsum us ≤ 30000 := fun us h1 h2 => by
    have h3 := wsum_bd us h1
    have h4 : us.length * (201 + 1) ≤ 100 * (201 + 1) := Nat.mul_le_mul_right _ h2
    omega
  let va := vs ++ [w2 + 1]
  let vb := vs ++ [w2 + 1, 0]
  have ba : wsum va ≤ 30000 := bd _ (fun x hx => by
    rcases List.mem_append.mp hx with hx | hx
    · exact hvx x hx
    · simp at hx
      omega) (by simp [va]; omega)
  have bb : wsum vb ≤ 30000 := bd _ (fun x hx => by
    rcases List.mem_append.mp hx with hx | hx
    · exact hvx x hx
    · simp at hx
      omega) (by simp [vb]; omega)
  have la : va.length ≤ 100 := by simp [va]; omega
  have lb : vb.length ≤ 100 := by simp [vb]; omega
  have na := law_row_number_ok (vs := va) (by omega)
  have nb := law_row_number_ok (vs := vb) (by omega)
  have za : zl va = false := by simp [zl, va]
  have zb : zl vb = true := by simp [zl, vb]
  have ta := table_of_ok (vs := va) (by omega)
  have tb := table_of_ok (vs := vb) (by omega)
  rw [za] at ta
  rw [zb] at tb
  simp only [if_true, Bool.false_eq_true, if_false] at ta tb
  have pa := rn_lt va
  have pb := rn_lt vb
  have pw : ∀ k, k ≤ 30000 → 2 ^ k ≤ 2 ^ 30000 := fun k hk => Nat.pow_le_pow_right (by decide) hk
  have ra : rn va < 2 ^ 30000 := Nat.lt_of_lt_of_le pa (pw _ ba)
  have rb : rn vb < 2 ^ 30000 := Nat.lt_of_lt_of_le pb (pw _ bb)
  have va_eq : nL va = nL vs ++ [.int ((w2 : Int) + 1)] := by simp [va, nL]
  have vb_eq : nL vb = nL vs ++ [.int ((w2 : Int) + 1), .int 0] := by simp [vb, nL]
  rw [va_eq] at na
  rw [vb_eq] at nb
  generalize rn va = xa at *
  generalize rn vb = xb at *
  have z1 : vs.length + 1 ≤ sizeLine := sz_of (by omega)
  have z2 : vs.length + 2 ≤ sizeLine := sz_of (by omega)
  refine wp_mid (fun n => n = [.v sc, .v TB, .v RW, y, .v (.int (hh : Int)), .v (.list (nL vs)), .o (nL [xa, xb, w3]), .no, .no]) (by simp [RW, nL_len, z1, z2, na, nb]; simp [nL]) ?_
  rintro n rfl
  obtain ⟨Q, hQ, hQe⟩ : ∃ Q : Nat, vShl (.int 1) (.int 2000) = some (.int (Q : Int)) ∧ Q = 2 ^ 2000 := ⟨_, shl_one 2000 (by decide), rfl⟩
  have hQ0 : 0 < Q := by
    rw [hQe]
    exact two_pos 2000
  obtain ⟨b2, hb2, hb2q⟩ : ∃ b : Nat, c2 % (Q : Int) = (b : Int) ∧ b < Q := by
    have h1 := Int.emod_nonneg c2 (show (Q : Int) ≠ 0 by omega)
    have h2 := Int.emod_lt_of_pos c2 (show (0 : Int) < Q by omega)
    exact ⟨(c2 % (Q : Int)).toNat, by omega, by omega⟩
  have rb2 : b2 < 2 ^ 30000 := by
    rw [hQe] at hb2q
    exact Nat.lt_of_lt_of_le hb2q (pw _ (by decide))
  refine wp_mid (fun n => n = [.v sc, .v TB, .v RW, y, .v (.int (hh : Int)), .v (.list (nL vs)), .o (nL [xa, xb, w3, b2]), .no, .no]) (by simp [e2, hQ, -vShl_ii, hQ0, hb2, nL]) ?_
  rintro n rfl
  have r3 : w3 < 2 ^ 30000 := Nat.lt_of_lt_of_le (Nat.lt_of_lt_of_le q3 (by decide : 4000 ≤ 2 ^ 12)) (pw 12 (by decide))
  refine wp_mid (fun n => ∃ nums : List Nat, n = [.v sc, .v TB, .v RW, y, .v (.int (hh : Int)), .v (.list (nL vs)), .o (nL (xa :: xb :: nums)), .no, .no] ∧ ∀ x ∈ xa :: xb :: nums, x < 2 ^ 30000) (by
    obtain ⟨gn, hg, gb⟩ := great_num c3 w5
    generalize 2 ^ 30000 = T at *
    by_cases h4 : w4 = 0
    · simp [RW, h4, e3, hg]
      refine ⟨by simp [nL], [w3, b2, gn], by simp [nL], ra, rb, by simp; omega⟩
    · refine wp_ifS.mpr ⟨false, by simp [RW]; omega, ?_⟩
      simp only [Bool.false_eq_true, if_false, wp_skip]
      exact ⟨_, rfl, [w3, b2], rfl, by simp; omega⟩) ?_
  rintro n ⟨nums, rfl, hn⟩
  refine wp_mid (fun n => ∃ z : Sl, n = [.v sc, .v TB, .v RW, y, .v (.int (hh : Int)), .v (.list (nL vs)), .v (.list (nL (xa :: xb :: nums))), z, .no]) (by
    refine wp_forX (is := xa :: xb :: nums) (fun _ n => ∃ z : Sl, n = [.v sc, .v TB, .v RW, y, .v (.int (hh : Int)), .v (.list (nL vs)), .v (.list (nL (xa :: xb :: nums))), z, .no]) (by simp; rfl) ⟨.no, by simp⟩ ?_ ?_
    · rintro i x n hx ⟨z, rfl⟩
      have := some_right (K := 30000) (by decide) (hn x (List.mem_of_getElem? hx)) (by decide)
      simp [this]
    · rintro n ⟨z, rfl⟩
      exact ⟨_, rfl, z, rfl⟩) ?_
  rintro n ⟨z, rfl⟩
  have i0 := is_int 0
  have tn0 : r_table_number [.tuple []] = some (.int 0) := table_number_ok (t := []) (emb := pT) (.inl rfl) (by simp) trivial (by simp) (by simp [tv, wsum])
  have tn1 : r_table_number [.list []] = some (.int 0) := table_number_ok (t := []) (emb := pT) (.inl rfl) (by simp) trivial (by simp) (by simp [tv, wsum])
  have tz : r_table_of [.int 0] = some (.tuple []) := table_of_ok (vs := []) (by simp)
  have it0 : r__law_is [.tuple [], .tuple []] = some (.bool true) := is_tup (vs := []) (by simp)
  have nxl : nL (xa :: xb :: nums) = .int (xa : Int) :: .int (xb : Int) :: nL nums := rfl
  rw [nxl]
  simp [TB, hrt, ta, tb, i0, tn0, tn1, tz, it0]
end LW
set_option Elab.async false
set_option linter.all false
set_option maxRecDepth 100000
set_option maxHeartbeats 4000000
namespace LW
open PySem PySem.Spec L2 VE
/-! ### the text -/
abbrev R0 : PySem.Program := PySem.Challenge.pw_onlylength_k67_table_numbers
def top (i : Nat) : Stmt := PySem.Challenge.pw_onlylength_k67_table_numbers.main.body.getD i (.Pass ⟨0, 0, 0, 0⟩)
abbrev s__law_cell : Stmt := top 9
abbrev s__law_digits : Stmt := top 10
abbrev s__law_drawn_table : Stmt := top 17
abbrev s__law_great : Stmt := top 22
abbrev s__law_is : Stmt := top 12
abbrev s__law_neighbours : Stmt := top 18
abbrev s__law_entries : Stmt := top 14
abbrev s__law_due_table : Stmt := top 15
abbrev s__law_fit : Stmt := top 16
abbrev s_row_number : Stmt := top 1
abbrev s_table_number : Stmt := top 6
abbrev s_lowest_zeros : Stmt := top 2
abbrev s_row_values : Stmt := top 3
abbrev s_table_of : Stmt := top 7
abbrev s__law_right_number : Stmt := top 20
abbrev s__law_row_number : Stmt := top 11
abbrev s__law_table_number : Stmt := top 13
abbrev s_row_entry : Stmt := top 4
abbrev s__law_right_row : Stmt := top 21
abbrev s__law_right_table : Stmt := top 19
abbrev s_law : Stmt := top 23
/-! ### the derivations -/
structure Glob (K : PySem.W.Frag) (mg : Str → Option Value) : Prop where
  g_bool : mg "bool" = none
  g_enumerate : mg "enumerate" = none
  g_int : mg "int" = none
  g_isinstance : mg "isinstance" = none
  g_len : mg "len" = none
  g_list : mg "list" = none
  g_max : mg "max" = none
  g_min : mg "min" = none
  g_range : mg "range" = none
  g_str : mg "str" = none
  g_tuple : mg "tuple" = none
section
variable {P : Program} {w : World} {K : PySem.W.Frag} {mg : Str → Option Value} {base : Heap}
theorem sc__law_cell : FnScope N__law_cell ["script", "k"] (defScope s__law_cell) := ⟨rfl, rfl, rfl, by decide +kernel, rfl, by decide +kernel, by decide +kernel⟩
theorem ok__law_cell {f : Addr} {fd : FuncData} (T : Glob K mg)  (F : FnP K "_law_cell" s__law_cell f fd) (hm : mg "_law_cell" = some (.ref f)) (hb : L2.Binds K fd ["script", "k"] []) : Def P w K mg base "_law_cell" 1 2 r__law_cell := def_okD (ps := ["script", "k"]) (body := m__law_cell) F sc__law_cell hm hb fun cdv A outer s H E hr =>
    (psv_cons (psv_if [] (pb_cmp od_lt (pv_var 1) (pv_cb cd_len T.g_len (pl_cons (pv_var 0) pl_nil)) (nomark _)) (psv_one (psv_ret [] (pv_ix (pv_var 0) (pv_var 1)))) psv_nil)
      (psv_cons (psv_set [] 2 sc__law_cell.nd pv_int)
      (psv_cons (psv_for [] (piv_seq (pv_var 0)) (pt_name 3 sc__law_cell.nd) (psv_one (psv_set [] 2 sc__law_cell.nd (pv_bin od_mod (pv_cty cd_int T.g_int (pl_cons (pv_bin od_add (pv_bin od_mul (pv_var 2) pv_int) (pv_bin od_mod (pv_cty cd_int T.g_int (pl_cons (pv_var 3) pl_nil)) pv_int)) pl_nil)) pv_int))))
      (psv_one (psv_ret [] (pv_bin od_mod (pv_cty cd_int T.g_int (pl_cons (pv_bin od_mul (pv_bin od_mul (pv_bin od_add (pv_var 2) pv_int) (pv_bin od_add (pv_var 1) pv_int)) pv_int) pl_nil)) pv_int))))))
theorem sc__law_digits : FnScope N__law_digits ["cell", "sizes"] (defScope s__law_digits) := ⟨rfl, rfl, rfl, by decide +kernel, rfl, by decide +kernel, by decide +kernel⟩
theorem ok__law_digits {f : Addr} {fd : FuncData} (T : Glob K mg)  (F : FnP K "_law_digits" s__law_digits f fd) (hm : mg "_law_digits" = some (.ref f)) (hb : L2.Binds K fd ["cell", "sizes"] []) : Def P w K mg base "_law_digits" 1 2 r__law_digits := def_okD (ps := ["cell", "sizes"]) (body := m__law_digits) F sc__law_digits hm hb fun cdv A outer s H E hr =>
    (psv_cons (psv_setO [] 2 sc__law_digits.nd (pf_lst pl_nil))
      (psv_cons (psv_set [] 3 sc__law_digits.nd (pv_cty cd_int T.g_int (pl_cons (pv_var 0) pl_nil)))
      (psv_cons (psv_if [] (pb_cmp od_ge (pv_var 3) (pv_bin od_pow pv_int pv_int) (nomark _)) (psv_cons (psv_set [] 3 sc__law_digits.nd (pv_bin od_sub (pv_var 3) (pv_bin od_pow pv_int pv_int)))
      (psv_cons (psv_for [] (piv_seq (pv_var 1)) (pt_name 6 sc__law_digits.nd) (psv_cons (psv_app [] 2 (pv_bin od_mod (pv_cty cd_int T.g_int (pl_cons (pv_var 3) pl_nil)) (pv_var 6)))
      (psv_one (psv_set [] 3 sc__law_digits.nd (pv_bin od_div (pv_cty cd_int T.g_int (pl_cons (pv_var 3) pl_nil)) (pv_var 6))))))
      (psv_one (psv_retO 2)))) psv_nil)
      (psv_cons (psv_set [] 4 sc__law_digits.nd (pv_bin od_mod (pv_cty cd_int T.g_int (pl_cons (pv_var 3) pl_nil)) pv_int))
      (psv_cons (psv_forR [] (pir_range1 T.g_range (pl_cons (pv_cb cd_len T.g_len (pl_cons (pv_var 1) pl_nil)) pl_nil)) (pt_name 5 sc__law_digits.nd) (psv_cons (psv_set [] 4 sc__law_digits.nd (pv_bin od_mod (pv_cty cd_int T.g_int (pl_cons (pv_bin od_add (pv_bin od_add (pv_bin od_mul (pv_var 4) pv_int) (pv_bin od_mul pv_int (pv_var 5))) pv_int) pl_nil)) pv_int))
      (psv_cons (psv_set [] 7 sc__law_digits.nd (pv_bin od_mod (pv_cty cd_int T.g_int (pl_cons (pv_bin od_mul (pv_var 4) (pv_bin od_add (pv_bin od_div (pv_var 4) pv_int) pv_int)) pl_nil)) pv_int))
      (psv_one (psv_app [] 2 (pv_bin od_mod (pv_bin od_div (pv_var 7) pv_int) (pv_ix (pv_var 1) (pv_var 5))))))))
      (psv_one (psv_retO 2)))))))
theorem sc__law_drawn_table : FnScope N__law_drawn_table ["cell"] (defScope s__law_drawn_table) := ⟨rfl, rfl, rfl, by decide +kernel, rfl, by decide +kernel, by decide +kernel⟩
theorem ok__law_drawn_table {f : Addr} {fd : FuncData} (T : Glob K mg) (D__law_digits : Def P w K mg base "_law_digits" 1 2 r__law_digits) (F : FnP K "_law_drawn_table" s__law_drawn_table f fd) (hm : mg "_law_drawn_table" = some (.ref f)) (hb : L2.Binds K fd ["cell"] []) : Def P w K mg base "_law_drawn_table" 2 1 r__law_drawn_table := def_okD (ps := ["cell"]) (body := m__law_drawn_table) F sc__law_drawn_table hm hb fun cdv A outer s H E hr =>
    (psv_cons (psv_set [] 1 sc__law_drawn_table.nd (pv_call D__law_digits hr (pl_cons (pv_var 0) (pl_cons (pv_bin od_add (pv_of_pf (pf_lst (pl_cons pv_int (pl_cons pv_int (pl_cons pv_int pl_nil))))) (pv_of_pf (pf_rep (pf_lst (pl_cons pv_int (pl_cons pv_int pl_nil))) pv_int))) pl_nil))))
      (psv_cons (psv_set [] 2 sc__law_drawn_table.nd (pv_ix (pv_of_pf (pf_lst (pl_cons pv_int (pl_cons pv_int (pl_cons pv_int (pl_cons pv_int pl_nil)))))) (pv_ix (pv_var 1) pv_int)))
      (psv_cons (psv_set [] 3 sc__law_drawn_table.nd (pv_ix (pv_of_pf (pf_lst (pl_cons pv_int (pl_cons pv_int (pl_cons pv_int (pl_cons pv_int pl_nil)))))) (pv_ix (pv_var 1) pv_int)))
      (psv_cons (psv_setO [] 4 sc__law_drawn_table.nd (pf_lst pl_nil))
      (psv_cons (psv_set [] 5 sc__law_drawn_table.nd (pv_neg pv_int))
      (psv_cons (psv_forR [] (pir_range1 T.g_range (pl_cons (pv_ix (pv_var 1) pv_int) pl_nil)) (pt_name 6 sc__law_drawn_table.nd) (psv_cons (psv_set [] 5 sc__law_drawn_table.nd (pv_bin od_add (pv_bin od_add (pv_var 5) pv_int) (pv_bin od_mod (pv_cty cd_int T.g_int (pl_cons (pv_ix (pv_var 1) (pv_bin od_add pv_int (pv_bin od_mul pv_int (pv_var 6)))) pl_nil)) (pv_var 2))))
      (psv_cons (psv_if [] (pb_cmp od_gt (pv_var 5) pv_int (nomark _)) (psv_one psv_break) psv_nil)
      (psv_one (psv_app [] 4 (pv_tup (pl_cons (pv_var 5) (pl_cons (pv_bin od_mod (pv_cty cd_int T.g_int (pl_cons (pv_ix (pv_var 1) (pv_bin od_add pv_int (pv_bin od_mul pv_int (pv_var 6)))) pl_nil)) (pv_var 3)) pl_nil))))))))
      (psv_one (psv_ret [4] (pv_cty cd_tuple T.g_tuple (pl_cons (pv_var 4) pl_nil))))))))))
theorem sc__law_great : FnScope N__law_great ["cell", "less"] (defScope s__law_great) := ⟨rfl, rfl, rfl, by decide +kernel, rfl, by decide +kernel, by decide +kernel⟩
theorem ok__law_great {f : Addr} {fd : FuncData} (T : Glob K mg)  (F : FnP K "_law_great" s__law_great f fd) (hm : mg "_law_great" = some (.ref f)) (hb : L2.Binds K fd ["cell", "less"] []) : Def P w K mg base "_law_great" 1 2 r__law_great := def_okD (ps := ["cell", "less"]) (body := m__law_great) F sc__law_great hm hb fun cdv A outer s H E hr =>
    (psv_cons (psv_set [] 2 sc__law_great.nd (pv_bin od_mod (pv_cty cd_int T.g_int (pl_cons (pv_var 0) pl_nil)) pv_int))
      (psv_cons (psv_set [] 3 sc__law_great.nd (pv_bin od_add (pv_bin od_shl pv_int pv_int) (pv_bin od_mod (pv_cty cd_int T.g_int (pl_cons (pv_var 2) pl_nil)) (pv_bin od_shl pv_int pv_int))))
      (psv_cons (psv_forR [] (pir_range1 T.g_range (pl_cons pv_int pl_nil)) (pt_name 4 sc__law_great.nd) (psv_one (psv_set [] 3 sc__law_great.nd (pv_bin od_add (pv_bin od_shl (pv_var 3) pv_int) (pv_var 2)))))
      (psv_one (psv_ret [] (pv_bin od_shr (pv_var 3) (pv_var 1)))))))
theorem sc__law_is : FnScope N__law_is ["shown", "due"] (defScope s__law_is) := ⟨rfl, rfl, rfl, by decide +kernel, rfl, by decide +kernel, by decide +kernel⟩
theorem ok__law_is {f : Addr} {fd : FuncData} (T : Glob K mg)  (F : FnP K "_law_is" s__law_is f fd) (hm : mg "_law_is" = some (.ref f)) (hb : L2.Binds K fd ["shown", "due"] []) : Def P w K mg base "_law_is" 1 2 r__law_is := def_okD (ps := ["shown", "due"]) (body := m__law_is) F sc__law_is hm hb fun cdv A outer s H E hr =>
    (psv_cons (psv_setO [] 2 sc__law_is.nd (pf_lst (pl_cons (pv_of_pf (pf_lst (pl_cons (pv_var 0) (pl_cons (pv_var 1) pl_nil)))) pl_nil)))
      (psv_cons (psv_forR [] (pir_range1 T.g_range (pl_cons pv_int pl_nil)) (pt_name 3 sc__law_is.nd) (psv_cons (psv_if [2] (pb_cmp (od_eq hr.units) (pv_cb cd_len T.g_len (pl_cons (pv_var 2) pl_nil)) pv_int (nomark _)) (psv_one (psv_ret [] pv_bl)) psv_nil)
      (psv_cons (psv_popAsg 2 4 sc__law_is.nd)
      (psv_one (psv_if [] (pb_truth (pv_isi "tuple" (pv_ix (pv_var 4) pv_int) T.g_isinstance T.g_tuple)) (psv_cons (psv_if [] (pb_w (pbw_or (pb_not (pb_truth (pv_isi "tuple" (pv_ix (pv_var 4) pv_int) T.g_isinstance T.g_tuple))) (pbw_or1 (pb_cmp (od_ne hr.units) (pv_cb cd_len T.g_len (pl_cons (pv_ix (pv_var 4) pv_int) pl_nil)) (pv_cb cd_len T.g_len (pl_cons (pv_ix (pv_var 4) pv_int) pl_nil)) (nomark _))))) (psv_one (psv_ret [] pv_bl)) psv_nil)
      (psv_one (psv_forR [] (pir_range1 T.g_range (pl_cons (pv_cb cd_len T.g_len (pl_cons (pv_ix (pv_var 4) pv_int) pl_nil)) pl_nil)) (pt_name 5 sc__law_is.nd) (psv_one (psv_app [] 2 (pv_of_pf (pf_lst (pl_cons (pv_ix (pv_ix (pv_var 4) pv_int) (pv_var 5)) (pl_cons (pv_ix (pv_ix (pv_var 4) pv_int) (pv_var 5)) pl_nil))))))))) (psv_one (psv_if [] (pb_cmp od_is (pv_ix (pv_var 4) pv_int) pv_non (nomark _)) (psv_one (psv_if [] (pb_cmp od_isNot (pv_ix (pv_var 4) pv_int) pv_non (nomark _)) (psv_one (psv_ret [] pv_bl)) psv_nil)) (psv_one (psv_if [] (pb_truth (pv_isi "str" (pv_ix (pv_var 4) pv_int) T.g_isinstance T.g_str)) (psv_one (psv_if [] (pb_w (pbw_or (pb_not (pb_truth (pv_isi "str" (pv_ix (pv_var 4) pv_int) T.g_isinstance T.g_str))) (pbw_or1 (pb_cmp (od_ne hr.units) (pv_ix (pv_var 4) pv_int) (pv_ix (pv_var 4) pv_int) (nomark _))))) (psv_one (psv_ret [] pv_bl)) psv_nil)) (psv_one (psv_if [] (pb_w (pbw_or (pb_not (pb_truth (pv_isi "int" (pv_ix (pv_var 4) pv_int) T.g_isinstance T.g_int))) (pbw_or (pb_cmp (od_ne hr.units) (pv_isi "bool" (pv_ix (pv_var 4) pv_int) T.g_isinstance T.g_bool) (pv_isi "bool" (pv_ix (pv_var 4) pv_int) T.g_isinstance T.g_bool) (nomark _)) (pbw_or1 (pb_cmp (od_ne hr.units) (pv_ix (pv_var 4) pv_int) (pv_ix (pv_var 4) pv_int) (nomark _)))))) (psv_one (psv_ret [] pv_bl)) psv_nil)))))))))))
      (psv_one (psv_ret [] pv_bl))))
theorem sc__law_neighbours : FnScope N__law_neighbours ["table", "digit"] (defScope s__law_neighbours) := ⟨rfl, rfl, rfl, by decide +kernel, rfl, by decide +kernel, by decide +kernel⟩
theorem ok__law_neighbours {f : Addr} {fd : FuncData} (T : Glob K mg)  (F : FnP K "_law_neighbours" s__law_neighbours f fd) (hm : mg "_law_neighbours" = some (.ref f)) (hb : L2.Binds K fd ["table", "digit"] []) : Def P w K mg base "_law_neighbours" 1 2 r__law_neighbours := def_okD (ps := ["table", "digit"]) (body := m__law_neighbours) F sc__law_neighbours hm hb fun cdv A outer s H E hr =>
    (psv_cons (psv_if [] (pb_cmp (od_eq hr.units) (pv_cb cd_len T.g_len (pl_cons (pv_var 0) pl_nil)) pv_int (nomark _)) (psv_one (psv_ret [] (pv_of_pf (pf_lst (pl_cons (pv_tup (pl_cons (pv_tup (pl_cons (pv_bin od_mod (pv_cty cd_int T.g_int (pl_cons (pv_var 1) pl_nil)) pv_int) (pl_cons pv_int pl_nil))) pl_nil)) pl_nil))))) psv_nil)
      (psv_cons (psv_set [] 2 sc__law_neighbours.nd (pv_bin od_mod (pv_cty cd_int T.g_int (pl_cons (pv_var 1) pl_nil)) (pv_cb cd_len T.g_len (pl_cons (pv_var 0) pl_nil))))
      (psv_cons (psv_set [] 3 sc__law_neighbours.nd (pv_ix (pv_var 0) (pv_var 2)))
      (psv_one (psv_ret [] (pv_of_pf (pf_lst (pl_cons (pv_bin od_add (pv_slice (pv_var 0) pov_none (pov_some (pv_var 2))) (pv_slice (pv_var 0) (pov_some (pv_bin od_add (pv_var 2) pv_int)) pov_none)) (pl_cons (pv_bin od_add (pv_bin od_add (pv_slice (pv_var 0) pov_none (pov_some (pv_var 2))) (pv_tup (pl_cons (pv_tup (pl_cons (pv_ix (pv_var 3) pv_int) (pl_cons (pv_bin od_mod (pv_cty cd_int T.g_int (pl_cons (pv_bin od_add (pv_ix (pv_var 3) pv_int) pv_int) pl_nil)) pv_int) pl_nil))) pl_nil))) (pv_slice (pv_var 0) (pov_some (pv_bin od_add (pv_var 2) pv_int)) pov_none)) pl_nil)))))))))
theorem sc__law_entries : FnScope N__law_entries ["number"] (defScope s__law_entries) := ⟨rfl, rfl, rfl, by decide +kernel, rfl, by decide +kernel, by decide +kernel⟩
theorem ok__law_entries {f : Addr} {fd : FuncData} (T : Glob K mg)  (F : FnP K "_law_entries" s__law_entries f fd) (hm : mg "_law_entries" = some (.ref f)) (hb : L2.Binds K fd ["number"] []) : Def P w K mg base "_law_entries" 1 1 r__law_entries := def_okD (ps := ["number"]) (body := m__law_entries) F sc__law_entries hm hb fun cdv A outer s H E hr =>
    (psv_cons (psv_setO [] 1 sc__law_entries.nd (pf_lst pl_nil))
      (psv_cons (psv_set [] 2 sc__law_entries.nd pv_int)
      (psv_cons (psv_set [] 3 sc__law_entries.nd (pv_var 0))
      (psv_cons (psv_forR [] (pir_range1 T.g_range (pl_cons (pv_bits (pv_var 0)) pl_nil)) (pt_name 4 sc__law_entries.nd) (psv_cons (psv_if [] (pb_cmp (od_eq hr.units) (pv_bin od_and (pv_var 3) pv_int) pv_int (nomark _)) (psv_cons (psv_app [] 1 (pv_var 2))
      (psv_one (psv_set [] 2 sc__law_entries.nd pv_int))) (psv_one (psv_set [] 2 sc__law_entries.nd (pv_bin od_add (pv_var 2) pv_int))))
      (psv_one (psv_set [] 3 sc__law_entries.nd (pv_bin od_shr (pv_var 3) pv_int)))))
      (psv_one (psv_retO 1))))))
theorem sc__law_due_table : FnScope N__law_due_table ["number"] (defScope s__law_due_table) := ⟨rfl, rfl, rfl, by decide +kernel, rfl, by decide +kernel, by decide +kernel⟩
theorem ok__law_due_table {f : Addr} {fd : FuncData} (T : Glob K mg) (D__law_entries : Def P w K mg base "_law_entries" 1 1 r__law_entries) (F : FnP K "_law_due_table" s__law_due_table f fd) (hm : mg "_law_due_table" = some (.ref f)) (hb : L2.Binds K fd ["number"] []) : Def P w K mg base "_law_due_table" 2 1 r__law_due_table := def_okD (ps := ["number"]) (body := m__law_due_table) F sc__law_due_table hm hb fun cdv A outer s H E hr =>
    (psv_cons (psv_set [] 1 sc__law_due_table.nd (pv_call D__law_entries hr (pl_cons (pv_var 0) pl_nil)))
      (psv_cons (psv_if [] (pb_w (pbw_and (pb_cmp od_gt (pv_cb cd_len T.g_len (pl_cons (pv_var 1) pl_nil)) pv_int (nomark _)) (pbw_and1 (pb_cmp (od_eq hr.units) (pv_ix (pv_var 1) (pv_neg pv_int)) pv_int (nomark _))))) (psv_one (psv_ret [] pv_non)) psv_nil)
      (psv_one (psv_ret [] (pv_cty cd_tuple T.g_tuple (pl_cons (pv_of_pf (pf_lc (x := "k") 2 sc__law_due_table.nd (piv_of_pir (pir_range1 T.g_range (pl_cons (pv_cb cd_len T.g_len (pl_cons (pv_var 1) pl_nil)) pl_nil))) (show blkC N__law_due_table (defScope s__law_due_table) _ [("k", 2)] = true by decide +kernel) (fun _ _ _ _ _ => pg_name (i := 2) sc__law_due_table.nd rfl (Or.inl rfl)) (fun _ _ _ _ _ => (ptv_one (pb_cmp od_gt (pv_ix (pv_var 1) (pv_var 2)) pv_int (nomark _)))) (fun _ _ _ _ _ => (pv_tup (pl_cons (pv_var 2) (pl_cons (pv_bin od_sub (pv_ix (pv_var 1) (pv_var 2)) pv_int) pl_nil)))))) pl_nil))))))
theorem sc__law_fit : FnScope N__law_fit ["table"] (defScope s__law_fit) := ⟨rfl, rfl, rfl, by decide +kernel, rfl, by decide +kernel, by decide +kernel⟩
theorem ok__law_fit {f : Addr} {fd : FuncData} (T : Glob K mg)  (F : FnP K "_law_fit" s__law_fit f fd) (hm : mg "_law_fit" = some (.ref f)) (hb : L2.Binds K fd ["table"] []) : Def P w K mg base "_law_fit" 1 1 r__law_fit := def_okD (ps := ["table"]) (body := m__law_fit) F sc__law_fit hm hb fun cdv A outer s H E hr =>
    (psv_cons (psv_if [] (pb_w (pbw_or (pb_cmp od_gt (pv_cb cd_len T.g_len (pl_cons (pv_var 0) pl_nil)) pv_int (nomark _)) (pbw_or1 (pb_w (pbw_and (pb_cmp od_gt (pv_cb cd_len T.g_len (pl_cons (pv_var 0) pl_nil)) pv_int (nomark _)) (pbw_and1 (pb_cmp od_gt (pv_ix (pv_ix (pv_var 0) (pv_neg pv_int)) pv_int) pv_int (nomark _)))))))) (psv_one (psv_ret [] pv_bl)) psv_nil)
      (psv_one (psv_ret [] (pv_cmp od_le (pv_cb cd_maxL T.g_max (pl_cons (pv_bin od_add (pv_of_pf (pf_lst (pl_cons pv_int pl_nil))) (pv_of_pf (pf_lc (x := "pair") 1 sc__law_fit.nd (piv_seq (pv_var 0)) (show blkC N__law_fit (defScope s__law_fit) _ [("pair", 1)] = true by decide +kernel) (fun _ _ _ _ _ => pg_name (i := 1) sc__law_fit.nd rfl (Or.inl rfl)) (fun _ _ _ _ _ => ptv_nil) (fun _ _ _ _ _ => (pv_ix (pv_var 1) pv_int))))) pl_nil)) pv_int (nomark _)))))
theorem sc_row_number : FnScope N_row_number ["values"] (defScope s_row_number) := ⟨rfl, rfl, rfl, by decide +kernel, rfl, by decide +kernel, by decide +kernel⟩
theorem ok_row_number {f : Addr} {fd : FuncData} (T : Glob K mg)  (F : FnP K "row_number" s_row_number f fd) (hm : mg "row_number" = some (.ref f)) (hb : L2.Binds K fd ["values"] []) : Def P w K mg base "row_number" 1 1 r_row_number := def_okD (ps := ["values"]) (body := m_row_number) F sc_row_number hm hb fun cdv A outer s H E hr =>
    (psv_cons (psv_set [] 1 sc_row_number.nd pv_int)
      (psv_cons (psv_set [] 2 sc_row_number.nd pv_int)
      (psv_cons (psv_for [] (piv_seq (pv_var 0)) (pt_name 3 sc_row_number.nd) (psv_cons (psv_aug od_iadd [] 2 sc_row_number.nd (pv_var 3))
      (psv_cons (psv_aug od_iadd [] 1 sc_row_number.nd (pv_bin od_shl pv_int (pv_var 2)))
      (psv_one (psv_aug od_iadd [] 2 sc_row_number.nd pv_int)))))
      (psv_one (psv_ret [] (pv_var 1))))))
theorem sc_table_number : FnScope N_table_number ["table"] (defScope s_table_number) := ⟨rfl, rfl, rfl, by decide +kernel, rfl, by decide +kernel, by decide +kernel⟩
theorem ok_table_number {f : Addr} {fd : FuncData} (T : Glob K mg) (D_row_number : Def P w K mg base "row_number" 1 1 r_row_number) (F : FnP K "table_number" s_table_number f fd) (hm : mg "table_number" = some (.ref f)) (hb : L2.Binds K fd ["table"] []) : Def P w K mg base "table_number" 2 1 r_table_number := def_okD (ps := ["table"]) (body := m_table_number) F sc_table_number hm hb fun cdv A outer s H E hr =>
    (psv_cons (psv_setO [] 1 sc_table_number.nd (pf_lst pl_nil))
      (psv_cons (psv_for [] (piv_seq (pv_var 0)) (pt_tup 2 (pts_cons1 (pt_name 2 sc_table_number.nd) (pts_cons1 (pt_name 3 sc_table_number.nd) pts_nil1))) (psv_cons (psv_while [1] (pb_cmp od_lt (pv_cb cd_len T.g_len (pl_cons (pv_var 1) pl_nil)) (pv_var 2) (nomark _)) (psv_one (psv_app [] 1 pv_int)))
      (psv_one (psv_app [] 1 (pv_bin od_add (pv_var 3) pv_int)))))
      (psv_one (psv_ret [1] (pv_call D_row_number hr (pl_cons (pv_var 1) pl_nil))))))
theorem sc_lowest_zeros : FnScope N_lowest_zeros ["number"] (defScope s_lowest_zeros) := ⟨rfl, rfl, rfl, by decide +kernel, rfl, by decide +kernel, by decide +kernel⟩
theorem ok_lowest_zeros {f : Addr} {fd : FuncData} (T : Glob K mg)  (F : FnP K "lowest_zeros" s_lowest_zeros f fd) (hm : mg "lowest_zeros" = some (.ref f)) (hb : L2.Binds K fd ["number"] []) : Def P w K mg base "lowest_zeros" 1 1 r_lowest_zeros := def_okD (ps := ["number"]) (body := m_lowest_zeros) F sc_lowest_zeros hm hb fun cdv A outer s H E hr =>
    (psv_one (psv_ret [] (pv_bin od_sub (pv_bits (pv_bin od_and (pv_var 0) (pv_neg (pv_var 0)))) pv_int)))
theorem sc_row_values : FnScope N_row_values ["number"] (defScope s_row_values) := ⟨rfl, rfl, rfl, by decide +kernel, rfl, by decide +kernel, by decide +kernel⟩
theorem ok_row_values {f : Addr} {fd : FuncData} (T : Glob K mg) (D_lowest_zeros : Def P w K mg base "lowest_zeros" 1 1 r_lowest_zeros) (F : FnP K "row_values" s_row_values f fd) (hm : mg "row_values" = some (.ref f)) (hb : L2.Binds K fd ["number"] []) : Def P w K mg base "row_values" 2 1 r_row_values := def_okD (ps := ["number"]) (body := m_row_values) F sc_row_values hm hb fun cdv A outer s H E hr =>
    (psv_cons (psv_setO [] 1 sc_row_values.nd (pf_lst pl_nil))
      (psv_cons (psv_set [] 2 sc_row_values.nd (pv_var 0))
      (psv_cons (psv_while [] (pb_cmp od_gt (pv_var 2) pv_int (nomark _)) (psv_cons (psv_set [] 3 sc_row_values.nd (pv_call D_lowest_zeros hr (pl_cons (pv_var 2) pl_nil)))
      (psv_cons (psv_app [] 1 (pv_var 3))
      (psv_one (psv_set [] 2 sc_row_values.nd (pv_bin od_shr (pv_var 2) (pv_bin od_add (pv_var 3) pv_int)))))))
      (psv_one (psv_ret [1] (pv_cty cd_tuple T.g_tuple (pl_cons (pv_var 1) pl_nil)))))))
theorem sc_table_of : FnScope N_table_of ["number"] (defScope s_table_of) := ⟨rfl, rfl, rfl, by decide +kernel, rfl, by decide +kernel, by decide +kernel⟩
theorem ok_table_of {f : Addr} {fd : FuncData} (T : Glob K mg) (D_row_values : Def P w K mg base "row_values" 2 1 r_row_values) (F : FnP K "table_of" s_table_of f fd) (hm : mg "table_of" = some (.ref f)) (hb : L2.Binds K fd ["number"] []) : Def P w K mg base "table_of" 3 1 r_table_of := def_okD (ps := ["number"]) (body := m_table_of) F sc_table_of hm hb fun cdv A outer s H E hr =>
    (psv_cons (psv_set [] 1 sc_table_of.nd (pv_call D_row_values hr (pl_cons (pv_var 0) pl_nil)))
      (psv_cons (psv_if [] (pb_w (pbw_and (pb_truth (pv_var 1)) (pbw_and1 (pb_cmp (od_eq hr.units) (pv_ix (pv_var 1) (pv_neg pv_int)) pv_int (nomark _))))) (psv_one (psv_ret [] pv_non)) psv_nil)
      (psv_one (psv_ret [] (pv_cty cd_tuple T.g_tuple (pl_cons (pv_of_pf (pf_lcG  [("place", 2), ("value", 3)] (gBoth K 2 (gCons (gName 2) (gCons (gName 3) gNil))) (tgd_tup (tgds_cons (tgd_name 2) (tgds_cons (tgd_name 3) tgds_nil))) sc_table_of.nd (piv_enum (pv_var 1) T.g_enumerate) (show blkC N_table_of (defScope s_table_of) _ [("place", 2), ("value", 3)] = true by decide +kernel) (fun _ _ _ _ _ => pg_both rfl (pgs_cons (pg_name (i := 2) sc_table_of.nd rfl (Or.inl rfl)) (pgs_cons (pg_name (i := 3) sc_table_of.nd rfl (Or.inl rfl)) pgs_nil))) (fun _ _ _ _ _ => (ptv_one (pb_cmp od_gt (pv_var 3) pv_int (nomark _)))) (fun _ _ _ _ _ => (pv_tup (pl_cons (pv_var 2) (pl_cons (pv_bin od_sub (pv_var 3) pv_int) pl_nil)))))) pl_nil))))))
theorem sc__law_right_number : FnScope N__law_right_number ["number"] (defScope s__law_right_number) := ⟨rfl, rfl, rfl, by decide +kernel, rfl, by decide +kernel, by decide +kernel⟩
theorem ok__law_right_number {f : Addr} {fd : FuncData} (T : Glob K mg) (D__law_due_table : Def P w K mg base "_law_due_table" 2 1 r__law_due_table) (D__law_fit : Def P w K mg base "_law_fit" 1 1 r__law_fit) (D__law_is : Def P w K mg base "_law_is" 1 2 r__law_is) (D_table_number : Def P w K mg base "table_number" 2 1 r_table_number) (D_table_of : Def P w K mg base "table_of" 3 1 r_table_of) (F : FnP K "_law_right_number" s__law_right_number f fd) (hm : mg "_law_right_number" = some (.ref f)) (hb : L2.Binds K fd ["number"] []) : Def P w K mg base "_law_right_number" 4 1 r__law_right_number := def_okD (ps := ["number"]) (body := m__law_right_number) F sc__law_right_number hm hb fun cdv A outer s H E hr =>
    (psv_cons (psv_set [] 1 sc__law_right_number.nd (pv_call D__law_due_table hr (pl_cons (pv_var 0) pl_nil)))
      (psv_cons (psv_set [] 2 sc__law_right_number.nd (pv_call D_table_of hr (pl_cons (pv_var 0) pl_nil)))
      (psv_cons (psv_if [] (pb_cmp od_is (pv_var 1) pv_non (nomark _)) (psv_one (psv_ret [] (pv_cmp od_is (pv_var 2) pv_non (nomark _)))) psv_nil)
      (psv_cons (psv_if [] (pb_not (pb_truth (pv_call D__law_is hr (pl_cons (pv_var 2) (pl_cons (pv_var 1) pl_nil))))) (psv_one (psv_ret [] pv_bl)) psv_nil)
      (psv_one (psv_ret [] (pv_or (pv_not (pv_call D__law_fit hr (pl_cons (pv_var 1) pl_nil))) (pv_one (pv_call D__law_is hr (pl_cons (pv_call D_table_number hr (pl_cons (pv_var 1) pl_nil)) (pl_cons (pv_var 0) pl_nil)))))))))))
theorem sc__law_row_number : FnScope N__law_row_number ["values"] (defScope s__law_row_number) := ⟨rfl, rfl, rfl, by decide +kernel, rfl, by decide +kernel, by decide +kernel⟩
theorem ok__law_row_number {f : Addr} {fd : FuncData} (T : Glob K mg)  (F : FnP K "_law_row_number" s__law_row_number f fd) (hm : mg "_law_row_number" = some (.ref f)) (hb : L2.Binds K fd ["values"] []) : Def P w K mg base "_law_row_number" 1 1 r__law_row_number := def_okD (ps := ["values"]) (body := m__law_row_number) F sc__law_row_number hm hb fun cdv A outer s H E hr =>
    (psv_cons (psv_set [] 1 sc__law_row_number.nd pv_int)
      (psv_cons (psv_set [] 2 sc__law_row_number.nd pv_int)
      (psv_cons (psv_for [] (piv_seq (pv_var 0)) (pt_name 3 sc__law_row_number.nd) (psv_cons (psv_set [] 2 sc__law_row_number.nd (pv_bin od_add (pv_var 2) (pv_var 3)))
      (psv_cons (psv_set [] 1 sc__law_row_number.nd (pv_bin od_add (pv_var 1) (pv_bin od_shl pv_int (pv_var 2))))
      (psv_one (psv_set [] 2 sc__law_row_number.nd (pv_bin od_add (pv_var 2) pv_int))))))
      (psv_one (psv_ret [] (pv_var 1))))))
theorem sc__law_table_number : FnScope N__law_table_number ["table"] (defScope s__law_table_number) := ⟨rfl, rfl, rfl, by decide +kernel, rfl, by decide +kernel, by decide +kernel⟩
theorem ok__law_table_number {f : Addr} {fd : FuncData} (T : Glob K mg) (D__law_row_number : Def P w K mg base "_law_row_number" 1 1 r__law_row_number) (F : FnP K "_law_table_number" s__law_table_number f fd) (hm : mg "_law_table_number" = some (.ref f)) (hb : L2.Binds K fd ["table"] []) : Def P w K mg base "_law_table_number" 2 1 r__law_table_number := def_okD (ps := ["table"]) (body := m__law_table_number) F sc__law_table_number hm hb fun cdv A outer s H E hr =>
    (psv_cons (psv_set [] 1 sc__law_table_number.nd (pv_of_pf (pf_lst pl_nil)))
      (psv_cons (psv_for [] (piv_seq (pv_var 0)) (pt_name 2 sc__law_table_number.nd) (psv_one (psv_set [] 1 sc__law_table_number.nd (pv_bin od_add (pv_bin od_add (pv_var 1) (pv_of_pf (pf_rep (pf_lst (pl_cons pv_int pl_nil)) (pv_bin od_sub (pv_ix (pv_var 2) pv_int) (pv_cb cd_len T.g_len (pl_cons (pv_var 1) pl_nil)))))) (pv_of_pf (pf_lst (pl_cons (pv_bin od_add (pv_ix (pv_var 2) pv_int) pv_int) pl_nil)))))))
      (psv_one (psv_ret [] (pv_call D__law_row_number hr (pl_cons (pv_var 1) pl_nil))))))
theorem sc_row_entry : FnScope N_row_entry ["number", "index"] (defScope s_row_entry) := ⟨rfl, rfl, rfl, by decide +kernel, rfl, by decide +kernel, by decide +kernel⟩
theorem ok_row_entry {f : Addr} {fd : FuncData} (T : Glob K mg) (D_lowest_zeros : Def P w K mg base "lowest_zeros" 1 1 r_lowest_zeros) (F : FnP K "row_entry" s_row_entry f fd) (hm : mg "row_entry" = some (.ref f)) (hb : L2.Binds K fd ["number", "index"] []) : Def P w K mg base "row_entry" 2 2 r_row_entry := def_okD (ps := ["number", "index"]) (body := m_row_entry) F sc_row_entry hm hb fun cdv A outer s H E hr =>
    (psv_cons (psv_set [] 2 sc_row_entry.nd (pv_var 0))
      (psv_cons (psv_forR [] (pir_range1 T.g_range (pl_cons (pv_cb cd_min2 T.g_min (pl_cons (pv_var 1) (pl_cons (pv_bits (pv_var 0)) pl_nil))) pl_nil)) (pt_name 3 sc_row_entry.nd) (psv_cons (psv_if [] (pb_cmp (od_eq hr.units) (pv_var 2) pv_int (nomark _)) (psv_one (psv_ret [] pv_int)) psv_nil)
      (psv_one (psv_set [] 2 sc_row_entry.nd (pv_bin od_shr (pv_var 2) (pv_bin od_add (pv_call D_lowest_zeros hr (pl_cons (pv_var 2) pl_nil)) pv_int))))))
      (psv_cons (psv_if [] (pb_cmp (od_eq hr.units) (pv_var 2) pv_int (nomark _)) (psv_one (psv_ret [] pv_int)) psv_nil)
      (psv_one (psv_ret [] (pv_call D_lowest_zeros hr (pl_cons (pv_var 2) pl_nil)))))))
theorem sc__law_right_row : FnScope N__law_right_row ["table", "digit"] (defScope s__law_right_row) := ⟨rfl, rfl, rfl, by decide +kernel, rfl, by decide +kernel, by decide +kernel⟩
theorem ok__law_right_row {f : Addr} {fd : FuncData} (T : Glob K mg) (D__law_entries : Def P w K mg base "_law_entries" 1 1 r__law_entries) (D__law_is : Def P w K mg base "_law_is" 1 2 r__law_is) (D__law_table_number : Def P w K mg base "_law_table_number" 2 1 r__law_table_number) (D_row_entry : Def P w K mg base "row_entry" 2 2 r_row_entry) (D_row_values : Def P w K mg base "row_values" 2 1 r_row_values) (F : FnP K "_law_right_row" s__law_right_row f fd) (hm : mg "_law_right_row" = some (.ref f)) (hb : L2.Binds K fd ["table", "digit"] []) : Def P w K mg base "_law_right_row" 3 2 r__law_right_row := def_okD (ps := ["table", "digit"]) (body := m__law_right_row) F sc__law_right_row hm hb fun cdv A outer s H E hr =>
    (psv_cons (psv_set [] 2 sc__law_right_row.nd (pv_call D__law_table_number hr (pl_cons (pv_var 0) pl_nil)))
      (psv_cons (psv_set [] 3 sc__law_right_row.nd (pv_call D__law_entries hr (pl_cons (pv_var 2) pl_nil)))
      (psv_cons (psv_if [] (pb_not (pb_truth (pv_call D__law_is hr (pl_cons (pv_call D_row_values hr (pl_cons (pv_var 2) pl_nil)) (pl_cons (pv_cty cd_tuple T.g_tuple (pl_cons (pv_var 3) pl_nil)) pl_nil))))) (psv_one (psv_ret [] pv_bl)) psv_nil)
      (psv_cons (psv_for [] (piv_seq (pv_bin od_add (pv_of_pf (pf_lst (pl_cons (pv_bin od_mod (pv_cty cd_int T.g_int (pl_cons (pv_var 1) pl_nil)) pv_int) (pl_cons (pv_cb cd_len T.g_len (pl_cons (pv_var 3) pl_nil)) (pl_cons pv_int pl_nil))))) (pv_of_pf (pf_lc (x := "pair") 6 sc__law_right_row.nd (piv_seq (pv_slice (pv_var 0) pov_none (pov_some pv_int))) (show blkC N__law_right_row (defScope s__law_right_row) _ [("pair", 6)] = true by decide +kernel) (fun _ _ _ _ _ => pg_name (i := 6) sc__law_right_row.nd rfl (Or.inl rfl)) (fun _ _ _ _ _ => ptv_nil) (fun _ _ _ _ _ => (pv_ix (pv_var 6) pv_int)))))) (pt_name 4 sc__law_right_row.nd) (psv_cons (psv_set [] 5 sc__law_right_row.nd pv_int)
      (psv_cons (psv_if [] (pb_cmp od_lt (pv_var 4) (pv_cb cd_len T.g_len (pl_cons (pv_var 3) pl_nil)) (nomark _)) (psv_one (psv_set [] 5 sc__law_right_row.nd (pv_ix (pv_var 3) (pv_var 4)))) psv_nil)
      (psv_one (psv_if [] (pb_not (pb_truth (pv_call D__law_is hr (pl_cons (pv_call D_row_entry hr (pl_cons (pv_var 2) (pl_cons (pv_var 4) pl_nil))) (pl_cons (pv_var 5) pl_nil))))) (psv_one (psv_ret [] pv_bl)) psv_nil)))))
      (psv_one (psv_ret [] pv_bl))))))
theorem sc__law_right_table : FnScope N__law_right_table ["table"] (defScope s__law_right_table) := ⟨rfl, rfl, rfl, by decide +kernel, rfl, by decide +kernel, by decide +kernel⟩
theorem ok__law_right_table {f : Addr} {fd : FuncData} (T : Glob K mg) (D__law_is : Def P w K mg base "_law_is" 1 2 r__law_is) (D__law_table_number : Def P w K mg base "_law_table_number" 2 1 r__law_table_number) (D_table_number : Def P w K mg base "table_number" 2 1 r_table_number) (D_table_of : Def P w K mg base "table_of" 3 1 r_table_of) (F : FnP K "_law_right_table" s__law_right_table f fd) (hm : mg "_law_right_table" = some (.ref f)) (hb : L2.Binds K fd ["table"] []) : Def P w K mg base "_law_right_table" 4 1 r__law_right_table := def_okD (ps := ["table"]) (body := m__law_right_table) F sc__law_right_table hm hb fun cdv A outer s H E hr =>
    (psv_cons (psv_set [] 1 sc__law_right_table.nd (pv_call D__law_table_number hr (pl_cons (pv_var 0) pl_nil)))
      (psv_cons (psv_lc (x := "pair") [] 2 3 sc__law_right_table.nd (piv_seq (pv_var 0)) (show blkC N__law_right_table (defScope s__law_right_table) _ [("pair", 3)] = true by decide +kernel) (fun _ _ _ _ _ => pg_name (i := 3) sc__law_right_table.nd rfl (Or.inl rfl)) (fun _ _ _ _ _ => ptv_nil) (fun _ _ _ _ _ => (pv_of_pf (pf_cty cf_list T.g_list (pl_cons (pv_var 3) pl_nil)))) (sw_true rfl rfl rfl (by decide +kernel)))
      (psv_cons (psv_if [] (pb_w (pbw_or (pb_not (pb_truth (pv_call D__law_is hr (pl_cons (pv_call D_table_number hr (pl_cons (pv_var 2) pl_nil)) (pl_cons (pv_var 1) pl_nil))))) (pbw_or1 (pb_cmp (od_ne hr.units) (pv_var 2) (pv_of_pf (pf_lc (x := "pair") 3 sc__law_right_table.nd (piv_seq (pv_var 0)) (show blkC N__law_right_table (defScope s__law_right_table) _ [("pair", 3)] = true by decide +kernel) (fun _ _ _ _ _ => pg_name (i := 3) sc__law_right_table.nd rfl (Or.inl rfl)) (fun _ _ _ _ _ => ptv_nil) (fun _ _ _ _ _ => (pv_of_pf (pf_cty cf_list T.g_list (pl_cons (pv_var 3) pl_nil)))))) (nomark _))))) (psv_one (psv_ret [] pv_bl)) psv_nil)
      (psv_one (psv_ret [] (pv_and (pv_call D__law_is hr (pl_cons (pv_call D_table_number hr (pl_cons (pv_var 0) pl_nil)) (pl_cons (pv_var 1) pl_nil))) (pv_one (pv_call D__law_is hr (pl_cons (pv_call D_table_of hr (pl_cons (pv_var 1) pl_nil)) (pl_cons (pv_var 0) pl_nil))))))))))
theorem sc_law : FnScope N_law ["script"] (defScope s_law) := ⟨rfl, rfl, rfl, by decide +kernel, rfl, by decide +kernel, by decide +kernel⟩
theorem ok_law {f : Addr} {fd : FuncData} (T : Glob K mg) (D__law_cell : Def P w K mg base "_law_cell" 1 2 r__law_cell) (D__law_digits : Def P w K mg base "_law_digits" 1 2 r__law_digits) (D__law_drawn_table : Def P w K mg base "_law_drawn_table" 2 1 r__law_drawn_table) (D__law_great : Def P w K mg base "_law_great" 1 2 r__law_great) (D__law_is : Def P w K mg base "_law_is" 1 2 r__law_is) (D__law_neighbours : Def P w K mg base "_law_neighbours" 1 2 r__law_neighbours) (D__law_right_number : Def P w K mg base "_law_right_number" 4 1 r__law_right_number) (D__law_right_row : Def P w K mg base "_law_right_row" 3 2 r__law_right_row) (D__law_right_table : Def P w K mg base "_law_right_table" 4 1 r__law_right_table) (D__law_row_number : Def P w K mg base "_law_row_number" 1 1 r__law_row_number) (D_table_number : Def P w K mg base "table_number" 2 1 r_table_number) (D_table_of : Def P w K mg base "table_of" 3 1 r_table_of) (F : FnP K "law" s_law f fd) : FnOk P w K mg base CX0 5 f fd ["script"] (spM K 1 r_law) := fn_okD (ps := ["script"]) (body := m_law) F sc_law fun cdv A outer s H E hr =>
    (psv_cons (psv_set [] 1 sc_law.nd (pv_call D__law_drawn_table hr (pl_cons (pv_call D__law_cell hr (pl_cons (pv_var 0) (pl_cons pv_int pl_nil))) pl_nil)))
      (psv_cons (psv_set [] 2 sc_law.nd (pv_call D__law_digits hr (pl_cons (pv_call D__law_cell hr (pl_cons (pv_var 0) (pl_cons pv_int pl_nil))) (pl_cons (pv_bin od_add (pv_of_pf (pf_lst (pl_cons pv_int (pl_cons pv_int (pl_cons pv_int (pl_cons pv_int (pl_cons pv_int (pl_cons pv_int (pl_cons pv_int pl_nil))))))))) (pv_of_pf (pf_rep (pf_lst (pl_cons pv_int pl_nil)) pv_int))) pl_nil))))
      (psv_cons (psv_if [] (pb_w (pbw_or (pb_not (pb_truth (pv_call D__law_right_table hr (pl_cons (pv_var 1) pl_nil)))) (pbw_or1 (pb_not (pb_truth (pv_call D__law_right_row hr (pl_cons (pv_var 1) (pl_cons (pv_ix (pv_var 2) pv_int) pl_nil)))))))) (psv_one (psv_ret [] pv_bl)) psv_nil)
      (psv_cons (psv_for [] (piv_seq (pv_call D__law_neighbours hr (pl_cons (pv_var 1) (pl_cons (pv_ix (pv_var 2) pv_int) pl_nil)))) (pt_name 3 sc_law.nd) (psv_one (psv_if [] (pb_not (pb_truth (pv_call D__law_right_table hr (pl_cons (pv_var 3) pl_nil)))) (psv_one (psv_ret [] pv_bl)) psv_nil)))
      (psv_cons (psv_set [] 4 sc_law.nd (pv_ix (pv_of_pf (pf_lst (pl_cons pv_int (pl_cons pv_int (pl_cons pv_int (pl_cons pv_int pl_nil)))))) (pv_ix (pv_var 2) pv_int)))
      (psv_cons (psv_lc (x := "k") [] 5 8 sc_law.nd (piv_of_pir (pir_range1 T.g_range (pl_cons (pv_ix (pv_var 2) pv_int) pl_nil))) (show blkC N_law (defScope s_law) _ [("k", 8)] = true by decide +kernel) (fun _ _ _ _ _ => pg_name (i := 8) sc_law.nd rfl (Or.inl rfl)) (fun _ _ _ _ _ => ptv_nil) (fun _ _ _ _ _ => (pv_bin od_mod (pv_cty cd_int T.g_int (pl_cons (pv_ix (pv_var 2) (pv_bin od_add pv_int (pv_var 8))) pl_nil)) (pv_var 4))) (sw_true rfl rfl rfl (by decide +kernel)))
      (psv_cons (psv_setO [] 6 sc_law.nd (pf_lst (pl_cons (pv_call D__law_row_number hr (pl_cons (pv_bin od_add (pv_var 5) (pv_of_pf (pf_lst (pl_cons (pv_bin od_add (pv_ix (pv_var 2) pv_int) pv_int) pl_nil)))) pl_nil)) (pl_cons (pv_call D__law_row_number hr (pl_cons (pv_bin od_add (pv_var 5) (pv_of_pf (pf_lst (pl_cons (pv_bin od_add (pv_ix (pv_var 2) pv_int) pv_int) (pl_cons pv_int pl_nil))))) pl_nil)) (pl_cons (pv_ix (pv_var 2) pv_int) pl_nil)))))
      (psv_cons (psv_app [] 6 (pv_bin od_mod (pv_cty cd_int T.g_int (pl_cons (pv_call D__law_cell hr (pl_cons (pv_var 0) (pl_cons pv_int pl_nil))) pl_nil)) (pv_bin od_shl pv_int pv_int)))
      (psv_cons (psv_if [] (pb_cmp (od_eq hr.units) (pv_ix (pv_var 2) pv_int) pv_int (nomark _)) (psv_one (psv_app [] 6 (pv_call D__law_great hr (pl_cons (pv_call D__law_cell hr (pl_cons (pv_var 0) (pl_cons pv_int pl_nil))) (pl_cons (pv_ix (pv_var 2) pv_int) pl_nil))))) psv_nil)
      (psv_cons (psv_for [6] (piv_seq (pv_var 6)) (pt_name 7 sc_law.nd) (psv_one (psv_if [] (pb_not (pb_truth (pv_call D__law_right_number hr (pl_cons (pv_var 7) pl_nil)))) (psv_one (psv_ret [] pv_bl)) psv_nil)))
      (psv_cons (psv_if [6] (pb_w (pbw_or (pb_cmp od_is (pv_call D_table_of hr (pl_cons (pv_ix (pv_var 6) pv_int) pl_nil)) pv_non (nomark _)) (pbw_or (pb_cmp od_isNot (pv_call D_table_of hr (pl_cons (pv_ix (pv_var 6) pv_int) pl_nil)) pv_non (nomark _)) (pbw_or1 (pb_not (pb_truth (pv_call D__law_right_table hr (pl_cons (pv_var 1) pl_nil)))))))) (psv_one (psv_ret [] pv_bl)) psv_nil)
      (psv_one (psv_ret [] (pv_and (pv_call D__law_is hr (pl_cons (pv_call D_table_number hr (pl_cons (pv_tup pl_nil) pl_nil)) (pl_cons pv_int pl_nil))) (pv_and (pv_call D__law_is hr (pl_cons (pv_call D_table_number hr (pl_cons (pv_of_pf (pf_lst pl_nil)) pl_nil)) (pl_cons pv_int pl_nil))) (pv_one (pv_call D__law_is hr (pl_cons (pv_call D_table_of hr (pl_cons pv_int pl_nil)) (pl_cons (pv_tup pl_nil) pl_nil)))))))))))))))))))
end
end LW
set_option Elab.async false
set_option linter.all false
set_option maxRecDepth 100000
set_option maxHeartbeats 4000000
set_option maxHeartbeats 0
namespace LW
open PySem PySem.Spec PyProof.Rows L2 VE
/-! ### the head -/
def fns : List He.DefD := [⟨("_law_cell", none), "_law_cell", "_law_cell", defArgs s__law_cell, defBody s__law_cell, defScope s__law_cell, [], []⟩,
  ⟨("_law_digits", none), "_law_digits", "_law_digits", defArgs s__law_digits, defBody s__law_digits, defScope s__law_digits, [], []⟩,
  ⟨("_law_drawn_table", none), "_law_drawn_table", "_law_drawn_table", defArgs s__law_drawn_table, defBody s__law_drawn_table, defScope s__law_drawn_table, [], []⟩,
  ⟨("_law_great", none), "_law_great", "_law_great", defArgs s__law_great, defBody s__law_great, defScope s__law_great, [], []⟩,
  ⟨("_law_is", none), "_law_is", "_law_is", defArgs s__law_is, defBody s__law_is, defScope s__law_is, [], []⟩,
  ⟨("_law_neighbours", none), "_law_neighbours", "_law_neighbours", defArgs s__law_neighbours, defBody s__law_neighbours, defScope s__law_neighbours, [], []⟩,
  ⟨("_law_entries", none), "_law_entries", "_law_entries", defArgs s__law_entries, defBody s__law_entries, defScope s__law_entries, [], []⟩,
  ⟨("_law_due_table", none), "_law_due_table", "_law_due_table", defArgs s__law_due_table, defBody s__law_due_table, defScope s__law_due_table, [], []⟩,
  ⟨("_law_fit", none), "_law_fit", "_law_fit", defArgs s__law_fit, defBody s__law_fit, defScope s__law_fit, [], []⟩,
  ⟨("row_number", none), "row_number", "row_number", defArgs s_row_number, defBody s_row_number, defScope s_row_number, [], []⟩,
  ⟨("table_number", none), "table_number", "table_number", defArgs s_table_number, defBody s_table_number, defScope s_table_number, [], []⟩,
  ⟨("lowest_zeros", none), "lowest_zeros", "lowest_zeros", defArgs s_lowest_zeros, defBody s_lowest_zeros, defScope s_lowest_zeros, [], []⟩,
  ⟨("row_values", none), "row_values", "row_values", defArgs s_row_values, defBody s_row_values, defScope s_row_values, [], []⟩,
  ⟨("table_of", none), "table_of", "table_of", defArgs s_table_of, defBody s_table_of, defScope s_table_of, [], []⟩,
  ⟨("_law_right_number", none), "_law_right_number", "_law_right_number", defArgs s__law_right_number, defBody s__law_right_number, defScope s__law_right_number, [], []⟩,
  ⟨("_law_row_number", none), "_law_row_number", "_law_row_number", defArgs s__law_row_number, defBody s__law_row_number, defScope s__law_row_number, [], []⟩,
  ⟨("_law_table_number", none), "_law_table_number", "_law_table_number", defArgs s__law_table_number, defBody s__law_table_number, defScope s__law_table_number, [], []⟩,
  ⟨("row_entry", none), "row_entry", "row_entry", defArgs s_row_entry, defBody s_row_entry, defScope s_row_entry, [], []⟩,
  ⟨("_law_right_row", none), "_law_right_row", "_law_right_row", defArgs s__law_right_row, defBody s__law_right_row, defScope s__law_right_row, [], []⟩,
  ⟨("_law_right_table", none), "_law_right_table", "_law_right_table", defArgs s__law_right_table, defBody s__law_right_table, defScope s__law_right_table, [], []⟩,
  ⟨("law", none), "law", "law", defArgs s_law, defBody s_law, defScope s_law, [], []⟩]
def fas : List He.Fa := [.glo "_law_cell", .glo "_law_digits", .glo "_law_drawn_table", .glo "_law_great", .glo "_law_is", .glo "_law_neighbours", .glo "_law_entries", .glo "_law_due_table", .glo "_law_fit", .glo "row_number", .glo "table_number", .glo "lowest_zeros", .glo "row_values", .glo "table_of", .glo "_law_right_number", .glo "_law_row_number", .glo "_law_table_number", .glo "row_entry", .glo "_law_right_row", .glo "_law_right_table", .glo "law", .free "bool", .free "enumerate", .free "int", .free "isinstance", .free "len", .free "list", .free "max", .free "min", .free "range", .free "str", .free "tuple"]
abbrev R : PySem.W.OpenRow := PySem.W.OpenLaw.row PySem.Challenge.rw_onlylength_k67_table_numbers
abbrev hk : PySem.W.Hook := He.hookD 4 fas fns
def ob (s : PySem.W.SharedT) : He.AlD := He.obsDG 4 fas fns (HandSHeadRun.getT s)
theorem ob_eq (s : PySem.W.SharedT) : ob s = hk.obs s.abs := He.obsDG_eq (HandSHeadRun.getT_eq s)
def names0 : List Str := ["row_number", "lowest_zeros", "row_values", "row_entry", "table_number", "table_of", "_law_cell", "_law_digits", "_law_row_number", "_law_is", "_law_table_number", "_law_entries", "_law_due_table", "_law_fit", "_law_drawn_table", "_law_neighbours", "_law_right_table", "_law_right_number", "_law_right_row", "_law_great"]
abbrev names : List Str := names0
theorem run (w : World) : HandSHeadRun.RunEq R (PySem.W.view R.prog [23]) hk ob 1360 names w := by
  intro os
  kernel_rfl
theorem facts {P : Program} {w : World} {K : PySem.W.Frag} {h : Heap} {mg : Str → Option Value} {f : Addr} (X : K.In h) (G : h.Ns mainGlobals mg) (hfa : mg ("law" : Str) = some (.ref f)) (c : He.SaysD fas fns K) :
    ∃ fd : FuncData, (∀ (s : Shared) (v : Value), BindsTo s fd ⟨[v], []⟩ [("script", v)]) ∧ ∀ base : Heap, K.In base → base.Ns mainGlobals mg → FnOk P w K mg base CX0 5 f fd ["script"] (spM K 1 r_law) := by
  have T : Glob K mg := ⟨He.free_ok X G (c.fact 21 (f := .free "bool") rfl), He.free_ok X G (c.fact 22 (f := .free "enumerate") rfl), He.free_ok X G (c.fact 23 (f := .free "int") rfl), He.free_ok X G (c.fact 24 (f := .free "isinstance") rfl), He.free_ok X G (c.fact 25 (f := .free "len") rfl), He.free_ok X G (c.fact 26 (f := .free "list") rfl), He.free_ok X G (c.fact 27 (f := .free "max") rfl), He.free_ok X G (c.fact 28 (f := .free "min") rfl), He.free_ok X G (c.fact 29 (f := .free "range") rfl), He.free_ok X G (c.fact 30 (f := .free "str") rfl), He.free_ok X G (c.fact 31 (f := .free "tuple") rfl)⟩
  obtain ⟨fd__law_cell, F__law_cell⟩ := c.def_ 0 (d := ⟨("_law_cell", none), "_law_cell", "_law_cell", defArgs s__law_cell, defBody s__law_cell, defScope s__law_cell, [], []⟩) rfl
  obtain ⟨fd__law_digits, F__law_digits⟩ := c.def_ 1 (d := ⟨("_law_digits", none), "_law_digits", "_law_digits", defArgs s__law_digits, defBody s__law_digits, defScope s__law_digits, [], []⟩) rfl
  obtain ⟨fd__law_drawn_table, F__law_drawn_table⟩ := c.def_ 2 (d := ⟨("_law_drawn_table", none), "_law_drawn_table", "_law_drawn_table", defArgs s__law_drawn_table, defBody s__law_drawn_table, defScope s__law_drawn_table, [], []⟩) rfl
  obtain ⟨fd__law_great, F__law_great⟩ := c.def_ 3 (d := ⟨("_law_great", none), "_law_great", "_law_great", defArgs s__law_great, defBody s__law_great, defScope s__law_great, [], []⟩) rfl
  obtain ⟨fd__law_is, F__law_is⟩ := c.def_ 4 (d := ⟨("_law_is", none), "_law_is", "_law_is", defArgs s__law_is, defBody s__law_is, defScope s__law_is, [], []⟩) rfl
  obtain ⟨fd__law_neighbours, F__law_neighbours⟩ := c.def_ 5 (d := ⟨("_law_neighbours", none), "_law_neighbours", "_law_neighbours", defArgs s__law_neighbours, defBody s__law_neighbours, defScope s__law_neighbours, [], []⟩) rfl
  obtain ⟨fd__law_entries, F__law_entries⟩ := c.def_ 6 (d := ⟨("_law_entries", none), "_law_entries", "_law_entries", defArgs s__law_entries, defBody s__law_entries, defScope s__law_entries, [], []⟩) rfl
  obtain ⟨fd__law_due_table, F__law_due_table⟩ := c.def_ 7 (d := ⟨("_law_due_table", none), "_law_due_table", "_law_due_table", defArgs s__law_due_table, defBody s__law_due_table, defScope s__law_due_table, [], []⟩) rfl
  obtain ⟨fd__law_fit, F__law_fit⟩ := c.def_ 8 (d := ⟨("_law_fit", none), "_law_fit", "_law_fit", defArgs s__law_fit, defBody s__law_fit, defScope s__law_fit, [], []⟩) rfl
  obtain ⟨fd_row_number, F_row_number⟩ := c.def_ 9 (d := ⟨("row_number", none), "row_number", "row_number", defArgs s_row_number, defBody s_row_number, defScope s_row_number, [], []⟩) rfl
  obtain ⟨fd_table_number, F_table_number⟩ := c.def_ 10 (d := ⟨("table_number", none), "table_number", "table_number", defArgs s_table_number, defBody s_table_number, defScope s_table_number, [], []⟩) rfl
  obtain ⟨fd_lowest_zeros, F_lowest_zeros⟩ := c.def_ 11 (d := ⟨("lowest_zeros", none), "lowest_zeros", "lowest_zeros", defArgs s_lowest_zeros, defBody s_lowest_zeros, defScope s_lowest_zeros, [], []⟩) rfl
  obtain ⟨fd_row_values, F_row_values⟩ := c.def_ 12 (d := ⟨("row_values", none), "row_values", "row_values", defArgs s_row_values, defBody s_row_values, defScope s_row_values, [], []⟩) rfl
  obtain ⟨fd_table_of, F_table_of⟩ := c.def_ 13 (d := ⟨("table_of", none), "table_of", "table_of", defArgs s_table_of, defBody s_table_of, defScope s_table_of, [], []⟩) rfl
  obtain ⟨fd__law_right_number, F__law_right_number⟩ := c.def_ 14 (d := ⟨("_law_right_number", none), "_law_right_number", "_law_right_number", defArgs s__law_right_number, defBody s__law_right_number, defScope s__law_right_number, [], []⟩) rfl
  obtain ⟨fd__law_row_number, F__law_row_number⟩ := c.def_ 15 (d := ⟨("_law_row_number", none), "_law_row_number", "_law_row_number", defArgs s__law_row_number, defBody s__law_row_number, defScope s__law_row_number, [], []⟩) rfl
  obtain ⟨fd__law_table_number, F__law_table_number⟩ := c.def_ 16 (d := ⟨("_law_table_number", none), "_law_table_number", "_law_table_number", defArgs s__law_table_number, defBody s__law_table_number, defScope s__law_table_number, [], []⟩) rfl
  obtain ⟨fd_row_entry, F_row_entry⟩ := c.def_ 17 (d := ⟨("row_entry", none), "row_entry", "row_entry", defArgs s_row_entry, defBody s_row_entry, defScope s_row_entry, [], []⟩) rfl
  obtain ⟨fd__law_right_row, F__law_right_row⟩ := c.def_ 18 (d := ⟨("_law_right_row", none), "_law_right_row", "_law_right_row", defArgs s__law_right_row, defBody s__law_right_row, defScope s__law_right_row, [], []⟩) rfl
  obtain ⟨fd__law_right_table, F__law_right_table⟩ := c.def_ 19 (d := ⟨("_law_right_table", none), "_law_right_table", "_law_right_table", defArgs s__law_right_table, defBody s__law_right_table, defScope s__law_right_table, [], []⟩) rfl
  obtain ⟨fd_law, F_law⟩ := c.def_ 20 (d := ⟨("law", none), "law", "law", defArgs s_law, defBody s_law, defScope s_law, [], []⟩) rfl
  have e := hfa.symm.trans (He.glo_ok X G (c.fact 20 (f := .glo "law") rfl))
  cases e
  have b := FunD.bindsA (ps := ["script"]) F_law fun _ _ _ _ _ _ us hl => match us, hl with | [_], _ => rfl
  refine ⟨fd_law, fun s v => b s [v] rfl, fun base _ _ => ?_⟩
  have D__law_cell : Def P w K mg base "_law_cell" 1 2 r__law_cell := ok__law_cell T  F__law_cell (He.glo_ok X G (c.fact 0 (f := .glo "_law_cell") rfl)) (FunD.bindsN F__law_cell fun _ _ _ _ _ _ us hl => match us, hl with | [_, _], _ => rfl)
  have D__law_digits : Def P w K mg base "_law_digits" 1 2 r__law_digits := ok__law_digits T  F__law_digits (He.glo_ok X G (c.fact 1 (f := .glo "_law_digits") rfl)) (FunD.bindsN F__law_digits fun _ _ _ _ _ _ us hl => match us, hl with | [_, _], _ => rfl)
  have D__law_drawn_table : Def P w K mg base "_law_drawn_table" 2 1 r__law_drawn_table := ok__law_drawn_table T D__law_digits F__law_drawn_table (He.glo_ok X G (c.fact 2 (f := .glo "_law_drawn_table") rfl)) (FunD.bindsN F__law_drawn_table fun _ _ _ _ _ _ us hl => match us, hl with | [_], _ => rfl)
  have D__law_great : Def P w K mg base "_law_great" 1 2 r__law_great := ok__law_great T  F__law_great (He.glo_ok X G (c.fact 3 (f := .glo "_law_great") rfl)) (FunD.bindsN F__law_great fun _ _ _ _ _ _ us hl => match us, hl with | [_, _], _ => rfl)
  have D__law_is : Def P w K mg base "_law_is" 1 2 r__law_is := ok__law_is T  F__law_is (He.glo_ok X G (c.fact 4 (f := .glo "_law_is") rfl)) (FunD.bindsN F__law_is fun _ _ _ _ _ _ us hl => match us, hl with | [_, _], _ => rfl)
  have D__law_neighbours : Def P w K mg base "_law_neighbours" 1 2 r__law_neighbours := ok__law_neighbours T  F__law_neighbours (He.glo_ok X G (c.fact 5 (f := .glo "_law_neighbours") rfl)) (FunD.bindsN F__law_neighbours fun _ _ _ _ _ _ us hl => match us, hl with | [_, _], _ => rfl)
  have D__law_entries : Def P w K mg base "_law_entries" 1 1 r__law_entries := ok__law_entries T  F__law_entries (He.glo_ok X G (c.fact 6 (f := .glo "_law_entries") rfl)) (FunD.bindsN F__law_entries fun _ _ _ _ _ _ us hl => match us, hl with | [_], _ => rfl)
  have D__law_due_table : Def P w K mg base "_law_due_table" 2 1 r__law_due_table := ok__law_due_table T D__law_entries F__law_due_table (He.glo_ok X G (c.fact 7 (f := .glo "_law_due_table") rfl)) (FunD.bindsN F__law_due_table fun _ _ _ _ _ _ us hl => match us, hl with | [_], _ => rfl)
  have D__law_fit : Def P w K mg base "_law_fit" 1 1 r__law_fit := ok__law_fit T  F__law_fit (He.glo_ok X G (c.fact 8 (f := .glo "_law_fit") rfl)) (FunD.bindsN F__law_fit fun _ _ _ _ _ _ us hl => match us, hl with | [_], _ => rfl)
  have D_row_number : Def P w K mg base "row_number" 1 1 r_row_number := ok_row_number T  F_row_number (He.glo_ok X G (c.fact 9 (f := .glo "row_number") rfl)) (FunD.bindsN F_row_number fun _ _ _ _ _ _ us hl => match us, hl with | [_], _ => rfl)
  have D_table_number : Def P w K mg base "table_number" 2 1 r_table_number := ok_table_number T D_row_number F_table_number (He.glo_ok X G (c.fact 10 (f := .glo "table_number") rfl)) (FunD.bindsN F_table_number fun _ _ _ _ _ _ us hl => match us, hl with | [_], _ => rfl)
  have D_lowest_zeros : Def P w K mg base "lowest_zeros" 1 1 r_lowest_zeros := ok_lowest_zeros T  F_lowest_zeros (He.glo_ok X G (c.fact 11 (f := .glo "lowest_zeros") rfl)) (FunD.bindsN F_lowest_zeros fun _ _ _ _ _ _ us hl => match us, hl with | [_], _ => rfl)
  have D_row_values : Def P w K mg base "row_values" 2 1 r_row_values := ok_row_values T D_lowest_zeros F_row_values (He.glo_ok X G (c.fact 12 (f := .glo "row_values") rfl)) (FunD.bindsN F_row_values fun _ _ _ _ _ _ us hl => match us, hl with | [_], _ => rfl)
  have D_table_of : Def P w K mg base "table_of" 3 1 r_table_of := ok_table_of T D_row_values F_table_of (He.glo_ok X G (c.fact 13 (f := .glo "table_of") rfl)) (FunD.bindsN F_table_of fun _ _ _ _ _ _ us hl => match us, hl with | [_], _ => rfl)
  have D__law_right_number : Def P w K mg base "_law_right_number" 4 1 r__law_right_number := ok__law_right_number T D__law_due_table D__law_fit D__law_is D_table_number D_table_of F__law_right_number (He.glo_ok X G (c.fact 14 (f := .glo "_law_right_number") rfl)) (FunD.bindsN F__law_right_number fun _ _ _ _ _ _ us hl => match us, hl with | [_], _ => rfl)
  have D__law_row_number : Def P w K mg base "_law_row_number" 1 1 r__law_row_number := ok__law_row_number T  F__law_row_number (He.glo_ok X G (c.fact 15 (f := .glo "_law_row_number") rfl)) (FunD.bindsN F__law_row_number fun _ _ _ _ _ _ us hl => match us, hl with | [_], _ => rfl)
  have D__law_table_number : Def P w K mg base "_law_table_number" 2 1 r__law_table_number := ok__law_table_number T D__law_row_number F__law_table_number (He.glo_ok X G (c.fact 16 (f := .glo "_law_table_number") rfl)) (FunD.bindsN F__law_table_number fun _ _ _ _ _ _ us hl => match us, hl with | [_], _ => rfl)
  have D_row_entry : Def P w K mg base "row_entry" 2 2 r_row_entry := ok_row_entry T D_lowest_zeros F_row_entry (He.glo_ok X G (c.fact 17 (f := .glo "row_entry") rfl)) (FunD.bindsN F_row_entry fun _ _ _ _ _ _ us hl => match us, hl with | [_, _], _ => rfl)
  have D__law_right_row : Def P w K mg base "_law_right_row" 3 2 r__law_right_row := ok__law_right_row T D__law_entries D__law_is D__law_table_number D_row_entry D_row_values F__law_right_row (He.glo_ok X G (c.fact 18 (f := .glo "_law_right_row") rfl)) (FunD.bindsN F__law_right_row fun _ _ _ _ _ _ us hl => match us, hl with | [_, _], _ => rfl)
  have D__law_right_table : Def P w K mg base "_law_right_table" 4 1 r__law_right_table := ok__law_right_table T D__law_is D__law_table_number D_table_number D_table_of F__law_right_table (He.glo_ok X G (c.fact 19 (f := .glo "_law_right_table") rfl)) (FunD.bindsN F__law_right_table fun _ _ _ _ _ _ us hl => match us, hl with | [_], _ => rfl)
  exact ok_law T D__law_cell D__law_digits D__law_drawn_table D__law_great D__law_is D__law_neighbours D__law_right_number D__law_right_row D__law_right_table D__law_row_number D_table_number D_table_of F_law
end LW
open PySem PySem.W PySem.Calls PyProof.Rows
theorem PySem.Challenge.cw_onlylength_k67_table_numbers_holds : PySem.Challenge.rw_onlylength_k67_table_numbers.Holds := by
  w_on; o_law
  refine HandSHeadRun.head_any (r := OpenLaw.row PySem.Challenge.rw_onlylength_k67_table_numbers) (q := view (OpenLaw.row PySem.Challenge.rw_onlylength_k67_table_numbers).prog [23]) (H := LW.hk) (ob := LW.ob) (M := 1360) (loose := LW.names) (d := HandSHeadRun.topDef (OpenLaw.row PySem.Challenge.rw_onlylength_k67_table_numbers).prog 23) (kwd := []) LW.ob_eq
    (by kernel_rfl) (fun s => by kernel_rfl) LW.run (by kernel_rfl) (by kernel_rfl) (by kernel_rfl) (by rfl) (by first | assumption | decide +kernel) (by decide +kernel) ⟨rfl, rfl, rfl, rfl, rfl, by decide +kernel⟩ ?hw ?hc
  case hw => w_witness2
  case hc =>
    refine L2.walk_ofE (l := PySem.Challenge.rw_onlylength_k67_table_numbers) (n := 63) (k := 5) (x := "script") (CX := L2.CX0) rfl (by decide) (by kernel_rfl) ⟨rfl, by decide, by decide⟩ ?F (fun _ _ _ _ z => z)
    intro w mg fa h Y G hmg0
    obtain ⟨K, KX, c⟩ := Y
    have hmg : mg ("law" : PySem.Str) = some (.ref fa) := by
      have e : (HandSHeadRun.topDef (OpenLaw.row PySem.Challenge.rw_onlylength_k67_table_numbers).prog 23).name = ("law" : PySem.Str) := by kernel_rfl
      rw [← e]
      exact hmg0
    obtain ⟨fd, hb, hF⟩ := LW.facts (P := (PySem.Challenge.rw_onlylength_k67_table_numbers).prog) (w := w) KX G hmg c
    exact ⟨K, fd, VE.spM K 1 LW.r_law, KX, hb, fun H a ns hl _ hS => ⟨H, [.list (ns.map .int)], .bool true, Evl.Ex.refl H, .cons (.lst hS (VE.dpa_ints ns)) .nil, rfl, LW.law_true ns hl, fun v H' G' _ dd => VE.dp_bool dd⟩, hF⟩
