import PyProof.Rows.All
import HandS.ForMost
import HandS.Evl
import HandS.Wide
import HandS.WideBits
import HandS.IsInst
import HandS.Style
import HandS.Rev
import HandS.Walk
import HandS.Flow
import HandS.TupAny
import HandS.Deep
import HandS.NoneIn
import HandS.RevTup
import HandS.StrMore
import HandS.Conv
import HandS.Defaults
import HandS.Words
import HandS.More
import KE.GoesMore
import PyProof.EnumMake
import HandS.Zip
import HandS.Exc
import HandS.TryOnly
import HandS.ExcOwn
import HandS.ExcInit
import HandS.CallSlots
import HandS.WordsExc
import HandS.Dict
import HandS.HeadHook4
import HandS.Replace
import PyProof.MaxThree
import Wide.All
import OpenK.AllK
import Wide.FinOn
import KE.KStateDown
import Lean
import HandS.Head0
import HandS.Head1
import HandS.Head2
import HandS.HeadEnd
import HandS.HeadHook1
import HandS.HeadHook2
import PySem.Challenge.RW_onlylength_k77_sums_whole
set_option Elab.async false
set_option linter.all false
set_option maxRecDepth 100000
namespace VE
open PySem PySem.Spec L2 Evl
/-! ### data in a heap -/
section
variable {K : PySem.W.Frag}
mutual
theorem dp_ex {G H : Hp} (e : Ex G H) : ∀ {v : V} {d : PyData}, Dp K G v d → Dp K H v d
  | _, _, .non => .non
  | _, _, .bl b => .bl b
  | _, _, .int i => .int i
  | _, _, .str x => .str x
  | _, _, .lst h a => .lst (ex_l e h) (dpa_ex e a)
  | _, _, .tup h a => .tup (ex_t e h) (dpa_ex e a)
theorem dpa_ex {G H : Hp} (e : Ex G H) : ∀ {vs : List V} {ds : List PyData}, DpAll K G vs ds → DpAll K H vs ds
  | _, _, .nil => .nil
  | _, _, .cons h a => .cons (dp_ex e h) (dpa_ex e a)
end
theorem dpa_len {G : Hp} : ∀ {vs : List V} {ds : List PyData}, DpAll K G vs ds → vs.length = ds.length
  | _, _, .nil => rfl
  | _, _, .cons _ a => by rw [List.length_cons, List.length_cons, dpa_len a]
theorem dpa_get {G : Hp} : ∀ {vs : List V} {ds : List PyData} {i : Nat} {d : PyData}, DpAll K G vs ds → ds[i]? = some d → ∃ v, vs[i]? = some v ∧ Dp K G v d
  | _, _, _, _, .nil, h => by simp at h
  | _, _, 0, d, .cons h _, e => by
    simp at e
    subst e
    exact ⟨_, rfl, h⟩
  | _, _, i + 1, d, .cons _ a, e => by
    obtain ⟨v, h1, h2⟩ := dpa_get (i := i) (d := d) a (by simpa using e)
    exact ⟨v, by simpa using h1, h2⟩
theorem dpa_app {G : Hp} : ∀ {vs ws : List V} {ds es : List PyData}, DpAll K G vs ds → DpAll K G ws es → DpAll K G (vs ++ ws) (ds ++ es)
  | _, _, _, _, .nil, b => b
  | _, _, _, _, .cons h a, b => .cons h (dpa_app a b)
theorem dpa_take {G : Hp} : ∀ {vs : List V} {ds : List PyData} (n : Nat), DpAll K G vs ds → DpAll K G (vs.take n) (ds.take n)
  | _, _, 0, _ => .nil
  | _, _, _ + 1, .nil => .nil
  | _, _, n + 1, .cons h a => .cons h (dpa_take n a)
theorem dpa_drop {G : Hp} : ∀ {vs : List V} {ds : List PyData} (n : Nat), DpAll K G vs ds → DpAll K G (vs.drop n) (ds.drop n)
  | _, _, 0, a => a
  | _, _, _ + 1, .nil => .nil
  | _, _, n + 1, .cons _ a => dpa_drop n a
theorem dpa_set {G : Hp} {v : V} {d : PyData} (h : Dp K G v d) : ∀ {vs : List V} {ds : List PyData} (i : Nat), DpAll K G vs ds → DpAll K G (vs.set i v) (ds.set i d)
  | _, _, _, .nil => .nil
  | _, _, 0, .cons _ a => .cons h a
  | _, _, i + 1, .cons q a => .cons q (dpa_set h i a)
theorem dpa_rev {G : Hp} : ∀ {vs : List V} {ds : List PyData}, DpAll K G vs ds → DpAll K G vs.reverse ds.reverse
  | _, _, .nil => .nil
  | _, _, .cons h a => by
    rw [List.reverse_cons, List.reverse_cons]
    exact dpa_app (dpa_rev a) (.cons h .nil)
end
/-! ### growth: the frozen part G of H grows with H, nothing of H that is not frozen becomes so -/
structure Gr (G H G' H' : Hp) : Prop where
  g : Ex G G'
  s : Ex G' H'
  h : Ex H H'
  f : ∀ a o, H a = some o → G a = none → G' a = none
theorem Gr.refl {G H : Hp} (e : Ex G H) : Gr G H G H := ⟨Ex.refl G, e, Ex.refl H, fun _ _ _ q => q⟩
theorem Gr.trans {G H G1 H1 G2 H2 : Hp} (a : Gr G H G1 H1) (b : Gr G1 H1 G2 H2) : Gr G H G2 H2 :=
  ⟨a.g.trans b.g, b.s, a.h.trans b.h, fun x o h q => b.f x o (a.h x o h) (a.f x o h q)⟩
/-- a new object, frozen at once -/
theorem Gr.new {G H : Hp} {p : Addr} {o : HO} (e : Ex G H) (hp : H p = none) : Gr G H (upd G p o) (upd H p o) where
  g := Ex.new (fresh_back e hp)
  s := fun a u h => by
    by_cases z : a = p
    · subst z
      rw [upd_same] at h ⊢
      exact h
    · rw [upd_ne z] at h ⊢
      exact e a u h
  h := Ex.new hp
  f := fun a u h q => by
    rw [upd_ne (ne_of_none h hp)]
    exact q
/-- a new object, not frozen -/
theorem Gr.newo {G H : Hp} {p : Addr} {o : HO} (e : Ex G H) (hp : H p = none) : Gr G H G (upd H p o) where
  g := Ex.refl G
  s := e.trans (Ex.new hp)
  h := Ex.new hp
  f := fun _ _ _ q => q
/-! ### the slots -/
inductive Sl where
  | no
  | v (d : PyData)
  | o (xs : List PyData)
abbrev En := List Sl
def Sl.val : Sl → Option PyData
  | .no => none
  | .v d => some d
  | .o xs => some (.list xs)
/-- what an expression sees: every slot's datum in the frozen heap G -/
structure Vr (K : PySem.W.Frag) (G : Hp) (σ : L2.St) (n : En) : Prop where
  len : σ.length = n.length
  sl : ∀ (i : Nat) (s : Sl) (d : PyData), n[i]? = some s → s.val = some d → ∃ v, σ[i]? = some (some v) ∧ Dp K G v d
theorem Vr.mono {K : PySem.W.Frag} {G G' : Hp} {σ : L2.St} {n : En} (r : Vr K G σ n) (e : Ex G G') : Vr K G' σ n := ⟨r.len, fun i s d h1 h2 =>
  let ⟨v, a, b⟩ := r.sl i s d h1 h2
  ⟨v, a, dp_ex e b⟩⟩
/-! ### the readings of expressions -/
abbrev M := En → Option PyData
abbrev MT := En → Option Bool
abbrev MA := En → Option (List PyData)
def tM (K : PySem.W.Frag) (m : M) : TE := fun σ H Q => ∃ G n d, Ex G H ∧ Vr K G σ n ∧ m n = some d ∧ ∀ v H' G', Gr G H G' H' → Dp K G' v d → Q v H'
def tMT (K : PySem.W.Frag) (m : MT) : TT := fun σ H Q => ∃ G n b, Ex G H ∧ Vr K G σ n ∧ m n = some b ∧ ∀ H' G', Gr G H G' H' → Q b H'
def tMA (K : PySem.W.Frag) (m : MA) : TA := fun σ H Q => ∃ G n ds, Ex G H ∧ Vr K G σ n ∧ m n = some ds ∧ ∀ vs H' G', Gr G H G' H' → DpAll K G' vs ds → Q vs H'
/-- a fresh list, not frozen -/
def tMF (K : PySem.W.Frag) (m : MA) : TE := fun σ H Q => ∃ G n ds, Ex G H ∧ Vr K G σ n ∧ m n = some ds ∧ ∀ p vs H' G', Gr G H G' H' → H p = none → G' p = none → H' p = some (.lst vs) → DpAll K G' vs ds → Q (.ref p) H'
theorem PE.mono {X : Cx} {e : Expr} {t t' : TE} (h : PE X e t) (i : ∀ σ H Q, t' σ H Q → t σ H Q) : PE X e t' := ⟨fun pins s σ H Q I q => h.run pins s σ H Q I (i σ H Q q)⟩
theorem PT.mono {X : Cx} {e : Expr} {t t' : TT} (h : PT X e t) (i : ∀ σ H Q, t' σ H Q → t σ H Q) : PT X e t' := ⟨fun pins s σ H Q I q => h.run pins s σ H Q I (i σ H Q q)⟩
theorem PA.mono {X : Cx} {e : List Expr} {t t' : TA} (h : PA X e t) (i : ∀ σ H Q, t' σ H Q → t σ H Q) : PA X e t' := ⟨fun pos pins s σ H Q I q => h.run pos pins s σ H Q I (i σ H Q q)⟩
theorem PS.mono {X : Cx} {e : Stmt} {t t' : TS} (h : PS X e t) (i : ∀ D σ H, t' D σ H → t D σ H) : PS X e t' := ⟨fun pins s σ H D I q => h.run pins s σ H D I (i D σ H q)⟩
theorem PSs.mono {X : Cx} {e : List Stmt} {t t' : TS} (h : PSs X e t) (i : ∀ D σ H, t' D σ H → t D σ H) : PSs X e t' := ⟨fun pins s σ H D I q => h.run pins s σ H D I (i D σ H q)⟩
theorem OpR.mono {X : Cx} {f : Value → Value → Sem Value} {r r' : R2} (h : OpR X f r) (i : ∀ x y H Q, r' x y H Q → r x y H Q) : OpR X f r' := fun pins s σ H x y v u Q I rx ry q => h pins s σ H x y v u Q I rx ry (i x y H Q q)
theorem UnR.mono {X : Cx} {f : Value → Sem Value} {r r' : V → Hp → VK → Prop} (h : UnR X f r) (i : ∀ x H Q, r' x H Q → r x H Q) : UnR X f r' := fun pins s σ H x v Q I rx q => h pins s σ H x v Q I rx (i x H Q q)
theorem CallR.mono {X : Cx} {f : Value} {r r' : List V → Hp → VK → Prop} (h : CallR X f r) (i : ∀ x H Q, r' x H Q → r x H Q) : CallR X f r' := fun pins s σ H x v Q I rx q => h pins s σ H x v Q I rx (i x H Q q)
abbrev PV (X : Cx) (e : Expr) (m : M) : Prop := PE X e (tM X.K m)
abbrev PB (X : Cx) (e : Expr) (m : MT) : Prop := PT X e (tMT X.K m)
abbrev PL (X : Cx) (es : List Expr) (m : MA) : Prop := PA X es (tMA X.K m)
abbrev PF (X : Cx) (e : Expr) (m : MA) : Prop := PE X e (tMF X.K m)
section
variable {X : Cx} {e a b c : Expr} {pos : Pos} {m ma mb mc : M}
/-! ### names and constants -/
def mVar (i : Nat) : M := fun n => (n[i]?).bind Sl.val
def mC (d : PyData) : M := fun _ => some d
theorem pv_var (i : Nat) {x : Str} (hN : X.N[i]? = some x := by rfl) (hv : Vis X.env.scope x := by first | exact Or.inl rfl | exact Or.inr (Or.inl rfl) | exact Or.inr (Or.inr rfl)) (hd : (x == ("__debug__" : Str)) = false := by decide)
    (hcd : (x == ("__classdict__" : Str)) = false := by decide) : PV X (.Name x pos) (mVar i) := PE.mono (pe_var hN hv hd hcd) fun σ H Q h => by
  obtain ⟨G, n, d, e, r, q, k⟩ := h
  unfold mVar at q
  cases hs : n[i]? with
  | none => rw [hs] at q; cases q
  | some s =>
    rw [hs] at q
    obtain ⟨v, h1, h2⟩ := r.sl i s d hs q
    exact ⟨v, h1, k v H G (Gr.refl e) h2⟩
theorem tC_of {v : V} {d : PyData} (hd : ∀ G, Dp X.K G v d) : ∀ σ H Q, tM X.K (mC d) σ H Q → tC v σ H Q := fun σ H Q h => by
  obtain ⟨G, n, d', e, r, q, k⟩ := h
  cases q
  exact k v H G (Gr.refl e) (hd G)
theorem pv_int {i : Int} {j : Nat} : PV X (.Constant (.int i) j pos) (mC (.int i)) := PE.mono pe_int (tC_of fun _ => .int i)
theorem pv_bl {i : Bool} {j : Nat} : PV X (.Constant (.bool i) j pos) (mC (.bool i)) := PE.mono pe_bl (tC_of fun _ => .bl i)
theorem pv_non {j : Nat} : PV X (.Constant .none j pos) (mC .none) := PE.mono pe_non (tC_of fun _ => .non)
theorem pv_str {x : Str} {j : Nat} : PV X (.Constant (.str x) j pos) (mC (.str x)) := PE.mono pe_str (tC_of fun _ => .str x)
/-- a module's constant -/
theorem pv_glob {x : Str} {v : V} {u : Value} {d : PyData} (hg : Gl X x) (hm : X.mg x = some u) (r : RelV v u) (hd : ∀ G, Dp X.K G v d) (h1 : (x == ("__debug__" : Str)) = false := by decide) : PV X (.Name x pos) (mC d) := PE.mono (pe_glob hg hm r h1) (tC_of hd)
/-! ### two-place operations -/
def mBin (g : PyData → PyData → Option PyData) (ma mb : M) : M := fun n => (ma n).bind fun x => (mb n).bind fun y => g x y
def rD (K : PySem.W.Frag) (g : PyData → PyData → Option PyData) : R2 := fun x y H Q => ∃ G d e r, Ex G H ∧ Dp K G x d ∧ Dp K G y e ∧ g d e = some r ∧ ∀ v H' G', Gr G H G' H' → Dp K G' v r → Q v H'
abbrev OpD (X : Cx) (f : Value → Value → Sem Value) (g : PyData → PyData → Option PyData) : Prop := OpR X f (rD X.K g)
theorem t_bin {g : PyData → PyData → Option PyData} {K : PySem.W.Frag} : ∀ σ H Q, tM K (mBin g ma mb) σ H Q → tOp (rD K g) (tM K ma) (tM K mb) σ H Q := fun σ H Q h => by
  obtain ⟨G, n, d, e, r, q, k⟩ := h
  unfold mBin at q
  obtain ⟨x, hx, q⟩ := Option.bind_eq_some_iff.mp q
  obtain ⟨y, hy, q⟩ := Option.bind_eq_some_iff.mp q
  refine ⟨G, n, x, e, r, hx, fun v H1 G1 g1 d1 => ?_⟩
  refine ⟨G1, n, y, g1.s, r.mono g1.g, hy, fun w H2 G2 g2 d2 => ?_⟩
  exact ⟨G2, x, y, d, g2.s, dp_ex g2.g d1, d2, q, fun z H3 G3 g3 d3 => k z H3 G3 ((g1.trans g2).trans g3) d3⟩
theorem pv_bin {op : Operator} {g : PyData → PyData → Option PyData} (ho : OpD X (binaryOp op) g) (ha : PV X a ma) (hb : PV X b mb) : PV X (.BinOp a op b pos) (mBin g ma mb) := PE.mono (pe_op ho ha hb) t_bin
theorem pv_cmp {op : CmpOp} {g : PyData → PyData → Option PyData} (ho : OpD X (compareOp op) g) (ha : PV X a ma) (hb : PV X b mb) (hm : behindInMarks op b = false) : PV X (.Compare a [op] [b] pos) (mBin g ma mb) := PE.mono (pe_cmpR ho ha hb hm) t_bin
/-- a value that is True or False -/
def asB : PyData → Option Bool
  | .bool b => some b
  | _ => none
def mBool (m : M) : MT := fun n => (m n).bind asB
theorem asB_eq {d : PyData} {b : Bool} (h : asB d = some b) : d = .bool b := by
  cases d <;> simp [asB] at h
  rw [h]
theorem dp_bool {K : PySem.W.Frag} {G : Hp} {v : V} {b : Bool} (h : Dp K G v (.bool b)) : v = .bl b := by cases h; rfl
theorem dp_int {K : PySem.W.Frag} {G : Hp} {v : V} {b : Int} (h : Dp K G v (.int b)) : v = .int b := by cases h; rfl
theorem dp_str {K : PySem.W.Frag} {G : Hp} {v : V} {b : Str} (h : Dp K G v (.str b)) : v = .str b := by cases h; rfl
theorem dp_non {K : PySem.W.Frag} {G : Hp} {v : V} (h : Dp K G v .none) : v = .non := by cases h; rfl
theorem dp_lst {K : PySem.W.Frag} {G : Hp} {v : V} {ds : List PyData} (h : Dp K G v (.list ds)) : ∃ a vs, v = .ref a ∧ SqL K G a vs ∧ DpAll K G vs ds := by
  cases h with
  | lst h1 h2 => exact ⟨_, _, rfl, h1, h2⟩
theorem dp_tup {K : PySem.W.Frag} {G : Hp} {v : V} {ds : List PyData} (h : Dp K G v (.tuple ds)) : ∃ a vs, v = .ref a ∧ SqT K G a vs ∧ DpAll K G vs ds := by
  cases h with
  | tup h1 h2 => exact ⟨_, _, rfl, h1, h2⟩
theorem dp_dict {K : PySem.W.Frag} {G : Hp} {v : V} {ds : List (PyData × PyData)} (h : Dp K G v (.dict ds)) : False := by cases h
theorem t_tB {K : PySem.W.Frag} : ∀ σ H Q, tMT K (mBool m) σ H Q → tB (tM K m) σ H Q := fun σ H Q h => by
  obtain ⟨G, n, b, e, r, q, k⟩ := h
  obtain ⟨d, hd, q⟩ := Option.bind_eq_some_iff.mp q
  cases asB_eq q
  refine ⟨G, n, _, e, r, hd, fun v H1 G1 g1 d1 => ?_⟩
  cases dp_bool d1
  exact ⟨b, rfl, k H1 G1 g1⟩
/-- a comparison as a test -/
theorem t_tTest {K : PySem.W.Frag} {t : TE} (i : ∀ σ H Q, tM K m σ H Q → t σ H Q) : ∀ σ H Q, tMT K (mBool m) σ H Q → tTest t σ H Q := fun σ H Q h => by
  obtain ⟨G, n, b, e, r, q, k⟩ := h
  obtain ⟨d, hd, q⟩ := Option.bind_eq_some_iff.mp q
  cases asB_eq q
  refine i σ H _ ⟨G, n, _, e, r, hd, fun v H1 G1 g1 d1 => ?_⟩
  cases dp_bool d1
  exact ⟨b, rfl, k H1 G1 g1⟩
theorem pb_cmp {op : CmpOp} {g : PyData → PyData → Option PyData} (ho : OpD X (compareOp op) g) (ha : PV X a ma) (hb : PV X b mb) (hm : behindInMarks op b = false) : PB X (.Compare a [op] [b] pos) (mBool (mBin g ma mb)) := PT.mono (pt_cmpR ho ha hb hm) (t_tTest t_bin)
theorem pb_val (ha : PV X a m) (he : ∀ whole, isTrue a X.env whole = (do let v ← whole; standAt a.pos; holding [v] (truthy v)) := by intro _; rfl) : PB X a (mBool m) := PT.mono (pt_val ha he) t_tB
end
end VE
set_option Elab.async false
set_option linter.all false
set_option maxRecDepth 100000
namespace VE
noncomputable section
open PySem PySem.Spec L2 Evl
/-! ### a result that is a scalar, or a new object -/
section
variable {K : PySem.W.Frag}
theorem fin_v {G H : Hp} {Q : VK} {v : V} {r : PyData} (e : Ex G H) (d : Dp K G v r) (k : ∀ v H' G', Gr G H G' H' → Dp K G' v r → Q v H') : Q v H := k v H G (Gr.refl e) d
theorem fin_l {G H : Hp} {Q : VK} {vs : List V} {rs : List PyData} (e : Ex G H) (d : DpAll K G vs rs) (k : ∀ v H' G', Gr G H G' H' → Dp K G' v (.list rs) → Q v H') : ∀ p, H p = none → Q (.ref p) (upd H p (.lst vs)) := fun p hp =>
  k (.ref p) _ _ (Gr.new (o := .lst vs) e hp) (.lst (SqL.of upd_same) (dpa_ex (Ex.new (fresh_back e hp)) d))
theorem fin_t {G H : Hp} {Q : VK} {vs : List V} {rs : List PyData} (e : Ex G H) (d : DpAll K G vs rs) (k : ∀ v H' G', Gr G H G' H' → Dp K G' v (.tuple rs) → Q v H') : ∀ p, H p = none → Q (.ref p) (upd H p (.tup vs)) := fun p hp =>
  k (.ref p) _ _ (Gr.new (o := .tup vs) e hp) (.tup (SqT.of upd_same) (dpa_ex (Ex.new (fresh_back e hp)) d))
end
/-! ### what the operators make of data -/
def strRep (x : Str) (n : Nat) : Str := ⟨(List.replicate n x.cps).foldl (· ++ ·) #[]⟩
def vAdd : PyData → PyData → Option PyData
  | .int i, .int j => some (.int (i + j))
  | .str x, .str y => @ite _ (x.length + y.length ≤ sizeLine) (Classical.propDecidable _) (some (.str (x ++ y))) none
  | .list xs, .list ys => @ite _ (xs.length + ys.length ≤ sizeLine) (Classical.propDecidable _) (some (.list (xs ++ ys))) none
  | .tuple xs, .tuple ys => @ite _ (xs.length + ys.length ≤ sizeLine) (Classical.propDecidable _) (some (.tuple (xs ++ ys))) none
  | _, _ => none
def vSub : PyData → PyData → Option PyData
  | .int i, .int j => some (.int (i - j))
  | _, _ => none
def CM (i j : Int) : Prop := CMul i j ∨ CMulX i j
instance {i j : Int} : Decidable (CM i j) := by unfold CM CMul CMulX; infer_instance
/-- ints alone -/
def vMulI : PyData → PyData → Option PyData
  | .int i, .int j => @ite _ (CM i j) (Classical.propDecidable _) (some (.int (i * j))) none
  | _, _ => none
/-- a text some times -/
def vRepS : PyData → PyData → Option PyData
  | .str x, .int n => @ite _ (0 ≤ n ∧ n ≤ 1000000 ∧ x.length * n.toNat ≤ 1000000) (Classical.propDecidable _) (some (.str (strRep x n.toNat))) none
  | _, _ => none
def vDiv : PyData → PyData → Option PyData
  | .int i, .int j => @ite _ (0 < j ∧ j.natAbs.log2 < 9000) (Classical.propDecidable _) (some (.int (i / j))) none
  | _, _ => none
def vMod : PyData → PyData → Option PyData
  | .int i, .int j => if 0 < j then some (.int (i % j)) else none
  | _, _ => none
def vPow : PyData → PyData → Option PyData
  | .int i, .int j => @ite _ (0 ≤ j ∧ j ≤ 1000000 ∧ i.natAbs < 2 ^ 64) (Classical.propDecidable _) (some (.int (i ^ j.toNat))) none
  | _, _ => none
def vShl : PyData → PyData → Option PyData
  | .int i, .int j => @ite _ (0 ≤ j ∧ (Builtin.Int.intBits i : Int) + j ≤ 2 ^ 27) (Classical.propDecidable _) (some (.int (i * 2 ^ j.toNat))) none
  | _, _ => none
def vShr : PyData → PyData → Option PyData
  | .int i, .int j => if 0 ≤ j then some (.int (i / 2 ^ j.toNat)) else none
  | _, _ => none
def vAnd : PyData → PyData → Option PyData
  | .int i, .int j => some (.int (Builtin.bitAnd i j))
  | _, _ => none
def vEqB : PyData → PyData → Option Bool
  | .int i, .int j => some (decide (i = j))
  | .str i, .str j => some (decide (i = j))
  | .bool i, .bool j => some (decide (i = j))
  | .none, .none => some true
  | .none, .int _ => some false | .none, .bool _ => some false | .none, .str _ => some false
  | .int _, .none => some false | .bool _, .none => some false | .str _, .none => some false
  | .int _, .str _ => some false | .str _, .int _ => some false | .bool _, .str _ => some false | .str _, .bool _ => some false
  | d, e => if SeqAt.shaped d = true ∧ SeqAt.shaped e = true then some (PyData.eqv d e) else none
def vEq (d e : PyData) : Option PyData := (vEqB d e).map .bool
def vNe (d e : PyData) : Option PyData := (vEqB d e).map fun b => .bool (!b)
def vLt : PyData → PyData → Option PyData
  | .int i, .int j => some (.bool (decide (i < j)))
  | .str i, .str j => some (.bool (decide (i.cps.toList < j.cps.toList)))
  | _, _ => none
def vLe : PyData → PyData → Option PyData
  | .int i, .int j => some (.bool (decide (i ≤ j)))
  | _, _ => none
def vGt : PyData → PyData → Option PyData
  | .int i, .int j => some (.bool (decide (j < i)))
  | _, _ => none
def vGe : PyData → PyData → Option PyData
  | .int i, .int j => some (.bool (decide (j ≤ i)))
  | _, _ => none
/-- x is None (no other `is`) -/
def isNonD : PyData → Bool
  | .none => true
  | _ => false
def vIs : PyData → PyData → Option PyData
  | d, .none => some (.bool (isNonD d))
  | .bool a, .bool b => some (.bool (decide (a = b)))
  | _, _ => none
def vIsNot : PyData → PyData → Option PyData
  | d, .none => some (.bool (!isNonD d))
  | .bool a, .bool b => some (.bool (!decide (a = b)))
  | _, _ => none
/-- flat data: what `in` over a list may be asked of -/
def flatD : PyData → Bool
  | .none | .bool _ | .int _ | .str _ => true
  | _ => false
def vInB : PyData → PyData → Option Bool
  | .str x, .str y => match x.cps.toList with
    | [c] => some (decide (c ∈ y.cps.toList))
    | _ => some (!(Builtin.Str.occurrences y x 0 y.length 1).isEmpty)
  | d, .list xs => if SeqAt.shaped d = true ∧ SeqAt.shaped (.list xs) = true then some (xs.any fun z => PyData.eqv z d) else none
  | _, _ => none
def vIn (d e : PyData) : Option PyData := (vInB d e).map .bool
def vNotIn (d e : PyData) : Option PyData := (vInB d e).map fun b => .bool (!b)
section
variable {X : Cx}
/-- list + list, whatever the lists are -/
theorem op_catS : OpR X (binaryOp .Add) (fun x y H Q => ∃ l b xs zs, x = .ref l ∧ y = .ref b ∧ SqL X.K H l xs ∧ SqL X.K H b zs ∧ xs.length + zs.length ≤ sizeLine ∧ ∀ p, H p = none → Q (.ref p) (upd H p (.lst (xs ++ zs)))) := by
  intro pins s σ H x y v u Q I rx ry h
  obtain ⟨l, b, xs, zs, rfl, rfl, hH, hB, hz, q⟩ := h
  cases rx
  cases ry
  obtain ⟨its, r, ⟨⟨cls, dd, data, sl⟩, n, ho, hc, hdd, hd⟩, z⟩ := I.list hH
  obtain ⟨its2, r2, ⟨⟨cls2, dd2, data2, sl2⟩, n2, ho2, hc2, hdd2, hd2⟩, z2⟩ := I.list hB
  simp only at hc hd hc2 hd2 hdd hdd2
  subst hc hd hc2 hd2 hdd hdd2
  have hl := r.length
  have hl2 := r2.length
  have e : its.toArray ++ its2.toArray = (its ++ its2).toArray := by simp
  refine PySem.concat_meets ⟨_, ho, rfl⟩ ⟨_, ho2, rfl⟩ noFill_list_add seq_list_add PySem.F.slot_list_add PySem.F.entry_list_add (PySem.F.args_list_add_2 _ _) (PyProof.Rows.list_addW l b its.toArray its2.toArray n n2 none none sl sl2 (by simp only [List.size_toArray]; omega)) ⟨ho, ho2, ?_⟩
  rw [e]
  exact ⟨.ref _, _, I.lnew (t' := s.toks) (r.append r2) (by rw [List.length_append]; omega), rfl, q _ I.fresh⟩
theorem od_add : OpD X (binaryOp .Add) vAdd := OpR.mono (OpR.or op_add (OpR.or op_add_str (OpR.or op_catS op_catA))) fun x y H Q h => by
  obtain ⟨G, d, e, r, g, d1, d2, q, k⟩ := h
  unfold vAdd at q
  split at q
  · cases dp_int d1; cases dp_int d2; cases q
    exact .inl ⟨_, _, rfl, rfl, fin_v g (.int _) k⟩
  · cases dp_str d1; cases dp_str d2
    split at q
    · rename_i hz
      cases q
      exact .inr (.inl ⟨_, _, rfl, rfl, hz, fin_v g (.str _) k⟩)
    · cases q
  · obtain ⟨a, vs, rfl, h1, a1⟩ := dp_lst d1
    obtain ⟨b, ws, rfl, h2, a2⟩ := dp_lst d2
    split at q
    · rename_i hz
      cases q
      exact .inr (.inr (.inl ⟨a, b, vs, ws, rfl, rfl, ex_l g h1, ex_l g h2, by rw [dpa_len a1, dpa_len a2]; exact hz, fin_l g (dpa_app a1 a2) k⟩))
    · cases q
  · obtain ⟨a, vs, rfl, h1, a1⟩ := dp_tup d1
    obtain ⟨b, ws, rfl, h2, a2⟩ := dp_tup d2
    split at q
    · rename_i hz
      cases q
      refine .inr (.inr (.inr ⟨a, b, vs, ws, rfl, rfl, ex_t g h1, ex_t g h2, by rw [dpa_len a1, dpa_len a2]; exact hz, fun z => ?_, fun _ z => ?_, fun _ _ => fin_t g (dpa_app a1 a2) k⟩))
      · subst z
        cases a1
        exact fin_v g (.tup h2 a2) k
      · subst z
        cases a2
        rw [List.append_nil] at k
        exact fin_v g (.tup h1 a1) k
    · cases q
  · cases q
theorem oi0 {f : Value → Value → Sem Value} {g : PyData → PyData → Option PyData} {r : Int → Int → V} {r' : Int → Int → PyData} (h : OpR X f (rI0 r)) (hg : ∀ d e z, g d e = some z → ∃ i j, d = .int i ∧ e = .int j ∧ z = r' i j) (hr : ∀ i j G, Dp X.K G (r i j) (r' i j)) : OpD X f g := OpR.mono h fun x y H Q q => by
  obtain ⟨G, d, e, z, e1, d1, d2, q, k⟩ := q
  obtain ⟨i, j, rfl, rfl, rfl⟩ := hg d e z q
  cases dp_int d1; cases dp_int d2
  exact ⟨i, j, rfl, rfl, fin_v e1 (hr i j G) k⟩
theorem oi1 {f : Value → Value → Sem Value} {g : PyData → PyData → Option PyData} {C : Int → Int → Prop} {r : Int → Int → V} {r' : Int → Int → PyData} (h : OpR X f (rI C r)) (hg : ∀ d e z, g d e = some z → ∃ i j, d = .int i ∧ e = .int j ∧ C i j ∧ z = r' i j) (hr : ∀ i j G, Dp X.K G (r i j) (r' i j)) : OpD X f g := OpR.mono h fun x y H Q q => by
  obtain ⟨G, d, e, z, e1, d1, d2, q, k⟩ := q
  obtain ⟨i, j, rfl, rfl, c, rfl⟩ := hg d e z q
  cases dp_int d1; cases dp_int d2
  exact ⟨i, j, rfl, rfl, c, fin_v e1 (hr i j G) k⟩
theorem od_sub : OpD X (binaryOp .Sub) vSub := oi0 op_sub (fun d e z h => by unfold vSub at h; split at h <;> cases h; exact ⟨_, _, rfl, rfl, rfl⟩) fun _ _ _ => .int _
theorem op_mulC : OpR X (binaryOp .Mult) (rI CM fun i j => .int (i * j)) := OpR.mono (OpR.or op_mul op_mulX) fun x y H Q ⟨i, j, h1, h2, c, q⟩ => c.elim (fun c => .inl ⟨i, j, h1, h2, c, q⟩) fun c => .inr ⟨i, j, h1, h2, c, q⟩
theorem od_mulI : OpD X (binaryOp .Mult) vMulI := oi1 op_mulC (fun d e z h => by
  unfold vMulI at h
  split at h
  · split at h
    · rename_i c
      cases h
      exact ⟨_, _, rfl, rfl, c, rfl⟩
    · cases h
  · cases h) fun _ _ _ => .int _
theorem strRep_zero (x : Str) : strRep x 0 = Str.empty := rfl
theorem strRep_one (x : Str) : strRep x 1 = x := by
  unfold strRep
  simp
theorem foldl_empty (n : Nat) (a : Array Nat) : (List.replicate n (#[] : Array Nat)).foldl (· ++ ·) a = a := by
  induction n generalizing a with
  | zero => rfl
  | succ n ih => rw [List.replicate_succ, List.foldl_cons]; simpa using ih a
theorem od_repS : OpD X (binaryOp .Mult) vRepS := by
  intro pins s σ H x y v u Q I rx ry q
  obtain ⟨G, d, e, z, g, d1, d2, q, k⟩ := q
  unfold vRepS at q
  split at q
  · rename_i x' n
    split at q
    · rename_i hn
      obtain ⟨h0, h1, h2⟩ := hn
      cases q
      cases dp_str d1; cases dp_int d2
      obtain ⟨t, rfl⟩ := rx
      obtain ⟨t', rfl⟩ := ry
      have hx : x'.length ≤ 1000000 ∨ n < 1 := by
        by_cases hn0 : n < 1
        · exact .inr hn0
        · left
          have : 1 ≤ n.toNat := by omega
          exact Nat.le_trans (Nat.le_mul_of_pos_right _ this) h2
      refine PySem.P.mul_str (by simp only [Bool.or_eq_false_iff, decide_eq_false_iff_not]; omega) (fun hn1 hc => ?_) (fun hn1 hc => ?_) ?_
      · have hx := hx.resolve_right hn1
        have h3 : (x'.length : Int) * n ≤ 1000000 := by
          have e1 : ((x'.length * n.toNat : Nat) : Int) = (x'.length : Int) * n := by
            rw [Int.natCast_mul, Int.toNat_of_nonneg h0]
          omega
        have h4 : (x'.length : Int) ≤ (2 ^ 63 - 1) / n := (Int.le_ediv_iff_mul_le (by omega)).mpr (by omega)
        omega
      · unfold Builtin.Str.tooLong
        simp only [decide_eq_false_iff_not]
        have : sizeLine = 16777216 := sizeLine_eq
        omega
      · split
        · rename_i hn1
          have e0 : n.toNat = 0 := by omega
          rw [e0] at k
          exact ⟨by decide, .str _, H, I.tok _, ⟨_, rfl⟩, fin_v g (.str _) k⟩
        · split
          · rename_i hc
            simp only [Bool.or_eq_true, beq_iff_eq] at hc
            have e1 : strRep x' n.toNat = x' := by
              rcases hc with hc | hc
              · rw [hc]
                exact strRep_one x'
              · have hx0 : x'.cps = #[] := Array.eq_empty_of_size_eq_zero hc
                unfold strRep
                rw [hx0, foldl_empty]
                cases x'
                simp only at hx0
                rw [hx0]
            rw [e1] at k
            exact ⟨.str _, H, I, ⟨_, rfl⟩, fin_v g (.str _) k⟩
          · rename_i hn1 hc
            have hlen : (strRep x' n.toNat).length ≤ sizeLine := by
              have : sizeLine = 16777216 := sizeLine_eq
              have e2 : ∀ (m : Nat) (a : Array Nat), ((List.replicate m x'.cps).foldl (· ++ ·) a).size = a.size + m * x'.cps.size := by
                intro m
                induction m with
                | zero => intro a; simp
                | succ m ih =>
                  intro a
                  rw [List.replicate_succ, List.foldl_cons, ih, Array.size_append, Nat.add_mul]
                  omega
              show ((List.replicate n.toNat x'.cps).foldl (· ++ ·) #[]).size ≤ sizeLine
              rw [e2]
              have h5 : x'.cps.size * n.toNat ≤ 1000000 := h2
              have h6 := Nat.mul_comm n.toNat x'.cps.size
              simp only [Array.size_empty]
              omega
            exact ⟨hlen, .str _, H, I.tok _, ⟨_, rfl⟩, fin_v g (.str _) k⟩
    · cases q
  · cases q
end
end
end VE
namespace VL
open PySem PySem.Spec L2 PySem.SeqAt PyProof.Rows
theorem list_mulW (l : Addr) (items : Array Value) (n : Nat) (x : Int) (u : Tok) (dd : Option Addr) (sl : Array (Option Value)) (hc0 : ¬(!Builtin.List.listFitsIndex x) = true) (hc1 : ¬items.size * x.toNat > (2 ^ 63 - 1) / 8) (hc2 : ¬Builtin.List.listTooLong (items.size * x.toNat) = true) :
    Meets (Builtin.«list.__mul__» ⟨[.ref l, .int x u], []⟩) (fun _ R s => s.heap.get? l = some { cls := .type "list", dict := dd, data := .seq items n, slots := sl } ∧ R (.ok (.ret (Value.ref s.heap.objs.size))) { s with heap := s.heap.push { cls := Value.type "list", data := Data.seq (List.foldl (fun x1 x2 => x1 ++ x2) #[] (List.replicate (if items.isEmpty = true then 0 else x.toNat) items)) }, toks := s.toks }) :=
  .of_wp fun prog w A R s h => by
    obtain ⟨hp, g, d, tk, os⟩ := s; obtain ⟨hl, h⟩ := h
    have hsz := AutoListH.joined_fits hc2
    wp_walk using PySem.AutoSeq1.wpAny_loadPart' hl; refine wpAny_ite_false (decide_eq_false (Nat.not_lt.mpr hsz)) ?_; wp_walk; exact ⟨_, rfl, h⟩
theorem int_rmul_listW (a : Int) (t : Tok) (l : Addr) (items : Array Value) (n : Nat) (dd : Option Addr) (sl : Array (Option Value)) :
    Meets (Builtin.«int.__rmul__» ⟨[.int a t, .ref l], []⟩) (fun _ R s => s.heap.get? l = some { cls := .type "list", dict := dd, data := .seq items n, slots := sl } ∧ R (.ok (.ret Value.notImplemented)) s) :=
  .of_wp fun prog w A R s h => by obtain ⟨hp, g, d, tk, os⟩ := s; obtain ⟨hl, h⟩ := h; wp_walk using PySem.AutoSeq1.wpAny_loadPart' hl; exact ⟨_, rfl, h⟩
end VL
namespace VE
noncomputable section
open PySem PySem.Spec L2 Evl
variable {X : Cx}
theorem op_repS : OpR X (binaryOp .Mult) (fun x y H Q => ∃ l k xs, x = .ref l ∧ y = .int k ∧ SqL X.K H l xs ∧ -(2 ^ 63) ≤ k ∧ k < 2 ^ 63 ∧ xs.length * k.toNat ≤ sizeLine ∧ ∀ p, H p = none → Q (.ref p) (upd H p (.lst (List.replicate k.toNat xs).flatten))) := by
  intro pins s σ H x y v u Q I rx ry h
  obtain ⟨l, k, xs, rfl, rfl, hH, h1, h2, hz, q⟩ := h
  cases rx
  obtain ⟨t, rfl⟩ := ry
  obtain ⟨its, r, ⟨⟨cls, dd, data, sl⟩, n, ho, hc, hdd, hd⟩, z⟩ := I.list hH
  simp only at hc hd hdd
  subst hc hd hdd
  have hl := r.length
  have hlen : its.toArray.size * k.toNat ≤ sizeLine := by rw [List.size_toArray, ← hl]; exact hz
  have hcap : ¬ its.toArray.size * k.toNat > (2 ^ 63 - 1) / 8 := by
    have : (sizeLine : Nat) ≤ (2 ^ 63 - 1) / 8 := by decide
    omega
  have hfit : ¬ (!Builtin.List.listFitsIndex k) = true := by
    rw [fitsIndex_both h1 h2]
    exact Bool.false_ne_true
  have hlong : ¬ Builtin.List.listTooLong (its.toArray.size * k.toNat) = true := by
    rw [notLongL hlen]
    exact Bool.false_ne_true
  have hnew : List.foldl (fun x1 x2 => x1 ++ x2) #[] (List.replicate (if its.toArray.isEmpty = true then 0 else k.toNat) its.toArray) = (List.replicate k.toNat its).flatten.toArray := by
    have f0 : ∀ m : Nat, List.foldl (fun x1 x2 => x1 ++ x2) #[] (List.replicate m its.toArray) = (List.replicate m its).flatten.toArray := fun m => by
      have := foldl_rep its m []
      rw [List.nil_append] at this
      exact this
    rw [f0]
    cases its with
    | nil => simp
    | cons a r' => rw [if_neg (by simp)]
  refine wpAny_binaryOp_repeat_ref (T := "list") (U := "int") (by decide) ⟨_, ho, rfl⟩ (fun s' => typeIs_int s' k t) noFill_list_mul PySem.F.fills_int_mul PySem.F.slot_int_rmul repeat_list PySem.F.slot_int_index.lookup
    (call_meets PySem.F.slot_int_rmul (typeIs_int s k t) PySem.F.entry_int_rmul (PySem.F.args_int_rmul_2 _ _) (VL.int_rmul_listW k t l its.toArray n none sl)
      ⟨ho, rfl, ⟨_, ho, rfl⟩, call_meets PySem.F.slot_list_mul ⟨_, ho, rfl⟩ PySem.F.entry_list_mul (PySem.F.args_list_mul_2 _ _) (VL.list_mulW l its.toArray n k t none sl hfit hcap hlong) ⟨ho, ?_⟩⟩)
  rw [hnew]
  exact ⟨.ref _, _, I.lnew (t' := s.toks) (r.rep k.toNat) (by rw [PyProof.Rows.lm_len_rep_flat, Nat.mul_comm]; exact hz), rfl, q _ I.fresh⟩
def repD (xs : List PyData) (n : Nat) : List PyData := (List.replicate n xs).flatten
theorem dpa_rep {K : PySem.W.Frag} {G : Hp} {vs : List V} {ds : List PyData} (a : DpAll K G vs ds) : ∀ n, DpAll K G (List.replicate n vs).flatten (repD ds n)
  | 0 => .nil
  | n + 1 => by
    unfold repD
    rw [List.replicate_succ, List.replicate_succ, List.flatten_cons, List.flatten_cons]
    exact dpa_app a (dpa_rep a n)
def vRepL : PyData → PyData → Option PyData
  | .list xs, .int k => @ite _ (-(2 ^ 62) ≤ k ∧ k < 2 ^ 62 ∧ xs.length * k.toNat ≤ 16000000) (Classical.propDecidable _) (some (.list (repD xs k.toNat))) none
  | _, _ => none
theorem od_repL : OpD X (binaryOp .Mult) vRepL := OpR.mono op_repS fun x y H Q h => by
  obtain ⟨G, d, e, r, g, d1, d2, q, k⟩ := h
  unfold vRepL at q
  split at q
  · cases dp_int d2
    obtain ⟨a, vs, rfl, h1, a1⟩ := dp_lst d1
    split at q
    · rename_i hz
      cases q
      have : sizeLine = 16777216 := sizeLine_eq
      exact ⟨a, _, vs, rfl, rfl, ex_l g h1, by omega, by omega, by rw [dpa_len a1]; omega, fin_l g (dpa_rep a1 _) k⟩
    · cases q
  · cases q
def vMul : PyData → PyData → Option PyData
  | .str x, y => vRepS (.str x) y
  | .list x, y => vRepL (.list x) y
  | x, y => vMulI x y
theorem od_mul : OpD X (binaryOp .Mult) vMul := OpR.mono (OpR.or od_repS (OpR.or od_repL od_mulI)) fun x y H Q h => by
  obtain ⟨G, d, e, z, g, d1, d2, q, k⟩ := h
  unfold vMul at q
  split at q
  · exact .inl ⟨G, _, e, z, g, d1, d2, q, k⟩
  · exact .inr (.inl ⟨G, _, e, z, g, d1, d2, q, k⟩)
  · exact .inr (.inr ⟨G, d, e, z, g, d1, d2, q, k⟩)
theorem od_div : OpD X (binaryOp .FloorDiv) vDiv := oi1 op_fdivW (fun d e z h => by
  unfold vDiv at h
  split at h
  · split at h
    · rename_i c
      cases h
      exact ⟨_, _, rfl, rfl, c, rfl⟩
    · cases h
  · cases h) fun _ _ _ => .int _
theorem od_mod : OpD X (binaryOp .Mod) vMod := oi1 op_mod (fun d e z h => by
  unfold vMod at h
  split at h
  · split at h
    · rename_i c
      cases h
      exact ⟨_, _, rfl, rfl, c, rfl⟩
    · cases h
  · cases h) fun _ _ _ => .int _
theorem od_pow : OpD X (binaryOp .Pow) vPow := oi1 op_pow (fun d e z h => by
  unfold vPow at h
  split at h
  · split at h
    · rename_i c
      cases h
      exact ⟨_, _, rfl, rfl, c, rfl⟩
    · cases h
  · cases h) fun _ _ _ => .int _
theorem od_shl : OpD X (binaryOp .LShift) vShl := oi1 op_shlW (fun d e z h => by
  unfold vShl at h
  split at h
  · split at h
    · rename_i c
      cases h
      exact ⟨_, _, rfl, rfl, c, rfl⟩
    · cases h
  · cases h) fun _ _ _ => .int _
theorem od_shr : OpD X (binaryOp .RShift) vShr := oi1 op_shr (fun d e z h => by
  unfold vShr at h
  split at h
  · split at h
    · rename_i c
      cases h
      exact ⟨_, _, rfl, rfl, c, rfl⟩
    · cases h
  · cases h) fun _ _ _ => .int _
theorem od_and : OpD X (binaryOp .BitAnd) vAnd := oi0 op_and (fun d e z h => by unfold vAnd at h; split at h <;> cases h; exact ⟨_, _, rfl, rfl, rfl⟩) fun _ _ _ => .int _
theorem dp_scal {K : PySem.W.Frag} {G : Hp} {x y : V} {d e : PyData} {b : Bool} (d1 : Dp K G x d) (d2 : Dp K G y e) (h : vEqB d e = some b) : (scal x y = true ∧ decide (x = y) = b) ∨ (SeqAt.shaped d = true ∧ SeqAt.shaped e = true ∧ PyData.eqv d e = b) := by
  unfold vEqB at h
  split at h
  all_goals first
    | (split at h
       · rename_i c
         cases h
         exact .inr ⟨c.1, c.2, rfl⟩
       · cases h)
    | (cases d1; cases d2; cases h
       refine .inl ⟨rfl, ?_⟩
       simp)
theorem od_eq (hu : X.A.units + 64 < cLine) : OpD X (compareOp .Eq) vEq := OpR.mono (OpR.or op_eq (op_eqD hu)) fun x y H Q h => by
  obtain ⟨G, d, e, z, g, d1, d2, q, k⟩ := h
  obtain ⟨b, hb, rfl⟩ := Option.map_eq_some_iff.mp q
  rcases dp_scal d1 d2 hb with ⟨h1, h2⟩ | ⟨h1, h2, h3⟩
  · exact .inl ⟨h1, by rw [h2]; exact fin_v g (.bl _) k⟩
  · exact .inr ⟨d, e, dp_ex g d1, dp_ex g d2, h1, h2, by rw [h3]; exact fin_v g (.bl _) k⟩
theorem od_ne (hu : X.A.units + 64 < cLine) : OpD X (compareOp .NotEq) vNe := OpR.mono (OpR.or op_ne (op_neD hu)) fun x y H Q h => by
  obtain ⟨G, d, e, z, g, d1, d2, q, k⟩ := h
  obtain ⟨b, hb, rfl⟩ := Option.map_eq_some_iff.mp q
  rcases dp_scal d1 d2 hb with ⟨h1, h2⟩ | ⟨h1, h2, h3⟩
  · exact .inl ⟨h1, by rw [h2]; exact fin_v g (.bl _) k⟩
  · exact .inr ⟨d, e, dp_ex g d1, dp_ex g d2, h1, h2, by rw [h3]; exact fin_v g (.bl _) k⟩
theorem od_lt : OpD X (compareOp .Lt) vLt := OpR.mono (OpR.or op_lt op_lt_str) fun x y H Q h => by
  obtain ⟨G, d, e, z, g, d1, d2, q, k⟩ := h
  unfold vLt at q
  split at q
  · cases dp_int d1; cases dp_int d2; cases q
    exact .inl ⟨_, _, rfl, rfl, fin_v g (.bl _) k⟩
  · cases dp_str d1; cases dp_str d2; cases q
    exact .inr ⟨_, _, rfl, rfl, fin_v g (.bl _) k⟩
  · cases q
theorem od_le : OpD X (compareOp .LtE) vLe := oi0 op_le (fun d e z h => by unfold vLe at h; split at h <;> cases h; exact ⟨_, _, rfl, rfl, rfl⟩) fun _ _ _ => .bl _
theorem od_gt : OpD X (compareOp .Gt) vGt := oi0 op_gt (fun d e z h => by unfold vGt at h; split at h <;> cases h; exact ⟨_, _, rfl, rfl, rfl⟩) fun _ _ _ => .bl _
theorem od_ge : OpD X (compareOp .GtE) vGe := oi0 op_ge (fun d e z h => by unfold vGe at h; split at h <;> cases h; exact ⟨_, _, rfl, rfl, rfl⟩) fun _ _ _ => .bl _
theorem isNon_eq {K : PySem.W.Frag} {G : Hp} {v : V} {d : PyData} (h : Dp K G v d) : decide (v = .non) = isNonD d := by
  cases h <;> simp [isNonD]
theorem od_is : OpD X (compareOp .Is) vIs := OpR.mono (OpR.or op_isN op_isBl) fun x y H Q h => by
  obtain ⟨G, d, e, z, g, d1, d2, q, k⟩ := h
  unfold vIs at q
  split at q
  · cases dp_non d2; cases q
    exact .inl ⟨rfl, by rw [isNon_eq d1]; exact fin_v g (.bl _) k⟩
  · cases dp_bool d1; cases dp_bool d2; cases q
    exact .inr ⟨_, _, rfl, rfl, fin_v g (.bl _) k⟩
  · cases q
theorem od_isNot : OpD X (compareOp .IsNot) vIsNot := OpR.mono (OpR.or op_notN op_notBl) fun x y H Q h => by
  obtain ⟨G, d, e, z, g, d1, d2, q, k⟩ := h
  unfold vIsNot at q
  split at q
  · cases dp_non d2; cases q
    exact .inl ⟨rfl, by rw [isNon_eq d1]; exact fin_v g (.bl _) k⟩
  · cases dp_bool d1; cases dp_bool d2; cases q
    exact .inr ⟨_, _, rfl, rfl, fin_v g (.bl _) k⟩
  · cases q
theorem od_in (hu : X.A.units + 65 < cLine) : OpD X (compareOp .In) vIn := OpR.mono (OpR.or op_in_sign (OpR.or op_in_str (op_inD hu))) fun x y H Q h => by
  obtain ⟨G, d, e, z, g, d1, d2, q, k⟩ := h
  obtain ⟨b, hb, rfl⟩ := Option.map_eq_some_iff.mp q
  unfold vInB at hb
  split at hb
  · rename_i x' y'
    cases dp_str d1; cases dp_str d2
    split at hb
    · rename_i c hc
      cases hb
      refine .inl ⟨c, y', ?_, rfl, fin_v g (.bl _) k⟩
      have : x' = ⟨#[c]⟩ := by
        cases x'
        rename_i a
        simp only at hc
        have : a = #[c] := by
          rw [← Array.toList_inj]
          exact hc
        rw [this]
      rw [this]
    · cases hb
      exact .inr (.inl ⟨_, _, rfl, rfl, fin_v g (.bl _) k⟩)
  · split at hb
    · rename_i c
      cases hb
      exact .inr (.inr ⟨_, _, dp_ex g d1, dp_ex g d2, c.1, c.2, fin_v g (.bl _) k⟩)
    · cases hb
  · cases hb
theorem od_notIn (hu : X.A.units + 65 < cLine) : OpD X (compareOp .NotIn) vNotIn := OpR.mono (OpR.or op_notIn_sign (OpR.or op_notin_str (op_notInD hu))) fun x y H Q h => by
  obtain ⟨G, d, e, z, g, d1, d2, q, k⟩ := h
  obtain ⟨b, hb, rfl⟩ := Option.map_eq_some_iff.mp q
  unfold vInB at hb
  split at hb
  · rename_i x' y'
    cases dp_str d1; cases dp_str d2
    split at hb
    · rename_i c hc
      cases hb
      refine .inl ⟨c, y', ?_, rfl, fin_v g (.bl _) k⟩
      have : x' = ⟨#[c]⟩ := by
        cases x'
        rename_i a
        simp only at hc
        have : a = #[c] := by
          rw [← Array.toList_inj]
          exact hc
        rw [this]
      rw [this]
    · cases hb
      exact .inr (.inl ⟨_, _, rfl, rfl, fin_v g (.bl _) k⟩)
  · split at hb
    · rename_i c
      cases hb
      exact .inr (.inr ⟨_, _, dp_ex g d1, dp_ex g d2, c.1, c.2, fin_v g (.bl _) k⟩)
    · cases hb
  · cases hb
end
end VE
set_option Elab.async false
set_option linter.all false
set_option maxRecDepth 100000
namespace VE
noncomputable section
open PySem PySem.Spec L2 Evl
/-! ### truth -/
def truD : PyData → Option Bool
  | .none => some false
  | .bool b => some b
  | .int i => some (i != 0)
  | .str x => @ite _ (x.length ≤ sizeLine) (Classical.propDecidable _) (some ((x.length : Int) != 0)) none
  | .list xs => some (!xs.isEmpty)
  | .tuple xs => some (!xs.isEmpty)
  | .dict _ => none
theorem dpa_empty {K : PySem.W.Frag} {G : Hp} {vs : List V} {ds : List PyData} (a : DpAll K G vs ds) : (!vs.isEmpty) = !ds.isEmpty := by cases a <;> rfl
theorem dp_tru {K : PySem.W.Frag} {G H : Hp} {v : V} {d : PyData} {b : Bool} (e : Ex G H) (h : Dp K G v d) (q : truD d = some b) : TruV K v H b := by
  cases h with
  | non => cases q; rfl
  | bl b => cases q; rfl
  | int i => cases q; rfl
  | str x =>
    simp only [truD] at q
    split at q
    · rename_i hx
      cases q
      exact ⟨hx, rfl⟩
    · cases q
  | lst h a =>
    cases q
    exact .inl ⟨_, ex_l e h, (dpa_empty a).symm⟩
  | tup h a =>
    cases q
    exact .inr (.inl ⟨_, ex_t e h, (dpa_empty a).symm⟩)
section
variable {X : Cx} {e a b c : Expr} {pos : Pos} {m ma mb mc : M} {mt mu : MT} {rest : List Expr}
def mTru (m : M) : MT := fun n => (m n).bind truD
theorem pb_truth (ha : PV X a m) (he : ∀ whole, isTrue a X.env whole = (do let v ← whole; standAt a.pos; holding [v] (truthy v)) := by intro _; rfl) : PB X a (mTru m) := PT.mono (pt_truth ha he) fun σ H Q h => by
  obtain ⟨G, n, b, g, r, q, k⟩ := h
  obtain ⟨d, hd, q⟩ := Option.bind_eq_some_iff.mp q
  exact ⟨G, n, d, g, r, hd, fun v H1 G1 g1 d1 => ⟨b, dp_tru g1.s d1 q, k H1 G1 g1⟩⟩
def mNot (m : MT) : MT := fun n => (m n).map not
theorem pb_not (ha : PB X a mt) : PB X (.UnaryOp .Not a pos) (mNot mt) := PT.mono (pt_not ha) fun σ H Q h => by
  obtain ⟨G, n, b, g, r, q, k⟩ := h
  obtain ⟨d, hd, rfl⟩ := Option.map_eq_some_iff.mp q
  exact ⟨G, n, d, g, r, hd, fun H1 G1 g1 => k H1 G1 g1⟩
def mAnd (ma mb : MT) : MT := fun n => (ma n).bind fun a => if a = true then mb n else some false
def mOr (ma mb : MT) : MT := fun n => (ma n).bind fun a => if a = true then some true else mb n
abbrev PBW (X : Cx) (e : Expr) (m : MT) : Prop := PW X e (tMT X.K m)
theorem PW.mono {X : Cx} {e : Expr} {t t' : TT} (h : PW X e t) (i : ∀ σ H Q, t' σ H Q → t σ H Q) : PW X e t' := ⟨fun wh pins s σ H Q I q => h.run wh pins s σ H Q I (i σ H Q q)⟩
theorem pbw_and1 (ha : PB X a mt) : PBW X (.BoolOp .And [a] pos) mt := pw_and1 ha
theorem pbw_or1 (ha : PB X a mt) : PBW X (.BoolOp .Or [a] pos) mt := pw_or1 ha
theorem t_and {K : PySem.W.Frag} : ∀ σ H Q, tMT K (mAnd mt mu) σ H Q → tAnd (tMT K mt) (tMT K mu) σ H Q := fun σ H Q h => by
  obtain ⟨G, n, b, g, r, q, k⟩ := h
  obtain ⟨d, hd, q⟩ := Option.bind_eq_some_iff.mp q
  refine ⟨G, n, d, g, r, hd, fun H1 G1 g1 => ?_⟩
  cases d with
  | true => exact iteT ⟨G1, n, b, g1.s, r.mono g1.g, by simpa using q, fun H2 G2 g2 => k H2 G2 (g1.trans g2)⟩
  | false =>
    simp at q
    subst q
    exact iteF (k H1 G1 g1)
theorem t_or {K : PySem.W.Frag} : ∀ σ H Q, tMT K (mOr mt mu) σ H Q → tOr (tMT K mt) (tMT K mu) σ H Q := fun σ H Q h => by
  obtain ⟨G, n, b, g, r, q, k⟩ := h
  obtain ⟨d, hd, q⟩ := Option.bind_eq_some_iff.mp q
  refine ⟨G, n, d, g, r, hd, fun H1 G1 g1 => ?_⟩
  cases d with
  | false => exact iteF ⟨G1, n, b, g1.s, r.mono g1.g, by simpa using q, fun H2 G2 g2 => k H2 G2 (g1.trans g2)⟩
  | true =>
    simp at q
    subst q
    exact iteT (k H1 G1 g1)
theorem pbw_and (ha : PB X a mt) (hb : PBW X (.BoolOp .And (b :: rest) pos) mu) : PBW X (.BoolOp .And (a :: b :: rest) pos) (mAnd mt mu) := PW.mono (pw_and ha hb) t_and
theorem pbw_or (ha : PB X a mt) (hb : PBW X (.BoolOp .Or (b :: rest) pos) mu) : PBW X (.BoolOp .Or (a :: b :: rest) pos) (mOr mt mu) := PW.mono (pw_or ha hb) t_or
theorem pb_w (h : PBW X a mt) : PB X a mt := h.pt
/-! as values -/
def mAndV (ma mb : M) : M := fun n => (ma n).bind fun x => (truD x).bind fun k => if k = true then mb n else some x
def mOrV (ma mb : M) : M := fun n => (ma n).bind fun x => (truD x).bind fun k => if k = true then some x else mb n
def mNotV (m : M) : M := fun n => (m n).bind fun x => (truD x).map fun k => .bool (!k)
theorem pv_one {op : BoolOp} (ha : PV X a m) : PV X (.BoolOp op [a] pos) m := pe_one ha
theorem pv_and (ha : PV X a ma) (hb : PV X (.BoolOp .And (b :: rest) pos) mb) : PV X (.BoolOp .And (a :: b :: rest) pos) (mAndV ma mb) := PE.mono (pe_andT ha hb) fun σ H Q h => by
  obtain ⟨G, n, d, g, r, q, k⟩ := h
  obtain ⟨x, hx, q⟩ := Option.bind_eq_some_iff.mp q
  obtain ⟨c, hc, q⟩ := Option.bind_eq_some_iff.mp q
  refine ⟨G, n, x, g, r, hx, fun v H1 G1 g1 d1 => ⟨c, dp_tru g1.s d1 hc, ?_⟩⟩
  cases c with
  | true => exact iteT ⟨G1, n, d, g1.s, r.mono g1.g, by simpa using q, fun v H2 G2 g2 => k v H2 G2 (g1.trans g2)⟩
  | false =>
    simp at q
    subst q
    exact iteF (k v H1 G1 g1 d1)
theorem pv_or (ha : PV X a ma) (hb : PV X (.BoolOp .Or (b :: rest) pos) mb) : PV X (.BoolOp .Or (a :: b :: rest) pos) (mOrV ma mb) := PE.mono (pe_orT ha hb) fun σ H Q h => by
  obtain ⟨G, n, d, g, r, q, k⟩ := h
  obtain ⟨x, hx, q⟩ := Option.bind_eq_some_iff.mp q
  obtain ⟨c, hc, q⟩ := Option.bind_eq_some_iff.mp q
  refine ⟨G, n, x, g, r, hx, fun v H1 G1 g1 d1 => ⟨c, dp_tru g1.s d1 hc, ?_⟩⟩
  cases c with
  | false => exact iteF ⟨G1, n, d, g1.s, r.mono g1.g, by simpa using q, fun v H2 G2 g2 => k v H2 G2 (g1.trans g2)⟩
  | true =>
    simp at q
    subst q
    exact iteT (k v H1 G1 g1 d1)
theorem pv_not (ha : PV X a m) : PV X (.UnaryOp .Not a pos) (mNotV m) := PE.mono (pe_notT ha) fun σ H Q h => by
  obtain ⟨G, n, d, g, r, q, k⟩ := h
  obtain ⟨x, hx, q⟩ := Option.bind_eq_some_iff.mp q
  obtain ⟨c, hc, rfl⟩ := Option.map_eq_some_iff.mp q
  exact ⟨G, n, x, g, r, hx, fun v H1 G1 g1 d1 => ⟨c, dp_tru g1.s d1 hc, k _ H1 G1 g1 (.bl _)⟩⟩
def vNeg : PyData → Option PyData
  | .int i => some (.int (-i))
  | _ => none
def mUn (g : PyData → Option PyData) (m : M) : M := fun n => (m n).bind g
theorem pv_neg (ha : PV X a m) : PV X (.UnaryOp .USub a pos) (mUn vNeg m) := PE.mono (pe_un un_neg ha) fun σ H Q h => by
  obtain ⟨G, n, d, g, r, q, k⟩ := h
  obtain ⟨x, hx, q⟩ := Option.bind_eq_some_iff.mp q
  refine ⟨G, n, x, g, r, hx, fun v H1 G1 g1 d1 => ?_⟩
  unfold vNeg at q
  split at q
  · cases q
    cases dp_int d1
    exact ⟨_, rfl, k _ H1 G1 g1 (.int _)⟩
  · cases q
def mIf (mt : MT) (ma mb : M) : M := fun n => (mt n).bind fun c => if c = true then ma n else mb n
theorem pv_if (hc : PB X c mt) (ha : PV X a ma) (hb : PV X b mb) : PV X (.IfExp c a b pos) (mIf mt ma mb) := PE.mono (pe_ifExp hc ha hb) fun σ H Q h => by
  obtain ⟨G, n, d, g, r, q, k⟩ := h
  obtain ⟨x, hx, q⟩ := Option.bind_eq_some_iff.mp q
  refine ⟨G, n, x, g, r, hx, fun H1 G1 g1 => ?_⟩
  cases x with
  | true => exact iteT ⟨G1, n, d, g1.s, r.mono g1.g, by simpa using q, fun v H2 G2 g2 => k v H2 G2 (g1.trans g2)⟩
  | false => exact iteF ⟨G1, n, d, g1.s, r.mono g1.g, by simpa using q, fun v H2 G2 g2 => k v H2 G2 (g1.trans g2)⟩
/-- a op1 b op2 c -/
def mChain (g g' : PyData → PyData → Option PyData) (ma mb mc : M) : M := fun n => (ma n).bind fun x => (mb n).bind fun y => (g x y).bind fun z => (asB z).bind fun k => if k = true then (mc n).bind fun w => g' y w else some (.bool false)
theorem t_chain {K : PySem.W.Frag} {g g' : PyData → PyData → Option PyData} : ∀ σ H Q, tM K (mChain g g' ma mb mc) σ H Q → tChain (rD K g) (rD K g') (tM K ma) (tM K mb) (tM K mc) σ H Q := fun σ H Q h => by
  obtain ⟨G, n, d, e, r, q, k⟩ := h
  unfold mChain at q
  obtain ⟨x, hx, q⟩ := Option.bind_eq_some_iff.mp q
  obtain ⟨y, hy, q⟩ := Option.bind_eq_some_iff.mp q
  obtain ⟨z, hz, q⟩ := Option.bind_eq_some_iff.mp q
  obtain ⟨c, hc, q5⟩ := Option.bind_eq_some_iff.mp q
  cases asB_eq hc
  refine ⟨G, n, x, e, r, hx, fun v H1 G1 g1 d1 => ?_⟩
  refine ⟨G1, n, y, g1.s, r.mono g1.g, hy, fun w H2 G2 g2 d2 => ?_⟩
  refine ⟨G2, x, y, _, g2.s, dp_ex g2.g d1, d2, hz, fun u H3 G3 g3 d3 => ?_⟩
  cases dp_bool d3
  refine ⟨c, rfl, ?_⟩
  cases c with
  | true =>
    rw [if_pos rfl] at q5
    obtain ⟨w', hw, q5⟩ := Option.bind_eq_some_iff.mp q5
    refine iteT ⟨G3, n, w', g3.s, r.mono ((g1.trans g2).trans g3).g, hw, fun v' H4 G4 g4 d4 => ?_⟩
    exact ⟨G4, y, w', d, g4.s, dp_ex (g3.trans g4).g d2, d4, q5, fun z' H5 G5 g5 d5 => k z' H5 G5 ((((g1.trans g2).trans g3).trans g4).trans g5) d5⟩
  | false =>
    rw [if_neg Bool.false_ne_true] at q5
    cases q5
    exact iteF (k _ H3 G3 ((g1.trans g2).trans g3) (.bl _))
theorem pv_chain {op op' : CmpOp} {g g' : PyData → PyData → Option PyData} (ho : OpD X (compareOp op) g) (ho' : OpD X (compareOp op') g') (ha : PV X a ma) (hb : PV X b mb) (hc : PV X c mc)
    (hm : lastMarks [op, op'] [b, c] = false := by with_unfolding_all rfl) : PV X (.Compare a [op, op'] [b, c] pos) (mChain g g' ma mb mc) := PE.mono (pe_chain ho ho' ha hb hc hm) t_chain
theorem pb_chain {op op' : CmpOp} {g g' : PyData → PyData → Option PyData} (ho : OpD X (compareOp op) g) (ho' : OpD X (compareOp op') g') (ha : PV X a ma) (hb : PV X b mb) (hc : PV X c mc)
    (hm : lastMarks [op, op'] [b, c] = false := by with_unfolding_all rfl) : PB X (.Compare a [op, op'] [b, c] pos) (mBool (mChain g g' ma mb mc)) := PT.mono (pt_chain ho ho' ha hb hc hm) (t_tTest t_chain)
/-! ### items and slices -/
def vIx : PyData → PyData → Option PyData
  | .list xs, .int i => atI xs i
  | .tuple xs, .int i => atI xs i
  | .str z, .int i => @ite _ (z.length ≤ sizeLine) (Classical.propDecidable _) ((atI z.cps.toList i).map fun c => .str ⟨#[c]⟩) none
  | _, _ => none
theorem dpa_at {K : PySem.W.Frag} {G : Hp} {vs : List V} {ds : List PyData} {i : Int} {d : PyData} (a : DpAll K G vs ds) (h : atI ds i = some d) : ∃ v, atI vs i = some v ∧ Dp K G v d := by
  unfold atI at h ⊢
  rw [dpa_len a]
  obtain ⟨j, hj, h⟩ := Option.bind_eq_some_iff.mp h
  obtain ⟨v, hv, dv⟩ := dpa_get a h
  exact ⟨v, by rw [hj]; exact hv, dv⟩
theorem pv_ix (ha : PV X a ma) (hb : PV X b mb) (hs : PlainIx b := by exact fun _ _ => rfl) : PV X (.Subscript a b pos) (mBin vIx ma mb) := PE.mono (pe_ix ix_seq ha hb hs) fun σ H Q h => by
  obtain ⟨G, n, d, e, r, q, k⟩ := h
  unfold mBin at q
  obtain ⟨x, hx, q⟩ := Option.bind_eq_some_iff.mp q
  obtain ⟨y, hy, q⟩ := Option.bind_eq_some_iff.mp q
  refine ⟨G, n, x, e, r, hx, fun v H1 G1 g1 d1 => ?_⟩
  refine ⟨G1, n, y, g1.s, r.mono g1.g, hy, fun w H2 G2 g2 d2 => ?_⟩
  have gg := g1.trans g2
  unfold vIx at q
  split at q
  · obtain ⟨p, vs, rfl, h1, a1⟩ := dp_lst d1
    cases dp_int d2
    obtain ⟨u, hu, du⟩ := dpa_at a1 q
    exact .inl ⟨p, vs, _, u, rfl, rfl, ex_l (g2.g.trans g2.s) h1, hu, k u H2 G2 gg (dp_ex g2.g du)⟩
  · obtain ⟨p, vs, rfl, h1, a1⟩ := dp_tup d1
    cases dp_int d2
    obtain ⟨u, hu, du⟩ := dpa_at a1 q
    exact .inr (.inl ⟨p, vs, _, u, rfl, rfl, ex_t (g2.g.trans g2.s) h1, hu, k u H2 G2 gg (dp_ex g2.g du)⟩)
  · cases dp_str d1
    cases dp_int d2
    split at q
    · rename_i hz
      obtain ⟨u, hu, rfl⟩ := Option.map_eq_some_iff.mp q
      exact .inr (.inr ⟨_, _, u, rfl, rfl, hz, hu, k _ H2 G2 gg (.str _)⟩)
    · cases q
  · cases q
abbrev MO := En → Option (Option Int)
def tMO (K : PySem.W.Frag) (m : MO) : TO := fun σ H Q => ∃ G n b, Ex G H ∧ Vr K G σ n ∧ m n = some b ∧ ∀ H' G', Gr G H G' H' → Q b H'
abbrev POV (X : Cx) (e : Option Expr) (m : MO) : Prop := PO X e (tMO X.K m)
theorem PO.mono {X : Cx} {e : Option Expr} {t t' : TO} (h : PO X e t) (i : ∀ σ H Q, t' σ H Q → t σ H Q) : PO X e t' := ⟨fun pins s σ H Q I q => h.run pins s σ H Q I (i σ H Q q)⟩
def mON : MO := fun _ => some none
def asI : PyData → Option Int
  | .int i => some i
  | _ => none
theorem asI_eq {d : PyData} {b : Int} (h : asI d = some b) : d = .int b := by
  cases d <;> simp [asI] at h
  rw [h]
def mOS (m : M) : MO := fun n => (m n).bind fun x => (asI x).map some
theorem pov_none : POV X none mON := PO.mono po_none fun σ H Q h => by
  obtain ⟨G, n, d, e, r, q, k⟩ := h
  cases q
  exact k H G (Gr.refl e)
theorem pov_some (ha : PV X a m) : POV X (some a) (mOS m) := PO.mono (po_some ha) fun σ H Q h => by
  obtain ⟨G, n, d, e, r, q, k⟩ := h
  obtain ⟨x, hx, q⟩ := Option.bind_eq_some_iff.mp q
  obtain ⟨i, hi, rfl⟩ := Option.map_eq_some_iff.mp q
  cases asI_eq hi
  refine ⟨G, n, _, e, r, hx, fun v H1 G1 g1 d1 => ?_⟩
  cases dp_int d1
  exact ⟨i, rfl, k H1 G1 g1⟩
def cutD (xs : List PyData) (lo hi : Option Int) : List PyData := (xs.drop (HT.sIx xs.length 0 lo)).take (HT.sIx xs.length xs.length hi - HT.sIx xs.length 0 lo)
def vSl (d : PyData) (lo hi : Option Int) : Option PyData := match d with
  | .list xs => some (.list (cutD xs lo hi))
  | .tuple xs => some (.tuple (cutD xs lo hi))
  | .str z => @ite _ (z.length ≤ sizeLine) (Classical.propDecidable _) (some (.str (cutS z lo hi))) none
  | _ => none
def mSl (m : M) (ml mh : MO) : M := fun n => (m n).bind fun x => (ml n).bind fun l => (mh n).bind fun h => vSl x l h
theorem dpa_cut {K : PySem.W.Frag} {G : Hp} {vs : List V} {ds : List PyData} {lo hi : Option Int} (a : DpAll K G vs ds) : DpAll K G (cutV vs lo hi) (cutD ds lo hi) := by
  unfold cutV cutD
  rw [dpa_len a]
  exact dpa_take _ (dpa_drop _ a)
theorem pv_slice {lo hi : Option Expr} {ml mh : MO} {p2 : Pos} (ha : PV X a m) (hl : POV X lo ml) (hh : POV X hi mh) : PV X (.Subscript a (.Slice lo hi none p2) pos) (mSl m ml mh) := PE.mono (pe_slice (SlR.or sl_list (SlR.or sl_tupA sl_str)) ha hl hh) fun σ H Q h => by
  obtain ⟨G, n, d, e, r, q, k⟩ := h
  unfold mSl at q
  obtain ⟨x, hx, q⟩ := Option.bind_eq_some_iff.mp q
  obtain ⟨l, hl, q⟩ := Option.bind_eq_some_iff.mp q
  obtain ⟨u, hu, q⟩ := Option.bind_eq_some_iff.mp q
  refine ⟨G, n, x, e, r, hx, fun v H1 G1 g1 d1 => ?_⟩
  refine ⟨G1, n, l, g1.s, r.mono g1.g, hl, fun H2 G2 g2 => ?_⟩
  refine ⟨G2, n, u, g2.s, r.mono (g1.trans g2).g, hu, fun H3 G3 g3 => ?_⟩
  have gg := (g1.trans g2).trans g3
  have d3 := dp_ex (g2.trans g3).g d1
  have k' : ∀ v H' G', Gr G3 H3 G' H' → Dp X.K G' v d → Q v H' := fun v H' G' g4 => k v H' G' (gg.trans g4)
  unfold vSl at q
  split at q
  · cases q
    obtain ⟨p, vs, rfl, h1, a1⟩ := dp_lst d3
    exact .inl ⟨p, vs, rfl, ex_l g3.s h1, fin_l g3.s (dpa_cut a1) k'⟩
  · cases q
    obtain ⟨p, vs, rfl, h1, a1⟩ := dp_tup d3
    refine .inr (.inl ⟨p, vs, rfl, ex_t g3.s h1, fun hw => ?_, fun _ => fin_t g3.s (dpa_cut a1) k'⟩)
    have e1 : ∀ xs : List PyData, vs.length = xs.length → cutD xs l u = xs := fun xs hv => by
      rw [hv] at hw
      unfold cutD
      rw [hw.1, hw.2]
      simp
    rw [e1 _ (dpa_len a1)] at k'
    exact fin_v g3.s (.tup h1 a1) k'
  · split at q
    · rename_i hz
      cases q
      cases dp_str d3
      exact .inr (.inr ⟨_, rfl, hz, fin_v g3.s (.str _) k'⟩)
    · cases q
  · cases q
end
end
end VE
set_option Elab.async false
set_option linter.all false
set_option maxRecDepth 100000
namespace VE
noncomputable section
open PySem PySem.Spec L2 Evl
section
variable {X : Cx} {e a b c : Expr} {es : List Expr} {pos p : Pos} {m ma mb mc : M} {ms : MA}
/-! ### argument lists and displays -/
def mNil : MA := fun _ => some []
def mCons (m : M) (ms : MA) : MA := fun n => (m n).bind fun d => (ms n).bind fun ds => some (d :: ds)
theorem pl_nil : PL X [] mNil := PA.mono pa_nil fun σ H Q h => by
  obtain ⟨G, n, d, e, r, q, k⟩ := h
  cases q
  exact k [] H G (Gr.refl e) .nil
theorem pl_cons (ha : PV X e m) (hr : PL X es ms) (hs : starEach (e :: es) X.env = (false, eval e X.env) :: starEach es X.env := by rfl) : PL X (e :: es) (mCons m ms) := PA.mono (pa_cons ha hr hs) fun σ H Q h => by
  obtain ⟨G, n, ds, g, r, q, k⟩ := h
  obtain ⟨x, hx, q⟩ := Option.bind_eq_some_iff.mp q
  obtain ⟨y, hy, q⟩ := Option.bind_eq_some_iff.mp q
  cases q
  refine ⟨G, n, x, g, r, hx, fun v H1 G1 g1 d1 => ?_⟩
  refine ⟨G1, n, y, g1.s, r.mono g1.g, hy, fun vs H2 G2 g2 d2 => ?_⟩
  exact k _ H2 G2 (g1.trans g2) (.cons (dp_ex g2.g d1) d2)
def mTup (ms : MA) : M := fun n => (ms n).bind fun ds => @ite _ (ds.length ≤ sizeLine) (Classical.propDecidable _) (some (.tuple ds)) none
theorem pv_tup {x1 : Nat} (h : PL X es ms) : PV X (.Tuple es x1 pos) (mTup ms) := PE.mono (pe_tup h) fun σ H Q h => by
  obtain ⟨G, n, d, g, r, q, k⟩ := h
  obtain ⟨x, hx, q⟩ := Option.bind_eq_some_iff.mp q
  split at q
  · rename_i hz
    cases q
    exact ⟨G, n, x, g, r, hx, fun vs H1 G1 g1 d1 => ⟨by rw [dpa_len d1]; exact hz, fin_t g1.s d1 fun v H2 G2 g2 d2 => k v H2 G2 (g1.trans g2) d2⟩⟩
  · cases q
/-- fresh lists are values -/
def mL (ms : MA) : M := fun n => (ms n).map .list
theorem t_mL {K : PySem.W.Frag} : ∀ σ H Q, tM K (mL ms) σ H Q → tMF K ms σ H Q := fun σ H Q h => by
  obtain ⟨G, n, d, g, r, q, k⟩ := h
  obtain ⟨x, hx, rfl⟩ := Option.map_eq_some_iff.mp q
  refine ⟨G, n, x, g, r, hx, fun p vs H1 G1 g1 h0 hp h1 d1 => ?_⟩
  have g2 : Gr G H (upd G1 p (.lst vs)) H1 :=
    ⟨g1.g.trans (Ex.new hp), fun a o h => by
      by_cases z : a = p
      · subst z
        rw [upd_same] at h
        rw [h1]
        exact h
      · rw [upd_ne z] at h
        exact g1.s a o h, g1.h, fun a o h q => by
      rw [upd_ne (ne_of_none h h0)]
      exact g1.f a o h q⟩
  exact k (.ref p) H1 _ g2 (.lst (SqL.of upd_same) (dpa_ex (Ex.new hp) d1))
theorem pv_of_pf (h : PF X e ms) : PV X e (mL ms) := PE.mono h t_mL
def mLst (ms : MA) : MA := fun n => (ms n).bind fun ds => @ite _ (ds.length ≤ sizeLine) (Classical.propDecidable _) (some ds) none
theorem pf_lst (h : PL X es ms) : PF X (.List es pos) (mLst ms) := PE.mono (pe_lst h) fun σ H Q h => by
  obtain ⟨G, n, ds, g, r, q, k⟩ := h
  obtain ⟨x, hx, q⟩ := Option.bind_eq_some_iff.mp q
  split at q
  · rename_i hz
    cases q
    refine ⟨G, n, _, g, r, hx, fun vs H1 G1 g1 d1 => ⟨by rw [dpa_len d1]; exact hz, fun p hp => ?_⟩⟩
    refine k p vs _ G1 (g1.trans (Gr.newo g1.s hp)) (fresh_back g1.h hp) (fresh_back g1.s hp) upd_same d1
  · cases q
theorem pv_lst (h : PL X es ms) : PV X (.List es pos) (mL (mLst ms)) := pv_of_pf (pf_lst h)
/-! ### calls of what is built in -/
def rC (K : PySem.W.Frag) (g : List PyData → Option PyData) : List V → Hp → VK → Prop := fun vs H Q => ∃ G ds d, Ex G H ∧ DpAll K G vs ds ∧ g ds = some d ∧ ∀ v H' G', Gr G H G' H' → Dp K G' v d → Q v H'
abbrev CallD (X : Cx) (f : Value) (g : List PyData → Option PyData) : Prop := CallR X f (rC X.K g)
def mCall (g : List PyData → Option PyData) (ms : MA) : M := fun n => (ms n).bind g
theorem t_cb {K : PySem.W.Frag} {g : List PyData → Option PyData} : ∀ σ H Q, tM K (mCall g ms) σ H Q → tCB (rC K g) (tMA K ms) σ H Q := fun σ H Q h => by
  obtain ⟨G, n, d, e, r, q, k⟩ := h
  obtain ⟨x, hx, q⟩ := Option.bind_eq_some_iff.mp q
  exact ⟨G, n, x, e, r, hx, fun vs H1 G1 g1 d1 => ⟨G1, x, d, g1.s, d1, q, fun v H2 G2 g2 d2 => k v H2 G2 (g1.trans g2) d2⟩⟩
theorem pv_cb {id : String} {x : Str} {g : List PyData → Option PyData} (hc : CallD X (.builtin id) g) (hm : X.mg x = none) (ha : PL X (e :: es) ms) (hg : Gl X x := by rfl) (hv : bootBuiltins x = some (.builtin id) := by decide +kernel) (hn : x ≠ "__name__" := by decide) (hdb : (x == ("__debug__" : Str)) = false := by decide)
    (he : starEach (e :: es) X.env = (false, eval e X.env) :: starEach es X.env := by rfl) (hpl : (backTo pos (starEach es X.env)).any (·.1) = false := by rfl) : PV X (.Call (.Name x p) (e :: es) [] pos) (mCall g ms) := PE.mono (pe_callB hc hg hm hv ha hn hdb he hpl) t_cb
theorem pv_cty {T : String} {x : Str} {g : List PyData → Option PyData} (hc : CallD X (.type T) g) (hm : X.mg x = none) (ha : PL X (e :: es) ms) (hg : Gl X x := by rfl) (hv : bootBuiltins x = some (.type T) := by decide +kernel) (hn : x ≠ "__name__" := by decide) (hdb : (x == ("__debug__" : Str)) = false := by decide)
    (he : starEach (e :: es) X.env = (false, eval e X.env) :: starEach es X.env := by rfl) (hpl : (backTo pos (starEach es X.env)).any (·.1) = false := by rfl) : PV X (.Call (.Name x p) (e :: es) [] pos) (mCall g ms) := PE.mono (pe_callTy hc hg hm hv ha hn hdb he hpl) t_cb
def vLen : List PyData → Option PyData
  | [.list xs] => some (.int xs.length)
  | [.tuple xs] => some (.int xs.length)
  | [.str z] => @ite _ (z.length ≤ sizeLine) (Classical.propDecidable _) (some (.int z.length)) none
  | _ => none
theorem dpa1 {K : PySem.W.Frag} {G : Hp} {vs : List V} {d : PyData} (h : DpAll K G vs [d]) : ∃ v, vs = [v] ∧ Dp K G v d := by
  cases h with
  | cons h a => cases a; exact ⟨_, rfl, h⟩
theorem dpa2 {K : PySem.W.Frag} {G : Hp} {vs : List V} {d d' : PyData} (h : DpAll K G vs [d, d']) : ∃ v v', vs = [v, v'] ∧ Dp K G v d ∧ Dp K G v' d' := by
  cases h with
  | cons h a =>
    obtain ⟨v, rfl, h'⟩ := dpa1 a
    exact ⟨_, _, rfl, h, h'⟩
theorem cd_len : CallD X (.builtin "len") vLen := CallR.mono (CallR.or call_len_seq call_len_str) fun vs H Q h => by
  obtain ⟨G, ds, d, g, a, q, k⟩ := h
  unfold vLen at q
  split at q
  · cases q
    obtain ⟨v, rfl, h1⟩ := dpa1 a
    obtain ⟨p, vs, rfl, h2, a2⟩ := dp_lst h1
    exact .inl ⟨p, vs, rfl, .inl (ex_l g h2), by rw [dpa_len a2]; exact fin_v g (.int _) k⟩
  · cases q
    obtain ⟨v, rfl, h1⟩ := dpa1 a
    obtain ⟨p, vs, rfl, h2, a2⟩ := dp_tup h1
    exact .inl ⟨p, vs, rfl, .inr (ex_t g h2), by rw [dpa_len a2]; exact fin_v g (.int _) k⟩
  · split at q
    · rename_i hz
      cases q
      obtain ⟨v, rfl, h1⟩ := dpa1 a
      cases dp_str h1
      exact .inr ⟨_, rfl, hz, fin_v g (.int _) k⟩
    · cases q
  · cases q
def vAbs : List PyData → Option PyData
  | [.int i] => some (.int (if i < 0 then -i else i))
  | _ => none
theorem cd_abs : CallD X (.builtin "abs") vAbs := CallR.mono call_abs fun vs H Q h => by
  obtain ⟨G, ds, d, g, a, q, k⟩ := h
  unfold vAbs at q
  split at q
  · cases q
    obtain ⟨v, rfl, h1⟩ := dpa1 a
    cases dp_int h1
    exact ⟨_, rfl, fin_v g (.int _) k⟩
  · cases q
def vMax2 : List PyData → Option PyData
  | [.int i, .int j] => some (.int (if j > i then j else i))
  | _ => none
def vMin2 : List PyData → Option PyData
  | [.int i, .int j] => some (.int (if j < i then j else i))
  | _ => none
theorem cd_max2 (hc : X.calm = true := by rfl) : CallD X (.builtin "max") vMax2 := CallR.mono (call_max2 hc) fun vs H Q h => by
  obtain ⟨G, ds, d, g, a, q, k⟩ := h
  unfold vMax2 at q
  split at q
  · cases q
    obtain ⟨v, w, rfl, h1, h2⟩ := dpa2 a
    cases dp_int h1; cases dp_int h2
    exact ⟨_, _, rfl, fin_v g (.int _) k⟩
  · cases q
theorem cd_min2 (hc : X.calm = true := by rfl) : CallD X (.builtin "min") vMin2 := CallR.mono (call_min2 hc) fun vs H Q h => by
  obtain ⟨G, ds, d, g, a, q, k⟩ := h
  unfold vMin2 at q
  split at q
  · cases q
    obtain ⟨v, w, rfl, h1, h2⟩ := dpa2 a
    cases dp_int h1; cases dp_int h2
    exact ⟨_, _, rfl, fin_v g (.int _) k⟩
  · cases q
def vInt : List PyData → Option PyData
  | [.int i] => some (.int i)
  | [.bool k] => some (.int (if k = true then 1 else 0))
  | [.str z] => @ite _ (z.length ≤ 640) (Classical.propDecidable _) ((PySem.intText? z).map .int) none
  | _ => none
theorem cd_int : CallD X (.type "int") vInt := CallR.mono (CallR.or call_int1 call_int_str) fun vs H Q h => by
  obtain ⟨G, ds, d, g, a, q, k⟩ := h
  unfold vInt at q
  split at q
  · cases q
    obtain ⟨v, rfl, h1⟩ := dpa1 a
    cases dp_int h1
    exact .inl (.inl ⟨_, rfl, fin_v g (.int _) k⟩)
  · cases q
    obtain ⟨v, rfl, h1⟩ := dpa1 a
    cases dp_bool h1
    exact .inl (.inr ⟨_, rfl, fin_v g (.int _) k⟩)
  · split at q
    · rename_i hz
      obtain ⟨i, hi, rfl⟩ := Option.map_eq_some_iff.mp q
      obtain ⟨v, rfl, h1⟩ := dpa1 a
      cases dp_str h1
      exact .inr ⟨_, i, rfl, hi, hz, fin_v g (.int _) k⟩
    · cases q
  · cases q
def vStr : List PyData → Option PyData
  | [.int i] => @ite _ (i.natAbs.log2 < 1920) (Classical.propDecidable _) (some (.str (toString i))) none
  | _ => none
theorem cd_str : CallD X (.type "str") vStr := CallR.mono call_str_int fun vs H Q h => by
  obtain ⟨G, ds, d, g, a, q, k⟩ := h
  unfold vStr at q
  split at q
  · split at q
    · rename_i hz
      cases q
      obtain ⟨v, rfl, h1⟩ := dpa1 a
      cases dp_int h1
      exact ⟨_, rfl, hz, fin_v g (.str _) k⟩
    · cases q
  · cases q
def vTuple : List PyData → Option PyData
  | [.list xs] => some (.tuple xs)
  | [.tuple xs] => some (.tuple xs)
  | _ => none
theorem cd_tuple : CallD X (.type "tuple") vTuple := CallR.mono call_tuple_of fun vs H Q h => by
  obtain ⟨G, ds, d, g, a, q, k⟩ := h
  unfold vTuple at q
  split at q
  · cases q
    obtain ⟨v, rfl, h1⟩ := dpa1 a
    obtain ⟨p, vs, rfl, h2, a2⟩ := dp_lst h1
    exact ⟨p, vs, rfl, .inl ⟨ex_l g h2, fin_t g a2 k⟩⟩
  · cases q
    obtain ⟨v, rfl, h1⟩ := dpa1 a
    obtain ⟨p, vs, rfl, h2, a2⟩ := dp_tup h1
    exact ⟨p, vs, rfl, .inr ⟨ex_t g h2, fin_v g h1 k⟩⟩
  · cases q
/-- calls that give a fresh list -/
def rCF (K : PySem.W.Frag) (g : List PyData → Option (List PyData)) : List V → Hp → VK → Prop := fun vs H Q => ∃ G ds d, Ex G H ∧ DpAll K G vs ds ∧ g ds = some d ∧ ∀ p vs H' G', Gr G H G' H' → H p = none → G' p = none → H' p = some (.lst vs) → DpAll K G' vs d → Q (.ref p) H'
abbrev CallF (X : Cx) (f : Value) (g : List PyData → Option (List PyData)) : Prop := CallR X f (rCF X.K g)
def mCallF (g : List PyData → Option (List PyData)) (ms : MA) : MA := fun n => (ms n).bind g
theorem t_cbF {K : PySem.W.Frag} {g : List PyData → Option (List PyData)} : ∀ σ H Q, tMF K (mCallF g ms) σ H Q → tCB (rCF K g) (tMA K ms) σ H Q := fun σ H Q h => by
  obtain ⟨G, n, d, e, r, q, k⟩ := h
  obtain ⟨x, hx, q⟩ := Option.bind_eq_some_iff.mp q
  exact ⟨G, n, x, e, r, hx, fun vs H1 G1 g1 d1 => ⟨G1, x, d, g1.s, d1, q, fun v vs H2 G2 g2 h0 h1 h2 d2 => k v vs H2 G2 (g1.trans g2) (fresh_back g1.h h0) h1 h2 d2⟩⟩
theorem pf_cty {T : String} {x : Str} {g : List PyData → Option (List PyData)} (hc : CallF X (.type T) g) (hm : X.mg x = none) (ha : PL X (e :: es) ms) (hg : Gl X x := by rfl) (hv : bootBuiltins x = some (.type T) := by decide +kernel) (hn : x ≠ "__name__" := by decide) (hdb : (x == ("__debug__" : Str)) = false := by decide)
    (he : starEach (e :: es) X.env = (false, eval e X.env) :: starEach es X.env := by rfl) (hpl : (backTo pos (starEach es X.env)).any (·.1) = false := by rfl) : PF X (.Call (.Name x p) (e :: es) [] pos) (mCallF g ms) := PE.mono (pe_callTy hc hg hm hv ha hn hdb he hpl) t_cbF
def vListF : List PyData → Option (List PyData)
  | [.list xs] => some xs
  | [.tuple xs] => some xs
  | _ => none
theorem fin_f {K : PySem.W.Frag} {G H : Hp} {Q : VK} {vs : List V} {rs : List PyData} (e : Ex G H) (d : DpAll K G vs rs) (k : ∀ p vs H' G', Gr G H G' H' → H p = none → G' p = none → H' p = some (.lst vs) → DpAll K G' vs rs → Q (.ref p) H') : ∀ p, H p = none → Q (.ref p) (upd H p (.lst vs)) := fun p hp =>
  k p vs _ G (Gr.newo e hp) hp (fresh_back e hp) upd_same d
theorem cf_list : CallF X (.type "list") vListF := CallR.mono call_list_of fun vs H Q h => by
  obtain ⟨G, ds, d, g, a, q, k⟩ := h
  unfold vListF at q
  split at q
  · cases q
    obtain ⟨v, rfl, h1⟩ := dpa1 a
    obtain ⟨p, vs, rfl, h2, a2⟩ := dp_lst h1
    exact ⟨p, vs, rfl, .inl (ex_l g h2), fin_f g a2 k⟩
  · cases q
    obtain ⟨v, rfl, h1⟩ := dpa1 a
    obtain ⟨p, vs, rfl, h2, a2⟩ := dp_tup h1
    exact ⟨p, vs, rfl, .inr (ex_t g h2), fin_f g a2 k⟩
  · cases q
/-! ### isinstance of a built-in type -/
def tyD : PyData → String
  | .none => "NoneType" | .bool _ => "bool" | .int _ => "int" | .str _ => "str" | .list _ => "list" | .tuple _ => "tuple" | .dict _ => "dict"
def vIsi (T : String) (d : PyData) : Option PyData := (kitB (tyD d) T).map .bool
theorem dp_ty {K : PySem.W.Frag} {G H : Hp} {v : V} {d : PyData} (e : Ex G H) (h : Dp K G v d) : TyX K H v (.type (tyD d)) := by
  cases h with
  | non => exact .base .non
  | bl b => exact .base (.bl b)
  | int i => exact .base (.int i)
  | str x => exact .base (.str x)
  | lst h a =>
    rcases h with (h | ⟨o, h⟩) | ⟨o, its, n, h, c, _⟩
    · exact .base (.lst (e _ _ h))
    · exact .base (.frz (e _ _ h))
    · exact .kList h c
  | tup h a =>
    rcases h with (h | ⟨o, h⟩) | ⟨o, its, n, h, c, _⟩
    · exact .base (.tup (e _ _ h))
    · exact .fTuple (e _ _ h)
    · exact .kTuple h c
theorem pv_isi (T : String) {x : Str} {p1 p2 : Pos} (ha : PV X a m) (hm : X.mg "isinstance" = none) (hmT : X.mg x = none) (hv : bootBuiltins x = some (.type T) := by decide +kernel) (hg : Gl X "isinstance" := by rfl) (hgT : Gl X x := by rfl)
    (hn : x ≠ "__name__" := by decide) (hdb : (x == ("__debug__" : Str)) = false := by decide)
    (hs : starEach [a, .Name x p2] X.env = (false, eval a X.env) :: starEach [.Name x p2] X.env := by rfl) (hpl : (backTo pos (starEach [.Name x p2] X.env)).any (·.1) = false := by rfl) :
    PV X (.Call (.Name "isinstance" p1) [a, .Name x p2] [] pos) (mUn (vIsi T) m) := PE.mono (pe_callB (id := "isinstance") call_isi hg hm (by decide +kernel) (pa_cons ha (pa_cons (pe_bltn (v := .ty T) hgT hmT hv rfl hn hdb) pa_nil) hs) (he := hs) (hpl := hpl)) fun σ H Q h => by
  obtain ⟨G, n, d, g, r, q, k⟩ := h
  obtain ⟨x, hx, q⟩ := Option.bind_eq_some_iff.mp q
  obtain ⟨b, hb, rfl⟩ := Option.map_eq_some_iff.mp q
  exact ⟨G, n, x, g, r, hx, fun v H1 G1 g1 d1 => ⟨v, .ty T, .type (tyD x), .type T, b, rfl, .ty T, dp_ty g1.s d1, kit_ty hb, k _ H1 G1 g1 (.bl b)⟩⟩
/-! ### defs -/
def spM (K : PySem.W.Frag) (n : Nat) (m : List PyData → Option PyData) : Sp := fun vs H Q _ => ∃ G ds d, Ex G H ∧ DpAll K G vs ds ∧ ds.length = n ∧ m ds = some d ∧ ∀ v H' G', Gr G H G' H' → Dp K G' v d → Q v H'
/-- .. that give a fresh list -/
def spF (K : PySem.W.Frag) (n : Nat) (m : List PyData → Option (List PyData)) : Sp := fun vs H Q _ => ∃ G ds d, Ex G H ∧ DpAll K G vs ds ∧ ds.length = n ∧ m ds = some d ∧ ∀ p ws H' G', Gr G H G' H' → H p = none → G' p = none → H' p = some (.lst ws) → DpAll K G' ws d → Q (.ref p) H'
theorem spM_len {K : PySem.W.Frag} {n : Nat} {m : List PyData → Option PyData} {vs : List V} {H : Hp} {Q : VK} {E : XK} (h : spM K n m vs H Q E) : vs.length = n := by
  obtain ⟨G, ds, d, g, a, l, _⟩ := h
  rw [dpa_len a, l]
/-- a def of the text as its callers know it -/
structure Def (P : Program) (w : World) (K : PySem.W.Frag) (mg : Str → Option Value) (base : Heap) (x : Str) (k n : Nat) (m : List PyData → Option PyData) : Prop where
  ex : ∃ (CX : CXT) (f : Addr) (fd : FuncData) (ps : List Str), (∀ X : Cx, X.prog = P → X.w = w → Passes CX X E0) ∧ FnOk P w K mg base CX k f fd ps (spM K n m) ∧ mg x = some (.ref f) ∧ PySem.W.keepIn K (.ref f) = true ∧ L2.Binds K fd ps []
def mDef (N : Nat) (g : List PyData → Option PyData) (ms : MA) : M := fun n => (ms n).bind fun ds => if ds.length = N then g ds else none
theorem t_call {K : PySem.W.Frag} {N : Nat} {g : List PyData → Option PyData} : ∀ σ H Q, tM K (mDef N g ms) σ H Q → tCall (spM K N g) [] E0 (tMA K ms) σ H Q := fun σ H Q h => by
  obtain ⟨G, n, d, e, r, q, k⟩ := h
  obtain ⟨x, hx, q⟩ := Option.bind_eq_some_iff.mp q
  split at q
  · rename_i hN
    refine ⟨G, n, x, e, r, hx, fun vs H1 G1 g1 d1 => ?_⟩
    show spM K N g (vs ++ []) H1 Q E0
    rw [List.append_nil]
    exact ⟨G1, x, d, g1.s, d1, hN, q, fun v H2 G2 g2 d2 => k v H2 G2 (g1.trans g2) d2⟩
  · cases q
theorem pv_call {x : Str} {j k n : Nat} {g : List PyData → Option PyData} (D : Def X.prog X.w X.K X.mg X.base x k n g) (hr : Room j X.A) (ha : PL X (e :: es) ms) (hk : k ≤ j := by decide) (hg : Gl X x := by rfl)
    (hdb : (x == ("__debug__" : Str)) = false := by decide) (he : starEach (e :: es) X.env = (false, eval e X.env) :: starEach es X.env := by rfl) (hpl : (backTo pos (starEach es X.env)).any (·.1) = false := by rfl) :
    PV X (.Call (.Name x p) (e :: es) [] pos) (mDef n g ms) := by
  obtain ⟨CX, f, fd, ps, hp, F, hm, hkp, hb⟩ := D.ex
  exact PE.mono (pe_call F (hr.mono hk) hg hm hkp hb .nil (hp X rfl rfl) ha hdb he hpl) t_call
theorem pv_call0 {x : Str} {j k : Nat} {g : List PyData → Option PyData} (D : Def X.prog X.w X.K X.mg X.base x k 0 g) (hr : Room j X.A) (hk : k ≤ j := by decide) (hg : Gl X x := by rfl)
    (hdb : (x == ("__debug__" : Str)) = false := by decide) : PV X (.Call (.Name x p) [] [] pos) (mDef 0 g mNil) := by
  obtain ⟨CX, f, fd, ps, hp, F, hm, hkp, hb⟩ := D.ex
  refine PE.mono (pe_call0 F (hr.mono hk) hg hm hkp hb .nil (hp X rfl rfl) hdb) fun σ H Q h => ?_
  obtain ⟨G, n, d, e, r, q, k⟩ := t_call σ H Q h
  cases q
  exact k [] H G (Gr.refl e) .nil
end
end
end VE
set_option Elab.async false
set_option linter.all false
set_option maxRecDepth 100000
namespace VE
noncomputable section
open PySem PySem.Spec L2 Evl
/-! ### statements -/
inductive Out where
  | nx (n : En)
  | rt (d : PyData)
  | rl (xs : List PyData)
  | bk (n : En)
  | ct (n : En)
abbrev MS := En → Option Out
structure Rows (K : PySem.W.Frag) (H0 F H : Hp) (σ : L2.St) (n : En) : Prop where
  len : σ.length = n.length
  v : ∀ (i : Nat) (d : PyData), n[i]? = some (.v d) → ∃ v, σ[i]? = some (some v) ∧ Dp K F v d
  o : ∀ (i : Nat) (xs : List PyData), n[i]? = some (.o xs) → ∃ p vs, σ[i]? = some (some (.ref p)) ∧ F p = none ∧ H0 p = none ∧ H p = some (.lst vs) ∧ DpAll K F vs xs
  ne : ∀ (i j : Nat) (xs ys : List PyData), i ≠ j → n[i]? = some (.o xs) → n[j]? = some (.o ys) → σ[i]? ≠ σ[j]?
def SR (K : PySem.W.Frag) (G0 H0 : Hp) (σ : L2.St) (H : Hp) (n : En) : Prop := ∃ F, Gr G0 H0 F H ∧ Rows K H0 F H σ n
def Post (K : PySem.W.Frag) (G0 H0 : Hp) (D : Ends) : Out → Prop
  | .nx n => ∀ σ H, SR K G0 H0 σ H n → D.nx σ H
  | .bk n => ∀ σ H, SR K G0 H0 σ H n → D.bk σ H
  | .ct n => ∀ σ H, SR K G0 H0 σ H n → D.ct σ H
  | .rt d => ∀ v H G, Gr G0 H0 G H → Dp K G v d → D.rt v H
  | .rl xs => ∀ p vs H G, Gr G0 H0 G H → H0 p = none → G p = none → H p = some (.lst vs) → DpAll K G vs xs → D.rt (.ref p) H
def tMS (K : PySem.W.Frag) (m : MS) : TS := fun D σ H => ∃ G0 H0 n o, SR K G0 H0 σ H n ∧ m n = some o ∧ Post K G0 H0 D o
abbrev PSV (X : Cx) (st : Stmt) (m : MS) : Prop := PS X st (tMS X.K m)
abbrev PSsV (X : Cx) (st : List Stmt) (m : MS) : Prop := PSs X st (tMS X.K m)
/-! ### what an expression sees: the own lists of ws alone -/
def hideAt (ws : List Nat) : Nat → En → En
  | _, [] => []
  | k, s :: r => (match s with
    | .o xs => if ws.contains k then .o xs else .no
    | s => s) :: hideAt ws (k + 1) r
def frzAt (ws : List Nat) : Nat → En → En
  | _, [] => []
  | k, s :: r => (match s with
    | .o xs => if ws.contains k then .v (.list xs) else .o xs
    | s => s) :: frzAt ws (k + 1) r
def hide (ws : List Nat) (n : En) : En := hideAt ws 0 n
def frz (ws : List Nat) (n : En) : En := frzAt ws 0 n
theorem hideAt_get (ws : List Nat) : ∀ (n : En) (k i : Nat), (hideAt ws k n)[i]? = (n[i]?).map fun s => match s with
    | .o xs => if ws.contains (k + i) then .o xs else .no
    | s => s
  | [], k, i => by simp [hideAt]
  | s :: r, k, 0 => by simp [hideAt]
  | s :: r, k, i + 1 => by
    have h := hideAt_get ws r (k + 1) i
    simp only [hideAt, List.getElem?_cons_succ]
    rw [h, show k + 1 + i = k + (i + 1) by omega]
theorem frzAt_get (ws : List Nat) : ∀ (n : En) (k i : Nat), (frzAt ws k n)[i]? = (n[i]?).map fun s => match s with
    | .o xs => if ws.contains (k + i) then .v (.list xs) else .o xs
    | s => s
  | [], k, i => by simp [frzAt]
  | s :: r, k, 0 => by simp [frzAt]
  | s :: r, k, i + 1 => by
    have h := frzAt_get ws r (k + 1) i
    simp only [frzAt, List.getElem?_cons_succ]
    rw [h, show k + 1 + i = k + (i + 1) by omega]
theorem hideAt_len (ws : List Nat) : ∀ (n : En) (k : Nat), (hideAt ws k n).length = n.length
  | [], _ => rfl
  | s :: r, k => by simp [hideAt, hideAt_len ws r (k + 1)]
theorem frzAt_len (ws : List Nat) : ∀ (n : En) (k : Nat), (frzAt ws k n).length = n.length
  | [], _ => rfl
  | s :: r, k => by simp [frzAt, frzAt_len ws r (k + 1)]
section
variable {K : PySem.W.Frag} {G0 H0 F H : Hp} {σ : L2.St} {n : En}
/-- F with the lists of ws -/
noncomputable def withO (ws : List Nat) (n : En) (σ : L2.St) (F H : Hp) : Hp := open Classical in fun a => if ∃ i xs, ws.contains i = true ∧ n[i]? = some (.o xs) ∧ σ[i]? = some (some (.ref a)) then H a else F a
theorem withO_ex (ws : List Nat) (R : Rows K H0 F H σ n) : Ex F (withO ws n σ F H) := fun a o h => by
  unfold withO
  split
  · rename_i z
    obtain ⟨i, xs, _, h1, h2⟩ := z
    obtain ⟨p, vs, e, hF, _⟩ := R.o i xs h1
    rw [h2] at e
    cases e
    rw [hF] at h
    cases h
  · exact h
theorem withO_s (ws : List Nat) (e : Ex F H) : Ex (withO ws n σ F H) H := fun a o h => by
  unfold withO at h
  split at h
  · exact h
  · exact e a o h
theorem withO_gr (ws : List Nat) (g : Gr G0 H0 F H) (R : Rows K H0 F H σ n) : Gr G0 H0 (withO ws n σ F H) H :=
  ⟨g.g.trans (withO_ex ws R), withO_s ws g.s, g.h, fun a o h q => by
    unfold withO
    split
    · rename_i z
      obtain ⟨i, xs, _, h1, h2⟩ := z
      obtain ⟨p, vs, e, _, h0, _⟩ := R.o i xs h1
      rw [h2] at e
      cases e
      rw [h0] at h
      cases h
    · exact g.f a o h q⟩
theorem withO_at {ws : List Nat} {i : Nat} {xs : List PyData} {p : Addr} (hw : ws.contains i = true) (h1 : n[i]? = some (.o xs)) (h2 : σ[i]? = some (some (.ref p))) : withO ws n σ F H p = H p := by
  unfold withO
  rw [if_pos ⟨i, xs, hw, h1, h2⟩]
theorem withO_off {ws : List Nat} {i : Nat} {xs : List PyData} {p : Addr} (R : Rows K H0 F H σ n) (hw : ws.contains i = false) (h1 : n[i]? = some (.o xs)) (h2 : σ[i]? = some (some (.ref p))) : withO ws n σ F H p = none := by
  unfold withO
  rw [if_neg]
  · obtain ⟨q, vs, e, hF, _⟩ := R.o i xs h1
    rw [h2] at e
    cases e
    exact hF
  · rintro ⟨j, ys, hj, h3, h4⟩
    have hij : i ≠ j := fun z => by
      subst z
      rw [hw] at hj
      cases hj
    exact R.ne i j xs ys hij h1 h3 (h2.trans h4.symm)
theorem vr_hide (ws : List Nat) (R : Rows K H0 F H σ n) : Vr K (withO ws n σ F H) σ (hide ws n) := ⟨by unfold hide; rw [hideAt_len]; exact R.len, fun i s d h1 h2 => by
  unfold hide at h1
  rw [hideAt_get] at h1
  obtain ⟨s', hs, rfl⟩ := Option.map_eq_some_iff.mp h1
  rw [Nat.zero_add] at h2
  cases s' with
  | no => cases h2
  | v d' =>
    cases h2
    obtain ⟨v, e, dd⟩ := R.v i d hs
    exact ⟨v, e, dp_ex (withO_ex ws R) dd⟩
  | o xs =>
    by_cases hw : ws.contains i = true
    · simp only [hw, if_true] at h2
      cases h2
      obtain ⟨p, vs, e, hF, h0, hH, a⟩ := R.o i xs hs
      exact ⟨.ref p, e, .lst (SqL.of (by rw [withO_at hw hs e]; exact hH)) (dpa_ex (withO_ex ws R) a)⟩
    · simp only [hw, if_false] at h2
      cases h2⟩
/-- a step that grows the heap alone -/
theorem Rows.grow {G1 H1 : Hp} (R : Rows K H0 F H σ n) (g : Gr F H G1 H1) : Rows K H0 G1 H1 σ n :=
  ⟨R.len, fun i d h => let ⟨v, e, dd⟩ := R.v i d h; ⟨v, e, dp_ex g.g dd⟩, fun i xs h => by
    obtain ⟨p, vs, e, hF, h0, hH, a⟩ := R.o i xs h
    exact ⟨p, vs, e, g.f p _ hH hF, h0, g.h p _ hH, dpa_ex g.g a⟩, R.ne⟩
theorem Rows.stay {H1 : Hp} (R : Rows K H0 F H σ n) (e : Ex H H1) : Rows K H0 F H1 σ n :=
  ⟨R.len, R.v, fun i xs h => by
    obtain ⟨p, vs, e1, hF, h0, hH, a⟩ := R.o i xs h
    exact ⟨p, vs, e1, hF, h0, e p _ hH, a⟩, R.ne⟩
theorem frz_get {ws : List Nat} {i : Nat} {s : Sl} (h : (frz ws n)[i]? = some s) : (∃ xs, n[i]? = some (.o xs) ∧ ws.contains i = true ∧ s = .v (.list xs)) ∨ (n[i]? = some s ∧ ∀ xs, s = .o xs → ws.contains i = false) := by
  unfold frz at h
  rw [frzAt_get] at h
  obtain ⟨s', hs, rfl⟩ := Option.map_eq_some_iff.mp h
  rw [Nat.zero_add]
  cases s' with
  | no => exact .inr ⟨hs, fun _ z => by cases z⟩
  | v d => exact .inr ⟨hs, fun _ z => by cases z⟩
  | o xs =>
    by_cases hw : ws.contains i = true
    · simp only [hw, if_true]
      exact .inl ⟨xs, hs, trivial, rfl⟩
    · have hw' : ws.contains i = false := by simpa using hw
      simp only [hw', Bool.false_eq_true, if_false]
      exact .inr ⟨hs, fun _ _ => trivial⟩
/-- the lists of ws are frozen -/
theorem Rows.frz {G1 H1 : Hp} (ws : List Nat) (R : Rows K H0 F H σ n) (g : Gr (withO ws n σ F H) H G1 H1) : Rows K H0 G1 H1 σ (frz ws n) := by
  have ex := (withO_ex ws R).trans g.g
  refine ⟨by unfold VE.frz; rw [frzAt_len]; exact R.len, fun i d h => ?_, fun i xs h => ?_, fun i j xs ys hij h1 h2 => ?_⟩
  · rcases frz_get h with ⟨xs, h1, hw, e⟩ | ⟨h1, _⟩
    · cases e
      obtain ⟨p, vs, e, hF, h0, hH, a⟩ := R.o i xs h1
      exact ⟨.ref p, e, .lst (SqL.of (g.g p _ (by rw [withO_at hw h1 e]; exact hH))) (dpa_ex ex a)⟩
    · obtain ⟨v, e, dd⟩ := R.v i d h1
      exact ⟨v, e, dp_ex ex dd⟩
  · rcases frz_get h with ⟨xs, h1, hw, e⟩ | ⟨h1, hw⟩
    · cases e
    · obtain ⟨p, vs, e, hF, h0, hH, a⟩ := R.o i xs h1
      exact ⟨p, vs, e, g.f p _ hH (withO_off R (hw xs rfl) h1 e), h0, g.h p _ hH, dpa_ex ex a⟩
  · rcases frz_get h1 with ⟨_, _, _, e⟩ | ⟨h1, _⟩
    · cases e
    rcases frz_get h2 with ⟨_, _, _, e⟩ | ⟨h2, _⟩
    · cases e
    exact R.ne i j xs ys hij h1 h2
theorem Rows.set {i : Nat} {v : V} {d : PyData} (R : Rows K H0 F H σ n) (h : Dp K F v d) : Rows K H0 F H (σ.set i (some v)) (n.set i (.v d)) := by
  have hl := R.len
  refine ⟨by rw [List.length_set, List.length_set]; exact R.len, fun j e hj => ?_, fun j xs hj => ?_, fun j k xs ys hjk h1 h2 => ?_⟩
  · by_cases z : i = j
    · subst z
      by_cases hi : i < n.length
      · rw [List.getElem?_set_self hi] at hj
        cases hj
        exact ⟨v, by rw [List.getElem?_set_self (by omega)], h⟩
      · simp [List.getElem?_set, hi] at hj
    · rw [List.getElem?_set_ne z] at hj ⊢
      exact R.v j e hj
  · by_cases z : i = j
    · subst z
      simp [List.getElem?_set] at hj
    · rw [List.getElem?_set_ne z] at hj ⊢
      exact R.o j xs hj
  · have z1 : i ≠ j := fun z => by
      subst z
      simp [List.getElem?_set] at h1
    have z2 : i ≠ k := fun z => by
      subst z
      simp [List.getElem?_set] at h2
    rw [List.getElem?_set_ne z1] at h1 ⊢
    rw [List.getElem?_set_ne z2] at h2 ⊢
    exact R.ne j k xs ys hjk h1 h2
/-- a fresh list becomes a slot's own -/
theorem Rows.own {i : Nat} {p : Addr} {vs : List V} {xs : List PyData} (R : Rows K H0 F H σ n) (hF : F p = none) (h0 : H0 p = none) (hH : H p = some (.lst vs)) (a : DpAll K F vs xs) (fr : ∀ j ys, n[j]? = some (.o ys) → j ≠ i → σ[j]? ≠ some (some (.ref p))) :
    Rows K H0 F H (σ.set i (some (.ref p))) (n.set i (.o xs)) := by
  have hl := R.len
  refine ⟨by rw [List.length_set, List.length_set]; exact R.len, fun j e hj => ?_, fun j ys hj => ?_, fun j k ys zs hjk h1 h2 => ?_⟩
  · by_cases z : i = j
    · subst z
      simp [List.getElem?_set] at hj
    · rw [List.getElem?_set_ne z] at hj ⊢
      exact R.v j e hj
  · by_cases z : i = j
    · subst z
      by_cases hi : i < n.length
      · rw [List.getElem?_set_self hi] at hj
        cases hj
        exact ⟨p, vs, by rw [List.getElem?_set_self (by omega)], hF, h0, hH, a⟩
      · simp [List.getElem?_set, hi] at hj
    · rw [List.getElem?_set_ne z] at hj ⊢
      exact R.o j ys hj
  · by_cases z1 : i = j
    · subst z1
      have z2 : i ≠ k := hjk
      rw [List.getElem?_set_ne z2] at h2 ⊢
      have hi : i < σ.length := by
        by_cases hi : i < n.length
        · omega
        · simp [List.getElem?_set, hi] at h1
      rw [List.getElem?_set_self hi]
      exact fun z => fr k zs h2 (Ne.symm z2) z.symm
    · by_cases z2 : i = k
      · subst z2
        rw [List.getElem?_set_ne z1] at h1 ⊢
        have hi : i < σ.length := by
          by_cases hi : i < n.length
          · omega
          · simp [List.getElem?_set, hi] at h2
        rw [List.getElem?_set_self hi]
        exact fun z => fr j ys h1 (Ne.symm z1) z
      · rw [List.getElem?_set_ne z1] at h1 ⊢
        rw [List.getElem?_set_ne z2] at h2 ⊢
        exact R.ne j k ys zs hjk h1 h2
/-- a slot's own list changes -/
theorem Rows.mut {i : Nat} {p : Addr} {ws : List V} {xs ys : List PyData} (R : Rows K H0 F H σ n) (h1 : n[i]? = some (.o xs)) (h2 : σ[i]? = some (some (.ref p))) (a : DpAll K F ws ys) : Rows K H0 F (upd H p (.lst ws)) σ (n.set i (.o ys)) := by
  have hl := R.len
  have hi : i < n.length := (List.getElem?_eq_some_iff.mp h1).1
  obtain ⟨p', vs, e, hF, h0, hH, _⟩ := R.o i xs h1
  rw [h2] at e
  cases e
  refine ⟨by rw [List.length_set]; exact R.len, fun j d hj => ?_, fun j zs hj => ?_, fun j k zs us hjk h3 h4 => ?_⟩
  · by_cases z : i = j
    · subst z
      rw [List.getElem?_set_self hi] at hj
      cases hj
    · rw [List.getElem?_set_ne z] at hj
      exact R.v j d hj
  · by_cases z : i = j
    · subst z
      rw [List.getElem?_set_self hi] at hj
      cases hj
      exact ⟨p, ws, h2, hF, h0, upd_same, a⟩
    · rw [List.getElem?_set_ne z] at hj
      obtain ⟨q, us, e, hF', h0', hH', a'⟩ := R.o j zs hj
      refine ⟨q, us, e, hF', h0', ?_, a'⟩
      have hne : q ≠ p := fun z' => by
        subst z'
        exact R.ne i j xs zs z h1 hj (h2.trans e.symm)
      rw [upd_ne hne]
      exact hH'
  · have f : ∀ (l : Nat) (ts : List PyData), (n.set i (Sl.o ys))[l]? = some (Sl.o ts) → ∃ ts', n[l]? = some (Sl.o ts') := fun l ts h => by
      by_cases z : i = l
      · subst z
        exact ⟨xs, h1⟩
      · rw [List.getElem?_set_ne z] at h
        exact ⟨ts, h⟩
    obtain ⟨a1, b1⟩ := f j zs h3
    obtain ⟨a2, b2⟩ := f k us h4
    exact R.ne j k a1 a2 hjk b1 b2
theorem gr_mut {p : Addr} {o : HO} (g : Gr G0 H0 F H) (hF : F p = none) (h0 : H0 p = none) : Gr G0 H0 F (upd H p o) :=
  ⟨g.g, fun a u h => by
    rw [upd_ne (ne_of_none h hF)]
    exact g.s a u h, fun a u h => by
    rw [upd_ne (ne_of_none h h0)]
    exact g.h a u h, g.f⟩
end
def scalD : PyData → Bool
  | .none | .bool _ | .int _ | .str _ => true
  | _ => false
theorem dp_scalar {K : PySem.W.Frag} {G G' : Hp} {v : V} {d : PyData} (h : Dp K G v d) (s : scalD d = true) : Dp K G' v d := by
  cases h with
  | non => exact .non
  | bl b => exact .bl b
  | int i => exact .int i
  | str x => exact .str x
  | lst _ _ => cases s
  | tup _ _ => cases s
end
end VE
set_option Elab.async false
set_option linter.all false
set_option maxRecDepth 100000
namespace VE
noncomputable section
open PySem PySem.Spec L2 Evl
section
variable {X : Cx} {e a b c : Expr} {es : List Expr} {pos p : Pos} {m ma mb mc : M} {mt : MT} {ms : MA} {st : Stmt} {rest : List Stmt} {s1 s2 : MS}
/-! ### blocks -/
def thenS (o : Out) (f : MS) : Option Out := match o with
  | .nx n => f n
  | o => some o
def mSeq (a b : MS) : MS := fun n => (a n).bind fun o => thenS o b
def mSkip : MS := fun n => some (.nx n)
theorem psv_nil : PSsV X [] mSkip := PSs.mono pss_nil fun D σ H h => by
  obtain ⟨G0, H0, n, o, R, q, k⟩ := h
  cases q
  exact k σ H R
theorem psv_cons (h1 : PSV X st s1) (h2 : PSsV X rest s2) : PSsV X (st :: rest) (mSeq s1 s2) := PSs.mono (pss_cons h1 h2) fun D σ H h => by
  obtain ⟨G0, H0, n, o, R, q, k⟩ := h
  obtain ⟨o1, h1, q⟩ := Option.bind_eq_some_iff.mp q
  refine ⟨G0, H0, n, o1, R, h1, ?_⟩
  cases o1 with
  | nx n1 => exact fun σ1 H1 R1 => ⟨G0, H0, n1, o, R1, q, k⟩
  | rt d => cases q; exact k
  | rl d => cases q; exact k
  | bk d => cases q; exact k
  | ct d => cases q; exact k
theorem psv_one (h1 : PSV X st s1) : PSsV X [st] s1 := pss_one h1
theorem psv_pass : PSV X (.Pass pos) mSkip := PS.mono ps_pass fun D σ H h => by
  obtain ⟨G0, H0, n, o, R, q, k⟩ := h
  cases q
  exact k σ H R
def mBreak : MS := fun n => some (.bk n)
def mCont : MS := fun n => some (.ct n)
theorem psv_break : PSV X (.Break pos) mBreak := PS.mono ps_break fun D σ H h => by
  obtain ⟨G0, H0, n, o, R, q, k⟩ := h
  cases q
  exact k σ H R
theorem psv_continue : PSV X (.Continue pos) mCont := PS.mono ps_continue fun D σ H h => by
  obtain ⟨G0, H0, n, o, R, q, k⟩ := h
  cases q
  exact k σ H R
/-! ### x = e -/
def mAsg (ws : List Nat) (i : Nat) (m : M) : MS := fun n => (m (hide ws n)).bind fun d => if scalD d = true then some (.nx (n.set i (.v d))) else some (.nx ((frz ws n).set i (.v d)))
theorem asg_ok {K : PySem.W.Frag} {ws : List Nat} {i : Nat} {G0 H0 H : Hp} {σ : L2.St} {n : En} {o : Out} {D : Ends} (R : SR K G0 H0 σ H n) (q : mAsg ws i m n = some o) (k : Post K G0 H0 D o) : tAsg (tM K m) (gName i) D σ H := by
  obtain ⟨F, g, R⟩ := R
  obtain ⟨d, hd, q⟩ := Option.bind_eq_some_iff.mp q
  refine ⟨withO ws n σ F H, hide ws n, d, withO_s ws g.s, vr_hide ws R, hd, fun v H1 G1 g1 d1 => ?_⟩
  split at q
  · rename_i hs
    cases q
    refine k _ _ ⟨F, ⟨g.g, g.s.trans g1.h, g.h.trans g1.h, g.f⟩, (R.stay g1.h).set (dp_scalar d1 hs)⟩
  · cases q
    refine k _ _ ⟨G1, (withO_gr ws g R).trans g1, (R.frz ws g1).set d1⟩
theorem psv_set (ws : List Nat) (i : Nat) {x : Str} {pos' : Pos} (hN : X.N.Nodup) (he : PV X e m) (hi : X.N[i]? = some x := by rfl) (hx : Loc X.env.scope x := by first | exact .inl rfl | exact .inr rfl) (hs : swapsWith e (some (.Name x pos')) pos.line X.env = pure false := by rfl) (hf : X.fn x = true ∨ X.env.scope.names.lookup x = some .local := by first | exact .inl rfl | exact .inr rfl) :
    PSV X (.Assign [.Name x pos'] e pos) (mAsg ws i m) := PS.mono (ps_set hN hi hx he hs hf) fun D σ H h => by
  obtain ⟨G0, H0, n, o, R, q, k⟩ := h
  exact asg_ok R q k
/-- x = a fresh list, x's own -/
def mAsgO (ws : List Nat) (i : Nat) (ms : MA) : MS := fun n => (ms (hide ws n)).bind fun xs => some (.nx ((frz ws n).set i (.o xs)))
theorem asgO_ok {K : PySem.W.Frag} {ws : List Nat} {i : Nat} {G0 H0 H : Hp} {σ : L2.St} {n : En} {o : Out} {D : Ends} (R : SR K G0 H0 σ H n) (q : mAsgO ws i ms n = some o) (k : Post K G0 H0 D o) : tAsg (tMF K ms) (gName i) D σ H := by
  obtain ⟨F, g, R⟩ := R
  obtain ⟨xs, hd, q⟩ := Option.bind_eq_some_iff.mp q
  cases q
  refine ⟨withO ws n σ F H, hide ws n, xs, withO_s ws g.s, vr_hide ws R, hd, fun p vs H1 G1 g1 hp hG hH d1 => ?_⟩
  have h0 : H0 p = none := fresh_back g.h hp
  refine k _ _ ⟨G1, (withO_gr ws g R).trans g1, (R.frz ws g1).own hG h0 hH d1 fun j ys hj hji z => ?_⟩
  rcases frz_get hj with ⟨_, _, _, e⟩ | ⟨h1, _⟩
  · cases e
  · obtain ⟨p', vs', e, hF, h0', hH', _⟩ := R.o j ys h1
    rw [z] at e
    cases e
    rw [hp] at hH'
    cases hH'
theorem psv_setO (ws : List Nat) (i : Nat) {x : Str} {pos' : Pos} (hN : X.N.Nodup) (he : PF X e ms) (hi : X.N[i]? = some x := by rfl) (hx : Loc X.env.scope x := by first | exact .inl rfl | exact .inr rfl) (hs : swapsWith e (some (.Name x pos')) pos.line X.env = pure false := by rfl) (hf : X.fn x = true ∨ X.env.scope.names.lookup x = some .local := by first | exact .inl rfl | exact .inr rfl) :
    PSV X (.Assign [.Name x pos'] e pos) (mAsgO ws i ms) := PS.mono (ps_set hN hi hx he hs hf) fun D σ H h => by
  obtain ⟨G0, H0, n, o, R, q, k⟩ := h
  exact asgO_ok R q k
/-! ### return -/
def mRet (ws : List Nat) (m : M) : MS := fun n => (m (hide ws n)).map .rt
theorem psv_ret (ws : List Nat) (he : PV X e m) : PSV X (.Return (some e) pos) (mRet ws m) := PS.mono (ps_ret he) fun D σ H h => by
  obtain ⟨G0, H0, n, o, ⟨F, g, R⟩, q, k⟩ := h
  obtain ⟨d, hd, rfl⟩ := Option.map_eq_some_iff.mp q
  exact ⟨withO ws n σ F H, hide ws n, d, withO_s ws g.s, vr_hide ws R, hd, fun v H1 G1 g1 d1 => k v H1 G1 ((withO_gr ws g R).trans g1) d1⟩
def mRetN : MS := fun _ => some (.rt .none)
theorem psv_retN : PSV X (.Return none pos) mRetN := PS.mono ps_retN fun D σ H h => by
  obtain ⟨G0, H0, n, o, ⟨F, g, R⟩, q, k⟩ := h
  cases q
  exact k .non H F g .non
/-- return a fresh list -/
def mRetF (ws : List Nat) (ms : MA) : MS := fun n => (ms (hide ws n)).map .rl
theorem psv_retF (ws : List Nat) (he : PF X e ms) : PSV X (.Return (some e) pos) (mRetF ws ms) := PS.mono (ps_ret he) fun D σ H h => by
  obtain ⟨G0, H0, n, o, ⟨F, g, R⟩, q, k⟩ := h
  obtain ⟨d, hd, rfl⟩ := Option.map_eq_some_iff.mp q
  exact ⟨withO ws n σ F H, hide ws n, d, withO_s ws g.s, vr_hide ws R, hd, fun p vs H1 G1 g1 hp hG hH d1 => k p vs H1 G1 ((withO_gr ws g R).trans g1) (fresh_back g.h hp) hG hH d1⟩
/-- return an own list -/
def getO (n : En) (i : Nat) : Option (List PyData) := match n[i]? with
  | some (.o xs) => some xs
  | _ => none
theorem getO_eq {n : En} {i : Nat} {xs : List PyData} (h : getO n i = some xs) : n[i]? = some (.o xs) := by
  unfold getO at h
  split at h
  · cases h; assumption
  · cases h
def mRetO (i : Nat) : MS := fun n => (getO n i).map .rl
theorem psv_retO (i : Nat) {x : Str} {pos' : Pos} (hN : X.N[i]? = some x := by rfl) (hv : Vis X.env.scope x := by first | exact Or.inl rfl | exact Or.inr (Or.inl rfl) | exact Or.inr (Or.inr rfl)) (hd : (x == ("__debug__" : Str)) = false := by decide)
    (hcd : (x == ("__classdict__" : Str)) = false := by decide) : PSV X (.Return (some (.Name x pos')) pos) (mRetO i) := PS.mono (ps_ret (pe_var hN hv hd hcd)) fun D σ H h => by
  obtain ⟨G0, H0, n, o, ⟨F, g, R⟩, q, k⟩ := h
  obtain ⟨xs, hx, rfl⟩ := Option.map_eq_some_iff.mp q
  obtain ⟨p, vs, e, hF, h0, hH, a⟩ := R.o i xs (getO_eq hx)
  exact ⟨.ref p, e, k p vs H F g h0 hF hH a⟩
/-! ### if -/
def mIfS (ws : List Nat) (mt : MT) (a b : MS) : MS := fun n => (mt (hide ws n)).bind fun c => if c = true then a n else b n
theorem psv_if (ws : List Nat) {aa bb : List Stmt} (hc : PB X c mt) (ha : PSsV X aa s1) (hb : PSsV X bb s2) : PSV X (.If c aa bb pos) (mIfS ws mt s1 s2) := PS.mono (ps_if hc ha hb) fun D σ H h => by
  obtain ⟨G0, H0, n, o, ⟨F, g, R⟩, q, k⟩ := h
  obtain ⟨x, hx, q⟩ := Option.bind_eq_some_iff.mp q
  refine ⟨withO ws n σ F H, hide ws n, x, withO_s ws g.s, vr_hide ws R, hx, fun H1 G1 g1 => ?_⟩
  have R1 : SR X.K G0 H0 σ H1 n := ⟨F, ⟨g.g, g.s.trans g1.h, g.h.trans g1.h, g.f⟩, R.stay g1.h⟩
  cases x with
  | true => exact iteT ⟨G0, H0, n, o, R1, by simpa using q, k⟩
  | false => exact iteF ⟨G0, H0, n, o, R1, by simpa using q, k⟩
/-! ### an expression alone -/
def mDrop (ws : List Nat) (m : M) : MS := fun n => (m (hide ws n)).bind fun _ => some (.nx n)
theorem psv_expr (ws : List Nat) (he : PV X e m) (hs : swapsWith e none pos.line X.env = pure false := by rfl) : PSV X (.Expr e pos) (mDrop ws m) := PS.mono (ps_expr he hs) fun D σ H h => by
  obtain ⟨G0, H0, n, o, ⟨F, g, R⟩, q, k⟩ := h
  obtain ⟨x, hx, q⟩ := Option.bind_eq_some_iff.mp q
  cases q
  exact ⟨withO ws n σ F H, hide ws n, x, withO_s ws g.s, vr_hide ws R, hx, fun v H1 G1 g1 d1 => k _ _ ⟨F, ⟨g.g, g.s.trans g1.h, g.h.trans g1.h, g.f⟩, R.stay g1.h⟩⟩
theorem psv_doc {x : Str} {j : Nat} {p2 : Pos} : PSV X (.Expr (.Constant (.str x) j p2) pos) mSkip := PS.mono ps_doc fun D σ H h => by
  obtain ⟨G0, H0, n, o, R, q, k⟩ := h
  cases q
  exact k σ H R
/-! ### own lists change -/
def mApp (ws : List Nat) (i : Nat) (m : M) : MS := fun n => (getO n i).bind fun xs => (m (hide ws n)).bind fun d => @ite _ (xs.length < 16000000 ∧ ws.contains i = false) (Classical.propDecidable _) ((if scalD d = true then some (.nx (n.set i (.o (xs ++ [d])))) else some (.nx ((frz ws n).set i (.o (xs ++ [d])))))) none
theorem psv_app (ws : List Nat) (i : Nat) {x : Str} {p1 p2 p3 : Pos} (he : PV X e m) (hN : X.N[i]? = some x := by rfl) (hv : Vis X.env.scope x := by first | exact Or.inl rfl | exact Or.inr (Or.inl rfl) | exact Or.inr (Or.inr rfl)) (hd : (x == ("__debug__" : Str)) = false := by decide)
    (hcd : (x == ("__classdict__" : Str)) = false := by decide) (hst : starEach [e] X.env = (false, eval e X.env) :: starEach [] X.env := by rfl) (hpl : (backTo p3 (starEach [] X.env)).any (·.1) = false := by rfl)
    (hbase : attributeBase (.Name x p1) "append" X.env (eval (.Name x p1) X.env) = eval (.Name x p1) X.env := by rfl)
    (hfew : ((backTo p3 (starEach [e] X.env)).all (fun x => !x.1) && (backToKw p3 (keywordEach [] X.env)).all (fun x => x.1.isSome)
      && decide ([e].length + ([] : List Keyword).length + (if ([] : List Keyword).isEmpty then 0 else 1) < 30)) = true := by rfl)
    (hs : swapsWith (.Call (.Attribute (.Name x p1) "append" p2) [e] [] p3) none pos.line X.env = pure false := by rfl) (hline : (p2.endLine == p3.line) = true := by rfl) :
    PSV X (.Expr (.Call (.Attribute (.Name x p1) "append" p2) [e] [] p3) pos) (mApp ws i m) := PS.mono (ps_expr (pe_bm PySem.F.plainAttrs_list PySem.F.slot_list_append PySem.F.type_list_append mt_append (pe_var hN hv hd hcd) (pa_cons he pa_nil hst) hbase hfew hline hst hpl) hs) fun D σ H h => by
  obtain ⟨G0, H0, n, o, ⟨F, g, R⟩, q, k⟩ := h
  obtain ⟨xs, hx, q⟩ := Option.bind_eq_some_iff.mp q
  obtain ⟨d, hd, q⟩ := Option.bind_eq_some_iff.mp q
  have hx := getO_eq hx
  obtain ⟨p, vs, e, hF, h0, hH, a⟩ := R.o i xs hx
  split at q
  · rename_i hz
    obtain ⟨hz, hw⟩ := hz
    refine ⟨.ref p, e, .inl ⟨rfl, vs, SqL.of hH⟩, withO ws n σ F H, hide ws n, d, withO_s ws g.s, vr_hide ws R, hd, fun v H1 G1 g1 d1 => ?_⟩
    have hz' : vs.length < sizeLine := by
      have : sizeLine = 16777216 := sizeLine_eq
      rw [dpa_len a]
      omega
    refine ⟨p, vs, v, rfl, rfl, g1.h p _ hH, hz', ?_⟩
    split at q
    · rename_i hsc
      cases q
      have R1 := R.stay g1.h
      refine k _ _ ⟨F, gr_mut ⟨g.g, g.s.trans g1.h, g.h.trans g1.h, g.f⟩ hF h0, R1.mut hx e (dpa_app a (.cons (dp_scalar d1 hsc) .nil))⟩
    · cases q
      have R1 := R.frz ws g1
      have hG : G1 p = none := g1.f p _ hH (withO_off R hw hx e)
      refine k _ _ ⟨G1, gr_mut ((withO_gr ws g R).trans g1) hG h0, R1.mut (xs := xs) ?_ e (dpa_app (dpa_ex ((withO_ex ws R).trans g1.g) a) (.cons d1 .nil))⟩
      unfold frz
      rw [frzAt_get, hx, Nat.zero_add]
      simp only [Option.map_some, hw, Bool.false_eq_true, if_false]
  · cases q
/-- y = x.pop() -/
def mPopAsg (i j : Nat) : MS := fun n => (getO n i).bind fun xs => (xs[xs.length - 1]?).bind fun d => some (.nx ((n.set i (.o xs.dropLast)).set j (.v d)))
theorem dpa_dropLast {K : PySem.W.Frag} {G : Hp} {vs : List V} {ds : List PyData} (a : DpAll K G vs ds) : DpAll K G vs.dropLast ds.dropLast := by
  rw [List.dropLast_eq_take, List.dropLast_eq_take, dpa_len a]
  exact dpa_take _ a
theorem psv_popAsg (i j : Nat) {x y : Str} {p1 p2 p3 pos' : Pos} (hnd : X.N.Nodup) (hN : X.N[i]? = some x := by rfl) (hv : Vis X.env.scope x := by first | exact Or.inl rfl | exact Or.inr (Or.inl rfl) | exact Or.inr (Or.inr rfl)) (hd : (x == ("__debug__" : Str)) = false := by decide)
    (hcd : (x == ("__classdict__" : Str)) = false := by decide)
    (hbase : attributeBase (.Name x p1) "pop" X.env (eval (.Name x p1) X.env) = eval (.Name x p1) X.env := by rfl) (hline : (p2.endLine == p3.line) = true := by rfl)
    (hj : X.N[j]? = some y := by rfl) (hy : Loc X.env.scope y := by first | exact .inl rfl | exact .inr rfl) (hs : swapsWith (.Call (.Attribute (.Name x p1) "pop" p2) [] [] p3) (some (.Name y pos')) pos.line X.env = pure false := by rfl) (hf : X.fn y = true ∨ X.env.scope.names.lookup y = some .local := by first | exact .inl rfl | exact .inr rfl) :
    PSV X (.Assign [.Name y pos'] (.Call (.Attribute (.Name x p1) "pop" p2) [] [] p3) pos) (mPopAsg i j) := PS.mono (ps_set hnd hj hy (pe_bm0 PySem.F.plainAttrs_list PySem.F.slot_list_pop PySem.F.type_list_pop mt_pop (pe_var hN hv hd hcd) hbase hline) hs hf) fun D σ H h => by
  obtain ⟨G0, H0, n, o, ⟨F, g, R⟩, q, k⟩ := h
  obtain ⟨xs, hx, q⟩ := Option.bind_eq_some_iff.mp q
  obtain ⟨d, hd, q⟩ := Option.bind_eq_some_iff.mp q
  cases q
  have hx := getO_eq hx
  obtain ⟨p, vs, e, hF, h0, hH, a⟩ := R.o i xs hx
  obtain ⟨v, hv, dv⟩ := dpa_get a hd
  rw [← dpa_len a] at hv
  exact ⟨.ref p, e, .inl ⟨rfl, vs, SqL.of hH⟩, p, vs, v, rfl, rfl, hH, hv, k _ _ ⟨F, gr_mut g hF h0, (R.mut hx e (dpa_dropLast a)).set dv⟩⟩
/-- x.pop() alone -/
def mPop (i : Nat) : MS := fun n => (getO n i).bind fun xs => (xs[xs.length - 1]?).bind fun _ => some (.nx (n.set i (.o xs.dropLast)))
theorem psv_pop (i : Nat) {x : Str} {p1 p2 p3 : Pos} (hN : X.N[i]? = some x := by rfl) (hv : Vis X.env.scope x := by first | exact Or.inl rfl | exact Or.inr (Or.inl rfl) | exact Or.inr (Or.inr rfl)) (hd : (x == ("__debug__" : Str)) = false := by decide)
    (hcd : (x == ("__classdict__" : Str)) = false := by decide)
    (hbase : attributeBase (.Name x p1) "pop" X.env (eval (.Name x p1) X.env) = eval (.Name x p1) X.env := by rfl) (hline : (p2.endLine == p3.line) = true := by rfl)
    (hs : swapsWith (.Call (.Attribute (.Name x p1) "pop" p2) [] [] p3) none pos.line X.env = pure false := by rfl) :
    PSV X (.Expr (.Call (.Attribute (.Name x p1) "pop" p2) [] [] p3) pos) (mPop i) := PS.mono (ps_expr (pe_bm0 PySem.F.plainAttrs_list PySem.F.slot_list_pop PySem.F.type_list_pop mt_pop (pe_var hN hv hd hcd) hbase hline) hs) fun D σ H h => by
  obtain ⟨G0, H0, n, o, ⟨F, g, R⟩, q, k⟩ := h
  obtain ⟨xs, hx, q⟩ := Option.bind_eq_some_iff.mp q
  obtain ⟨d, hd, q⟩ := Option.bind_eq_some_iff.mp q
  cases q
  have hx := getO_eq hx
  obtain ⟨p, vs, e, hF, h0, hH, a⟩ := R.o i xs hx
  obtain ⟨v, hv, dv⟩ := dpa_get a hd
  rw [← dpa_len a] at hv
  exact ⟨.ref p, e, .inl ⟨rfl, vs, SqL.of hH⟩, p, vs, v, rfl, rfl, hH, hv, k _ _ ⟨F, gr_mut g hF h0, R.mut hx e (dpa_dropLast a)⟩⟩
/-- x.reverse() -/
def mRev (i : Nat) : MS := fun n => (getO n i).bind fun xs => some (.nx (n.set i (.o xs.reverse)))
theorem psv_rev (i : Nat) {x : Str} {p1 p2 p3 : Pos} (hN : X.N[i]? = some x := by rfl) (hv : Vis X.env.scope x := by first | exact Or.inl rfl | exact Or.inr (Or.inl rfl) | exact Or.inr (Or.inr rfl)) (hd : (x == ("__debug__" : Str)) = false := by decide)
    (hcd : (x == ("__classdict__" : Str)) = false := by decide)
    (hbase : attributeBase (.Name x p1) "reverse" X.env (eval (.Name x p1) X.env) = eval (.Name x p1) X.env := by rfl) (hline : (p2.endLine == p3.line) = true := by rfl)
    (hs : swapsWith (.Call (.Attribute (.Name x p1) "reverse" p2) [] [] p3) none pos.line X.env = pure false := by rfl) :
    PSV X (.Expr (.Call (.Attribute (.Name x p1) "reverse" p2) [] [] p3) pos) (mRev i) := PS.mono (ps_expr (pe_bm0 PySem.F.plainAttrs_list PySem.F.slot_list_reverse PySem.F.type_list_reverse mt_reverse (pe_var hN hv hd hcd) hbase hline) hs) fun D σ H h => by
  obtain ⟨G0, H0, n, o, ⟨F, g, R⟩, q, k⟩ := h
  obtain ⟨xs, hx, q⟩ := Option.bind_eq_some_iff.mp q
  cases q
  have hx := getO_eq hx
  obtain ⟨p, vs, e, hF, h0, hH, a⟩ := R.o i xs hx
  exact ⟨.ref p, e, .inl ⟨rfl, vs, SqL.of hH⟩, p, vs, rfl, rfl, hH, k _ _ ⟨F, gr_mut g hF h0, R.mut hx e (dpa_rev a)⟩⟩
end
end
end VE
set_option Elab.async false
set_option linter.all false
set_option maxRecDepth 100000
namespace VE
noncomputable section
open PySem PySem.Spec L2 Evl
section
variable {X : Cx} {e a b c : Expr} {es : List Expr} {pos p : Pos} {m ma mb mc : M} {mt : MT} {ms : MA} {st : Stmt} {body : List Stmt} {s1 s2 : MS}
/-! ### name op= e -/
def getV (n : En) (i : Nat) : Option PyData := match n[i]? with
  | some (.v d) => some d
  | _ => none
theorem getV_eq {n : En} {i : Nat} {d : PyData} (h : getV n i = some d) : n[i]? = some (.v d) := by
  unfold getV at h
  split at h
  · cases h; assumption
  · cases h
def mAug (g : PyData → PyData → Option PyData) (ws : List Nat) (i : Nat) (m : M) : MS := fun n => (getV n i).bind fun x => (m (hide ws n)).bind fun y => (g x y).bind fun z => if scalD z = true then some (.nx (n.set i (.v z))) else none
theorem psv_aug {op : Operator} {g : PyData → PyData → Option PyData} (ho : OpD X (inplaceOp op) g) (ws : List Nat) (i : Nat) {x : Str} {pos' : Pos} (hN : X.N.Nodup) (he : PV X e m) (hi : X.N[i]? = some x := by rfl) (hx : Loc X.env.scope x := by first | exact .inl rfl | exact .inr rfl) (hf : X.fn x = true ∨ X.env.scope.names.lookup x = some .local := by first | exact .inl rfl | exact .inr rfl) :
    PSV X (.AugAssign (.Name x pos') op e pos) (mAug g ws i m) := PS.mono (ps_aug hN hi hx he (fun pins s σ H x y v u Q I r1 r2 h => ho pins s σ H x y v u Q I r1 r2 h) hf) fun D σ H h => by
  obtain ⟨G0, H0, n, o, ⟨F, g', R⟩, q, k⟩ := h
  obtain ⟨x, hx, q⟩ := Option.bind_eq_some_iff.mp q
  obtain ⟨y, hy, q⟩ := Option.bind_eq_some_iff.mp q
  obtain ⟨z, hz, q⟩ := Option.bind_eq_some_iff.mp q
  split at q
  · rename_i hs
    cases q
    obtain ⟨v, hv, dv⟩ := R.v i x (getV_eq hx)
    refine ⟨v, hv, withO ws n σ F H, hide ws n, y, withO_s ws g'.s, vr_hide ws R, hy, fun w H1 G1 g1 d1 => ?_⟩
    refine ⟨G1, x, y, z, g1.s, dp_ex ((withO_ex ws R).trans g1.g) dv, d1, hz, fun u H2 G2 g2 d2 => ?_⟩
    have e2 := g1.h.trans g2.h
    exact k _ _ ⟨F, ⟨g'.g, g'.s.trans e2, g'.h.trans e2, g'.f⟩, (R.stay e2).set (dp_scalar d2 hs)⟩
  · cases q
def vAddI : PyData → PyData → Option PyData
  | .int i, .int j => some (.int (i + j))
  | .str x, .str y => @ite _ (x.length + y.length ≤ sizeLine) (Classical.propDecidable _) (some (.str (x ++ y))) none
  | _, _ => none
theorem od_iadd : OpD X (inplaceOp .Add) vAddI := OpR.mono (OpR.or iop_add iop_add_str) fun x y H Q h => by
  obtain ⟨G, d, e, r, g, d1, d2, q, k⟩ := h
  unfold vAddI at q
  split at q
  · cases dp_int d1; cases dp_int d2; cases q
    exact .inl ⟨_, _, rfl, rfl, fin_v g (.int _) k⟩
  · cases dp_str d1; cases dp_str d2
    split at q
    · rename_i hz
      cases q
      exact .inr ⟨_, _, rfl, rfl, hz, fin_v g (.str _) k⟩
    · cases q
  · cases q
theorem od_isub : OpD X (inplaceOp .Sub) vSub := oi0 iop_sub (fun d e z h => by unfold vSub at h; split at h <;> cases h; exact ⟨_, _, rfl, rfl, rfl⟩) fun _ _ _ => .int _
/-! ### another base -/
theorem SR.base {K : PySem.W.Frag} {G0 G1 H0 H : Hp} {σ : L2.St} {n : En} (e : Ex G0 G1) (f : ∀ a o, H0 a = some o → G0 a = none → G1 a = none) (R : SR K G1 H0 σ H n) : SR K G0 H0 σ H n :=
  let ⟨F, g, R⟩ := R
  ⟨F, ⟨e.trans g.g, g.s, g.h, fun a o h q => g.f a o h (f a o h q)⟩, R⟩
theorem Post.base {K : PySem.W.Frag} {G0 G1 H0 : Hp} {D : Ends} {o : Out} (e : Ex G0 G1) (f : ∀ a o, H0 a = some o → G0 a = none → G1 a = none) (k : Post K G0 H0 D o) : Post K G1 H0 D o := by
  cases o with
  | nx n => exact fun σ H R => k σ H (R.base e f)
  | bk n => exact fun σ H R => k σ H (R.base e f)
  | ct n => exact fun σ H R => k σ H (R.base e f)
  | rt d => exact fun v H G g dd => k v H G ⟨e.trans g.g, g.s, g.h, fun a o h q => g.f a o h (f a o h q)⟩ dd
  | rl xs => exact fun p vs H G g h0 hG hH dd => k p vs H G ⟨e.trans g.g, g.s, g.h, fun a o h q => g.f a o h (f a o h q)⟩ h0 hG hH dd
/-! ### what is walked -/
def Yld (K : PySem.W.Frag) (J : It) (G : Hp) (ds : List PyData) : Prop := ∀ i H, Ex G H →
  (∀ d, ds[i]? = some d → J.go i H ∧ ∀ x H', J.yld i H x H' → ∀ F, Ex G F → Ex F H → ∃ F', Gr F H F' H' ∧ Dp K F' x d) ∧ (ds.length ≤ i → J.stop i H)
/-- the walk's data depend on the heap -/
def tMI (K : PySem.W.Frag) (m : MA) : TI := fun σ H R => ∃ G n ds, Ex G H ∧ Vr K G σ n ∧ m n = some ds ∧ ∀ J H' G', Gr G H G' H' → Yld K J G' ds → R J H'
/-- .. do not -/
def nil0 : Hp := fun _ => none
def tMR (K : PySem.W.Frag) (m : MA) : TI := fun σ H R => ∃ G n ds, Ex G H ∧ Vr K G σ n ∧ m n = some ds ∧ ∀ J H' G', Gr G H G' H' → Yld K J nil0 ds → R J H'
abbrev PIV (X : Cx) (tg e : Expr) (m : MA) : Prop := PI X tg e (tMI X.K m)
abbrev PIR (X : Cx) (tg e : Expr) (m : MA) : Prop := PI X tg e (tMR X.K m)
theorem PI.mono {X : Cx} {tg e : Expr} {t t' : TI} (h : PI X tg e t) (i : ∀ σ H R, t' σ H R → t σ H R) : PI X tg e t' := ⟨fun pins s σ H R I q => h.run pins s σ H R I (i σ H R q)⟩
/-- two ways to walk, by the value -/
theorem yld_list {K : PySem.W.Frag} {G : Hp} {a : Addr} {vs : List V} {ds : List PyData} (h : SqL K G a vs) (al : DpAll K G vs ds) : Yld K (Itl K a) G ds := fun i H e => by
  refine ⟨fun d hd => ?_, fun hl => ⟨vs, ex_l e h, by rw [dpa_len al]; exact hl⟩⟩
  obtain ⟨v, hv, dv⟩ := dpa_get al hd
  refine ⟨⟨vs, v, ex_l e h, hv⟩, fun x H' y F e1 e2 => ?_⟩
  obtain ⟨rfl, y⟩ := y
  have z := y vs (ex_l e h)
  rw [hv] at z
  cases z
  exact ⟨F, Gr.refl e2, dp_ex e1 dv⟩
end
end
end VE
set_option Elab.async false
set_option linter.all false
set_option maxRecDepth 100000
namespace VE
noncomputable section
open PySem PySem.Spec L2 Evl
theorem yld_tup {K : PySem.W.Frag} {G : Hp} {a : Addr} {vs : List V} {ds : List PyData} (h : SqT K G a vs) (al : DpAll K G vs ds) : Yld K (Itt K a) G ds := fun i H e => by
  refine ⟨fun d hd => ?_, fun hl => ⟨vs, ex_t e h, by rw [dpa_len al]; exact hl⟩⟩
  obtain ⟨v, hv, dv⟩ := dpa_get al hd
  refine ⟨⟨vs, v, ex_t e h, hv⟩, fun x H' y F e1 e2 => ?_⟩
  obtain ⟨rfl, y⟩ := y
  have z := y vs (ex_t e h)
  rw [hv] at z
  cases z
  exact ⟨F, Gr.refl e2, dp_ex e1 dv⟩
def signsD (z : Str) : List PyData := z.cps.toList.map fun c => .str ⟨#[c]⟩
theorem yld_str {K : PySem.W.Frag} {G : Hp} (z : Str) : Yld K (Its z) G (signsD z) := fun i H e => by
  unfold signsD
  refine ⟨fun d hd => ?_, fun hl => by
    show z.cps.size ≤ i
    simpa using hl⟩
  rw [List.getElem?_map] at hd
  obtain ⟨c, hc, rfl⟩ := Option.map_eq_some_iff.mp hd
  rw [Array.getElem?_toList] at hc
  refine ⟨(Array.getElem?_eq_some_iff.mp hc).1, fun x H' y F e1 e2 => ?_⟩
  obtain ⟨rfl, c', hc', rfl⟩ := y
  rw [hc] at hc'
  cases hc'
  exact ⟨F, Gr.refl e2, .str _⟩
def rangeD (lo : Int) (n : Nat) : List PyData := (List.range n).map fun k : Nat => .int (lo + (k : Int))
theorem yld_range {K : PySem.W.Frag} {G : Hp} (lo : Int) (n : Nat) : Yld K (Itr lo n) G (rangeD lo n) := fun i H e => by
  unfold rangeD
  refine ⟨fun d hd => ?_, fun hl => by
    show n ≤ i
    simpa using hl⟩
  rw [List.getElem?_map] at hd
  obtain ⟨c, hc, rfl⟩ := Option.map_eq_some_iff.mp hd
  obtain ⟨hi, hc'⟩ := List.getElem?_eq_some_iff.mp hc
  rw [List.length_range] at hi
  rw [List.getElem_range] at hc'
  subst hc'
  refine ⟨hi, fun x H' y F e1 e2 => ?_⟩
  obtain ⟨rfl, rfl⟩ := y
  exact ⟨F, Gr.refl e2, .int _⟩
def rangeDC (lo c : Int) (n : Nat) : List PyData := (List.range n).map fun k : Nat => .int (lo + (k : Int) * c)
theorem yld_rangeC {K : PySem.W.Frag} {G : Hp} (lo c : Int) (n : Nat) : Yld K (Itc lo c n) G (rangeDC lo c n) := fun i H e => by
  unfold rangeDC
  refine ⟨fun d hd => ?_, fun hl => by
    show n ≤ i
    simpa using hl⟩
  rw [List.getElem?_map] at hd
  obtain ⟨c', hc, rfl⟩ := Option.map_eq_some_iff.mp hd
  obtain ⟨hi, hc'⟩ := List.getElem?_eq_some_iff.mp hc
  rw [List.length_range] at hi
  rw [List.getElem_range] at hc'
  subst hc'
  refine ⟨hi, fun x H' y F e1 e2 => ?_⟩
  obtain ⟨rfl, rfl⟩ := y
  exact ⟨F, Gr.refl e2, .int _⟩
section
variable {X : Cx} {tg e a b c : Expr} {es : List Expr} {pos p : Pos} {m ma mb mc : M} {mt : MT} {ms : MA} {st : Stmt} {body : List Stmt} {s1 s2 : MS}
def itemsD : PyData → Option (List PyData)
  | .list xs => some xs
  | .tuple xs => some xs
  | .str z => some (signsD z)
  | _ => none
def mItems (m : M) : MA := fun n => (m n).bind itemsD
theorem piv_seq (he : PV X e m) : PIV X tg e (mItems m) := by
  refine ⟨fun pins s σ H R I h => ?_⟩
  obtain ⟨G, n, ds, g, r, q, k⟩ := h
  obtain ⟨d, hd, q⟩ := Option.bind_eq_some_iff.mp q
  refine thn (he.run pins s σ H (fun x H1 => ∃ G1, Gr G H G1 H1 ∧ Dp X.K G1 x d) I ⟨G, n, d, g, r, hd, fun v H1 G1 g1 d1 => ⟨G1, g1, d1⟩⟩) fun v s1 ⟨x, H1, I1, r1, G1, g1, d1⟩ => ?_
  cases d with
  | list xs =>
    have q : some xs = some ds := q
    cases q
    obtain ⟨a, vs, rfl, h1, al⟩ := dp_lst d1
    cases r1
    obtain ⟨its, rv, p, hz⟩ := I1.list (ex_l g1.s h1)
    refine wpAny_pyIter_list p.isList ?_
    refine ⟨s1.heap.objs.size, [s1.heap.objs.size], _, _, H1, rfl, I1.kept (t' := s1.toks) fun b o e => Heap.get?_push_of_some _ e, turn_list a _, ⟨_, Heap.get?_push_size _ rfl, rfl, rfl⟩, fun b hb => ?_, k _ H1 G1 g1 (yld_list h1 al)⟩
    have e : b = s1.heap.objs.size := by simpa using hb
    subst e
    exact I1.fpOk (Nat.le_refl _) (I1.hok.fresh (Nat.le_refl _))
  | tuple xs =>
    have q : some xs = some ds := q
    cases q
    obtain ⟨a, vs, rfl, h1, al⟩ := dp_tup d1
    cases r1
    obtain ⟨its, rv, p, hz⟩ := I1.tuple (ex_t g1.s h1)
    refine wpAny_pyIter_tuple (show s1.heap.IsTuple a its.toArray from p) ?_
    refine ⟨s1.heap.objs.size, [s1.heap.objs.size], _, _, H1, rfl, I1.kept (t' := s1.toks) fun b o e => Heap.get?_push_of_some _ e, turn_tuple a _, ⟨_, Heap.get?_push_size _ rfl, rfl, rfl⟩, fun b hb => ?_, k _ H1 G1 g1 (yld_tup h1 al)⟩
    have e : b = s1.heap.objs.size := by simpa using hb
    subst e
    exact I1.fpOk (Nat.le_refl _) (I1.hok.fresh (Nat.le_refl _))
  | str z =>
    have q : some (signsD z) = some ds := q
    cases q
    cases dp_str d1
    obtain ⟨t, rfl⟩ := r1
    cases ha : z.cps.all (· < 128)
    · exact wpAny_pyIter_wide ha (pi_one (tk := s1.toks) I1 _ (turn_str _ z t "str_iterator" (.inr rfl)) ⟨_, Heap.get?_push_size _ rfl, rfl, rfl⟩ (k _ H1 G1 g1 (yld_str z)))
    · exact wpAny_pyIter_ascii ha (pi_one (tk := s1.toks) I1 _ (turn_str _ z t "str_ascii_iterator" (.inl rfl)) ⟨_, Heap.get?_push_size _ rfl, rfl, rfl⟩ (k _ H1 G1 g1 (yld_str z)))
  | none => cases q
  | bool _ => cases q
  | int _ => cases q
  | dict _ => cases q
def rng1 : List PyData → Option (List PyData)
  | [.int j] => @ite _ (-(2 ^ 62) ≤ j ∧ j < 2 ^ 62) (Classical.propDecidable _) (some (rangeD 0 j.toNat)) none
  | _ => none
def rng2 : List PyData → Option (List PyData)
  | [.int i, .int j] => @ite _ (-(2 ^ 62) ≤ i ∧ i < 2 ^ 62 ∧ -(2 ^ 62) ≤ j ∧ j < 2 ^ 62) (Classical.propDecidable _) (some (rangeD i (j - i).toNat)) none
  | _ => none
/-- range(a, b, -1) -/
def rng3 : List PyData → Option (List PyData)
  | [.int i, .int j, .int c] => @ite _ (c = -1 ∧ -(2 ^ 62) ≤ i ∧ i < 2 ^ 62 ∧ -(2 ^ 62) ≤ j ∧ j < 2 ^ 62) (Classical.propDecidable _) (some (rangeDC i (-1) (i - j).toNat)) none
  | _ => none
def mRng (f : List PyData → Option (List PyData)) (ms : MA) : MA := fun n => (ms n).bind f
theorem pir_range1 (hm : X.mg "range" = none) (ha : PL X [a] ms) (hg : Gl X "range" := by rfl) (hs : starEach [a] X.env = [(false, eval a X.env)] := by rfl) : PIR X tg (.Call (.Name "range" p) [a] [] pos) (mRng rng1 ms) := PI.mono (pi_range1 hg hm ha hs) fun σ H R h => by
  obtain ⟨G, n, ds, g, r, q, k⟩ := h
  obtain ⟨d, hd, q⟩ := Option.bind_eq_some_iff.mp q
  refine ⟨G, n, d, g, r, hd, fun vs H1 G1 g1 d1 => ?_⟩
  unfold rng1 at q
  split at q
  · split at q
    · rename_i hz
      cases q
      obtain ⟨v, rfl, h1⟩ := dpa1 d1
      cases dp_int h1
      exact ⟨_, rfl, hz.1, hz.2, k _ H1 G1 g1 (yld_range 0 _)⟩
    · cases q
  · cases q
theorem pir_range2 (hm : X.mg "range" = none) (ha : PL X [a, b] ms) (hg : Gl X "range" := by rfl) (hs : starEach [a, b] X.env = [(false, eval a X.env), (false, eval b X.env)] := by rfl) (hs2 : starEach [b] X.env = [(false, eval b X.env)] := by rfl) : PIR X tg (.Call (.Name "range" p) [a, b] [] pos) (mRng rng2 ms) := PI.mono (pi_range2 hg hm ha hs hs2) fun σ H R h => by
  obtain ⟨G, n, ds, g, r, q, k⟩ := h
  obtain ⟨d, hd, q⟩ := Option.bind_eq_some_iff.mp q
  refine ⟨G, n, d, g, r, hd, fun vs H1 G1 g1 d1 => ?_⟩
  unfold rng2 at q
  split at q
  · split at q
    · rename_i hz
      cases q
      obtain ⟨v, w, rfl, h1, h2⟩ := dpa2 d1
      cases dp_int h1; cases dp_int h2
      exact ⟨_, _, rfl, hz, k _ H1 G1 g1 (yld_range _ _)⟩
    · cases q
  · cases q
theorem dpa3 {K : PySem.W.Frag} {G : Hp} {vs : List V} {d d' d'' : PyData} (h : DpAll K G vs [d, d', d'']) : ∃ v v' v'', vs = [v, v', v''] ∧ Dp K G v d ∧ Dp K G v' d' ∧ Dp K G v'' d'' := by
  cases h with
  | cons h a =>
    obtain ⟨v, v', rfl, h', h''⟩ := dpa2 a
    exact ⟨_, _, _, rfl, h, h', h''⟩
theorem pir_range3 (hm : X.mg "range" = none) (ha : PL X [a, b, c] ms) (hg : Gl X "range" := by rfl) (hs : starEach [a, b, c] X.env = (false, eval a X.env) :: starEach [b, c] X.env := by rfl) (hpl : (backTo pos (starEach [b, c] X.env)).any (·.1) = false := by rfl) : PIR X tg (.Call (.Name "range" p) [a, b, c] [] pos) (mRng rng3 ms) := PI.mono (pi_range3 hg hm ha hs hpl) fun σ H R h => by
  obtain ⟨G, n, ds, g, r, q, k⟩ := h
  obtain ⟨d, hd, q⟩ := Option.bind_eq_some_iff.mp q
  refine ⟨G, n, d, g, r, hd, fun vs H1 G1 g1 d1 => ?_⟩
  unfold rng3 at q
  split at q
  · split at q
    · rename_i hz
      obtain ⟨rfl, h1, h2, h3, h4⟩ := hz
      cases q
      obtain ⟨v, w, u, rfl, e1, e2, e3⟩ := dpa3 d1
      cases dp_int e1; cases dp_int e2; cases dp_int e3
      exact ⟨_, _, _, _, rfl, RgC.neg h1 h2 h3 h4, k _ H1 G1 g1 (yld_rangeC _ _ _)⟩
    · cases q
  · cases q
/-! ### targets: the slots that are stored, and what -/
abbrev Fl := PyData → Option (List (Nat × PyData))
def setsE : En → List (Nat × PyData) → En
  | n, [] => n
  | n, (i, d) :: r => setsE (n.set i (.v d)) r
def setsV : L2.St → List (Nat × V) → L2.St
  | σ, [] => σ
  | σ, (i, v) :: r => setsV (σ.set i (some v)) r
inductive PairD (K : PySem.W.Frag) (F : Hp) : List (Nat × V) → List (Nat × PyData) → Prop where
  | nil : PairD K F [] []
  | cons {i : Nat} {v : V} {d : PyData} {bs : List (Nat × V)} {as : List (Nat × PyData)} : Dp K F v d → PairD K F bs as → PairD K F ((i, v) :: bs) ((i, d) :: as)
theorem PairD.append {K : PySem.W.Frag} {F : Hp} {bs bs' : List (Nat × V)} {as as' : List (Nat × PyData)} (h : PairD K F bs as) (h' : PairD K F bs' as') : PairD K F (bs ++ bs') (as ++ as') := by
  induction h with
  | nil => exact h'
  | cons d _ ih => exact .cons d ih
theorem setsV_append (bs bs' : List (Nat × V)) : ∀ σ, setsV σ (bs ++ bs') = setsV (setsV σ bs) bs' := by
  induction bs with
  | nil => intro σ; rfl
  | cons b bs ih => intro σ; exact ih _
theorem Rows.sets {K : PySem.W.Frag} {H0 F H : Hp} {bs : List (Nat × V)} {as : List (Nat × PyData)} (h : PairD K F bs as) : ∀ {σ : L2.St} {n : En}, Rows K H0 F H σ n → Rows K H0 F H (setsV σ bs) (setsE n as) := by
  induction h with
  | nil => exact fun R => R
  | cons d _ ih => exact fun R => ih (R.set d)
def TGD (K : PySem.W.Frag) (g : TG) (f : Fl) : Prop := ∀ F H σ d v as, Ex F H → Dp K F v d → f d = some as → ∀ Q : L2.St → Hp → Prop, (∀ bs, PairD K F bs as → Q (setsV σ bs) H) → g v σ H Q
def TGDs (K : PySem.W.Frag) (g : TGs) (f : List PyData → Option (List (Nat × PyData))) : Prop := ∀ F H σ ds vs as, Ex F H → DpAll K F vs ds → f ds = some as → ∀ Q : L2.St → Hp → Prop, (∀ bs, PairD K F bs as → Q (setsV σ bs) H) → g vs σ H Q
def flN (i : Nat) : Fl := fun d => some [(i, d)]
theorem tgd_name {K : PySem.W.Frag} (i : Nat) : TGD K (gName i) (flN i) := fun F H σ d v as _ dd q Q k => by
  cases q
  exact k [(i, v)] (.cons dd .nil)
def flNil : List PyData → Option (List (Nat × PyData))
  | [] => some []
  | _ => none
def flCons (f : Fl) (fs : List PyData → Option (List (Nat × PyData))) : List PyData → Option (List (Nat × PyData))
  | d :: ds => (f d).bind fun a => (fs ds).bind fun b => some (a ++ b)
  | [] => none
theorem tgds_nil {K : PySem.W.Frag} : TGDs K gNil flNil := fun F H σ ds vs as _ dd q Q k => by
  cases dd with
  | nil =>
    cases q
    exact ⟨rfl, k [] .nil⟩
  | cons _ _ => cases q
theorem tgds_cons {K : PySem.W.Frag} {g : TG} {gs : TGs} {f : Fl} {fs : List PyData → Option (List (Nat × PyData))} (h1 : TGD K g f) (h2 : TGDs K gs fs) : TGDs K (gCons g gs) (flCons f fs) := fun F H σ ds vs as e dd q Q k => by
  cases dd with
  | nil => cases q
  | cons dv da =>
    obtain ⟨a, ha, q⟩ := Option.bind_eq_some_iff.mp q
    obtain ⟨b, hb, q⟩ := Option.bind_eq_some_iff.mp q
    cases q
    refine ⟨_, _, rfl, h1 F H σ _ _ a e dv ha _ fun bs p1 => h2 F H _ _ _ b e da hb _ fun bs' p2 => ?_⟩
    rw [← setsV_append]
    exact k _ (p1.append p2)
def flTup (fs : List PyData → Option (List (Nat × PyData))) (l : Nat) : Fl
  | .tuple ds => if ds.length = l then fs ds else none
  | .list ds => if ds.length = l then fs ds else none
  | _ => none
/-- a, b = a tuple or a list -/
def gBoth (K : PySem.W.Frag) (l : Nat) (gs : TGs) : TG := fun v σ H Q => gTup K l gs v σ H Q ∨ gUnl K l gs v σ H Q
theorem pg_both {X : Cx} {es : List Expr} {pos : Pos} {k : Nat} {t : TGs} {n : Nat} (hc : X.calm = true) (h : PGs X es t) (hn : (assignEach es X.env).length = n := by rfl) (hst : (assignEach es X.env).findIdx? (·.1) = none := by rfl) : PG X (.Tuple es k pos) (gBoth X.K n t) :=
  ⟨fun pins s σ H v u Q I r hw => hw.elim (fun w => (pg_tup hc h hn hst).run pins s σ H v u Q I r w) fun w => (pg_unl hc h hn hst).run pins s σ H v u Q I r w⟩
theorem tgd_tup {K : PySem.W.Frag} {gs : TGs} {l : Nat} {fs : List PyData → Option (List (Nat × PyData))} (h : TGDs K gs fs) : TGD K (gBoth K l gs) (flTup fs l) := fun F H σ d v as e dd q Q k => by
  cases d with
  | tuple ds =>
    have q : (if ds.length = l then fs ds else none) = some as := q
    split at q
    · rename_i hl
      obtain ⟨a, vs, rfl, h1, al⟩ := dp_tup dd
      exact .inl ⟨a, vs, rfl, ex_t e h1, by rw [dpa_len al, hl], h F H σ ds vs as e al q Q k⟩
    · cases q
  | list ds =>
    have q : (if ds.length = l then fs ds else none) = some as := q
    split at q
    · rename_i hl
      obtain ⟨a, vs, rfl, h1, al⟩ := dp_lst dd
      exact .inr ⟨a, vs, rfl, ex_l e h1, by rw [dpa_len al, hl], h F H σ ds vs as e al q Q k⟩
    · cases q
  | _ => cases q
def PT1 (X : Cx) (tg : Expr) (f : Fl) : Prop := ∃ g : TG, PG X tg g ∧ TGD X.K g f
theorem pt_name (i : Nat) {x : Str} {pos' : Pos} (hN : X.N.Nodup) (hi : X.N[i]? = some x := by rfl) (hx : Loc X.env.scope x := by first | exact .inl rfl | exact .inr rfl) (hf : X.fn x = true ∨ X.env.scope.names.lookup x = some .local := by first | exact .inl rfl | exact .inr rfl) : PT1 X (.Name x pos') (flN i) :=
  ⟨gName i, pg_name hN hi hx hf, tgd_name i⟩
def PTs1 (X : Cx) (ts : List Expr) (f : List PyData → Option (List (Nat × PyData))) : Prop := ∃ g : TGs, PGs X ts g ∧ TGDs X.K g f
theorem pts_nil1 : PTs1 X [] flNil := ⟨gNil, pgs_nil, tgds_nil⟩
theorem pts_cons1 {f : Fl} {fs : List PyData → Option (List (Nat × PyData))} (h1 : PT1 X e f) (h2 : PTs1 X es fs) (hs : (assignEach (e :: es) X.env).map (·.2) = assign e X.env :: (assignEach es X.env).map (·.2) := by rfl) : PTs1 X (e :: es) (flCons f fs) := by
  obtain ⟨g1, p1, k1⟩ := h1
  obtain ⟨g2, p2, k2⟩ := h2
  exact ⟨gCons g1 g2, pgs_cons p1 p2 hs, tgds_cons k1 k2⟩
theorem pt_tup {k : Nat} (l : Nat) {fs : List PyData → Option (List (Nat × PyData))} (h : PTs1 X es fs) (hc : X.calm = true := by rfl) (hn : (assignEach es X.env).length = l := by rfl) (hst : (assignEach es X.env).findIdx? (·.1) = none := by rfl) : PT1 X (.Tuple es k pos) (flTup fs l) := by
  obtain ⟨g1, p1, k1⟩ := h
  exact ⟨gBoth X.K l g1, pg_both hc p1 hn hst, tgd_tup k1⟩
/-- a, b = e -/
def mAsgT (ws : List Nat) (f : Fl) (m : M) : MS := fun n => (m (hide ws n)).bind fun d => (f d).bind fun as => some (.nx (setsE (frz ws n) as))
theorem psv_asgT {f : Fl} (ws : List Nat) (he : PV X e m) (hg : PT1 X tg f) (hs : swapsWithSole [tg] e pos.line X.env = pure false := by rfl) (hw : swappedStores [tg] e X.env = pure none := by rfl)
    (h1 : (assignEach [tg] X.env).map (·.2) = [assign tg X.env] := by rfl) : PSV X (.Assign [tg] e pos) (mAsgT ws f m) := by
  obtain ⟨g, pg, kg⟩ := hg
  refine PS.mono (ps_asg he pg hs hw h1) fun D σ H h => ?_
  obtain ⟨G0, H0, n, o, ⟨F, g', R⟩, q, k⟩ := h
  obtain ⟨d, hd, q⟩ := Option.bind_eq_some_iff.mp q
  obtain ⟨as, ha, q⟩ := Option.bind_eq_some_iff.mp q
  cases q
  refine ⟨withO ws n σ F H, hide ws n, d, withO_s ws g'.s, vr_hide ws R, hd, fun v H1 G1 g1 d1 => ?_⟩
  exact kg G1 H1 σ d v as g1.s d1 ha _ fun bs hp => k _ _ ⟨G1, (withO_gr ws g' R).trans g1, (R.frz ws g1).sets hp⟩
/-! ### for -/
def forL (f : Fl) (b : MS) : List PyData → En → Option Out
  | [], n => some (.nx n)
  | d :: ds, n => (f d).bind fun as => (b (setsE n as)).bind fun o => match o with
    | .nx n2 => forL f b ds n2
    | .ct n2 => forL f b ds n2
    | .bk n2 => some (.nx n2)
    | .rt d => some (.rt d)
    | .rl d => some (.rl d)
theorem for_ok {K : PySem.W.Frag} {g : TG} {f : Fl} {b : MS} {J : It} {D : Ends} {G0 H0 G1 H1 : Hp} {σ : L2.St} {ds : List PyData} {n : En} {o : Out}
    (hg : TGD K g f)
    (y : Yld K J G1 ds) (e0 : Ex G0 G1) (f0 : ∀ a o, H0 a = some o → G0 a = none → G1 a = none) (R : SR K G1 H0 σ H1 n) (q : forL f b ds n = some o) (k : Post K G0 H0 D o) :
    ∃ W : Nat → Nat → L2.St → Hp → Prop, (∃ m, W 0 m σ H1) ∧ ∀ i m σ H, W i m σ H →
      (J.stop i H ∧ D.nx σ H) ∨ (J.go i H ∧ ∃ N : L2.St → Hp → Prop, (∀ σ' H', N σ' H' → ∃ m', m' < m ∧ W (i + 1) m' σ' H') ∧ ∀ x H', J.yld i H x H' → g x σ H' fun σ2 H2 => tMS K b { D with nx := N, ct := N, bk := D.nx } σ2 H2) := by
  have k1 : Post K G1 H0 D o := k.base e0 f0
  refine ⟨fun i m σ H => m = ds.length - i ∧ i ≤ ds.length ∧ ∃ n, SR K G1 H0 σ H n ∧ forL f b (ds.drop i) n = some o, ⟨ds.length, by simp, Nat.zero_le _, n, R, by simpa using q⟩, ?_⟩
  rintro i m σ H ⟨rfl, hi, n, R, q⟩
  by_cases hlt : i < ds.length
  · rw [List.drop_eq_getElem_cons hlt] at q
    obtain ⟨n1, h1, q⟩ := Option.bind_eq_some_iff.mp q
    obtain ⟨o1, h2, q⟩ := Option.bind_eq_some_iff.mp q
    obtain ⟨F, gF, RF⟩ := R
    obtain ⟨hgo, hy⟩ := (y i H (gF.g.trans gF.s)).1 _ (List.getElem?_eq_getElem hlt)
    refine .inr ⟨hgo, fun σ' H' => ∃ n, SR K G1 H0 σ' H' n ∧ forL f b (ds.drop (i + 1)) n = some o, fun σ' H' ⟨n, R, q⟩ => ⟨ds.length - (i + 1), by omega, rfl, hlt, n, R, q⟩, fun x H' hx => ?_⟩
    obtain ⟨F', g', dx⟩ := hy x H' hx F gF.g gF.s
    refine hg F' H' σ _ x n1 g'.s dx h1 _ fun bs hp => ⟨G1, H0, _, o1, ⟨F', gF.trans g', (RF.grow g').sets hp⟩, h2, ?_⟩
    cases o1 with
    | nx n2 => exact fun σ2 H2 R2 => ⟨n2, R2, q⟩
    | ct n2 => exact fun σ2 H2 R2 => ⟨n2, R2, q⟩
    | bk n2 =>
      cases q
      exact k1
    | rt d =>
      cases q
      exact k1
    | rl d =>
      cases q
      exact k1
  · have e : i = ds.length := by omega
    subst e
    obtain ⟨F, gF, RF⟩ := R
    rw [List.drop_length] at q
    cases q
    exact .inl ⟨(y _ H (gF.g.trans gF.s)).2 (Nat.le_refl _), k1 σ H ⟨F, gF, RF⟩⟩
/-- the walked thing and the own lists of ws are frozen -/
def mFor (ws : List Nat) (mi : MA) (f : Fl) (b : MS) : MS := fun n => (mi (hide ws n)).bind fun ds => forL f b ds (frz ws n)
theorem psv_for {f : Fl} (ws : List Nat) (hi : PIV X tg e ms) (hg : PT1 X tg f) (hb : PSsV X body s1) (hp : PassesOwn (model X.prog X.w) X.A X.env X.xe := by first | exact PassesOwn.never | assumption) (hc : X.calm = true := by rfl)
    (hs : ∀ x, foldedSetIterable e X.env x = pure x := by intro _; rfl) : PSV X (.For tg e body [] pos) (mFor ws ms f s1) := by
  obtain ⟨g, pg, kg⟩ := hg
  refine PS.mono (ps_for hp hc hi pg hb hs) fun D σ H h => ?_
  obtain ⟨G0, H0, n, o, ⟨F, g', R⟩, q, k⟩ := h
  obtain ⟨ds, hd, q⟩ := Option.bind_eq_some_iff.mp q
  refine ⟨withO ws n σ F H, hide ws n, ds, withO_s ws g'.s, vr_hide ws R, hd, fun J H1 G1 g1 y => ?_⟩
  have gg := (withO_gr ws g' R).trans g1
  exact for_ok kg y gg.g gg.f ⟨G1, ⟨Ex.refl _, gg.s, gg.h, fun _ _ _ z => z⟩, R.frz ws g1⟩ q k
/-- a range: nothing is frozen -/
def mForR (ws : List Nat) (mi : MA) (f : Fl) (b : MS) : MS := fun n => (mi (hide ws n)).bind fun ds => forL f b ds n
theorem psv_forR {f : Fl} (ws : List Nat) (hi : PIR X tg e ms) (hg : PT1 X tg f) (hb : PSsV X body s1) (hp : PassesOwn (model X.prog X.w) X.A X.env X.xe := by first | exact PassesOwn.never | assumption) (hc : X.calm = true := by rfl)
    (hs : ∀ x, foldedSetIterable e X.env x = pure x := by intro _; rfl) : PSV X (.For tg e body [] pos) (mForR ws ms f s1) := by
  obtain ⟨g, pg, kg⟩ := hg
  refine PS.mono (ps_for hp hc hi pg hb hs) fun D σ H h => ?_
  obtain ⟨G0, H0, n, o, ⟨F, g', R⟩, q, k⟩ := h
  obtain ⟨ds, hd, q⟩ := Option.bind_eq_some_iff.mp q
  refine ⟨withO ws n σ F H, hide ws n, ds, withO_s ws g'.s, vr_hide ws R, hd, fun J H1 G1 g1 y => ?_⟩
  have y' : Yld X.K J G0 ds := fun i H e => by
    obtain ⟨y1, y2⟩ := y i H fun _ _ z => nomatch z
    exact ⟨fun d hd => ⟨(y1 d hd).1, fun x H' hx F e1 e2 => (y1 d hd).2 x H' hx F (fun _ _ z => nomatch z) e2⟩, y2⟩
  exact for_ok kg y' (Ex.refl _) (fun _ _ _ z => z) ⟨F, ⟨g'.g, g'.s.trans g1.h, g'.h.trans g1.h, g'.f⟩, R.stay g1.h⟩ q k
/-! ### while -/
def whl (ws : List Nat) (t : MT) (b : MS) : Nat → En → Option Out
  | 0, _ => none
  | j + 1, n => (t (hide ws n)).bind fun c => if c = true then (b n).bind fun o => match o with
    | .nx n2 => whl ws t b j n2
    | .ct n2 => whl ws t b j n2
    | .bk n2 => some (.nx n2)
    | .rt d => some (.rt d)
    | .rl d => some (.rl d)
    else some (.nx n)
theorem whl_mono (ws : List Nat) (t : MT) (b : MS) : ∀ (j i : Nat) (n : En) (o : Out), whl ws t b j n = some o → j ≤ i → whl ws t b i n = some o
  | 0, _, _, _, h, _ => by cases h
  | j + 1, 0, _, _, _, h => by omega
  | j + 1, i + 1, n, o, h, hi => by
    unfold whl at h ⊢
    obtain ⟨c, hc, h⟩ := Option.bind_eq_some_iff.mp h
    rw [hc, Option.bind_some]
    cases c with
    | false => exact h
    | true =>
      rw [if_pos rfl] at h ⊢
      obtain ⟨o1, h1, h⟩ := Option.bind_eq_some_iff.mp h
      rw [h1, Option.bind_some]
      cases o1 with
      | nx n2 => exact whl_mono ws t b j i n2 o h (by omega)
      | ct n2 => exact whl_mono ws t b j i n2 o h (by omega)
      | bk n2 => exact h
      | rt d => exact h
      | rl d => exact h
noncomputable def mWhile (ws : List Nat) (t : MT) (b : MS) : MS := open Classical in fun n => if h : ∃ o j, whl ws t b j n = some o then some h.choose else none
theorem mWhile_of {ws : List Nat} {t : MT} {b : MS} {n : En} {o : Out} {j : Nat} (h : whl ws t b j n = some o) : mWhile ws t b n = some o := by
  have hex : ∃ o j, whl ws t b j n = some o := ⟨o, j, h⟩
  unfold mWhile
  rw [dif_pos hex]
  obtain ⟨i, hi⟩ := hex.choose_spec
  have e1 := whl_mono ws t b i (max i j) n _ hi (Nat.le_max_left _ _)
  have e2 := whl_mono ws t b j (max i j) n _ h (Nat.le_max_right _ _)
  rw [e1] at e2
  exact e2
theorem of_mWhile {ws : List Nat} {t : MT} {b : MS} {n : En} {o : Out} (h : mWhile ws t b n = some o) : ∃ j, whl ws t b j n = some o := by
  unfold mWhile at h
  split at h
  · rename_i hex
    obtain ⟨i, hi⟩ := hex.choose_spec
    cases h
    exact ⟨i, hi⟩
  · cases h
theorem psv_while (ws : List Nat) (hc : PB X c mt) (hb : PSsV X body s1) (hp : PassesOwn (model X.prog X.w) X.A X.env X.xe := by first | exact PassesOwn.never | assumption) : PSV X (.While c body [] pos) (mWhile ws mt s1) := PS.mono (ps_while hp hc hb) fun D σ H h => by
  obtain ⟨G0, H0, n, o, R, q, k⟩ := h
  obtain ⟨j, q⟩ := of_mWhile q
  refine ⟨fun m σ H => ∃ n, SR X.K G0 H0 σ H n ∧ whl ws mt s1 m n = some o, ⟨j, n, R, q⟩, ?_⟩
  rintro m σ H ⟨n, ⟨F, g, R⟩, q⟩
  cases m with
  | zero => cases q
  | succ m =>
    unfold whl at q
    obtain ⟨c, hc, q⟩ := Option.bind_eq_some_iff.mp q
    refine ⟨withO ws n σ F H, hide ws n, c, withO_s ws g.s, vr_hide ws R, hc, fun H1 G1 g1 => ?_⟩
    have R1 : SR X.K G0 H0 σ H1 n := ⟨F, ⟨g.g, g.s.trans g1.h, g.h.trans g1.h, g.f⟩, R.stay g1.h⟩
    cases c with
    | false =>
      refine iteF ?_
      cases q
      exact k σ H1 R1
    | true =>
      refine iteT ?_
      rw [if_pos rfl] at q
      obtain ⟨o1, h1, q⟩ := Option.bind_eq_some_iff.mp q
      refine ⟨fun σ' H' => ∃ n, SR X.K G0 H0 σ' H' n ∧ whl ws mt s1 m n = some o, fun σ' H' z => ⟨m, Nat.lt_succ_self m, z⟩, G0, H0, n, o1, R1, h1, ?_⟩
      cases o1 with
      | nx n2 => exact fun σ2 H2 R2 => ⟨n2, R2, q⟩
      | ct n2 => exact fun σ2 H2 R2 => ⟨n2, R2, q⟩
      | bk n2 =>
        cases q
        exact k
      | rt d =>
        cases q
        exact k
      | rl d =>
        cases q
        exact k
end
end
end VE
set_option Elab.async false
set_option linter.all false
set_option maxRecDepth 100000
namespace VE
noncomputable section
open PySem PySem.Spec L2 Evl
/-! ### comprehensions -/
theorem wipe_get (σ : L2.St) : ∀ (vs : List Nat) (j : Nat), (wipe σ vs)[j]? = if j ∈ vs then (σ[j]?).map (fun _ => none) else σ[j]?
  | [], j => by simp [wipe]
  | v :: vs, j => by
    have ih := wipe_get σ vs j
    unfold wipe
    rw [List.getElem?_set]
    by_cases h : v = j
    · subst h
      simp only [if_true, List.mem_cons, true_or, wipe_length]
      by_cases hl : v < σ.length
      · simp [hl]
      · simp [hl]
    · rw [if_neg h, ih]
      have h' : ¬ j = v := fun z => h z.symm
      simp only [List.mem_cons, h', false_or]
theorem wipe_set {σ : L2.St} {vs : List Nat} {i : Nat} {x : Option V} (h : i ∈ vs) : wipe (σ.set i x) vs = wipe σ vs := by
  apply List.ext_getElem?
  intro j
  rw [wipe_get, wipe_get]
  by_cases hj : j ∈ vs
  · rw [if_pos hj, if_pos hj, List.getElem?_set]
    split
    · rename_i e
      subst e
      split
      · rename_i hl
        simp [hl]
      · rename_i hl
        simp [hl]
    · rfl
  · rw [if_neg hj, if_neg hj, List.getElem?_set_ne (fun z => by subst z; exact hj h)]
theorem wipe_wipe {σ : L2.St} {vs : List Nat} : wipe (wipe σ vs) vs = wipe σ vs := by
  apply List.ext_getElem?
  intro j
  rw [wipe_get, wipe_get]
  by_cases hj : j ∈ vs
  · rw [if_pos hj, if_pos hj]
    cases σ[j]? <;> rfl
  · rw [if_neg hj, if_neg hj]
theorem wipe_setsV {vs : List Nat} : ∀ {bs : List (Nat × V)} {σ : L2.St}, (∀ b ∈ bs, b.1 ∈ vs) → wipe (setsV σ bs) vs = wipe σ vs
  | [], _, _ => rfl
  | (i, v) :: bs, σ, h => by
    have h1 := wipe_setsV (bs := bs) (σ := σ.set i (some v)) fun b hb => h b (List.mem_cons_of_mem _ hb)
    show wipe (setsV (σ.set i (some v)) bs) vs = wipe σ vs
    rw [h1]
    exact wipe_set (h (i, v) (List.mem_cons_self ..))
def wipeE (n : En) : List Nat → En
  | [] => n
  | v :: vs => (wipeE n vs).set v .no
theorem wipeE_get {n : En} {s : Sl} {i : Nat} : ∀ {vs : List Nat}, (wipeE n vs)[i]? = some s → (s = .no ∨ (n[i]? = some s ∧ i ∉ vs))
  | [], h => .inr ⟨h, by simp⟩
  | v :: vs, h => by
    unfold wipeE at h
    by_cases hi : v = i
    · subst hi
      rw [List.getElem?_set] at h
      simp only [if_true] at h
      split at h
      · cases h
        exact .inl rfl
      · cases h
    · rw [List.getElem?_set_ne hi] at h
      rcases wipeE_get h with h | ⟨h, h'⟩
      · exact .inl h
      · exact .inr ⟨h, by simp [h', Ne.symm hi]⟩
theorem wipeE_len (n : En) : ∀ vs : List Nat, (wipeE n vs).length = n.length
  | [] => rfl
  | v :: vs => by unfold wipeE; rw [List.length_set, wipeE_len n vs]
theorem vr_wipe {K : PySem.W.Frag} {G : Hp} {σ : L2.St} {n : En} {vs : List Nat} (r : Vr K G σ n) : Vr K G (wipe σ vs) (wipeE n vs) := ⟨by rw [wipe_length, wipeE_len]; exact r.len, fun i s d h1 h2 => by
  rcases wipeE_get h1 with h | ⟨h, h'⟩
  · subst h
    cases h2
  · obtain ⟨v, e, dd⟩ := r.sl i s d h h2
    exact ⟨v, by rw [wipe_get, if_neg h']; exact e, dd⟩⟩
theorem vr_set {K : PySem.W.Frag} {G : Hp} {σ : L2.St} {n : En} {i : Nat} {v : V} {d : PyData} (r : Vr K G σ n) (h : Dp K G v d) : Vr K G (σ.set i (some v)) (n.set i (.v d)) := ⟨by rw [List.length_set, List.length_set]; exact r.len, fun j s e h1 h2 => by
  have hl := r.len
  by_cases z : i = j
  · subst z
    by_cases hi : i < n.length
    · rw [List.getElem?_set_self hi] at h1
      cases h1
      cases h2
      exact ⟨v, by rw [List.getElem?_set_self (by omega)], h⟩
    · simp [List.getElem?_set, hi] at h1
  · rw [List.getElem?_set_ne z] at h1 ⊢
    exact r.sl j s e h1 h2⟩
theorem vr_sets {K : PySem.W.Frag} {G : Hp} {bs : List (Nat × V)} {as : List (Nat × PyData)} (h : PairD K G bs as) : ∀ {σ : L2.St} {n : En}, Vr K G σ n → Vr K G (setsV σ bs) (setsE n as) := by
  induction h with
  | nil => exact fun r => r
  | cons d _ ih => exact fun r => ih (vr_set r d)
/-- what a comprehension gives -/
def compL (f : Fl) (vs : List Nat) (mt : MT) (me : M) (n : En) : List PyData → Option (List PyData)
  | [] => some []
  | d :: ds => (f d).bind fun as => if as.all (fun p => vs.contains p.1) = true then
      (mt (setsE n as)).bind fun c => if c = true then (me (setsE n as)).bind fun y => (compL f vs mt me n ds).bind fun r => some (y :: r)
        else compL f vs mt me n ds
      else none
def mLc (vs : List Nat) (mi : MA) (f : Fl) (mt : MT) (me : M) : MA := fun n => (mi n).bind fun ds => (compL f vs mt me (wipeE n vs) ds).bind fun rs => @ite _ (rs.length < 16000000) (Classical.propDecidable _) (some rs) none
theorem pd_all {K : PySem.W.Frag} {F : Hp} {vs : List Nat} {bs : List (Nat × V)} {as : List (Nat × PyData)} (h : PairD K F bs as) : as.all (fun p => vs.contains p.1) = true → ∀ b ∈ bs, b.1 ∈ vs := by
  induction h with
  | nil => intro _ b hb; cases hb
  | cons d _ ih =>
    intro ha b hb
    simp only [List.all_cons, Bool.and_eq_true, List.contains_iff_mem] at ha
    rcases List.mem_cons.mp hb with rfl | hb
    · exact ha.1
    · exact ih ha.2 b hb
theorem PairD.mono {K : PySem.W.Frag} {F F' : Hp} {bs : List (Nat × V)} {as : List (Nat × PyData)} (h : PairD K F bs as) (e : Ex F F') : PairD K F' bs as := by
  induction h with
  | nil => exact .nil
  | cons d _ ih => exact .cons (dp_ex e d) ih
theorem comp_ok {K : PySem.W.Frag} {g : TG} {f : Fl} {vs : List Nat} {mi : MA} {mt : MT} {me : M} (hg : TGD K g f) : ∀ σ H Q, tMF K (mLc vs mi f mt me) σ H Q → tLc (tMI K mi) g (tMT K mt) (tM K me) vs σ H Q := fun σ H Q h => by
  obtain ⟨G, n, rs, e, r, q, k⟩ := h
  obtain ⟨ds, hd, q⟩ := Option.bind_eq_some_iff.mp q
  obtain ⟨rs', hrs, q⟩ := Option.bind_eq_some_iff.mp q
  split at q
  · rename_i hz
    cases q
    refine ⟨G, n, ds, e, r, hd, fun J H1 G1 g1 y D hD => ?_⟩
    refine ⟨fun i m H' => m = ds.length - i ∧ i ≤ ds.length ∧ ∃ F acc done rest, Gr G1 H1 F H' ∧ F D = none ∧ H' D = some (.lst acc) ∧ DpAll K F acc done ∧ compL f vs mt me (wipeE n vs) (ds.drop i) = some rest ∧ done ++ rest = rs,
      ⟨ds.length, by simp, Nat.zero_le _, G1, [], [], rs, Gr.newo g1.s hD, fresh_back g1.s hD, upd_same, .nil, by simpa using hrs, rfl⟩, ?_⟩
    rintro i m H2 ⟨rfl, hi, F, acc, done, rest, g2, hF, hH, a, hc, hdone⟩
    by_cases hlt : i < ds.length
    · rw [List.drop_eq_getElem_cons hlt] at hc
      obtain ⟨as, h1, hc⟩ := Option.bind_eq_some_iff.mp hc
      split at hc
      · rename_i hall
        obtain ⟨c, h2, hc⟩ := Option.bind_eq_some_iff.mp hc
        obtain ⟨hgo, hy⟩ := (y i H2 (g2.g.trans g2.s)).1 _ (List.getElem?_eq_getElem hlt)
        refine .inr ⟨hgo, fun H' => i < ds.length ∧ ∃ F acc done rest, Gr G1 H1 F H' ∧ F D = none ∧ H' D = some (.lst acc) ∧ DpAll K F acc done ∧ compL f vs mt me (wipeE n vs) (ds.drop (i + 1)) = some rest ∧ done ++ rest = rs,
          fun H' z => ⟨ds.length - (i + 1), by omega, rfl, hlt, z.2⟩, fun x H3 hx => ?_⟩
        obtain ⟨F3, g3, dx⟩ := hy x H3 hx F g2.g g2.s
        refine hg F3 H3 (wipe σ vs) _ x as g3.s dx h1 _ fun bs hp => ⟨?_, ?_⟩
        · rw [wipe_setsV (pd_all hp hall), wipe_wipe]
        · have vr : Vr K F3 (setsV (wipe σ vs) bs) (setsE (wipeE n vs) as) := vr_sets hp (vr_wipe (r.mono ((g1.g.trans g2.g).trans g3.g)))
          refine ⟨F3, _, c, g3.s, vr, h2, fun H4 F4 g4 => ?_⟩
          have g24 := (g2.trans g3).trans g4
          have hF4 : F4 D = none := (g3.trans g4).f D _ hH hF
          have hH4 : H4 D = some (.lst acc) := (g3.trans g4).h D _ hH
          have a4 := dpa_ex (g3.trans g4).g a
          cases c with
          | true =>
            refine iteT ?_
            rw [if_pos rfl] at hc
            obtain ⟨yv, h3, hc⟩ := Option.bind_eq_some_iff.mp hc
            obtain ⟨rest', h4, hc⟩ := Option.bind_eq_some_iff.mp hc
            cases hc
            refine ⟨F4, _, yv, g4.s, vr.mono g4.g, h3, fun v H5 F5 g5 d5 => ?_⟩
            have hF5 : F5 D = none := g5.f D _ hH4 hF4
            refine ⟨acc, g5.h D _ hH4, ?_, hlt, F5, acc ++ [v], done ++ [yv], rest', ?_, hF5, upd_same, dpa_app (dpa_ex g5.g a4) (.cons d5 .nil), h4, by rw [← hdone]; simp⟩
            · have e1 := dpa_len a
              have e2 : rs.length = done.length + (rest'.length + 1) := by rw [← hdone]; simp
              have : sizeLine = 16777216 := sizeLine_eq
              omega
            · exact gr_mut (g24.trans g5) hF5 hD
          | false =>
            refine iteF ?_
            rw [if_neg Bool.false_ne_true] at hc
            exact ⟨hlt, F4, acc, done, rest, g24, hF4, hH4, a4, hc, hdone⟩
      · cases hc
    · have e : i = ds.length := by omega
      subst e
      rw [List.drop_length] at hc
      cases hc
      rw [List.append_nil] at hdone
      subst hdone
      refine .inl ⟨(y _ H2 (g2.g.trans g2.s)).2 (Nat.le_refl _), k D acc H2 F (g1.trans g2) (fresh_back g1.h hD) hF hH a⟩
  · cases q
section
variable {X : Cx} {tg e a b c elt iter : Expr} {es : List Expr} {pos p : Pos} {m ma mb mc me : M} {mt : MT} {ms mi : MA} {ifs : List Expr} {f : Fl}
def mYes : MT := fun _ => some true
abbrev PTsV (X : Cx) (ifs : List Expr) (m : MT) : Prop := PTs X ifs (tMT X.K m)
theorem PTs.mono {X : Cx} {e : List Expr} {t t' : TT} (h : PTs X e t) (i : ∀ σ H Q, t' σ H Q → t σ H Q) : PTs X e t' := ⟨fun pins s σ H Q I q => h.run pins s σ H Q I (i σ H Q q)⟩
theorem ptv_nil : PTsV X [] mYes := PTs.mono pts_nil fun σ H Q h => by
  obtain ⟨G, n, b, e, r, q, k⟩ := h
  cases q
  exact k H G (Gr.refl e)
theorem ptv_one (h : PB X c mt) : PTsV X [c] mt := pts_one h
/-- [elt for x in iter if ..], x at slot i -/
theorem pf_lc {x : Str} {scope : Scope} (i : Nat) (hN : X.N.Nodup) (hi : PIV X tg iter mi) (ok : blkC X.N X.env.scope scope [(x, i)] = true)
    (hg : ∀ (s : Shared) (H : Hp) (C : Addr) (cl : List (Str × Addr)) (fp : List Addr), PG (X.blk s H scope (compEnvC scope cl C X.env) fp) tg (gName i)) (ht : ∀ (s : Shared) (H : Hp) (C : Addr) (cl : List (Str × Addr)) (fp : List Addr), PTsV (X.blk s H scope (compEnvC scope cl C X.env) fp) ifs mt)
    (he : ∀ (s : Shared) (H : Hp) (C : Addr) (cl : List (Str × Addr)) (fp : List Addr), PV (X.blk s H scope (compEnvC scope cl C X.env) fp) elt me) (hc : X.calm = true := by rfl) (hs : ∀ x, foldedSetIterable iter X.env x = pure x := by intro _; rfl) :
    PF X (.ListComp elt [⟨tg, iter, ifs, 0⟩] scope pos) (mLc [i] mi (flN i) mt me) :=
  PE.mono (pe_lc (own := [(x, i)]) hc hN hi (blkOk_by ok) hg ht he hs) (comp_ok (tgd_name i))
/-- ranges are walked likewise -/
theorem piv_of_pir (h : PIR X tg iter mi) : PIV X tg iter mi := PI.mono h fun σ H R h => by
  obtain ⟨G, n, b, e, r, q, k⟩ := h
  exact ⟨G, n, b, e, r, q, fun J H' G' g y => k J H' G' g fun i H e => by
    obtain ⟨y1, y2⟩ := y i H fun _ _ z => nomatch z
    exact ⟨fun d hd => ⟨(y1 d hd).1, fun x H' hx F e1 e2 => (y1 d hd).2 x H' hx F (fun _ _ z => nomatch z) e2⟩, y2⟩⟩
/-- y = [..] : as an own list, as a value -/
theorem psv_lcO {x y : Str} {py spos : Pos} {scope : Scope} (ws : List Nat) (j i : Nat) (hN : X.N.Nodup) (hi : PIV X tg iter mi) (ok : blkC X.N X.env.scope scope [(x, i)] = true)
    (hg : ∀ (s : Shared) (H : Hp) (C : Addr) (cl : List (Str × Addr)) (fp : List Addr), PG (X.blk s H scope (compEnvC scope cl C X.env) fp) tg (gName i)) (ht : ∀ (s : Shared) (H : Hp) (C : Addr) (cl : List (Str × Addr)) (fp : List Addr), PTsV (X.blk s H scope (compEnvC scope cl C X.env) fp) ifs mt)
    (he : ∀ (s : Shared) (H : Hp) (C : Addr) (cl : List (Str × Addr)) (fp : List Addr), PV (X.blk s H scope (compEnvC scope cl C X.env) fp) elt me)
    (hsw : swapsWith (.ListComp elt [⟨tg, iter, ifs, 0⟩] scope pos) (some (.Name y py)) spos.line X.env = pure true) (hy : X.N[j]? = some y := by rfl) (hyl : X.env.scope.names.lookup y = some .local := by rfl) (hc : X.calm = true := by rfl) (hs : ∀ x, foldedSetIterable iter X.env x = pure x := by intro _; rfl) :
    PSV X (.Assign [.Name y py] (.ListComp elt [⟨tg, iter, ifs, 0⟩] scope pos) spos) (mAsgO ws j (mLc [i] mi (flN i) mt me)) := PS.mono (ps_setLc (own := [(x, i)]) hc hN hy hyl hsw hi (blkOk_by ok) hg ht he hs) fun D σ H h => by
  obtain ⟨G0, H0, n, o, R, q, k⟩ := h
  have h1 := asgO_ok R q k
  exact comp_ok (tgd_name i) σ H _ h1
theorem psv_lc {x y : Str} {py spos : Pos} {scope : Scope} (ws : List Nat) (j i : Nat) (hN : X.N.Nodup) (hi : PIV X tg iter mi) (ok : blkC X.N X.env.scope scope [(x, i)] = true)
    (hg : ∀ (s : Shared) (H : Hp) (C : Addr) (cl : List (Str × Addr)) (fp : List Addr), PG (X.blk s H scope (compEnvC scope cl C X.env) fp) tg (gName i)) (ht : ∀ (s : Shared) (H : Hp) (C : Addr) (cl : List (Str × Addr)) (fp : List Addr), PTsV (X.blk s H scope (compEnvC scope cl C X.env) fp) ifs mt)
    (he : ∀ (s : Shared) (H : Hp) (C : Addr) (cl : List (Str × Addr)) (fp : List Addr), PV (X.blk s H scope (compEnvC scope cl C X.env) fp) elt me)
    (hsw : swapsWith (.ListComp elt [⟨tg, iter, ifs, 0⟩] scope pos) (some (.Name y py)) spos.line X.env = pure true) (hy : X.N[j]? = some y := by rfl) (hyl : X.env.scope.names.lookup y = some .local := by rfl) (hc : X.calm = true := by rfl) (hs : ∀ x, foldedSetIterable iter X.env x = pure x := by intro _; rfl) :
    PSV X (.Assign [.Name y py] (.ListComp elt [⟨tg, iter, ifs, 0⟩] scope pos) spos) (mAsg ws j (mL (mLc [i] mi (flN i) mt me))) := PS.mono (ps_setLc (own := [(x, i)]) hc hN hy hyl hsw hi (blkOk_by ok) hg ht he hs) fun D σ H h => by
  obtain ⟨G0, H0, n, o, R, q, k⟩ := h
  have h1 := asg_ok R q k
  exact comp_ok (tgd_name i) σ H _ (t_mL σ H _ h1)
end
/-! ### a def -/
def runM (N : List Str) (body : MS) (ds : List PyData) : Option PyData := (body (ds.map .v ++ List.replicate (N.length - ds.length) .no)).bind fun o => match o with
  | .rt d => some d
  | .rl xs => some (.list xs)
  | .nx _ => some .none
  | _ => none
theorem start_rows {K : PySem.W.Frag} {G H : Hp} {N : List Str} {vs : List V} {ds : List PyData} (e : Ex G H) (a : DpAll K G vs ds) : Rows K H G H (L2.start N vs) (ds.map .v ++ List.replicate (N.length - ds.length) .no) := by
  have hl := dpa_len a
  have f : ∀ (i : Nat) (s : Sl), (ds.map Sl.v ++ List.replicate (N.length - ds.length) Sl.no)[i]? = some s → s = .no ∨ ∃ d, s = .v d ∧ ds[i]? = some d := fun i s h => by
    by_cases hi : i < ds.length
    · rw [List.getElem?_append_left (by simpa using hi), List.getElem?_map] at h
      obtain ⟨d, hd, rfl⟩ := Option.map_eq_some_iff.mp h
      exact .inr ⟨d, rfl, hd⟩
    · rw [List.getElem?_append_right (by simpa using hi), List.getElem?_replicate] at h
      split at h
      · cases h
        exact .inl rfl
      · cases h
  refine ⟨by simp [L2.start, hl], fun i d h => ?_, fun i xs h => ?_, fun i j xs ys _ h _ => ?_⟩
  · rcases f i _ h with h | ⟨d', h, hd⟩
    · cases h
    · cases h
      obtain ⟨v, hv, dv⟩ := dpa_get a hd
      refine ⟨v, ?_, dv⟩
      unfold L2.start
      have hi := (List.getElem?_eq_some_iff.mp hv).1
      rw [List.getElem?_append_left (by simpa using hi), List.getElem?_map, hv]
      rfl
  · rcases f i _ h with h | ⟨d', h, hd⟩ <;> cases h
  · rcases f i _ h with h | ⟨d', h, hd⟩ <;> cases h
section
variable {P : Program} {w : World} {K : PySem.W.Frag} {mg : Str → Option Value} {base : Heap}
theorem body_ok {N : List Str} {body : MS} {vs : List V} {H : Hp} {Q : VK} {E : XK} {n : Nat} (h : spM K n (runM N body) vs H Q E) : tMS K body { nx := fun _ H' => Q .non H', rt := Q } (L2.start N vs) H := by
  obtain ⟨G, ds, d, e, a, hl, q, k⟩ := h
  obtain ⟨o, ho, q⟩ := Option.bind_eq_some_iff.mp q
  refine ⟨G, H, _, o, ⟨G, Gr.refl e, start_rows e a⟩, ho, ?_⟩
  cases o with
  | rt d' =>
    cases q
    exact fun v H' G' g dd => k v H' G' g dd
  | rl xs =>
    cases q
    intro p ws H1 G1 g1 h0 hp h1 d1
    have g2 : Gr G H (upd G1 p (.lst ws)) H1 :=
      ⟨g1.g.trans (Ex.new hp), fun a o h => by
        by_cases z : a = p
        · subst z
          rw [upd_same] at h
          rw [h1]
          exact h
        · rw [upd_ne z] at h
          exact g1.s a o h, g1.h, fun a o h q => by
        rw [upd_ne (ne_of_none h h0)]
        exact g1.f a o h q⟩
    exact k (.ref p) H1 _ g2 (.lst (SqL.of upd_same) (dpa_ex (Ex.new hp) d1))
  | nx n' =>
    cases q
    rintro σ' H' ⟨F, g, R⟩
    exact k .non H' F g .non
  | bk _ => cases q
  | ct _ => cases q
/-- THE RULE for a def -/
theorem def_ok {x qual : Str} {st : Stmt} {f : Addr} {fd : FuncData} {N ps : List Str} {k : Nat} {body : MS} (F : Fun K x qual st f fd) (S : FnScope N ps (defScope st)) (hm : mg x = some (.ref f)) (hb : L2.Binds K fd ps [])
    (h : ∀ (cdv : Value) (A : Around) (outer : List Env) (s : Shared) (H : Hp) (E : XK), Room k (A.deeper (PyProof.Rows.envOfC qual (defScope st) s.heap.objs.size f cdv)) → PSsV (cxOf CX0 P w K mg base N qual (defScope st) f cdv A outer s H E).nox (defBody st) body) :
    Def P w K mg base x (k + 1) ps.length (runM N body) :=
  ⟨CX0, f, fd, ps, fun _ _ _ => pass0, F.ok S (fun vs H Q E h => spM_len h) (fun cdv A outer s H vs Q E hr hs => ⟨_, h cdv A outer s H E hr, body_ok hs⟩), hm, F.kp, hb⟩
end
end
end VE
set_option Elab.async false
set_option linter.all false
set_option maxRecDepth 100000
/-! list(reversed(a list)) at the library's level -/
namespace VL
open PySem PySem.Spec PyProof.Rows
section
variable {prog : Program} {w : World} {A : Around} {E : Value → Shared → Prop} {s : Shared}
theorem extend_rev {R : Result → Shared → Prop} {it l S : Addr} {items : Array Value} {c₀ : Nat} (res : Value) (hh : A.handled = none) (hit : s.heap.IsRevIter it l ((items.size : Int) - 1)) (hl : s.heap.IsList l items) (hne : l ≠ it) (hn : items.size ≤ sizeLine)
    (hS : s.heap.get? S = some { cls := .type "list", data := .seq #[] c₀ }) (hSi : S ≠ it) (hSl : S ≠ l)
    (hR : ∀ h' tk acc' c', (∀ b o, b ≠ S → b ≠ it → s.heap.get? b = some o → h'.get? b = some o) → h'.get? S = some { cls := .type "list", dict := none, data := .seq acc' c', slots := #[] } →
      ItemsOf (fun i v => items[items.size - 1 - i]? = some v) acc' items.size → R (.ok (.ret res)) { s with heap := h', toks := tk }) :
    wpAny (model prog w) A.in1 (Builtin.List.listExtendWith (.ref S) (.ref it) res)
      (fun fin s' => match fin with | .done f => R (.ok f) s' | .again c' => c'.quiet = true ∧ codeAny (model prog w) A c' R s') (fun e s' => R (.error e) s') s := by
  have W := (Walks.listRev (prog := prog) (w := w) (A := A.in1) hh it l hne items).toS
  have hSf : S ∉ [it, l] := by simp only [List.mem_cons, List.not_mem_nil, or_false, not_or]; exact ⟨hSi, hSl⟩
  have hT : s.TypeIs (.ref it) "list_reverseiterator" := hit.typeIs
  have h1 : Builtin.List.listSameRef (.ref S) (.ref it) = false := by simp [Builtin.List.listSameRef, hSi]
  unfold Builtin.List.listExtendWith
  refine wpAny_bind (wpAny_typeOf hT ?_)
  rw [if_neg (by rw [h1]; decide)]
  refine wpAny_bind (wpAny_pyIter_revIter hit ?_)
  refine wpAny_bind (wpAny_holding ?_)
  unfold Builtin.List.listLengthHint
  refine wpAny_bind (wpAny_specialOf hT RT.nolen_lri ?_)
  show wpAny _ A.in1 (specialOf (Value.ref it) (Str.ofString "__length_hint__") >>= _) _ _ _
  refine wpAny_bind (wpAny_specialOf hT RT.hint_lri ?_)
  generalize hid : ("list_reverseiterator.__length_hint__" : String) = id0
  wp_delta
  rw [show splitId id0 = some ("list_reverseiterator", "__length_hint__") from by subst hid; decide +kernel]
  subst hid
  refine wpAny_bind (wpAny_isInstance (b := true) hT (by rw [isSubtype_type]; kernel_rfl) ?_)
  refine wpAny_pure ?_
  rw [if_neg (by decide)]
  have e0 : ((items.size : Nat) : Int) - 1 - ((0 : Nat) : Int) = (items.size : Int) - 1 := by omega
  refine wpAny_pure ⟨plainId_quiet F.plain_extend_loop _, codeAny_extend_loopS W hn _ hSf _ items.size 0 _ _ _ rfl (Nat.zero_le _) ⟨Nat.zero_le _, by rw [e0]; exact hit, hl⟩ hS (ItemsOf.nil _) fun s' acc' c' hm hS' hacc => ?_⟩
  rw [Moved.eq_with hm]
  refine hR s'.heap s'.toks acc' c' (fun b o hb hbi e => hm.heap b o (fun hmem => ?_) e) hS' hacc
  rcases List.mem_cons.mp hmem with e' | hmem
  · exact hb e'
  · exact hbi (List.mem_singleton.mp hmem)
theorem call_list_rev {Q : Value → Shared → Prop} {it l : Addr} {items : Array Value} (hh : A.handled = none) (hit : s.heap.IsRevIter it l ((items.size : Int) - 1)) (hl : s.heap.IsList l items) (hne : l ≠ it) (hn : items.size ≤ sizeLine)
    (hQ : ∀ h' tk acc' c', (∀ b o, b ≠ it → s.heap.get? b = some o → h'.get? b = some o) →
      h'.get? s.heap.objs.size = some { cls := .type "list", dict := none, data := .seq acc' c', slots := #[] } → ItemsOf (fun i v => items[items.size - 1 - i]? = some v) acc' items.size → Q (.ref s.heap.objs.size) { s with heap := h', toks := tk }) :
    wpAny (model prog w) A (call (.type "list") [.ref it]) Q E s := by
  refine callType_codes (Q₁ := fun obj s₁ => obj = .ref s.heap.objs.size ∧ s₁ = { s with heap := s.heap.push { cls := .type "list", data := .seq #[] } }) F.called_list (F.typeCall_list_1 _) F.entry_list_init
    (code_list_new _ ⟨rfl, rfl⟩) fun obj s₁ h₁ => ?_
  obtain ⟨rfl, rfl⟩ := h₁
  have hS : (s.heap.push { cls := .type "list", data := .seq #[] }).get? s.heap.objs.size = some { cls := .type "list", data := .seq #[] } := Heap.get?_push_size _ rfl
  obtain ⟨oi, hoi, _⟩ := id hit
  obtain ⟨ol, hol, _⟩ := id hl
  have hSi : s.heap.objs.size ≠ it := Nat.ne_of_gt (Heap.lt_size hoi)
  have hSl : s.heap.objs.size ≠ l := Nat.ne_of_gt (Heap.lt_size hol)
  refine ⟨⟨_, hS, rfl⟩, F.args_list_init_2 _ _, ?_⟩
  show wpAny _ _ (do let old ← Builtin.List.listItems (.ref s.heap.objs.size); Builtin.List.listUpdate (.ref s.heap.objs.size) (fun _ => #[]); letGo old.toList.reverse; Builtin.List.listExtendWith (.ref s.heap.objs.size) (.ref it) .none) _ _ _
  refine wpAny_bind ?_
  unfold Builtin.List.listItems
  refine wpAny_bind (wpAny_seqItems hS rfl (wpAny_pure ?_))
  show wpAny _ _ (updateSeq s.heap.objs.size (fun _ => #[]) >>= fun _ => letGo (#[] : Array Value).toList.reverse >>= fun _ => Builtin.List.listExtendWith (.ref s.heap.objs.size) (.ref it) .none) _ _ _
  refine wpAny_bind (wpAny_updateSeq hS rfl ?_)
  have hS₂ := Heap.get?_update_self (Obj.mapSeq (fun _ => (#[] : Array Value))) hS rfl
  have oth : ∀ b o, b ≠ s.heap.objs.size → s.heap.get? b = some o → ((s.heap.push { cls := .type "list", data := .seq #[] }).update s.heap.objs.size (Obj.mapSeq (fun _ => (#[] : Array Value)))).get? b = some o :=
    fun b o hb e => (Heap.get?_update_other _ _ (Ne.symm hb)).trans (Heap.get?_push_of_some _ e)
  refine wpAny_bind (wpAny_letGo ?_)
  refine extend_rev (l := l) .none hh (hit.at fun o e => oth it o (Ne.symm hSi) e) ?_ hne hn hS₂ hSi hSl fun h' tk acc' c' hk hS' hacc => ?_
  · obtain ⟨o, e, x⟩ := hl
    exact ⟨o, oth l o (Ne.symm hSl) e, x⟩
  · exact ⟨rfl, hQ h' tk acc' c' (fun b o hb e => hk b o (Nat.ne_of_lt (Heap.lt_size e)) hb (oth b o (Nat.ne_of_lt (Heap.lt_size e)) e)) hS' hacc⟩
end
end VL
namespace L2
open PySem PySem.Spec PyProof.Rows PySem.Calls PySem.W
/-- an object that stands already is tracked from now on -/
theorem Inv.track {X : Cx} {pins : List (Addr × Obj)} {σ : St} {H : Hp} {s : Shared} {a : Addr} {o : HO} (I : Inv X pins σ H s) (hs : X.s_0.heap.objs.size ≤ a) (f : FpOk X pins H a) (new : ObjOk X.prog X.w (upd H a o) s.heap a o) : Inv X pins σ (upd H a o) s := by
  obtain ⟨f0, f1, f2, _, f4, f5⟩ := f
  refine ⟨I.ok, I.os, I.bare, ⟨I.base.keep, I.base.slot, fun b u e n x => ?_, I.base.there, fun b xs e => ?_, fun b u v e => ?_, fun b ps e => ?_⟩, I.loc, I.cell, ?_, fun x c e => ?_, fun p hp => ?_, fun b u e => ?_, I.len⟩
  · rw [upd_ne (Nat.ne_of_lt (Nat.lt_of_lt_of_le (Heap.lt_size e) hs))]
    exact I.base.free b u e n x
  · have q := I.base.tups b xs e
    rw [upd_ne (ne_of_none q f0)]
    exact q
  · have q := I.base.frzs b u v e
    rw [upd_ne (ne_of_none q f0)]
    exact q
  · obtain ⟨m, q⟩ := I.base.tbls b ps e
    exact ⟨m, by rw [upd_ne (ne_of_none q f0)]; exact q⟩
  · rw [upd_ne (Ne.symm f1)]
    exact I.free
  · rw [upd_ne (f4 x c e)]
    exact I.freeC x c e
  · obtain ⟨p1, p2, p3, p4, p5⟩ := I.pin p hp
    exact ⟨p1, by rw [upd_ne (f5 p hp)]; exact p2, p3, p4, p5⟩
  · by_cases hb : b = a
    · subst hb
      rw [upd_same] at e
      cases e
      exact new
    · rw [upd_ne hb] at e
      exact (I.hok b u e).stay (fun _ _ _ q => q) (fun c q => by rw [upd_ne (ne_of_none q f0)]; exact q) fun c xs q => by rw [upd_ne (ne_of_none q f0)]; exact q
section
variable {X : Cx} {tg e a b c : Expr} {es : List Expr} {pos p : Pos} 
/-- list(reversed(x)), x a list -/
theorem pe_listRev {te : TE} {p p2 pos pos2 : Pos} (hc : X.calm = true) (hg : Gl X "list") (hm : X.mg "list" = none) (hg2 : Gl X "reversed") (hm2 : X.mg "reversed" = none) (he : PE X e te)
    (hs : starEach [e] X.env = (false, eval e X.env) :: starEach [] X.env := by rfl)
    (hs2 : starEach [.Call (.Name "reversed" p2) [e] [] pos2] X.env = (false, eval (.Call (.Name "reversed" p2) [e] [] pos2) X.env) :: starEach [] X.env := by rfl) :
    PE X (.Call (.Name "list" p) [.Call (.Name "reversed" p2) [e] [] pos2] [] pos) (fun σ H Q => te σ H fun v H1 => ∃ (a : Addr) (xs : List V), v = .ref a ∧ SqL X.K H1 a xs ∧ ∀ q, H1 q = none → Q (.ref q) (upd H1 q (.lst xs.reverse))) := by
  refine ⟨fun pins s σ H Q I h => ?_⟩
  refine Call_ (ld_blt I hg hm (show bootBuiltins ("list" : Str) = some (.type "list") by decide +kernel) (PyProof.Rows.callWith_type1 (args_cons (Call_ (ld_blt I hg2 hm2 PyProof.Rows.boot_reversed (PyProof.Rows.callWith_type1 (args_cons (thn (he.run pins s σ H _ I h) fun u s1 ⟨v, H1, I1, r1, q1⟩ => args_nil ?_) hs) hs rfl))) hs2) hs2 rfl))
  obtain ⟨a, xs, ev, hq, q⟩ := q1
  subst ev
  obtain rfl : u = Value.ref a := r1
  obtain ⟨its, rv, p', hz⟩ := I1.list hq
  refine call_reversed_list p'.isList (args_nil ?_)
  have k0 : ∀ b o, s1.heap.get? b = some o → (s1.heap.push (revObj a ((its.toArray.size : Int) - 1))).get? b = some o := fun b o e => Heap.get?_push_of_some _ e
  have I2 : Inv X pins σ H1 { s1 with heap := s1.heap.push (revObj a ((its.toArray.size : Int) - 1)) } := I1.kept (t' := s1.toks) k0
  obtain ⟨f0, f1, f2, f3, f4, f5⟩ := I1.fpOk (H' := H1) (b := s1.heap.objs.size) (Nat.le_refl _) (I1.hok.fresh (Nat.le_refl _))
  have hl := p'.isList
  obtain ⟨ol, hol, _⟩ := id hl
  have hne : a ≠ s1.heap.objs.size := Nat.ne_of_lt (Heap.lt_size hol)
  have hn : its.toArray.size ≤ sizeLine := by rw [List.size_toArray, ← rv.length]; exact hz
  refine VL.call_list_rev (s := { s1 with heap := s1.heap.push (revObj a ((its.toArray.size : Int) - 1)) }) (I1.ok.hd hc) ⟨_, Heap.get?_push_size _ rfl, rfl, rfl⟩ (hl.push _) hne hn fun h' tk acc c' hk hS hi => ?_
  have I3 : Inv X pins σ H1 { s1 with heap := h', toks := tk } := I2.turned (t' := tk) (fun b o hb e => hk b o hb e) f0 f1 f3 f4 f5
  have hsz : (s1.heap.push (revObj a ((its.toArray.size : Int) - 1))).objs.size = s1.heap.objs.size + 1 := by simp [Heap.push]
  have hfr : H1 (s1.heap.push (revObj a ((its.toArray.size : Int) - 1))).objs.size = none := I2.hok.fresh (Nat.le_refl _)
  have hfp : FpOk X pins H1 (s1.heap.push (revObj a ((its.toArray.size : Int) - 1))).objs.size := I2.fpOk (Nat.le_refl _) hfr
  refine ⟨.ref _, upd H1 (s1.heap.push (revObj a ((its.toArray.size : Int) - 1))).objs.size (.lst xs.reverse), I3.track ?_ hfp ⟨by rw [List.length_reverse]; exact hz, acc.toList, c', RT.vals_rev rv hi, ?_⟩, rfl, q _ hfr⟩
  · exact Nat.le_trans I2.sz (Nat.le_refl _)
  · rw [Array.toArray_toList]
    exact hS
end
end L2
set_option Elab.async false
set_option linter.all false
set_option maxRecDepth 100000
namespace VE
noncomputable section
open PySem PySem.Spec L2 Evl
section
variable {X : Cx} {tg e a b c : Expr} {es : List Expr} {pos p : Pos} {m ma mb mc : M} {mt : MT} {ms mi : MA}
/-! ### fresh lists -/
def mListRev (m : M) : MA := fun n => (m n).bind fun d => match d with
  | .list xs => some xs.reverse
  | _ => none
theorem pf_listrev {p p2 pos pos2 : Pos} (hm : X.mg "list" = none) (hm2 : X.mg "reversed" = none) (he : PV X e m) (hc : X.calm = true := by rfl) (hg : Gl X "list" := by rfl) (hg2 : Gl X "reversed" := by rfl)
    (hs : starEach [e] X.env = (false, eval e X.env) :: starEach [] X.env := by rfl)
    (hs2 : starEach [.Call (.Name "reversed" p2) [e] [] pos2] X.env = (false, eval (.Call (.Name "reversed" p2) [e] [] pos2) X.env) :: starEach [] X.env := by rfl) :
    PF X (.Call (.Name "list" p) [.Call (.Name "reversed" p2) [e] [] pos2] [] pos) (mListRev m) := PE.mono (pe_listRev hc hg hm hg2 hm2 he hs hs2) fun σ H Q h => by
  obtain ⟨G, n, rs, g, r, q, k⟩ := h
  obtain ⟨d, hd, q⟩ := Option.bind_eq_some_iff.mp q
  refine ⟨G, n, d, g, r, hd, fun v H1 G1 g1 d1 => ?_⟩
  cases d with
  | list xs =>
    have q : some xs.reverse = some rs := q
    cases q
    obtain ⟨a, vs, rfl, h1, al⟩ := dp_lst d1
    exact ⟨a, vs, rfl, ex_l g1.s h1, fin_f g1.s (dpa_rev al) fun p ws H2 G2 g2 h0 h1 h2 h3 => k p ws H2 G2 (g1.trans g2) (fresh_back g1.h h0) h1 h2 h3⟩
  | _ => cases q
theorem dpa_ints {K : PySem.W.Frag} {G : Hp} : ∀ (is : List Int), DpAll K G (is.map V.int) (is.map PyData.int)
  | [] => .nil
  | i :: is => .cons (.int i) (dpa_ints is)
theorem rangeD_eq (a b : Int) : rangeD a (b - a).toNat = ((List.range (b - a).toNat).map fun i : Nat => a + (i : Int)).map PyData.int := by
  unfold rangeD
  rw [List.map_map]
  rfl
theorem rgV_eq (a b : Int) : rgV a b = ((List.range (b - a).toNat).map fun i : Nat => a + (i : Int)).map V.int := by
  unfold rgV
  rw [List.map_map]
  rfl
def lrg (a b : Int) : Option (List PyData) := @ite _ (-(2 ^ 62) ≤ a ∧ a < 2 ^ 62 ∧ -(2 ^ 62) ≤ b ∧ b < 2 ^ 62 ∧ (b - a).toNat ≤ 16000000) (Classical.propDecidable _) (some (rangeD a (b - a).toNat)) none
def mLR1 (m : M) : MA := fun n => (m n).bind fun d => (asI d).bind fun i => lrg 0 i
def mLR2 (ma mb : M) : MA := fun n => (ma n).bind fun d => (mb n).bind fun e => (asI d).bind fun i => (asI e).bind fun j => lrg i j
theorem lrg_ok {K : PySem.W.Frag} {a b : Int} {rs : List PyData} {G H : Hp} {Q : VK} (q : lrg a b = some rs) (g : Ex G H) (k : ∀ p vs H' G', Gr G H G' H' → H p = none → G' p = none → H' p = some (.lst vs) → DpAll K G' vs rs → Q (.ref p) H') : RgOk a b ∧ ∀ q, H q = none → Q (.ref q) (upd H q (.lst (rgV a b))) := by
  unfold lrg at q
  split at q
  · rename_i h
    cases q
    obtain ⟨h1, h2, h3, h4, h5⟩ := h
    refine ⟨⟨h1, h2, h3, h4, by omega⟩, ?_⟩
    rw [rgV_eq]
    rw [rangeD_eq] at k
    exact fin_f g (dpa_ints _) k
  · cases q
theorem pf_listrange1 {p pos p2 pos2 : Pos} (hm : X.mg "list" = none) (hm2 : X.mg "range" = none) (ha : PV X a m) (hc : X.calm = true := by rfl) (hg : Gl X "list" := by rfl) (hg2 : Gl X "range" := by rfl)
    (na : starEach [a] X.env = (false, eval a X.env) :: starEach [] X.env := by rfl)
    (ns : starEach [.Call (.Name "range" p2) [a] [] pos2] X.env = (false, eval (.Call (.Name "range" p2) [a] [] pos2) X.env) :: starEach [] X.env := by rfl) :
    PF X (.Call (.Name "list" p) [.Call (.Name "range" p2) [a] [] pos2] [] pos) (mLR1 m) := PE.mono (pe_listRg hc hg hm (prg_1 hg2 hm2 ha na) ns) fun σ H Q h => by
  obtain ⟨G, n, rs, g, r, q, k⟩ := h
  obtain ⟨d, hd, q⟩ := Option.bind_eq_some_iff.mp q
  obtain ⟨i, hi, q⟩ := Option.bind_eq_some_iff.mp q
  cases asI_eq hi
  refine ⟨G, n, _, g, r, hd, fun v H1 G1 g1 d1 => ?_⟩
  cases dp_int d1
  exact ⟨i, rfl, lrg_ok q g1.s fun p ws H2 G2 g2 h0 h1 h2 h3 => k p ws H2 G2 (g1.trans g2) (fresh_back g1.h h0) h1 h2 h3⟩
theorem pf_listrange2 {p pos p2 pos2 : Pos} (hm : X.mg "list" = none) (hm2 : X.mg "range" = none) (ha : PV X a ma) (hb : PV X b mb) (hc : X.calm = true := by rfl) (hg : Gl X "list" := by rfl) (hg2 : Gl X "range" := by rfl)
    (na : starEach [a, b] X.env = (false, eval a X.env) :: starEach [b] X.env := by rfl) (nb : starEach [b] X.env = (false, eval b X.env) :: starEach [] X.env := by rfl) (hp : (backTo pos2 (starEach [b] X.env)).any (·.1) = false := by rfl)
    (ns : starEach [.Call (.Name "range" p2) [a, b] [] pos2] X.env = (false, eval (.Call (.Name "range" p2) [a, b] [] pos2) X.env) :: starEach [] X.env := by rfl) :
    PF X (.Call (.Name "list" p) [.Call (.Name "range" p2) [a, b] [] pos2] [] pos) (mLR2 ma mb) := PE.mono (pe_listRg hc hg hm (prg_2 hg2 hm2 ha hb na nb hp) ns) fun σ H Q h => by
  obtain ⟨G, n, rs, g, r, q, k⟩ := h
  obtain ⟨d, hd, q⟩ := Option.bind_eq_some_iff.mp q
  obtain ⟨d', hd', q⟩ := Option.bind_eq_some_iff.mp q
  obtain ⟨i, hi, q⟩ := Option.bind_eq_some_iff.mp q
  obtain ⟨j, hj, q⟩ := Option.bind_eq_some_iff.mp q
  cases asI_eq hi
  cases asI_eq hj
  refine ⟨G, n, _, g, r, hd, fun v H1 G1 g1 d1 => ?_⟩
  refine ⟨G1, n, _, g1.s, r.mono g1.g, hd', fun w H2 G2 g2 d2 => ?_⟩
  cases dp_int d1
  cases dp_int d2
  exact ⟨i, j, rfl, rfl, lrg_ok q g2.s fun p ws H3 G3 g3 h0 h1 h2 h3 => k p ws H3 G3 ((g1.trans g2).trans g3) (fresh_back (g1.trans g2).h h0) h1 h2 h3⟩
/-- [..] * n -/
def mRep (ms : MA) (m : M) : MA := fun n => (ms n).bind fun xs => (m n).bind fun d => (asI d).bind fun k => @ite _ (-(2 ^ 63) ≤ k ∧ k < 2 ^ 63 ∧ xs.length * k.toNat ≤ 16000000) (Classical.propDecidable _) (some (repD xs k.toNat)) none
theorem pf_rep (ha : PF X a ms) (hb : PV X b m) : PF X (.BinOp a .Mult b pos) (mRep ms m) := PE.mono (pe_op op_rep ha hb) fun σ H Q h => by
  obtain ⟨G, n, rs, g, r, q, k⟩ := h
  obtain ⟨xs, hx, q⟩ := Option.bind_eq_some_iff.mp q
  obtain ⟨d, hd, q⟩ := Option.bind_eq_some_iff.mp q
  obtain ⟨j, hj, q5⟩ := Option.bind_eq_some_iff.mp q
  cases asI_eq hj
  split at q5
  · rename_i hz
    cases q5
    refine ⟨G, n, xs, g, r, hx, fun l vs H1 G1 g1 h0 hG hH al => ?_⟩
    refine ⟨G1, n, _, g1.s, r.mono g1.g, hd, fun w H2 G2 g2 d2 => ?_⟩
    cases dp_int d2
    have : sizeLine = 16777216 := sizeLine_eq
    refine ⟨l, j, vs, rfl, rfl, g2.h l _ hH, hz.1, hz.2.1, by rw [dpa_len al]; omega, fin_f g2.s (dpa_rep (dpa_ex g2.g al) _) fun p ws H3 G3 g3 h0 h1 h2 h3 => k p ws H3 G3 ((g1.trans g2).trans g3) (fresh_back (g1.trans g2).h h0) h1 h2 h3⟩
  · cases q5
/-- xs + ys -/
def mCatF (ma mb : M) : MA := fun n => (ma n).bind fun x => (mb n).bind fun y => match x, y with
  | .list xs, .list ys => @ite _ (xs.length + ys.length ≤ sizeLine) (Classical.propDecidable _) (some (xs ++ ys)) none
  | _, _ => none
theorem pf_cat (ha : PV X a ma) (hb : PV X b mb) : PF X (.BinOp a .Add b pos) (mCatF ma mb) := PE.mono (pe_op op_catS ha hb) fun σ H Q h => by
  obtain ⟨G, n, rs, g, r, q, k⟩ := h
  obtain ⟨x, hx, q⟩ := Option.bind_eq_some_iff.mp q
  obtain ⟨y, hy, q⟩ := Option.bind_eq_some_iff.mp q
  refine ⟨G, n, x, g, r, hx, fun v H1 G1 g1 d1 => ?_⟩
  refine ⟨G1, n, y, g1.s, r.mono g1.g, hy, fun w H2 G2 g2 d2 => ?_⟩
  split at q
  · split at q
    · rename_i hz
      cases q
      obtain ⟨l, vs, rfl, h1, al⟩ := dp_lst d1
      obtain ⟨l', vs', rfl, h1', al'⟩ := dp_lst d2
      exact ⟨l, l', vs, vs', rfl, rfl, ex_l (g2.g.trans g2.s) h1, ex_l g2.s h1', by rw [dpa_len al, dpa_len al']; exact hz, fin_f g2.s (dpa_app (dpa_ex g2.g al) al') fun p ws H3 G3 g3 h0 h1 h2 h3 => k p ws H3 G3 ((g1.trans g2).trans g3) (fresh_back (g1.trans g2).h h0) h1 h2 h3⟩
    · cases q
  · cases q
/-- xs[lo:hi] -/
def mSlF (m : M) (ml mh : MO) : MA := fun n => (m n).bind fun x => (ml n).bind fun l => (mh n).bind fun h => match x with
  | .list xs => some (cutD xs l h)
  | _ => none
theorem pf_slice {lo hi : Option Expr} {ml mh : MO} {p2 : Pos} (ha : PV X a m) (hl : POV X lo ml) (hh : POV X hi mh) : PF X (.Subscript a (.Slice lo hi none p2) pos) (mSlF m ml mh) := PE.mono (pe_slice sl_list ha hl hh) fun σ H Q h => by
  obtain ⟨G, n, rs, g, r, q, k⟩ := h
  obtain ⟨x, hx, q⟩ := Option.bind_eq_some_iff.mp q
  obtain ⟨l, hl, q⟩ := Option.bind_eq_some_iff.mp q
  obtain ⟨u, hu, q⟩ := Option.bind_eq_some_iff.mp q
  refine ⟨G, n, x, g, r, hx, fun v H1 G1 g1 d1 => ?_⟩
  refine ⟨G1, n, l, g1.s, r.mono g1.g, hl, fun H2 G2 g2 => ?_⟩
  refine ⟨G2, n, u, g2.s, r.mono (g1.trans g2).g, hu, fun H3 G3 g3 => ?_⟩
  split at q
  · cases q
    obtain ⟨p, vs, rfl, h1, a1⟩ := dp_lst (dp_ex (g2.trans g3).g d1)
    exact ⟨p, vs, rfl, ex_l g3.s h1, fin_f g3.s (dpa_cut a1) fun p ws H4 G4 g4 h0 h1 h2 h3 => k p ws H4 G4 (((g1.trans g2).trans g3).trans g4) (fresh_back ((g1.trans g2).trans g3).h h0) h1 h2 h3⟩
  · cases q
/-! ### x[i] = e -/
def mPut (ws : List Nat) (i : Nat) (m mb : M) : MS := fun n => (m (hide ws n)).bind fun d => (mb (hide ws n)).bind fun k => (asI k).bind fun k => (getO n i).bind fun xs => (ixN xs.length k).bind fun j =>
  if scalD d = true then some (.nx (n.set i (.o (xs.set j d)))) else if ws.contains i = false then some (.nx ((frz ws n).set i (.o (xs.set j d)))) else none
theorem psv_put (ws : List Nat) (i : Nat) {x : Str} {p1 p2 : Pos} (he : PV X e m) (hb : PV X b mb) (hN : X.N[i]? = some x := by rfl) (hv : Vis X.env.scope x := by first | exact Or.inl rfl | exact Or.inr (Or.inl rfl) | exact Or.inr (Or.inr rfl)) (hd : (x == ("__debug__" : Str)) = false := by decide)
    (hcd : (x == ("__classdict__" : Str)) = false := by decide)
    (hs : swapsWithSole [.Subscript (.Name x p1) b p2] e pos.line X.env = pure false := by rfl) (hw : swappedStores [.Subscript (.Name x p1) b p2] e X.env = pure none := by rfl)
    (h1 : (assignEach [.Subscript (.Name x p1) b p2] X.env).map (·.2) = [assign (.Subscript (.Name x p1) b p2) X.env] := by rfl)
    (hst : ∀ v, assign (.Subscript (.Name x p1) b p2) X.env v = (do
      let ov ← holding [v] (eval (.Name x p1) X.env)
      let iv ← holding [v, ov] (eval b X.env)
      standAt p2
      holding [v, ov, iv] (setItem ov iv v)
      release [v, ov, iv] []) := by intro _; rfl) :
    PSV X (.Assign [.Subscript (.Name x p1) b p2] e pos) (mPut ws i m mb) := PS.mono (ps_asg he (pg_sub (pe_var hN hv hd hcd) hb set_list hst) hs hw h1) fun D σ H h => by
  obtain ⟨G0, H0, n, o, ⟨F, g, R⟩, q, k⟩ := h
  obtain ⟨d, hd, q⟩ := Option.bind_eq_some_iff.mp q
  obtain ⟨kd, hk, q⟩ := Option.bind_eq_some_iff.mp q
  obtain ⟨kk, hkk, q3⟩ := Option.bind_eq_some_iff.mp q
  obtain ⟨xs, hx, q4⟩ := Option.bind_eq_some_iff.mp q3
  obtain ⟨j, hj, q5⟩ := Option.bind_eq_some_iff.mp q4
  cases asI_eq hkk
  have hx := getO_eq hx
  obtain ⟨p, vs, e, hF, h0, hH, al⟩ := R.o i xs hx
  refine ⟨withO ws n σ F H, hide ws n, d, withO_s ws g.s, vr_hide ws R, hd, fun v H1 G1 g1 d1 => ?_⟩
  refine ⟨.ref p, e, G1, hide ws n, _, g1.s, (vr_hide ws R).mono g1.g, hk, fun w H2 G2 g2 d2 => ?_⟩
  cases dp_int d2
  have g12 := g1.trans g2
  refine ⟨p, vs, kk, j, rfl, rfl, g12.h p _ hH, by rw [dpa_len al]; exact hj, ?_⟩
  split at q5
  · rename_i hsc
    cases q5
    exact k _ _ ⟨F, gr_mut ⟨g.g, g.s.trans g12.h, g.h.trans g12.h, g.f⟩ hF h0, (R.stay g12.h).mut hx e (dpa_set (dp_scalar d1 hsc) j al)⟩
  · split at q5
    · rename_i hw
      cases q5
      have R1 := R.frz ws g12
      have hG : G2 p = none := g12.f p _ hH (withO_off R hw hx e)
      refine k _ _ ⟨G2, gr_mut ((withO_gr ws g R).trans g12) hG h0, R1.mut (xs := xs) ?_ e (dpa_set (dp_ex g2.g d1) j (dpa_ex ((withO_ex ws R).trans g12.g) al))⟩
      unfold frz
      rw [frzAt_get, hx, Nat.zero_add]
      simp only [Option.map_some, hw, Bool.false_eq_true, if_false]
    · cases q5
/-! ### methods of texts, ints -/
def vBits : PyData → Option PyData
  | .int i => some (.int (Builtin.Int.intBits i : Nat))
  | _ => none
theorem pv_bits {apos pos : Pos} (ho : PV X a m) (hbase : attributeBase a "bit_length" X.env (eval a X.env) = eval a X.env := by rfl) (hline : (apos.endLine == pos.line) = true := by rfl) : PV X (.Call (.Attribute a "bit_length" apos) [] [] pos) (mUn vBits m) := PE.mono (pe_bits ho hbase hline) fun σ H Q h => by
  obtain ⟨G, n, d, g, r, q, k⟩ := h
  obtain ⟨x, hx, q⟩ := Option.bind_eq_some_iff.mp q
  refine ⟨G, n, x, g, r, hx, fun v H1 G1 g1 d1 => ?_⟩
  unfold vBits at q
  split at q
  · cases q
    cases dp_int d1
    exact ⟨_, rfl, k _ H1 G1 g1 (.int _)⟩
  · cases q
def strsD : List PyData → Option (List Str)
  | [] => some []
  | .str x :: r => (strsD r).map (x :: ·)
  | _ => none
theorem strsD_ok {K : PySem.W.Frag} {G : Hp} : ∀ {ds : List PyData} {xs : List Str} {vs : List V}, strsD ds = some xs → DpAll K G vs ds → vs = xs.map V.str
  | [], xs, vs, h, a => by
    cases h
    cases a
    rfl
  | d :: ds, xs, vs, h, a => by
    cases d with
    | str x =>
      obtain ⟨ys, hy, rfl⟩ := Option.map_eq_some_iff.mp (show (strsD ds).map (x :: ·) = some xs from h)
      cases a with
      | cons d1 a1 =>
        cases dp_str d1
        rw [strsD_ok hy a1]
        rfl
    | _ => cases h
def vJoin : PyData → PyData → Option PyData
  | .str z, .list ds => (strsD ds).bind fun ys => if (ys.map (·.length)).sum + ys.length * z.length ≤ 16777216 then some (.str (Txt.join z ys)) else none
  | .str z, .tuple ds => (strsD ds).bind fun ys => if (ys.map (·.length)).sum + ys.length * z.length ≤ 16777216 then some (.str (Txt.join z ys)) else none
  | _, _ => none
theorem pv_join {apos pos : Pos} (ho : PV X a ma) (he : PV X e mb) (hs : starEach [e] X.env = [(false, eval e X.env)] := by rfl) (hbase : attributeBase a "join" X.env (eval a X.env) = eval a X.env := by rfl) (hline : (apos.endLine == pos.line) = true := by rfl) :
    PV X (.Call (.Attribute a "join" apos) [e] [] pos) (mBin vJoin ma mb) := PE.mono (pe_join ho he hs hbase hline) fun σ H Q h => by
  obtain ⟨G, n, d, g, r, q, k⟩ := h
  unfold mBin at q
  obtain ⟨x, hx, q⟩ := Option.bind_eq_some_iff.mp q
  obtain ⟨y, hy, q⟩ := Option.bind_eq_some_iff.mp q
  refine ⟨G, n, x, g, r, hx, fun v H1 G1 g1 d1 => ?_⟩
  unfold vJoin at q
  split at q
  · cases dp_str d1
    obtain ⟨ys, hys, q⟩ := Option.bind_eq_some_iff.mp q
    split at q
    · rename_i hz
      cases q
      refine ⟨⟨_, rfl⟩, G1, n, _, g1.s, r.mono g1.g, hy, fun w H2 G2 g2 d2 => ?_⟩
      obtain ⟨l, vs, rfl, h1, al⟩ := dp_lst d2
      cases strsD_ok hys al
      exact ⟨_, l, ys, rfl, rfl, .inl (ex_l g2.s h1), hz, k _ H2 G2 (g1.trans g2) (.str _)⟩
    · cases q
  · cases dp_str d1
    obtain ⟨ys, hys, q⟩ := Option.bind_eq_some_iff.mp q
    split at q
    · rename_i hz
      cases q
      refine ⟨⟨_, rfl⟩, G1, n, _, g1.s, r.mono g1.g, hy, fun w H2 G2 g2 d2 => ?_⟩
      obtain ⟨l, vs, rfl, h1, al⟩ := dp_tup d2
      cases strsD_ok hys al
      exact ⟨_, l, ys, rfl, rfl, .inr (ex_t g2.s h1), hz, k _ H2 G2 (g1.trans g2) (.str _)⟩
    · cases q
  · cases q
/-! ### sums -/
def intsD : List PyData → Option (List Int)
  | [] => some []
  | .int x :: r => (intsD r).map (x :: ·)
  | _ => none
theorem intsD_ok {K : PySem.W.Frag} {G : Hp} : ∀ {ds : List PyData} {xs : List Int} {vs : List V}, intsD ds = some xs → DpAll K G vs ds → vs = xs.map V.int
  | [], xs, vs, h, a => by
    cases h
    cases a
    rfl
  | d :: ds, xs, vs, h, a => by
    cases d with
    | int x =>
      obtain ⟨ys, hy, rfl⟩ := Option.map_eq_some_iff.mp (show (intsD ds).map (x :: ·) = some xs from h)
      cases a with
      | cons d1 a1 =>
        cases dp_int d1
        rw [intsD_ok hy a1]
        rfl
    | _ => cases h
def vSum : List PyData → Option PyData
  | [.list ds] => (intsD ds).map fun is => .int is.sum
  | _ => none
theorem cd_sum (hc : X.calm = true := by rfl) : CallD X (.builtin "sum") vSum := CallR.mono (cr_sum hc) fun vs H Q h => by
  obtain ⟨G, ds, d, g, al, q, k⟩ := h
  unfold vSum at q
  split at q
  · obtain ⟨is, hi, rfl⟩ := Option.map_eq_some_iff.mp q
    obtain ⟨v, rfl, h1⟩ := dpa1 al
    obtain ⟨p, ws, rfl, h2, a2⟩ := dp_lst h1
    cases intsD_ok hi a2
    exact ⟨p, is, rfl, ex_l g h2, fin_v g (.int _) k⟩
  · cases q
end
end
end VE
set_option Elab.async false
set_option linter.all false
set_option maxRecDepth 100000
namespace VE
noncomputable section
open PySem PySem.Spec L2 Evl
section
variable {P : Program} {w : World} {K : PySem.W.Frag} {mg : Str → Option Value} {base : Heap}
abbrev FnP (K : PySem.W.Frag) (x : Str) (st : Stmt) (f : Addr) (fd : FuncData) : Prop := FunD K x x (defArgs st) (defBody st) (defScope st) [] [] f fd
theorem fn_okD {x : Str} {st : Stmt} {f : Addr} {fd : FuncData} {N ps : List Str} {k : Nat} {body : MS} (F : FnP K x st f fd) (S : FnScope N ps (defScope st))
    (h : ∀ (cdv : Value) (A : Around) (outer : List Env) (s : Shared) (H : Hp) (E : XK), Room k (A.deeper (PyProof.Rows.envOfC x (defScope st) s.heap.objs.size f cdv)) → PSsV (cxOf CX0 P w K mg base N x (defScope st) f cdv A outer s H E).nox (defBody st) body) :
    FnOk P w K mg base CX0 (k + 1) f fd ps (spM K ps.length (runM N body)) :=
  F.ok S (fun vs H Q E h => spM_len h) fun cdv A outer s H vs Q E hr hs => ⟨_, L2.PSs.nox (h cdv A outer s H E hr), body_ok hs⟩
theorem def_okD {x : Str} {st : Stmt} {f : Addr} {fd : FuncData} {N ps : List Str} {k : Nat} {body : MS} (F : FnP K x st f fd) (S : FnScope N ps (defScope st)) (hm : mg x = some (.ref f)) (hb : L2.Binds K fd ps [])
    (h : ∀ (cdv : Value) (A : Around) (outer : List Env) (s : Shared) (H : Hp) (E : XK), Room k (A.deeper (PyProof.Rows.envOfC x (defScope st) s.heap.objs.size f cdv)) → PSsV (cxOf CX0 P w K mg base N x (defScope st) f cdv A outer s H E).nox (defBody st) body) :
    Def P w K mg base x (k + 1) ps.length (runM N body) :=
  ⟨CX0, f, fd, ps, fun _ _ _ => pass0, fn_okD F S h, hm, F.kp, hb⟩
end
section
variable {X : Cx} {pos : Pos} {x : Str}
theorem pv_gint {i : Int} (h : ∃ t, X.mg x = some (.int i t)) (hg : Gl X x := by rfl) (h1 : (x == ("__debug__" : Str)) = false := by decide) : PV X (.Name x pos) (mC (.int i)) := by
  obtain ⟨t, e⟩ := h
  exact pv_glob (v := .int i) hg e ⟨t, rfl⟩ (fun _ => .int i) h1
theorem pv_gstr {z : Str} (h : ∃ t, X.mg x = some (.str z t)) (hg : Gl X x := by rfl) (h1 : (x == ("__debug__" : Str)) = false := by decide) : PV X (.Name x pos) (mC (.str z)) := by
  obtain ⟨t, e⟩ := h
  exact pv_glob (v := .str z) hg e ⟨t, rfl⟩ (fun _ => .str z) h1
theorem pv_gtup {ds : List PyData} (h : ∃ a vs, X.mg x = some (.ref a) ∧ ∀ H, SqT X.K H a vs ∧ DpAll X.K H vs ds) (hg : Gl X x := by rfl) (h1 : (x == ("__debug__" : Str)) = false := by decide) : PV X (.Name x pos) (mC (.tuple ds)) := by
  obtain ⟨a, vs, e, k⟩ := h
  exact pv_glob (v := .ref a) hg e rfl (fun H => .tup (k H).1 (k H).2) h1
end
/-! ### x.insert(i, e) -/
section
variable {X : Cx} {e b : Expr} {pos : Pos} {m mb : M}
def insD (xs : List PyData) (i : Int) (d : PyData) : List PyData := xs.take i.toNat ++ [d] ++ xs.drop i.toNat
def mIns (ws : List Nat) (i : Nat) (mb m : M) : MS := fun n => (getO n i).bind fun xs => (mb (hide ws n)).bind fun kd => (m (hide ws n)).bind fun d => (asI kd).bind fun k => @ite _ (xs.length < 16000000 ∧ 0 ≤ k ∧ k < 2 ^ 63 ∧ scalD d = true) (Classical.propDecidable _) (some (.nx (n.set i (.o (insD xs k d))))) none
theorem psv_ins (ws : List Nat) (i : Nat) {x : Str} {p1 p2 p3 : Pos} (hb : PV X b mb) (he : PV X e m) (hN : X.N[i]? = some x := by rfl) (hv : Vis X.env.scope x := by first | exact Or.inl rfl | exact Or.inr (Or.inl rfl) | exact Or.inr (Or.inr rfl)) (hd : (x == ("__debug__" : Str)) = false := by decide)
    (hcd : (x == ("__classdict__" : Str)) = false := by decide) (hst : starEach [b, e] X.env = (false, eval b X.env) :: starEach [e] X.env := by rfl) (hst2 : starEach [e] X.env = (false, eval e X.env) :: starEach [] X.env := by rfl) (hpl : (backTo p3 (starEach [e] X.env)).any (·.1) = false := by rfl)
    (hbase : attributeBase (.Name x p1) "insert" X.env (eval (.Name x p1) X.env) = eval (.Name x p1) X.env := by rfl)
    (hfew : ((backTo p3 (starEach [b, e] X.env)).all (fun x => !x.1) && (backToKw p3 (keywordEach [] X.env)).all (fun x => x.1.isSome)
      && decide ([b, e].length + ([] : List Keyword).length + (if ([] : List Keyword).isEmpty then 0 else 1) < 30)) = true := by rfl)
    (hs : swapsWith (.Call (.Attribute (.Name x p1) "insert" p2) [b, e] [] p3) none pos.line X.env = pure false := by rfl) (hline : (p2.endLine == p3.line) = true := by rfl) :
    PSV X (.Expr (.Call (.Attribute (.Name x p1) "insert" p2) [b, e] [] p3) pos) (mIns ws i mb m) := PS.mono (ps_expr (pe_bm PySem.F.plainAttrs_list PySem.F.slot_list_insert PySem.F.type_list_insert mt_insert (pe_var hN hv hd hcd) (pa_cons hb (pa_cons he pa_nil hst2) hst) hbase hfew hline hst hpl) hs) fun D σ H h => by
  obtain ⟨G0, H0, n, o, ⟨F, g, R⟩, q, k⟩ := h
  obtain ⟨xs, hx, q⟩ := Option.bind_eq_some_iff.mp q
  obtain ⟨kd, hk, q⟩ := Option.bind_eq_some_iff.mp q
  obtain ⟨d, hd, q⟩ := Option.bind_eq_some_iff.mp q
  obtain ⟨kk, hkk, q5⟩ := Option.bind_eq_some_iff.mp q
  cases asI_eq hkk
  have hx := getO_eq hx
  obtain ⟨p, vs, e, hF, h0, hH, a⟩ := R.o i xs hx
  split at q5
  · rename_i hz
    obtain ⟨hz, hk0, hk1, hsc⟩ := hz
    cases q5
    refine ⟨.ref p, e, .inl ⟨rfl, vs, SqL.of hH⟩, withO ws n σ F H, hide ws n, _, withO_s ws g.s, vr_hide ws R, hk, fun v H1 G1 g1 d1 => ?_⟩
    refine ⟨G1, hide ws n, d, g1.s, (vr_hide ws R).mono g1.g, hd, fun w H2 G2 g2 d2 => ?_⟩
    cases dp_int d1
    have hz' : vs.length < sizeLine := by
      have : sizeLine = 16777216 := sizeLine_eq
      rw [dpa_len a]
      omega
    have g12 := g1.h.trans g2.h
    refine ⟨p, vs, kk, w, rfl, rfl, g12 p _ hH, hz', hk0, hk1, ?_⟩
    refine k _ _ ⟨F, gr_mut ⟨g.g, g.s.trans g12, g.h.trans g12, g.f⟩ hF h0, (R.stay g12).mut hx e ?_⟩
    exact dpa_app (dpa_app (dpa_take _ a) (.cons (dp_scalar d2 hsc) .nil)) (dpa_drop _ a)
  · cases q5
end
end
end VE
set_option Elab.async false
set_option linter.all false
set_option maxRecDepth 100000
set_option maxHeartbeats 2000000
namespace VL
open PySem PySem.Spec PySem.SeqAt PyProof.Rows PySem.Calls PySem.W
/-- enumerate(v), whatever v is -/
theorem meets_enumB {v : Value} {o : Obj} {Hd : Heap → Prop} (B : Begins v o Hd) :
    Meets (Builtin.«enumerate.__new__» ⟨[.type "enumerate", v], []⟩) (fun _ R s => Hd s.heap ∧
      R (.ok (.ret (.ref (s.heap.push o).objs.size))) { s with heap := (s.heap.push o).push { cls := .type "enumerate", data := .fields #[.none, .bool false, .ref s.heap.objs.size, rawInt 0, .none, .none] } }) :=
  .of_wp fun prog w A R s h => by
    obtain ⟨hp, g, d, tk, os⟩ := s
    obtain ⟨h1, h⟩ := h
    have hsub := sub_enumerate
    have q1 : ∀ {A' : Around} {E : Value → Shared → Prop} {Q : Value → Shared → Prop}, Q (.ref hp.objs.size) ⟨(hp.push o), g, d, tk, os⟩ → wpAny (model prog w) A' (pyIter v) Q E ⟨hp, g, d, tk, os⟩ :=
      fun q => B.iter prog w _ _ ⟨hp, g, d, tk, os⟩ _ h1 q
    wp_walk
    refine wpAny_stack_any fun st => wpAny_pure ?_
    split
    · rename_i c _ _ _ _ _
      cases (c == Value.type "enumerate")
      · wp_walk using q1
        exact ⟨_, rfl, h⟩
      · wp_walk using q1
        exact ⟨_, rfl, h⟩
    · wp_walk using q1
      exact ⟨_, rfl, h⟩
end VL
namespace VL
open PySem PySem.Spec PySem.SeqAt PyProof.Rows PySem.Calls PySem.W
section
variable {prog : Program} {w : World} {A : Around} {E : Value → Shared → Prop} {s : Shared}
theorem call_enumT {l : Addr} {items : Array Value} {Q : Value → Shared → Prop} (hT : s.heap.IsTuple l items)
    (h : ∀ hp, IsEnum hp (s.heap.objs.size + 1) s.heap.objs.size 0 .none → hp.IsTupleIter s.heap.objs.size l 0 → (∀ b o, s.heap.get? b = some o → hp.get? b = some o) → Q (.ref (s.heap.objs.size + 1)) { s with heap := hp }) :
    wpAny (model prog w) A (call (.type "enumerate") [.ref l]) Q E s := by
  refine callType_new F.called_enumerate (by decide) (F.typeCall_enumerate_1 _) (F.newCall_enumerate_1 _) (fun obj => F.args_object_init_2 obj _) F.entry_enumerate_new (meets_enumB (begins_tuple l items)) ⟨hT, ?_⟩
  generalize ho : ({ cls := .type "tuple_iterator", data := .fields #[.ref l, .int 0 0] } : Obj) = o1
  have z1 : (s.heap.push o1).objs.size = s.heap.objs.size + 1 := Heap.size_push ..
  have g1 : (s.heap.push o1).get? s.heap.objs.size = some o1 := Heap.get?_push_size _ (by rw [← ho]; rfl)
  generalize ho2 : ({ cls := .type "enumerate", data := .fields #[.none, .bool false, .ref s.heap.objs.size, rawInt 0, .none, .none] } : Obj) = o2
  have g2 := Heap.get?_push_size (s.heap.push o1) (o := o2) (by rw [← ho2]; rfl)
  rw [z1] at g2 ⊢
  rw [← ho2] at g2 ⊢
  exact ⟨⟨_, g2, rfl⟩, h _ g2 ⟨o1, Heap.get?_push_of_some _ g1, by rw [← ho], by rw [← ho]; rfl⟩ fun b o x => Heap.get?_push_of_some _ (Heap.get?_push_of_some _ x)⟩
end
end VL
namespace L2
open PySem PySem.Spec PyProof.Rows PySem.Calls PySem.W
/-- the tuple at a, each item in a new pair -/
def IteT (K : PySem.W.Frag) (a : Addr) : It :=
  ⟨fun i H => ∃ (xs : List V) (x : V), SqT K H a xs ∧ xs[i]? = some x, fun i H v F => ∃ T x, v = .ref T ∧ H T = none ∧ F = upd H T (.tup [.int (i : Nat), x]) ∧ ∀ xs, SqT K H a xs → xs[i]? = some x, fun i H => ∃ xs : List V, SqT K H a xs ∧ xs.length ≤ i⟩
theorem turn_enT {P : Program} {w : World} {K : PySem.W.Frag} {elts : List Expr} {kk : Nat} {tpos : Pos} (a e it : Addr) :
    Turn P w K (.Tuple elts kk tpos) (IteT K a) [e, it] e (fun i h => (∃ old, IsEnum h e it ((i : Nat) : Int) old) ∧ h.IsTupleIter it a i ∧ e ≠ it ∧ a ≠ it ∧ e ≠ a) where
  mem := List.mem_cons_self ..
  obj := fun i h st b hb => by
    obtain ⟨⟨old, he⟩, ⟨o, ho, _, hd⟩, _⟩ := st
    simp only [List.mem_cons, List.not_mem_nil, or_false] at hb
    rcases hb with rfl | rfl
    · exact ⟨_, he, fun _ z => nomatch z⟩
    · refine ⟨o, ho, fun v z => ?_⟩
      rw [hd] at z
      cases z
  keep := fun i h h' ⟨⟨old, he⟩, hi, rest⟩ k => ⟨⟨old, k e (List.mem_cons_self ..) _ he⟩, hi.at fun o q => k it (List.mem_cons_of_mem _ (List.mem_cons_self ..)) o q, rest⟩
  item := by
    intro X hP hw hK hc i pins s σ H E I hf st hg
    subst hP hw hK
    obtain ⟨⟨old, he⟩, hit, n1, n2, n3⟩ := st
    obtain ⟨xs, x, hq, hx⟩ := hg
    obtain ⟨its, rv, p, hz⟩ := I.tuple hq
    obtain ⟨u, hu, ru⟩ := rv.get hx
    have le : e < s.heap.objs.size := Heap.lt_size he
    have li : it < s.heap.objs.size := by
      obtain ⟨_, q, _⟩ := id hit
      exact Heap.lt_size q
    have hp : s.heap.IsTuple a its.toArray := p
    have hi : i < its.toArray.size := by
      have := (List.getElem?_eq_some_iff.mp hu).1
      simpa using this
    refine wpAny_pyNext_enum_itemD (Draws.tuple (A := X.A.in1) (I.ok.hd hc) it a n2 its.toArray) he ⟨hit, hp⟩ hi n1 (by simp [n1, n3]) fun y h' tk hy ho hst hT hsz hk => ?_
    have ey : y = u := by
      have : its.toArray[i]? = some u := by simpa using hu
      rw [this] at hy
      cases hy
      rfl
    subst ey
    refine ⟨_, rfl, wpAny_letOwnedTupleGo_enum (s := { s with heap := h', toks := tk + 1 }) ho fun h2 he2 sb => ?_⟩
    have hT2 : h2.get? s.heap.objs.size = some { cls := .type "tuple", data := .seq #[.int i tk, y] } := (sb.2 _ (Nat.ne_of_gt le)).trans hT
    have new : ObjOk X.prog X.w (upd H s.heap.objs.size (.tup [.int (i : Nat), x])) h2 s.heap.objs.size (.tup [.int (i : Nat), x]) :=
      ⟨(by decide : 2 ≤ sizeLine), [.int i tk, y], .cons ⟨_, rfl⟩ (.cons ru .nil), ⟨_, hT2, rfl, _, rfl⟩⟩
    have I1 : Inv X pins σ (upd H s.heap.objs.size (.tup [.int (i : Nat), x])) { s with heap := h2, toks := tk + 1 } :=
      I.turnedNew (ch := [e, it]) (fun b ob hb q => by
        simp only [List.mem_cons, List.not_mem_nil, or_false, not_or] at hb
        exact (sb.2 b hb.1).trans (hk b ob hb.1 hb.2 q)) hf (Nat.le_refl _) new
    refine ⟨.ref s.heap.objs.size, _, I1, rfl, ⟨_, x, rfl, I.hok.fresh (Nat.le_refl _), rfl, fun ys hy => by rw [I.tuple_inj hy hq]; exact hx⟩, ⟨⟨y, ?_⟩, hst.1.at fun o q => (sb.2 it (Ne.symm n1)).trans q, n1, n2, n3⟩, fun b hb => ?_⟩
    · rw [Int.natCast_add]
      exact he2
    · have hb' : b < s.heap.objs.size := by
        simp only [List.mem_cons, List.not_mem_nil, or_false] at hb
        rcases hb with rfl | rfl
        · exact le
        · exact li
      rw [upd_ne (Nat.ne_of_lt hb')]
      exact (hf b hb).1
  done := by
    intro X hP hw hK hc i pins s σ H E I hf st hg
    subst hP hw hK
    obtain ⟨⟨old, he⟩, hit, n1, n2, n3⟩ := st
    obtain ⟨xs, hq, hx⟩ := hg
    obtain ⟨its, rv, p, hz⟩ := I.tuple hq
    obtain ⟨f0, f1, f2, f3, f4, f5⟩ := hf it (List.mem_cons_of_mem _ (List.mem_cons_self ..))
    have hl := rv.length
    have hn : its.toArray[i]? = none := by
      rw [Array.getElem?_eq_none_iff, List.size_toArray]
      omega
    have D2 : Draws X.prog X.w X.A.in1 it [it, a] i (fun _ _ => True) (fun j h => j = i ∧ h.IsTupleIter it a i ∧ h.IsTuple a its.toArray) :=
      { live := fun _ _ st => let ⟨_, ⟨o, ho, _⟩, _⟩ := st; ⟨o, ho⟩
        frame := fun _ _ _ st hk => ⟨st.1, st.2.1.at fun o q => hk it (List.mem_cons_self ..) o q, st.2.2.at fun o q => hk a (List.mem_cons_of_mem _ (List.mem_cons_self ..)) o q⟩
        item := fun j s Q E hj st => absurd st.1 (Nat.ne_of_lt hj)
        done := fun s Q E st hE => wpAny_nextOf_tuple_end (A := X.A.in1) (I.ok.hd hc) st.2.1 st.2.2 hn hE }
    exact wpAny_pyNext_enum_endD D2 he ⟨rfl, hit, p⟩ fun h' eb => ⟨rfl, I.turned (t' := s.toks) (fun b o hb q => eb b o hb q) f0 f1 f3 f4 f5⟩
  self := fun A i s Q E st h => let ⟨⟨_, he⟩, _⟩ := st; wpAny_pyIter_enum he h
end L2
namespace VE
noncomputable section
open PySem PySem.Spec L2 Evl
/-! ### enumerate, zip -/
def enumD (ds : List PyData) : List PyData := ds.mapIdx fun i d => .tuple [.int (i : Int), d]
def zipD : List PyData → List PyData → List PyData
  | d :: ds, e :: es => .tuple [d, e] :: zipD ds es
  | _, _ => []
theorem zipD_get : ∀ {ds es : List PyData} {i : Nat} {r : PyData}, (zipD ds es)[i]? = some r → ∃ d e, ds[i]? = some d ∧ es[i]? = some e ∧ r = .tuple [d, e]
  | [], _, i, r, h => by simp [zipD] at h
  | _ :: _, [], i, r, h => by simp [zipD] at h
  | d :: ds, e :: es, 0, r, h => by
    simp [zipD] at h
    exact ⟨d, e, rfl, rfl, h.symm⟩
  | d :: ds, e :: es, i + 1, r, h => by
    simp only [zipD, List.getElem?_cons_succ] at h ⊢
    exact zipD_get h
theorem zipD_end : ∀ {ds es : List PyData} {i : Nat}, (zipD ds es).length ≤ i → ds.length ≤ i ∨ es.length ≤ i
  | [], _, i, h => .inl (Nat.zero_le _)
  | _ :: _, [], i, h => .inr (Nat.zero_le _)
  | d :: ds, e :: es, 0, h => by simp [zipD] at h
  | d :: ds, e :: es, i + 1, h => by
    simp only [zipD, List.length_cons] at h ⊢
    have := zipD_end (ds := ds) (es := es) (i := i) (by omega)
    omega
theorem gr_pair {K : PySem.W.Frag} {G F H : Hp} {T : Addr} {x y : V} {d e : PyData} (e1 : Ex G F) (e2 : Ex F H) (hT : H T = none) (dx : Dp K F x d) (dy : Dp K F y e) : ∃ F', Gr F H F' (upd H T (.tup [x, y])) ∧ Dp K F' (.ref T) (.tuple [d, e]) := by
  have g : Gr F H (upd F T (.tup [x, y])) (upd H T (.tup [x, y])) := Gr.new e2 hT
  exact ⟨_, g, .tup (SqT.of upd_same) (.cons (dp_ex g.g dx) (.cons (dp_ex g.g dy) .nil))⟩
theorem yld_enum {K : PySem.W.Frag} {G : Hp} {a : Addr} {vs : List V} {ds : List PyData} (h : SqL K G a vs) (al : DpAll K G vs ds) : Yld K (Ite K a) G (enumD ds) := fun i H e => by
  refine ⟨fun d hd => ?_, fun hl => ⟨vs, ex_l e h, by rw [dpa_len al]; simpa [enumD] using hl⟩⟩
  unfold enumD at hd
  rw [List.getElem?_mapIdx] at hd
  obtain ⟨d', hd', rfl⟩ := Option.map_eq_some_iff.mp hd
  obtain ⟨v, hv, dv⟩ := dpa_get al hd'
  refine ⟨⟨vs, v, ex_l e h, hv⟩, fun x H' y F e1 e2 => ?_⟩
  obtain ⟨T, z, rfl, hT, rfl, y⟩ := y
  have q := y vs (ex_l e h)
  rw [hv] at q
  cases q
  exact gr_pair e1 e2 hT (.int _) (dp_ex e1 dv)
theorem yld_enT {K : PySem.W.Frag} {G : Hp} {a : Addr} {vs : List V} {ds : List PyData} (h : SqT K G a vs) (al : DpAll K G vs ds) : Yld K (IteT K a) G (enumD ds) := fun i H e => by
  refine ⟨fun d hd => ?_, fun hl => ⟨vs, ex_t e h, by rw [dpa_len al]; simpa [enumD] using hl⟩⟩
  unfold enumD at hd
  rw [List.getElem?_mapIdx] at hd
  obtain ⟨d', hd', rfl⟩ := Option.map_eq_some_iff.mp hd
  obtain ⟨v, hv, dv⟩ := dpa_get al hd'
  refine ⟨⟨vs, v, ex_t e h, hv⟩, fun x H' y F e1 e2 => ?_⟩
  obtain ⟨T, z, rfl, hT, rfl, y⟩ := y
  have q := y vs (ex_t e h)
  rw [hv] at q
  cases q
  exact gr_pair e1 e2 hT (.int _) (dp_ex e1 dv)
theorem yld_zip {K : PySem.W.Frag} {G : Hp} {a b : Addr} {vs ws : List V} {ds es : List PyData} (h : SqL K G a vs) (h2 : SqL K G b ws) (al : DpAll K G vs ds) (al2 : DpAll K G ws es) : Yld K (Itz K a b) G (zipD ds es) := fun i H e => by
  refine ⟨fun d hd => ?_, fun hl => ⟨vs, ws, ex_l e h, ex_l e h2, by rw [dpa_len al, dpa_len al2]; exact zipD_end hl⟩⟩
  obtain ⟨d1, d2, g1, g2, rfl⟩ := zipD_get hd
  obtain ⟨v, hv, dv⟩ := dpa_get al g1
  obtain ⟨u, hu, du⟩ := dpa_get al2 g2
  refine ⟨⟨vs, ws, v, u, ex_l e h, ex_l e h2, hv, hu⟩, fun x H' y F e1 e2 => ?_⟩
  obtain ⟨T, z, z2, rfl, hT, rfl, y, y2⟩ := y
  have q := y vs (ex_l e h)
  have q2 := y2 ws (ex_l e h2)
  rw [hv] at q
  rw [hu] at q2
  cases q
  cases q2
  exact gr_pair e1 e2 hT (dp_ex e1 dv) (dp_ex e1 du)
theorem yld_zipT {K : PySem.W.Frag} {G : Hp} {a b : Addr} {vs ws : List V} {ds es : List PyData} (h : SqT K G a vs) (h2 : SqT K G b ws) (al : DpAll K G vs ds) (al2 : DpAll K G ws es) : Yld K (RZ.ItzT K a b) G (zipD ds es) := fun i H e => by
  refine ⟨fun d hd => ?_, fun hl => ⟨vs, ws, ex_t e h, ex_t e h2, by rw [dpa_len al, dpa_len al2]; exact zipD_end hl⟩⟩
  obtain ⟨d1, d2, g1, g2, rfl⟩ := zipD_get hd
  obtain ⟨v, hv, dv⟩ := dpa_get al g1
  obtain ⟨u, hu, du⟩ := dpa_get al2 g2
  refine ⟨⟨vs, ws, v, u, ex_t e h, ex_t e h2, hv, hu⟩, fun x H' y F e1 e2 => ?_⟩
  obtain ⟨T, z, z2, rfl, hT, rfl, y, y2⟩ := y
  have q := y vs (ex_t e h)
  have q2 := y2 ws (ex_t e h2)
  rw [hv] at q
  rw [hu] at q2
  cases q
  cases q2
  exact gr_pair e1 e2 hT (dp_ex e1 dv) (dp_ex e1 du)
section
variable {X : Cx} {tg e a b c elt iter : Expr} {es : List Expr} {pos p : Pos} {m ma mb mc me : M} {mt : MT} {ms mi : MA} {ifs : List Expr} {f : Fl}
def mEnum (m : M) : MA := fun n => (m n).bind fun d => match d with
  | .list xs => some (enumD xs)
  | .tuple xs => some (enumD xs)
  | _ => none
def mZip (ma mb : M) : MA := fun n => (ma n).bind fun d => (mb n).bind fun e => match d, e with
  | .list xs, .list ys => some (zipD xs ys)
  | .tuple xs, .tuple ys => some (zipD xs ys)
  | _, _ => none
open PyProof.Rows in
theorem piv_enum {elts : List Expr} {kk : Nat} {tpos p : Pos} (he : PV X e m) (hm : X.mg "enumerate" = none) (hg : Gl X "enumerate" := by rfl) (hs : starEach [e] X.env = (false, eval e X.env) :: starEach [] X.env := by rfl) :
    PIV X (.Tuple elts kk tpos) (.Call (.Name "enumerate" p) [e] [] pos) (mEnum m) := by
  refine ⟨fun pins s σ H R I h => ?_⟩
  obtain ⟨G, n, rs, g, r, q, k⟩ := h
  obtain ⟨d, hd, q⟩ := Option.bind_eq_some_iff.mp q
  refine PyProof.Rows.Call_ (ld_blt I hg hm boot_enumerate (PyProof.Rows.callWith_type1 (args_cons (thn (he.run pins s σ H (fun x H1 => ∃ G1, Gr G H G1 H1 ∧ Dp X.K G1 x d) I ⟨G, n, d, g, r, hd, fun v H1 G1 g1 d1 => ⟨G1, g1, d1⟩⟩) fun v s1 ⟨x, H1, I1, r1, G1, g1, d1⟩ => args_nil ?_) hs) hs rfl))
  have two : ∀ b, b ∈ [s1.heap.objs.size + 1, s1.heap.objs.size] → FpOk X pins H1 b := fun b hb => by
    simp only [List.mem_cons, List.not_mem_nil, or_false] at hb
    have hle : s1.heap.objs.size ≤ b := by omega
    exact I1.fpOk hle (I1.hok.fresh hle)
  cases d with
  | list xs =>
    have q : some (enumD xs) = some rs := q
    cases q
    obtain ⟨a, vs, rfl, h1, al⟩ := dp_lst d1
    cases r1
    obtain ⟨its, rv, p', hz⟩ := I1.list (ex_l g1.s h1)
    refine call_enumerate_list p'.isList fun h' he' hit hsz hk => wpAny_pyIter_enum he' ?_
    exact ⟨s1.heap.objs.size + 1, [s1.heap.objs.size + 1, s1.heap.objs.size], _, _, H1, rfl, I1.kept (t' := s1.toks) hk, turn_enum a (s1.heap.objs.size + 1) s1.heap.objs.size, ⟨⟨.none, he'⟩, hit, Nat.succ_ne_self _⟩, two, k _ H1 G1 g1 (yld_enum h1 al)⟩
  | tuple xs =>
    have q : some (enumD xs) = some rs := q
    cases q
    obtain ⟨a, vs, rfl, h1, al⟩ := dp_tup d1
    cases r1
    obtain ⟨its, rv, p', hz⟩ := I1.tuple (ex_t g1.s h1)
    obtain ⟨o, ho, _⟩ := id p'
    have la := Heap.lt_size ho
    refine VL.call_enumT (items := its.toArray) p' fun h' he' hit hk => wpAny_pyIter_enum he' ?_
    exact ⟨s1.heap.objs.size + 1, [s1.heap.objs.size + 1, s1.heap.objs.size], _, _, H1, rfl, I1.kept (t' := s1.toks) hk, turn_enT a (s1.heap.objs.size + 1) s1.heap.objs.size, ⟨⟨.none, he'⟩, hit, Nat.succ_ne_self _, Nat.ne_of_lt la, Ne.symm (Nat.ne_of_lt (Nat.lt_succ_of_lt la))⟩, two, k _ H1 G1 g1 (yld_enT h1 al)⟩
  | none => cases q
  | bool _ => cases q
  | int _ => cases q
  | str _ => cases q
  | dict _ => cases q
theorem piv_zip {e2 : Expr} {elts : List Expr} {kk : Nat} {tpos p : Pos} (ha : PV X e ma) (hb : PV X e2 mb) (hm : X.mg "zip" = none) (hg : Gl X "zip" := by rfl)
    (hs : starEach [e, e2] X.env = (false, eval e X.env) :: starEach [e2] X.env := by rfl) (hs2 : starEach [e2] X.env = (false, eval e2 X.env) :: starEach [] X.env := by rfl) (hpl : (backTo pos (starEach [e2] X.env)).any (·.1) = false := by rfl) :
    PIV X (.Tuple elts kk tpos) (.Call (.Name "zip" p) [e, e2] [] pos) (mZip ma mb) := PI.mono (RZ.pi_zipA hg hm (pl_cons ha (pl_cons hb pl_nil hs2) hs) hs hpl) fun σ H R h => by
  obtain ⟨G, n, rs, g, r, q, k⟩ := h
  obtain ⟨d, hd, q⟩ := Option.bind_eq_some_iff.mp q
  obtain ⟨d', hd', q⟩ := Option.bind_eq_some_iff.mp q
  have hm2 : mCons ma (mCons mb mNil) n = some [d, d'] := by
    show (ma n).bind _ = _
    rw [hd, Option.bind_some]
    show ((mb n).bind _).bind _ = _
    rw [hd']
    rfl
  refine ⟨G, n, _, g, r, hm2, fun vs H1 G1 g1 al => ?_⟩
  cases al with
  | cons dx al =>
    cases al with
    | cons dy al =>
      cases al
      split at q
      · cases q
        obtain ⟨a, us, rfl, h1, a1⟩ := dp_lst dx
        obtain ⟨b, ws, rfl, h2, a2⟩ := dp_lst dy
        exact ⟨a, b, us, ws, rfl, .inl ⟨ex_l g1.s h1, ex_l g1.s h2, k _ H1 G1 g1 (yld_zip h1 h2 a1 a2)⟩⟩
      · cases q
        obtain ⟨a, us, rfl, h1, a1⟩ := dp_tup dx
        obtain ⟨b, ws, rfl, h2, a2⟩ := dp_tup dy
        exact ⟨a, b, us, ws, rfl, .inr ⟨ex_t g1.s h1, ex_t g1.s h2, k _ H1 G1 g1 (yld_zipT h1 h2 a1 a2)⟩⟩
      · cases q
/-- a comprehension whose target is any -/
theorem pf_lcG {scope : Scope} (own : List (Str × Nat)) (g : TG) (hgd : TGD X.K g f) (hN : X.N.Nodup) (hi : PIV X tg iter mi) (ok : blkC X.N X.env.scope scope own = true)
    (hg : ∀ (s : Shared) (H : Hp) (C : Addr) (cl : List (Str × Addr)) (fp : List Addr), PG (X.blk s H scope (compEnvC scope cl C X.env) fp) tg g) (ht : ∀ (s : Shared) (H : Hp) (C : Addr) (cl : List (Str × Addr)) (fp : List Addr), PTsV (X.blk s H scope (compEnvC scope cl C X.env) fp) ifs mt)
    (he : ∀ (s : Shared) (H : Hp) (C : Addr) (cl : List (Str × Addr)) (fp : List Addr), PV (X.blk s H scope (compEnvC scope cl C X.env) fp) elt me) (hc : X.calm = true := by rfl) (hs : ∀ x, foldedSetIterable iter X.env x = pure x := by intro _; rfl) :
    PF X (.ListComp elt [⟨tg, iter, ifs, 0⟩] scope pos) (mLc (own.map (·.2)) mi f mt me) :=
  PE.mono (pe_lc (own := own) hc hN hi (blkOk_by ok) hg ht he hs) (comp_ok hgd)
theorem psv_lcOG {y : Str} {py spos : Pos} {scope : Scope} (ws : List Nat) (j : Nat) (own : List (Str × Nat)) (g : TG) (hgd : TGD X.K g f) (hN : X.N.Nodup) (hi : PIV X tg iter mi) (ok : blkC X.N X.env.scope scope own = true)
    (hg : ∀ (s : Shared) (H : Hp) (C : Addr) (cl : List (Str × Addr)) (fp : List Addr), PG (X.blk s H scope (compEnvC scope cl C X.env) fp) tg g) (ht : ∀ (s : Shared) (H : Hp) (C : Addr) (cl : List (Str × Addr)) (fp : List Addr), PTsV (X.blk s H scope (compEnvC scope cl C X.env) fp) ifs mt)
    (he : ∀ (s : Shared) (H : Hp) (C : Addr) (cl : List (Str × Addr)) (fp : List Addr), PV (X.blk s H scope (compEnvC scope cl C X.env) fp) elt me)
    (hsw : swapsWith (.ListComp elt [⟨tg, iter, ifs, 0⟩] scope pos) (some (.Name y py)) spos.line X.env = pure true) (hy : X.N[j]? = some y := by rfl) (hyl : X.env.scope.names.lookup y = some .local := by rfl) (hc : X.calm = true := by rfl) (hs : ∀ x, foldedSetIterable iter X.env x = pure x := by intro _; rfl) :
    PSV X (.Assign [.Name y py] (.ListComp elt [⟨tg, iter, ifs, 0⟩] scope pos) spos) (mAsgO ws j (mLc (own.map (·.2)) mi f mt me)) := PS.mono (ps_setLc (own := own) hc hN hy hyl hsw hi (blkOk_by ok) hg ht he hs) fun D σ H h => by
  obtain ⟨G0, H0, n, o, R, q, k⟩ := h
  exact comp_ok hgd σ H _ (asgO_ok R q k)
theorem psv_lcG {y : Str} {py spos : Pos} {scope : Scope} (ws : List Nat) (j : Nat) (own : List (Str × Nat)) (g : TG) (hgd : TGD X.K g f) (hN : X.N.Nodup) (hi : PIV X tg iter mi) (ok : blkC X.N X.env.scope scope own = true)
    (hg : ∀ (s : Shared) (H : Hp) (C : Addr) (cl : List (Str × Addr)) (fp : List Addr), PG (X.blk s H scope (compEnvC scope cl C X.env) fp) tg g) (ht : ∀ (s : Shared) (H : Hp) (C : Addr) (cl : List (Str × Addr)) (fp : List Addr), PTsV (X.blk s H scope (compEnvC scope cl C X.env) fp) ifs mt)
    (he : ∀ (s : Shared) (H : Hp) (C : Addr) (cl : List (Str × Addr)) (fp : List Addr), PV (X.blk s H scope (compEnvC scope cl C X.env) fp) elt me)
    (hsw : swapsWith (.ListComp elt [⟨tg, iter, ifs, 0⟩] scope pos) (some (.Name y py)) spos.line X.env = pure true) (hy : X.N[j]? = some y := by rfl) (hyl : X.env.scope.names.lookup y = some .local := by rfl) (hc : X.calm = true := by rfl) (hs : ∀ x, foldedSetIterable iter X.env x = pure x := by intro _; rfl) :
    PSV X (.Assign [.Name y py] (.ListComp elt [⟨tg, iter, ifs, 0⟩] scope pos) spos) (mAsg ws j (mL (mLc (own.map (·.2)) mi f mt me))) := PS.mono (ps_setLc (own := own) hc hN hy hyl hsw hi (blkOk_by ok) hg ht he hs) fun D σ H h => by
  obtain ⟨G0, H0, n, o, R, q, k⟩ := h
  exact comp_ok hgd σ H _ (t_mL σ H _ (asg_ok R q k))
/-! ### max(xs), min(xs) of a list of ints -/
def vMaxL : List PyData → Option PyData
  | [.list ds] => (intsD ds).bind fun is => is.max?.map .int
  | _ => none
def vMinL : List PyData → Option PyData
  | [.list ds] => (intsD ds).bind fun is => is.min?.map .int
  | _ => none
theorem len_of_max {is : List Int} {m : Int} (h : is.max? = some m) : 0 < is.length := by
  cases is with
  | nil => cases h
  | cons x r => simp
theorem len_of_min {is : List Int} {m : Int} (h : is.min? = some m) : 0 < is.length := by
  cases is with
  | nil => cases h
  | cons x r => simp
theorem cd_maxL (hc : X.calm = true := by rfl) : CallD X (.builtin "max") vMaxL := CallR.mono (cr_max hc) fun vs H Q h => by
  obtain ⟨G, ds, d, g, al, q, k⟩ := h
  unfold vMaxL at q
  split at q
  · obtain ⟨is, hi, q⟩ := Option.bind_eq_some_iff.mp q
    obtain ⟨m, hm, rfl⟩ := Option.map_eq_some_iff.mp q
    obtain ⟨v, rfl, h1⟩ := dpa1 al
    obtain ⟨p, ws, rfl, h2, a2⟩ := dp_lst h1
    cases intsD_ok hi a2
    refine ⟨p, is, rfl, ex_l g h2, len_of_max hm, fun m' h1 h2 => ?_⟩
    obtain ⟨g1, g2⟩ := List.max?_eq_some_iff.mp hm
    have e : m' = m := Int.le_antisymm (g2 _ h1) (h2 _ g1)
    subst e
    exact fin_v g (.int _) k
  · cases q
theorem cd_minL (hc : X.calm = true := by rfl) : CallD X (.builtin "min") vMinL := CallR.mono (cr_min hc) fun vs H Q h => by
  obtain ⟨G, ds, d, g, al, q, k⟩ := h
  unfold vMinL at q
  split at q
  · obtain ⟨is, hi, q⟩ := Option.bind_eq_some_iff.mp q
    obtain ⟨m, hm, rfl⟩ := Option.map_eq_some_iff.mp q
    obtain ⟨v, rfl, h1⟩ := dpa1 al
    obtain ⟨p, ws, rfl, h2, a2⟩ := dp_lst h1
    cases intsD_ok hi a2
    refine ⟨p, is, rfl, ex_l g h2, len_of_min hm, fun m' h1 h2 => ?_⟩
    obtain ⟨g1, g2⟩ := List.min?_eq_some_iff.mp hm
    have e : m' = m := Int.le_antisymm (h2 _ g1) (g2 _ h1)
    subst e
    exact fin_v g (.int _) k
  · cases q
end
end
end VE
set_option Elab.async false
set_option linter.all false
set_option maxRecDepth 100000
set_option maxHeartbeats 2000000
/-! exceptions -/
namespace VE
noncomputable section
open PySem PySem.Spec L2 Evl
/-- an exception: its class, which handlers take it, its fields -/
structure Xd where
  c : Str
  sub : List (Str × Bool)
  fs : List (Str × PyData)
inductive Rs (α : Type)
  | ok (a : α)
  | ex (x : Xd)
/-- what stands behind an exception -/
def XRel (K : PySem.W.Frag) (mg : Str → Option Value) (F : Hp) (x : Xd) (cls : Value) (d : Option Addr) : Prop :=
  (∀ y b, x.sub.lookup y = some b → ∃ C, mg y = some (.ref C) ∧ PySem.W.exmOne K cls (.ref C) = some b) ∧
  ((x.fs = [] ∧ d = none) ∨ ∃ a vs, d = some a ∧ F a = some (.xd vs) ∧ vs.map (·.1) = x.fs.map (·.1) ∧ DpAll K F (vs.map (·.2)) (x.fs.map (·.2)))
theorem XRel.mono {K : PySem.W.Frag} {mg : Str → Option Value} {F F' : Hp} {x : Xd} {cls : Value} {d : Option Addr} (h : XRel K mg F x cls d) (e : Ex F F') : XRel K mg F' x cls d :=
  ⟨h.1, h.2.imp id fun ⟨a, vs, h1, h2, h3, h4⟩ => ⟨a, vs, h1, e a _ h2, h3, dpa_ex e h4⟩⟩
abbrev MX := En → Option (Rs PyData)
abbrev MAX := En → Option (Rs (List PyData))
def tX (K : PySem.W.Frag) (mg : Str → Option Value) (W : WX) (m : MX) : TE := fun σ H Q => ∃ G n r, Ex G H ∧ Vr K G σ n ∧ m n = some r ∧ match r with
  | .ok d => ∀ v H' G', Gr G H G' H' → Dp K G' v d → Q v H'
  | .ex x => ∀ cls d H' G', Gr G H G' H' → XRel K mg G' x cls d → W cls d σ H'
def tXA (K : PySem.W.Frag) (mg : Str → Option Value) (W : WX) (m : MAX) : TA := fun σ H Q => ∃ G n r, Ex G H ∧ Vr K G σ n ∧ m n = some r ∧ match r with
  | .ok ds => ∀ vs H' G', Gr G H G' H' → DpAll K G' vs ds → Q vs H'
  | .ex x => ∀ cls d H' G', Gr G H G' H' → XRel K mg G' x cls d → W cls d σ H'
abbrev PVX (X : Cx) (W : WX) (e : Expr) (m : MX) : Prop := PE X e (tX X.K X.mg W m)
abbrev PLX (X : Cx) (W : WX) (es : List Expr) (m : MAX) : Prop := PA X es (tXA X.K X.mg W m)
/-! ### mirrors -/
def xP (m : M) : MX := fun n => (m n).map .ok
def xPA (m : MA) : MAX := fun n => (m n).map .ok
def xB (g : PyData → PyData → Option PyData) (ma mb : MX) : MX := fun n => (ma n).bind fun r => match r with
  | .ex x => some (.ex x)
  | .ok d => (mb n).bind fun r' => match r' with
    | .ex x => some (.ex x)
    | .ok e => (g d e).map .ok
def xNil : MAX := fun _ => some (.ok [])
def xCons (m : MX) (ms : MAX) : MAX := fun n => (m n).bind fun r => match r with
  | .ex x => some (.ex x)
  | .ok d => (ms n).bind fun r' => match r' with
    | .ex x => some (.ex x)
    | .ok ds => some (.ok (d :: ds))
def xC (g : List PyData → Option PyData) (ms : MAX) : MX := fun n => (ms n).bind fun r => match r with
  | .ex x => some (.ex x)
  | .ok ds => (g ds).map .ok
/-- a def that may raise -/
def xD (N : Nat) (g : List PyData → Option (Rs PyData)) (ms : MAX) : MX := fun n => (ms n).bind fun r => match r with
  | .ex x => some (.ex x)
  | .ok ds => if ds.length = N then g ds else none
section
variable {X : Cx} {e a b c tg : Expr} {es : List Expr} {pos p : Pos} {m ma mb : M} {mx my : MX} {ms : MA} {mxs : MAX} {W : WX}
theorem pvx_of (h : PV X e m) : PVX X W e (xP m) := PE.mono h fun σ H Q h => by
  obtain ⟨G, n, r, e, v, q, k⟩ := h
  obtain ⟨d, hd, rfl⟩ := Option.map_eq_some_iff.mp q
  exact ⟨G, n, d, e, v, hd, k⟩
theorem plx_of (h : PL X es ms) : PLX X W es (xPA ms) := PA.mono h fun σ H Q h => by
  obtain ⟨G, n, r, e, v, q, k⟩ := h
  obtain ⟨d, hd, rfl⟩ := Option.map_eq_some_iff.mp q
  exact ⟨G, n, d, e, v, hd, k⟩
theorem plx_nil : PLX X W [] xNil := PA.mono pa_nil fun σ H Q h => by
  obtain ⟨G, n, r, e, v, q, k⟩ := h
  cases q
  exact k [] H G (Gr.refl e) .nil
theorem plx_cons (ha : PVX X W e mx) (hr : PLX X W es mxs) (hs : starEach (e :: es) X.env = (false, eval e X.env) :: starEach es X.env := by rfl) : PLX X W (e :: es) (xCons mx mxs) := PA.mono (pa_cons ha hr hs) fun σ H Q h => by
  obtain ⟨G, n, r, e, v, q, k⟩ := h
  obtain ⟨r1, h1, q⟩ := Option.bind_eq_some_iff.mp q
  refine ⟨G, n, r1, e, v, h1, ?_⟩
  cases r1 with
  | ex x =>
    cases q
    exact k
  | ok d =>
    intro u H1 G1 g1 d1
    obtain ⟨r2, h2, q⟩ := Option.bind_eq_some_iff.mp q
    refine ⟨G1, n, r2, g1.s, v.mono g1.g, h2, ?_⟩
    cases r2 with
    | ex x =>
      cases q
      exact fun cls d' H2 G2 g2 => k cls d' H2 G2 (g1.trans g2)
    | ok ds =>
      cases q
      exact fun vs H2 G2 g2 d2 => k _ H2 G2 (g1.trans g2) (.cons (dp_ex g2.g d1) d2)
theorem pvx_bin {op : Operator} {g : PyData → PyData → Option PyData} (ho : OpD X (binaryOp op) g) (ha : PVX X W a mx) (hb : PVX X W b my) : PVX X W (.BinOp a op b pos) (xB g mx my) := PE.mono (pe_op ho ha hb) fun σ H Q h => by
  obtain ⟨G, n, r, e, v, q, k⟩ := h
  obtain ⟨r1, h1, q⟩ := Option.bind_eq_some_iff.mp q
  refine ⟨G, n, r1, e, v, h1, ?_⟩
  cases r1 with
  | ex x =>
    cases q
    exact k
  | ok d =>
    intro u H1 G1 g1 d1
    obtain ⟨r2, h2, q⟩ := Option.bind_eq_some_iff.mp q
    refine ⟨G1, n, r2, g1.s, v.mono g1.g, h2, ?_⟩
    cases r2 with
    | ex x =>
      cases q
      exact fun cls d' H2 G2 g2 => k cls d' H2 G2 (g1.trans g2)
    | ok d2 =>
      obtain ⟨z, hz, rfl⟩ := Option.map_eq_some_iff.mp q
      exact fun w H2 G2 g2 d3 => ⟨G2, d, d2, z, g2.s, dp_ex g2.g d1, d3, hz, fun y H3 G3 g3 d4 => k y H3 G3 ((g1.trans g2).trans g3) d4⟩
theorem tx_cb {K : PySem.W.Frag} {mg : Str → Option Value} {g : List PyData → Option PyData} : ∀ σ H Q, tX K mg W (xC g mxs) σ H Q → tCB (rC K g) (tXA K mg W mxs) σ H Q := fun σ H Q h => by
  obtain ⟨G, n, r, e, v, q, k⟩ := h
  obtain ⟨r1, h1, q⟩ := Option.bind_eq_some_iff.mp q
  refine ⟨G, n, r1, e, v, h1, ?_⟩
  cases r1 with
  | ex x =>
    cases q
    exact k
  | ok ds =>
    obtain ⟨z, hz, rfl⟩ := Option.map_eq_some_iff.mp q
    exact fun vs H1 G1 g1 d1 => ⟨G1, ds, z, g1.s, d1, hz, fun y H2 G2 g2 d2 => k y H2 G2 (g1.trans g2) d2⟩
theorem pvx_cb {id : String} {x : Str} {g : List PyData → Option PyData} (hc : CallD X (.builtin id) g) (hm : X.mg x = none) (ha : PLX X W (e :: es) mxs) (hg : Gl X x := by rfl) (hv : bootBuiltins x = some (.builtin id) := by decide +kernel) (hn : x ≠ "__name__" := by decide) (hdb : (x == ("__debug__" : Str)) = false := by decide)
    (he : starEach (e :: es) X.env = (false, eval e X.env) :: starEach es X.env := by rfl) (hpl : (backTo pos (starEach es X.env)).any (·.1) = false := by rfl) : PVX X W (.Call (.Name x p) (e :: es) [] pos) (xC g mxs) := PE.mono (pe_callB hc hg hm hv ha hn hdb he hpl) tx_cb
theorem pvx_cty {T : String} {x : Str} {g : List PyData → Option PyData} (hc : CallD X (.type T) g) (hm : X.mg x = none) (ha : PLX X W (e :: es) mxs) (hg : Gl X x := by rfl) (hv : bootBuiltins x = some (.type T) := by decide +kernel) (hn : x ≠ "__name__" := by decide) (hdb : (x == ("__debug__" : Str)) = false := by decide)
    (he : starEach (e :: es) X.env = (false, eval e X.env) :: starEach es X.env := by rfl) (hpl : (backTo pos (starEach es X.env)).any (·.1) = false := by rfl) : PVX X W (.Call (.Name x p) (e :: es) [] pos) (xC g mxs) := PE.mono (pe_callTy hc hg hm hv ha hn hdb he hpl) tx_cb
end
/-! ### calls -/
def spX (K : PySem.W.Frag) (mg : Str → Option Value) (n : Nat) (m : List PyData → Option (Rs PyData)) : Sp := fun vs H Q E => ∃ G ds r, Ex G H ∧ DpAll K G vs ds ∧ ds.length = n ∧ m ds = some r ∧ match r with
  | .ok d => ∀ v H' G', Gr G H G' H' → Dp K G' v d → Q v H'
  | .ex x => ∀ cls d H' G', Gr G H G' H' → XRel K mg G' x cls d → E cls d H'
theorem spX_len {K : PySem.W.Frag} {mg : Str → Option Value} {n : Nat} {m : List PyData → Option (Rs PyData)} {vs : List V} {H : Hp} {Q : VK} {E : XK} (h : spX K mg n m vs H Q E) : vs.length = n := by
  obtain ⟨G, ds, d, _, a, hl, _⟩ := h
  rw [dpa_len a, hl]
structure DefX (P : Program) (w : World) (K : PySem.W.Frag) (mg : Str → Option Value) (base : Heap) (x : Str) (k n : Nat) (m : List PyData → Option (Rs PyData)) : Prop where
  ex : ∃ (f : Addr) (fd : FuncData) (ps : List Str), FnOk P w K mg base (L2.CX P w) k f fd ps (spX K mg n m) ∧ mg x = some (.ref f) ∧ PySem.W.keepIn K (.ref f) = true ∧ L2.Binds K fd ps []
section
variable {X : Cx} {e a b c tg : Expr} {es : List Expr} {pos p : Pos} {m ma mb : M} {mx my : MX} {ms : MA} {mxs : MAX} {W : WX}
theorem tx_callX {K : PySem.W.Frag} {mg : Str → Option Value} {N : Nat} {g : List PyData → Option (Rs PyData)} : ∀ σ H Q, tX K mg W (xD N g mxs) σ H Q → tCallSD (spX K mg N g) [] (WE W) (tXA K mg W mxs) σ H Q := fun σ H Q h => by
  obtain ⟨G, n, r, e, v, q, k⟩ := h
  obtain ⟨r1, h1, q⟩ := Option.bind_eq_some_iff.mp q
  refine ⟨G, n, r1, e, v, h1, ?_⟩
  cases r1 with
  | ex x =>
    cases q
    exact k
  | ok ds =>
    intro vs H1 G1 g1 d1
    rw [List.append_nil]
    have q : (if ds.length = N then g ds else none) = some r := q
    split at q
    · rename_i hl
      refine ⟨G1, ds, r, g1.s, d1, hl, q, ?_⟩
      cases r with
      | ok d => exact fun y H2 G2 g2 d2 => k y H2 G2 (g1.trans g2) d2
      | ex x => exact fun cls d H2 G2 g2 => k cls d H2 G2 (g1.trans g2)
    · cases q
theorem pvx_callX {x : Str} {j k n : Nat} {g : List PyData → Option (Rs PyData)} (D : DefX X.prog X.w X.K X.mg X.base x k n g) (hr : Room j X.A) (tk : Takes X W) (ha : PLX X W (e :: es) mxs) (hk : k ≤ j := by decide) (hg : Gl X x := by rfl)
    (hdb : (x == ("__debug__" : Str)) = false := by decide) (he : starEach (e :: es) X.env = (false, eval e X.env) :: starEach es X.env := by rfl) (hpl : (backTo pos (starEach es X.env)).any (·.1) = false := by rfl) :
    PVX X W (.Call (.Name x p) (e :: es) [] pos) (xD n g mxs) := by
  obtain ⟨f, fd, ps, F, hm, hkp, hb⟩ := D.ex
  exact PE.mono (pe_callSD F (hr.mono hk) hg hm hkp hb .nil (fun σ => passAt tk σ) ha hdb he hpl) tx_callX
/-- a def that never raises, its arguments may -/
def xDp (N : Nat) (g : List PyData → Option PyData) (ms : MAX) : MX := fun n => (ms n).bind fun r => match r with
  | .ex x => some (.ex x)
  | .ok ds => if ds.length = N then (g ds).map .ok else none
theorem tx_call {K : PySem.W.Frag} {mg : Str → Option Value} {N : Nat} {g : List PyData → Option PyData} : ∀ σ H Q, tX K mg W (xDp N g mxs) σ H Q → tCall (spM K N g) [] E0 (tXA K mg W mxs) σ H Q := fun σ H Q h => by
  obtain ⟨G, n, r, e, v, q, k⟩ := h
  obtain ⟨r1, h1, q⟩ := Option.bind_eq_some_iff.mp q
  refine ⟨G, n, r1, e, v, h1, ?_⟩
  cases r1 with
  | ex x =>
    cases q
    exact k
  | ok ds =>
    intro vs H1 G1 g1 d1
    rw [List.append_nil]
    have q : (if ds.length = N then (g ds).map Rs.ok else none) = some r := q
    split at q
    · rename_i hl
      obtain ⟨z, hz, rfl⟩ := Option.map_eq_some_iff.mp q
      exact ⟨G1, ds, z, g1.s, d1, hl, hz, fun y H2 G2 g2 d2 => k y H2 G2 (g1.trans g2) d2⟩
    · cases q
theorem pvx_call {x : Str} {j k n : Nat} {g : List PyData → Option PyData} (D : Def X.prog X.w X.K X.mg X.base x k n g) (hr : Room j X.A) (ha : PLX X W (e :: es) mxs) (hk : k ≤ j := by decide) (hg : Gl X x := by rfl)
    (hdb : (x == ("__debug__" : Str)) = false := by decide) (he : starEach (e :: es) X.env = (false, eval e X.env) :: starEach es X.env := by rfl) (hpl : (backTo pos (starEach es X.env)).any (·.1) = false := by rfl) :
    PVX X W (.Call (.Name x p) (e :: es) [] pos) (xDp n g mxs) := by
  obtain ⟨CX, f, fd, ps, hp, F, hm, hkp, hb⟩ := D.ex
  exact PE.mono (pe_call F (hr.mono hk) hg hm hkp hb .nil (hp X rfl rfl) ha hdb he hpl) tx_call
end
/-! ### statements -/
inductive OutX
  | o (o : Out)
  | ex (x : Xd) (n : En)
abbrev MSX := En → Option OutX
def PostX (K : PySem.W.Frag) (mg : Str → Option Value) (W : WX) (G0 H0 : Hp) (D : Ends) : OutX → Prop
  | .o o => Post K G0 H0 D o
  | .ex x n => ∀ cls d σ H F, Gr G0 H0 F H → Rows K H0 F H σ n → XRel K mg F x cls d → W cls d σ H
def tMX (K : PySem.W.Frag) (mg : Str → Option Value) (W : WX) (m : MSX) : TS := fun D σ H => ∃ G0 H0 n o, SR K G0 H0 σ H n ∧ m n = some o ∧ PostX K mg W G0 H0 D o
abbrev PSX (X : Cx) (W : WX) (st : Stmt) (m : MSX) : Prop := PS X st (tMX X.K X.mg W m)
abbrev PSsX (X : Cx) (W : WX) (st : List Stmt) (m : MSX) : Prop := PSs X st (tMX X.K X.mg W m)
def xS (m : MS) : MSX := fun n => (m n).map .o
def xSeq (a b : MSX) : MSX := fun n => (a n).bind fun o => match o with
  | .o (.nx n') => b n'
  | o => some o
def xSkip : MSX := fun n => some (.o (.nx n))
def xIf (ws : List Nat) (c : MT) (a b : MSX) : MSX := fun n => (c (hide ws n)).bind fun k => if k = true then a n else b n
section
variable {X : Cx} {e c : Expr} {es : List Expr} {pos p : Pos} {mx : MX} {mt : MT} {mxs : MAX} {W : WX} {st : Stmt} {rest aa bb : List Stmt} {m : MS} {s1 s2 : MSX}
theorem psx_of (h : PSV X st m) : PSX X W st (xS m) := PS.mono h fun D σ H h => by
  obtain ⟨G0, H0, n, o, R, q, k⟩ := h
  obtain ⟨d, hd, rfl⟩ := Option.map_eq_some_iff.mp q
  exact ⟨G0, H0, n, d, R, hd, k⟩
theorem pssx_of {l : List Stmt} (h : PSsV X l m) : PSsX X W l (xS m) := PSs.mono h fun D σ H h => by
  obtain ⟨G0, H0, n, o, R, q, k⟩ := h
  obtain ⟨d, hd, rfl⟩ := Option.map_eq_some_iff.mp q
  exact ⟨G0, H0, n, d, R, hd, k⟩
theorem psx_nil : PSsX X W [] xSkip := PSs.mono pss_nil fun D σ H h => by
  obtain ⟨G0, H0, n, o, R, q, k⟩ := h
  cases q
  exact k σ H R
theorem psx_one (h : PSX X W st s1) : PSsX X W [st] s1 := pss_one h
theorem psx_cons (h1 : PSX X W st s1) (h2 : PSsX X W rest s2) : PSsX X W (st :: rest) (xSeq s1 s2) := PSs.mono (pss_cons h1 h2) fun D σ H h => by
  obtain ⟨G0, H0, n, o, R, q, k⟩ := h
  obtain ⟨o1, h1, q⟩ := Option.bind_eq_some_iff.mp q
  refine ⟨G0, H0, n, o1, R, h1, ?_⟩
  cases o1 with
  | ex x n1 =>
    cases q
    exact k
  | o o1 =>
    cases o1 with
    | nx n1 => exact fun σ1 H1 R1 => ⟨G0, H0, n1, o, R1, q, k⟩
    | rt d => cases q; exact k
    | rl d => cases q; exact k
    | bk d => cases q; exact k
    | ct d => cases q; exact k
theorem psx_if (ws : List Nat) (hc : PB X c mt) (ha : PSsX X W aa s1) (hb : PSsX X W bb s2) : PSX X W (.If c aa bb pos) (xIf ws mt s1 s2) := PS.mono (ps_if hc ha hb) fun D σ H h => by
  obtain ⟨G0, H0, n, o, ⟨F, g, R⟩, q, k⟩ := h
  obtain ⟨x, hx, q⟩ := Option.bind_eq_some_iff.mp q
  refine ⟨withO ws n σ F H, hide ws n, x, withO_s ws g.s, vr_hide ws R, hx, fun H1 G1 g1 => ?_⟩
  have R1 : SR X.K G0 H0 σ H1 n := ⟨F, ⟨g.g, g.s.trans g1.h, g.h.trans g1.h, g.f⟩, R.stay g1.h⟩
  cases x with
  | true => exact iteT ⟨G0, H0, n, o, R1, by simpa using q, k⟩
  | false => exact iteF ⟨G0, H0, n, o, R1, by simpa using q, k⟩
/-- what an expression raises, raised by its statement -/
def xRt (ws : List Nat) (m : MX) : MSX := fun n => (m (hide ws n)).bind fun r => match r with
  | .ok d => some (.o (.rt d))
  | .ex x => some (.ex x (frz ws n))
theorem psx_ret (ws : List Nat) (he : PVX X W e mx) : PSX X W (.Return (some e) pos) (xRt ws mx) := PS.mono (ps_ret he) fun D σ H h => by
  obtain ⟨G0, H0, n, o, ⟨F, g, R⟩, q, k⟩ := h
  obtain ⟨r, hr, q⟩ := Option.bind_eq_some_iff.mp q
  refine ⟨withO ws n σ F H, hide ws n, r, withO_s ws g.s, vr_hide ws R, hr, ?_⟩
  cases r with
  | ok d =>
    cases q
    exact fun v H1 G1 g1 d1 => k v H1 G1 ((withO_gr ws g R).trans g1) d1
  | ex x =>
    cases q
    exact fun cls d H1 G1 g1 x1 => k cls d σ H1 G1 ((withO_gr ws g R).trans g1) (R.frz ws g1) x1
def xAsg (ws : List Nat) (i : Nat) (m : MX) : MSX := fun n => (m (hide ws n)).bind fun r => match r with
  | .ok d => if scalD d = true then some (.o (.nx (n.set i (.v d)))) else some (.o (.nx ((frz ws n).set i (.v d))))
  | .ex x => some (.ex x (frz ws n))
theorem psx_set (ws : List Nat) (i : Nat) {x : Str} {pos' : Pos} (hN : X.N.Nodup) (he : PVX X W e mx) (hi : X.N[i]? = some x := by rfl) (hx : Loc X.env.scope x := by first | exact .inl rfl | exact .inr rfl) (hs : swapsWith e (some (.Name x pos')) pos.line X.env = pure false := by rfl) (hf : X.fn x = true ∨ X.env.scope.names.lookup x = some .local := by first | exact .inl rfl | exact .inr rfl) :
    PSX X W (.Assign [.Name x pos'] e pos) (xAsg ws i mx) := PS.mono (ps_set hN hi hx he hs hf) fun D σ H h => by
  obtain ⟨G0, H0, n, o, ⟨F, g, R⟩, q, k⟩ := h
  obtain ⟨r, hr, q⟩ := Option.bind_eq_some_iff.mp q
  refine ⟨withO ws n σ F H, hide ws n, r, withO_s ws g.s, vr_hide ws R, hr, ?_⟩
  cases r with
  | ok d =>
    intro v H1 G1 g1 d1
    have q : (if scalD d = true then some (OutX.o (.nx (n.set i (.v d)))) else some (.o (.nx ((frz ws n).set i (.v d))))) = some o := q
    split at q
    · rename_i hs
      cases q
      exact k _ _ ⟨F, ⟨g.g, g.s.trans g1.h, g.h.trans g1.h, g.f⟩, (R.stay g1.h).set (dp_scalar d1 hs)⟩
    · cases q
      exact k _ _ ⟨G1, (withO_gr ws g R).trans g1, (R.frz ws g1).set d1⟩
  | ex x =>
    cases q
    exact fun cls d H1 G1 g1 x1 => k cls d σ H1 G1 ((withO_gr ws g R).trans g1) (R.frz ws g1) x1
def xDrop (ws : List Nat) (m : MX) : MSX := fun n => (m (hide ws n)).bind fun r => match r with
  | .ok _ => some (.o (.nx n))
  | .ex x => some (.ex x (frz ws n))
theorem psx_expr (ws : List Nat) (he : PVX X W e mx) (hs : swapsWith e none pos.line X.env = pure false := by rfl) : PSX X W (.Expr e pos) (xDrop ws mx) := PS.mono (ps_expr he hs) fun D σ H h => by
  obtain ⟨G0, H0, n, o, ⟨F, g, R⟩, q, k⟩ := h
  obtain ⟨r, hr, q⟩ := Option.bind_eq_some_iff.mp q
  refine ⟨withO ws n σ F H, hide ws n, r, withO_s ws g.s, vr_hide ws R, hr, ?_⟩
  cases r with
  | ok d =>
    cases q
    exact fun v H1 G1 g1 d1 => k _ _ ⟨F, ⟨g.g, g.s.trans g1.h, g.h.trans g1.h, g.f⟩, R.stay g1.h⟩
  | ex x =>
    cases q
    exact fun cls d H1 G1 g1 x1 => k cls d σ H1 G1 ((withO_gr ws g R).trans g1) (R.frz ws g1) x1
end
end
end VE
/-! ### a def that may raise -/
namespace VE
noncomputable section
open PySem PySem.Spec L2 Evl
abbrev wE (E : XK) : WX := fun cls d _ H => E cls d H
def runX (N : List Str) (body : MSX) (ds : List PyData) : Option (Rs PyData) := (body (ds.map .v ++ List.replicate (N.length - ds.length) .no)).bind fun o => match o with
  | .o (.rt d) => some (.ok d)
  | .o (.rl xs) => some (.ok (.list xs))
  | .o (.nx _) => some (.ok .none)
  | .ex x _ => some (.ex x)
  | _ => none
section
variable {P : Program} {w : World} {K : PySem.W.Frag} {mg : Str → Option Value} {base : Heap}
theorem body_okX {N : List Str} {body : MSX} {vs : List V} {H : Hp} {Q : VK} {E : XK} {n : Nat} (h : spX K mg n (runX N body) vs H Q E) : tMX K mg (wE E) body { nx := fun _ H' => Q .non H', rt := Q } (L2.start N vs) H := by
  obtain ⟨G, ds, d, e, a, hl, q, k⟩ := h
  obtain ⟨o, ho, q⟩ := Option.bind_eq_some_iff.mp q
  refine ⟨G, H, _, o, ⟨G, Gr.refl e, start_rows e a⟩, ho, ?_⟩
  cases o with
  | ex x n' =>
    cases q
    exact fun cls d σ H1 F g _ x1 => k cls d H1 F g x1
  | o o =>
    cases o with
    | rt d' =>
      cases q
      exact fun v H' G' g dd => k v H' G' g dd
    | rl xs =>
      cases q
      intro p ws H1 G1 g1 h0 hp h1 d1
      have g2 : Gr G H (upd G1 p (.lst ws)) H1 :=
        ⟨g1.g.trans (Ex.new hp), fun a o h => by
          by_cases z : a = p
          · subst z
            rw [upd_same] at h
            rw [h1]
            exact h
          · rw [upd_ne z] at h
            exact g1.s a o h, g1.h, fun a o h q => by
          rw [upd_ne (ne_of_none h h0)]
          exact g1.f a o h q⟩
      exact k (.ref p) H1 _ g2 (.lst (SqL.of upd_same) (dpa_ex (Ex.new hp) d1))
    | nx n' =>
      cases q
      rintro σ' H' ⟨F, g, R⟩
      exact k .non H' F g .non
    | bk _ => cases q
    | ct _ => cases q
abbrev cxX (P : Program) (w : World) (K : PySem.W.Frag) (mg : Str → Option Value) (base : Heap) (N : List Str) (x : Str) (sc : Scope) (f : Addr) (cdv : Value) (A : Around) (outer : List Env) (s : Shared) (H : Hp) (E : XK) : Cx := cxOf (L2.CX P w) P w K mg base N x sc f cdv A outer s H E
theorem def_okX {x : Str} {st : Stmt} {f : Addr} {fd : FuncData} {N ps : List Str} {k : Nat} {body : MSX} (F : FnP K x st f fd) (S : FnScope N ps (defScope st)) (hm : mg x = some (.ref f)) (hb : L2.Binds K fd ps [])
    (h : ∀ (cdv : Value) (A : Around) (outer : List Env) (s : Shared) (H : Hp) (E : XK), Room k (A.deeper (PyProof.Rows.envOfC x (defScope st) s.heap.objs.size f cdv)) → Takes (cxX P w K mg base N x (defScope st) f cdv A outer s H E) (wE E) → PSsX (cxX P w K mg base N x (defScope st) f cdv A outer s H E) (wE E) (defBody st) body) :
    DefX P w K mg base x (k + 1) ps.length (runX N body) :=
  ⟨f, fd, ps, F.ok S (fun vs H Q E h => spX_len h) fun cdv A outer s H vs Q E hr hs => ⟨_, h cdv A outer s H E hr (takes_of rfl rfl rfl rfl), body_okX hs⟩, hm, F.kp, hb⟩
end
/-! ### try: .. except X: .. -/
def xTry (y : Str) (b : MSX) (s : MS) : MSX := fun n => (b n).bind fun o => match o with
  | .o o => some (.o o)
  | .ex x n' => match x.sub.lookup y with
    | some true => (s n').map .o
    | some false => some (.ex x n')
    | none => none
section
variable {X : Cx} {e c : Expr} {es : List Expr} {pos p np pos' : Pos} {W Wout : WX} {body suite : List Stmt} {b₀ : Stmt} {mb : MSX} {ms : MS}
theorem psx_try {y : Str} (hy : ∃ C, X.mg y = some (.ref C)) (tk : Takes X Wout)
    (hb : ∀ (W : WX) (pn : List (Addr × Obj)) (xe : Value → Shared → Prop), Takes (X.tr pn xe) W → PSsX (X.tr pn xe) W body mb)
    (hs : ∀ (a : Addr) (pn : List (Addr × Obj)), PSsV (X.suite a pn) (b₀ :: suite) ms)
    (hstk : X.stack = X.env :: X.outer := by rfl) (hf : X.env.frame = some X.env.locals := by rfl) (hgl : Gl X y := by rfl) (hdb : (y == ("__debug__" : Str)) = false := by decide) :
    PSX X Wout (.Try body [.ExceptHandler (some (.Name y np)) none (b₀ :: suite) pos'] [] [] pos) (xTry y mb ms) := by
  obtain ⟨C, hC⟩ := hy
  refine PS.mono (ps_try_only (c := .ref C) (tb := fun W => tMX X.K X.mg W mb) (ts := fun _ _ _ => tMS X.K ms) (Wout := Wout) hstk hf ⟨hgl, hdb, .inl hC⟩ tk (fun W pn xe t _ => hb W pn xe t) (fun a oe cls d pn _ _ => hs a _)) fun D σ H h => ?_
  obtain ⟨G0, H0, n, o, R, q, k⟩ := h
  obtain ⟨o1, h1, q⟩ := Option.bind_eq_some_iff.mp q
  refine ⟨G0, H0, n, o1, R, h1, ?_⟩
  cases o1 with
  | o o1 =>
    cases q
    exact k
  | ex x n' =>
    intro cls d σ1 H1 F g R1 x1
    have q : (match x.sub.lookup y with
      | some true => (ms n').map OutX.o
      | some false => some (.ex x n')
      | none => none) = some o := q
    cases hl : x.sub.lookup y with
    | none =>
      rw [hl] at q
      cases q
    | some b =>
      rw [hl] at q
      obtain ⟨C', hC', hx⟩ := x1.1 y b hl
      rw [hC] at hC'
      cases hC'
      refine ⟨b, hx, fun hb1 a ha => ?_, fun hb1 => ?_⟩
      · subst hb1
        obtain ⟨o2, ho2, rfl⟩ := Option.map_eq_some_iff.mp q
        exact ⟨G0, H0, n', o2, ⟨F, g, R1⟩, ho2, k⟩
      · subst hb1
        cases q
        exact k cls d σ1 H1 F g R1 x1
/-- a try whose exceptions are all taken: nothing leaves -/
def nS (m : MSX) : MS := fun n => (m n).bind fun o => match o with
  | .o o => some o
  | .ex _ _ => none
theorem psv_ofX {st : Stmt} {m : MSX} (h : PSX X (fun _ _ _ _ => False) st m) : PSV X st (nS m) := PS.mono h fun D σ H h => by
  obtain ⟨G0, H0, n, o, R, q, k⟩ := h
  obtain ⟨o1, h1, q⟩ := Option.bind_eq_some_iff.mp q
  refine ⟨G0, H0, n, o1, R, h1, ?_⟩
  cases o1 with
  | o o1 =>
    cases q
    exact k
  | ex x n' => cases q
end
/-! ### raise X(..) -/
/-- __init__ of an exception class: each argument stored, in order -/
def spI (C : Addr) (names : List Str) : Sp := fun vs H Q _ => ∃ a ws, vs = .ref a :: ws ∧ ws.length = names.length ∧ H a = some (exo a C none) ∧ ∀ d, H d = none → d ≠ a → Q .non (upd (upd H d (exd d (names.zip ws).reverse)) a (exo a C (some d)))
structure RCls (P : Program) (w : World) (K : PySem.W.Frag) (mg : Str → Option Value) (base : Heap) (x : Str) (k : Nat) (names : List Str) (sub : List (Str × Bool)) : Prop where
  ex : ∃ (C fI : Addr) (fd : FuncData) (ps : List Str), OexC K C ∧ mg x = some (.ref C) ∧ PySem.W.findIn K (.ref C) "__init__" = some (some (.ref fI)) ∧ PySem.W.typeIn K (.ref fI) = some (.type "function") ∧
    FnOk P w K mg base CX0 k fI fd ps (spI C names) ∧ L2.Binds K fd ps [] ∧ ∀ y b, sub.lookup y = some b → ∃ D, mg y = some (.ref D) ∧ PySem.W.exmOne K (.ref C) (.ref D) = some b
def xRaise (ws : List Nat) (c : Str) (sub : List (Str × Bool)) (names : List Str) (ms : MA) : MSX := fun n => (ms (hide ws n)).bind fun ds => if ds.length = names.length ∧ ds.length ≤ 100 then some (.ex ⟨c, sub, (names.zip ds).reverse⟩ (frz ws n)) else none
theorem zip_fst {α β : Type} : ∀ {as : List α} {bs : List β}, as.length = bs.length → (as.zip bs).map (·.1) = as
  | [], [], _ => rfl
  | [], _ :: _, h => by cases h
  | _ :: _, [], h => by cases h
  | a :: as, b :: bs, h => by
    rw [List.zip_cons_cons, List.map_cons, zip_fst (by simpa using h)]
theorem zip_snd {α β : Type} : ∀ {as : List α} {bs : List β}, as.length = bs.length → (as.zip bs).map (·.2) = bs
  | [], [], _ => rfl
  | [], _ :: _, h => by cases h
  | _ :: _, [], h => by cases h
  | a :: as, b :: bs, h => by
    rw [List.zip_cons_cons, List.map_cons, zip_snd (by simpa using h)]
theorem dpa_reverse {K : PySem.W.Frag} {F : Hp} : ∀ {vs : List V} {ds : List PyData}, DpAll K F vs ds → DpAll K F vs.reverse ds.reverse
  | _, _, .nil => .nil
  | _, _, .cons d h => by
    rw [List.reverse_cons, List.reverse_cons]
    exact dpa_app (dpa_reverse h) (.cons d .nil)
section
variable {X : Cx} {e c : Expr} {es : List Expr} {pos p : Pos} {W : WX} {ms : MA}
theorem psx_raise (ws : List Nat) {x : Str} {j k : Nat} {names : List Str} {sub : List (Str × Bool)} (D : RCls X.prog X.w X.K X.mg X.base x k names sub) (hr : Room j X.A) (tk : Takes X W) (ha : PL X (e :: es) ms) (hk : k + 1 ≤ j := by decide) (hg : Gl X x := by rfl) (hc : X.calm = true := by rfl)
    (hdb : (x == ("__debug__" : Str)) = false := by decide) (he : starEach (e :: es) X.env = (false, eval e X.env) :: starEach es X.env := by rfl) (hpl : (backTo p (starEach es X.env)).any (·.1) = false := by rfl) {p2 : Pos} :
    PSX X W (.Raise (some (.Call (.Name x p2) (e :: es) [] p)) none pos) (xRaise ws x sub names ms) := by
  obtain ⟨C, fI, fd, ps, T, hm, iC, tI, F, hb, hsub⟩ := D.ex
  refine PS.mono (ps_raise hc tk (pmk_oex T iC tI F (hr.mono hk) hb .nil pass0 hg hm ha hdb he hpl)) fun D σ H h => ?_
  obtain ⟨G0, H0, n, o, ⟨F0, g, R⟩, q, k⟩ := h
  obtain ⟨ds, hd, q⟩ := Option.bind_eq_some_iff.mp q
  split at q
  · rename_i hl
    cases q
    refine ⟨withO ws n σ F0 H, hide ws n, ds, withO_s ws g.s, vr_hide ws R, hd, fun vs H1 G1 g1 d1 => ⟨by rw [dpa_len d1]; omega, fun a na => ?_⟩⟩
    refine ⟨a, vs, by rw [List.append_nil], by rw [dpa_len d1]; exact hl.1, upd_same, fun d nd nda => ⟨rfl, d, (names.zip vs).reverse, upd_same, ?_, ?_, ?_⟩⟩
    · rw [upd_ne nda, upd_same]
    · rwa [upd_ne nda] at nd
    · have nd1 : H1 d = none := by rwa [upd_ne nda] at nd
      have eH : upd (del (upd (upd (upd H1 a (exo a C none)) d (exd d (names.zip vs).reverse)) a (exo a C (some d))) a) d (.xd (names.zip vs).reverse) = upd H1 d (.xd (names.zip vs).reverse) := by
        funext b
        by_cases h1 : b = d
        · subst h1
          rw [upd_same, upd_same]
        · rw [upd_ne h1, upd_ne h1]
          by_cases h2 : b = a
          · subst h2
            rw [del_same, na]
          · rw [del_ne h2, upd_ne h2, upd_ne h1, upd_ne h2]
      rw [eH]
      have lv : names.length = vs.length := by rw [dpa_len d1]; exact hl.1.symm
      have g2 : Gr G1 H1 (upd G1 d (.xd (names.zip vs).reverse)) (upd H1 d (.xd (names.zip vs).reverse)) := Gr.new g1.s nd1
      refine k (.ref C) (some d) σ _ (upd G1 d (.xd (names.zip vs).reverse)) (((withO_gr ws g R).trans g1).trans g2) ((R.frz ws g1).grow g2) ⟨hsub, .inr ⟨d, _, rfl, upd_same, ?_, ?_⟩⟩
      · rw [List.map_reverse, List.map_reverse, zip_fst lv, zip_fst hl.1.symm]
      · rw [List.map_reverse, List.map_reverse, zip_snd lv, zip_snd hl.1.symm]
        exact dpa_ex g2.g (dpa_reverse d1)
  · cases q
end
end
end VE
/-! ### __init__ of an exception class -/
namespace VE
noncomputable section
open PySem PySem.Spec L2 Evl
section
variable {P : Program} {w : World} {K : PySem.W.Frag} {mg : Str → Option Value} {base : Heap}
/-- one field -/
theorem init1 {q : Str} {st : Stmt} {f : Addr} {fd : FuncData} {x1 f1 : Str} {C : Addr} {k : Nat} {p1 p2 p3 p4 : Pos} (F : FunD K "__init__" q (defArgs st) (defBody st) (defScope st) [] [] f fd) (S : FnScope ["self", x1] ["self", x1] (defScope st)) (T : OexC K C) (hno : PySem.W.findIn K (.ref C) f1 = some none)
    (hbody : defBody st = [.Assign [.Attribute (.Name "self" p1) f1 p2] (.Name x1 p3) p4]) (hv0 : (defScope st).names.lookup ("self" : Str) = some NameKind.local) (hv1 : (defScope st).names.lookup x1 = some NameKind.local) (h1 : (x1 == ("__debug__" : Str)) = false) (h2 : (x1 == ("__classdict__" : Str)) = false) :
    FnOk P w K mg base CX0 (k + 1) f fd ["self", x1] (spI C [f1]) := by
  refine F.ok S (fun vs H Q E ⟨a, ws, e, hl, _⟩ => by rw [e, List.length_cons, hl]; rfl) fun cdv A outer s H vs Q E hr hs => ?_
  rw [hbody]
  refine ⟨_, L2.PSs.nox (pss_one (ps_ost (pe_var (i := 0) rfl (Or.inl hv0) (by decide) (by decide)) (pe_var (i := 1) rfl (Or.inl hv1) h1 h2))), ?_⟩
  obtain ⟨a, ws, rfl, hl, ea, q⟩ := hs
  match ws, hl with
  | [v], _ =>
    refine ⟨v, rfl, .ref a, rfl, a, C, rfl, T, hno, .inl ⟨ea, fun dx n ne => q dx n ne⟩⟩
/-- two fields -/
theorem init2 {q : Str} {st : Stmt} {f : Addr} {fd : FuncData} {x1 f1 x2 f2 : Str} {C : Addr} {k : Nat} {p1 p2 p3 p4 p5 p6 p7 p8 : Pos} (F : FunD K "__init__" q (defArgs st) (defBody st) (defScope st) [] [] f fd) (S : FnScope ["self", x1, x2] ["self", x1, x2] (defScope st)) (T : OexC K C) (hno : PySem.W.findIn K (.ref C) f1 = some none) (hno2 : PySem.W.findIn K (.ref C) f2 = some none)
    (hbody : defBody st = [.Assign [.Attribute (.Name "self" p1) f1 p2] (.Name x1 p3) p4, .Assign [.Attribute (.Name "self" p5) f2 p6] (.Name x2 p7) p8]) (hv0 : (defScope st).names.lookup ("self" : Str) = some NameKind.local) (hv1 : (defScope st).names.lookup x1 = some NameKind.local) (hv2 : (defScope st).names.lookup x2 = some NameKind.local)
    (h1 : (x1 == ("__debug__" : Str)) = false) (h2 : (x1 == ("__classdict__" : Str)) = false) (h3 : (x2 == ("__debug__" : Str)) = false) (h4 : (x2 == ("__classdict__" : Str)) = false) :
    FnOk P w K mg base CX0 (k + 1) f fd ["self", x1, x2] (spI C [f1, f2]) := by
  refine F.ok S (fun vs H Q E ⟨a, ws, e, hl, _⟩ => by rw [e, List.length_cons, hl]; rfl) fun cdv A outer s H vs Q E hr hs => ?_
  rw [hbody]
  refine ⟨_, L2.PSs.nox (pss_cons (ps_ost (pe_var (i := 0) rfl (Or.inl hv0) (by decide) (by decide)) (pe_var (i := 1) rfl (Or.inl hv1) h1 h2)) (pss_one (ps_ost (pe_var (i := 0) rfl (Or.inl hv0) (by decide) (by decide)) (pe_var (i := 2) rfl (Or.inl hv2) h3 h4)))), ?_⟩
  obtain ⟨a, ws, rfl, hl, ea, q⟩ := hs
  match ws, hl with
  | [v, v2], _ =>
    refine ⟨v, rfl, .ref a, rfl, a, C, rfl, T, hno, .inl ⟨ea, fun dx n ne => ?_⟩⟩
    refine ⟨v2, rfl, .ref a, rfl, a, C, rfl, T, hno2, .inr ⟨dx, [(f1, v)], upd_same, by rw [upd_ne ne, upd_same], Nat.le_of_lt_succ (by show 1 < 901; decide), ?_⟩⟩
    have e : upd (upd (upd H dx (exd dx [(f1, v)])) a (exo a C (some dx))) dx (exd dx [(f2, v2), (f1, v)]) = upd (upd H dx (exd dx [(f2, v2), (f1, v)])) a (exo a C (some dx)) := by
      funext b
      by_cases h1 : b = dx
      · subst h1
        rw [upd_same, upd_ne ne, upd_same]
      · rw [upd_ne h1]
        by_cases h2 : b = a
        · subst h2
          rw [upd_same, upd_same]
        · rw [upd_ne h2, upd_ne h1, upd_ne h2, upd_ne h1]
    rw [e]
    exact q dx n ne
end
end
end VE
set_option Elab.async false
set_option linter.all false
set_option maxRecDepth 100000
set_option maxHeartbeats 2000000
/-! things that change: a store of lists, instances, dicts -/
namespace VE
noncomputable section
open PySem PySem.Spec L2 Evl
inductive Cell
  | d (x : PyData)
  | r (i : Nat)
inductive Ent
  | l (xs : List Cell)
  | o (C : Str) (fs : List (Str × Cell))
  | m (kvs : List (Key × Cell))
abbrev Store := List Ent
abbrev En2 := List (Option Cell)
def RelC (K : PySem.W.Frag) (F : Hp) (ρ : List Addr) (v : V) : Cell → Prop
  | .d x => Dp K F v x
  | .r i => ∃ p, ρ[i]? = some p ∧ v = .ref p
inductive RelCs (K : PySem.W.Frag) (F : Hp) (ρ : List Addr) : List V → List Cell → Prop
  | nil : RelCs K F ρ [] []
  | cons {v c vs cs} : RelC K F ρ v c → RelCs K F ρ vs cs → RelCs K F ρ (v :: vs) (c :: cs)
theorem pre_get {α : Type} {xs ys : List α} {i : Nat} {x : α} (h : xs <+: ys) (g : xs[i]? = some x) : ys[i]? = some x := by
  obtain ⟨t, rfl⟩ := h
  rw [List.getElem?_append_left (List.getElem?_eq_some_iff.mp g).1]
  exact g
section
variable {K : PySem.W.Frag} {mg : Str → Option Value} {F F' G H : Hp} {ρ ρ' : List Addr}
theorem RelC.mono {v : V} {c : Cell} (h : RelC K F ρ v c) (e : Ex F F') (p : ρ <+: ρ') : RelC K F' ρ' v c := by
  cases c with
  | d x => exact dp_ex e h
  | r i =>
    obtain ⟨q, h1, h2⟩ := h
    exact ⟨q, pre_get p h1, h2⟩
theorem RelCs.mono {vs : List V} {cs : List Cell} (h : RelCs K F ρ vs cs) (e : Ex F F') (p : ρ <+: ρ') : RelCs K F' ρ' vs cs := by
  induction h with
  | nil => exact .nil
  | cons a _ ih => exact .cons (a.mono e p) ih
theorem RelCs.len {vs : List V} {cs : List Cell} (h : RelCs K F ρ vs cs) : vs.length = cs.length := by
  induction h with
  | nil => rfl
  | cons _ _ ih => rw [List.length_cons, List.length_cons, ih]
theorem RelCs.get {vs : List V} {cs : List Cell} (h : RelCs K F ρ vs cs) : ∀ {i : Nat} {c : Cell}, cs[i]? = some c → ∃ v, vs[i]? = some v ∧ RelC K F ρ v c := by
  induction h with
  | nil => intro i c h; simp at h
  | cons a _ ih =>
    intro i c h
    cases i with
    | zero => cases h; exact ⟨_, rfl, a⟩
    | succ i => exact ih (by simpa using h)
theorem RelCs.app {vs ws : List V} {cs ds : List Cell} (h : RelCs K F ρ vs cs) (g : RelCs K F ρ ws ds) : RelCs K F ρ (vs ++ ws) (cs ++ ds) := by
  induction h with
  | nil => exact g
  | cons a _ ih => exact .cons a ih
theorem RelCs.drop {vs : List V} {cs : List Cell} (h : RelCs K F ρ vs cs) : ∀ k, RelCs K F ρ (vs.drop k) (cs.drop k) := by
  induction h with
  | nil => intro k; simp; exact .nil
  | cons a b ih =>
    intro k
    cases k with
    | zero => exact .cons a b
    | succ k => exact ih k
theorem RelCs.take {vs : List V} {cs : List Cell} (h : RelCs K F ρ vs cs) : ∀ k, RelCs K F ρ (vs.take k) (cs.take k) := by
  induction h with
  | nil => intro k; simp; exact .nil
  | cons a b ih =>
    intro k
    cases k with
    | zero => exact .nil
    | succ k => exact .cons a (ih k)
theorem RelCs.set {vs : List V} {cs : List Cell} {v : V} {c : Cell} (h : RelCs K F ρ vs cs) (g : RelC K F ρ v c) : ∀ k, RelCs K F ρ (vs.set k v) (cs.set k c) := by
  induction h with
  | nil => intro k; simp; exact .nil
  | cons a b ih =>
    intro k
    cases k with
    | zero => exact .cons g b
    | succ k => exact .cons a (ih k)
def EntR (K : PySem.W.Frag) (mg : Str → Option Value) (F : Hp) (ρ : List Addr) (H : Hp) (p : Addr) : Ent → Prop
  | .l cs => ∃ vs, H p = some (.lst vs) ∧ RelCs K F ρ vs cs
  | .o C fs => ∃ Ca dx vs, mg C = some (.ref Ca) ∧ H p = some (.ins Ca dx vs) ∧ vs.map (·.1) = fs.map (·.1) ∧ RelCs K F ρ (vs.map (·.2)) (fs.map (·.2))
  | .m kvs => ∃ vs, H p = some (.dK vs) ∧ vs.map (·.1) = kvs.map (·.1) ∧ RelCs K F ρ (vs.map (·.2)) (kvs.map (·.2))
theorem EntR.mono {H' : Hp} {p : Addr} {e : Ent} (h : EntR K mg F ρ H p e) (x : Ex F F') (q : ρ <+: ρ') (eq : H' p = H p) : EntR K mg F' ρ' H' p e := by
  cases e with
  | l cs =>
    obtain ⟨vs, h1, h2⟩ := h
    exact ⟨vs, by rw [eq]; exact h1, h2.mono x q⟩
  | o C fs =>
    obtain ⟨Ca, dx, vs, h0, h1, h2, h3⟩ := h
    exact ⟨Ca, dx, vs, h0, by rw [eq]; exact h1, h2, h3.mono x q⟩
  | m kvs =>
    obtain ⟨vs, h1, h2, h3⟩ := h
    exact ⟨vs, by rw [eq]; exact h1, h2, h3.mono x q⟩
theorem EntR.some_ {p : Addr} {e : Ent} (h : EntR K mg F ρ H p e) : ∃ o, H p = some o := by
  cases e with
  | l cs => obtain ⟨vs, h1, _⟩ := h; exact ⟨_, h1⟩
  | o C fs => obtain ⟨Ca, dx, vs, _, h1, _⟩ := h; exact ⟨_, h1⟩
  | m kvs => obtain ⟨vs, h1, _⟩ := h; exact ⟨_, h1⟩
end
/-- where a def began -/
structure Wd where
  G0 : Hp
  H0 : Hp
  ρ0 : List Addr
structure St2 (K : PySem.W.Frag) (mg : Str → Option Value) (w : Wd) (ρ : List Addr) (F H : Hp) (σ : L2.St) (n : En2) (S : Store) : Prop where
  g : Ex w.G0 F
  s : Ex F H
  pre : w.ρ0 <+: ρ
  nod : ρ.Nodup
  own : ∀ p ∈ ρ, F p = none
  out : ∀ p o, w.H0 p = some o → p ∉ w.ρ0 → H p = some o
  new : ∀ p ∈ ρ, p ∈ w.ρ0 ∨ w.H0 p = none
  nof : ∀ p o, w.H0 p = some o → w.G0 p = none → F p = none
  sz : S.length = ρ.length
  ent : ∀ (i : Nat) (p : Addr) (e : Ent), ρ[i]? = some p → S[i]? = some e → EntR K mg F ρ H p e
  len : σ.length = n.length
  sl : ∀ (i : Nat) (c : Cell), n[i]? = some (some c) → ∃ v, σ[i]? = some (some v) ∧ RelC K F ρ v c
section
variable {K : PySem.W.Frag} {mg : Str → Option Value} {w : Wd} {F F' H H' : Hp} {ρ ρ' : List Addr} {σ : L2.St} {n : En2} {S : Store}
theorem St2.at_ (R : St2 K mg w ρ F H σ n S) {p : Addr} (hp : p ∈ ρ) : ∃ (i : Nat) (e : Ent), ρ[i]? = some p ∧ S[i]? = some e ∧ EntR K mg F ρ H p e := by
  obtain ⟨i, hi, rfl⟩ := List.mem_iff_getElem.mp hp
  have h1 : ρ[i]? = some ρ[i] := List.getElem?_eq_getElem hi
  have h2 : S[i]? = some (S[i]'(by rw [R.sz]; exact hi)) := List.getElem?_eq_getElem _
  exact ⟨i, _, h1, h2, R.ent i _ _ h1 h2⟩
/-- frozen things grow -/
theorem St2.grow (R : St2 K mg w ρ F H σ n S) (g : Gr F H F' H') : St2 K mg w ρ F' H' σ n S where
  g := R.g.trans g.g
  s := g.s
  pre := R.pre
  nod := R.nod
  own := fun p hp => by
    obtain ⟨i, e, _, _, he⟩ := R.at_ hp
    obtain ⟨o, ho⟩ := he.some_
    exact g.f p o ho (R.own p hp)
  out := fun p o h0 hn => g.h p o (R.out p o h0 hn)
  new := R.new
  nof := fun p o h0 hg => by
    have hF := R.nof p o h0 hg
    by_cases hp : p ∈ w.ρ0
    · obtain ⟨i, e, _, _, he⟩ := R.at_ (R.pre.subset hp)
      obtain ⟨o', ho⟩ := he.some_
      exact g.f p o' ho hF
    · exact g.f p o (R.out p o h0 hp) hF
  sz := R.sz
  ent := fun i p e h1 h2 => by
    have he := R.ent i p e h1 h2
    obtain ⟨o, ho⟩ := he.some_
    exact he.mono g.g (List.prefix_refl _) (by rw [ho]; exact g.h p o ho)
  len := R.len
  sl := fun i c h => by
    obtain ⟨v, h1, h2⟩ := R.sl i c h
    exact ⟨v, h1, h2.mono g.g (List.prefix_refl _)⟩
/-- what a plain expression sees -/
def viewC : Option Cell → Sl
  | some (.d x) => .v x
  | _ => .no
def view (n : En2) : En := n.map viewC
theorem St2.vr (R : St2 K mg w ρ F H σ n S) : Vr K F σ (view n) := ⟨by rw [view, List.length_map]; exact R.len, fun i s d h1 h2 => by
  rw [view, List.getElem?_map] at h1
  obtain ⟨c, hc, rfl⟩ := Option.map_eq_some_iff.mp h1
  cases c with
  | none => cases h2
  | some c =>
    cases c with
    | r _ => cases h2
    | d x =>
      cases h2
      exact R.sl i (.d _) hc⟩
end
/-! ### expressions -/
abbrev M2 := En2 → Store → Option (Cell × Store)
def tE (K : PySem.W.Frag) (mg : Str → Option Value) (m : M2) : TE := fun σ H Q => ∃ w ρ F n S c S', St2 K mg w ρ F H σ n S ∧ m n S = some (c, S') ∧ ∀ v H' ρ' F', St2 K mg w ρ' F' H' σ n S' → ρ <+: ρ' → Ex F F' → RelC K F' ρ' v c → Q v H'
abbrev P2 (X : Cx) (e : Expr) (m : M2) : Prop := PE X e (tE X.K X.mg m)
def eP (m : M) : M2 := fun n S => (m (view n)).map fun d => (.d d, S)
def eVar (i : Nat) : M2 := fun n S => (n[i]?).bind fun c => c.map fun c => (c, S)
section
variable {X : Cx} {e a b : Expr} {pos : Pos} {m : M} {m1 m2 : M2}
theorem p2_of (h : PV X e m) : P2 X e (eP m) := PE.mono h fun σ H Q h => by
  obtain ⟨w, ρ, F, n, S, c, S', R, q, k⟩ := h
  obtain ⟨d, hd, q⟩ := Option.map_eq_some_iff.mp q
  cases q
  exact ⟨F, view n, d, R.s, R.vr, hd, fun v H1 G1 g1 d1 => k v H1 ρ G1 (R.grow g1) (List.prefix_refl _) g1.g d1⟩
theorem p2_var (i : Nat) {x : Str} (hN : X.N[i]? = some x := by rfl) (hv : Vis X.env.scope x := by first | exact Or.inl rfl | exact Or.inr (Or.inl rfl) | exact Or.inr (Or.inr rfl)) (hd : (x == ("__debug__" : Str)) = false := by decide) (hcd : (x == ("__classdict__" : Str)) = false := by decide) : P2 X (.Name x pos) (eVar i) := PE.mono (pe_var hN hv hd hcd) fun σ H Q h => by
  obtain ⟨w, ρ, F, n, S, c, S', R, q, k⟩ := h
  obtain ⟨oc, h1, q⟩ := Option.bind_eq_some_iff.mp q
  obtain ⟨c', e1, q⟩ := Option.map_eq_some_iff.mp q
  subst e1
  cases q
  obtain ⟨v, hv, rv⟩ := R.sl i _ h1
  exact ⟨v, hv, k v H ρ F R (List.prefix_refl _) (Ex.refl F) rv⟩
end
/-! ### operators on data, places, fields -/
def eB (g : PyData → PyData → Option PyData) (m1 m2 : M2) : M2 := fun n S => (m1 n S).bind fun a => (m2 n a.2).bind fun b => match a.1, b.1 with
  | .d x, .d y => (g x y).map fun z => (.d z, b.2)
  | _, _ => none
def eIx (m1 m2 : M2) : M2 := fun n S => (m1 n S).bind fun a => (m2 n a.2).bind fun b => match a.1, b.1 with
  | .d x, .d y => (vIx x y).map fun z => (.d z, b.2)
  | .r i, .d (.int k) => (b.2[i]?).bind fun e => match e with
    | .l cs => (atI cs k).map fun c => (c, b.2)
    | _ => none
  | _, _ => none
def eFld (C f : Str) (m : M2) : M2 := fun n S => (m n S).bind fun a => match a.1 with
  | .r i => (a.2[i]?).bind fun e => match e with
    | .o D fs => if D = C then (fs.lookup f).map fun c => (c, a.2) else none
    | _ => none
  | _ => none
theorem relcs_at {K : PySem.W.Frag} {F : Hp} {ρ : List Addr} {vs : List V} {cs : List Cell} {i : Int} {c : Cell} (a : RelCs K F ρ vs cs) (h : atI cs i = some c) : ∃ v, atI vs i = some v ∧ RelC K F ρ v c := by
  unfold atI at h ⊢
  rw [a.len]
  obtain ⟨j, hj, h⟩ := Option.bind_eq_some_iff.mp h
  obtain ⟨v, hv, dv⟩ := a.get h
  exact ⟨v, by rw [hj]; exact hv, dv⟩
theorem relcs_lookup {K : PySem.W.Frag} {F : Hp} {ρ : List Addr} {f : Str} : ∀ {vs : List (Str × V)} {fs : List (Str × Cell)} {c : Cell}, vs.map (·.1) = fs.map (·.1) → RelCs K F ρ (vs.map (·.2)) (fs.map (·.2)) → fs.lookup f = some c → ∃ v, vs.lookup f = some v ∧ RelC K F ρ v c
  | [], [], _, _, _, h => by cases h
  | [], _ :: _, _, h, _, _ => by cases h
  | _ :: _, [], _, h, _, _ => by cases h
  | (a, v) :: vs, (b, x) :: fs, c, e, r, h => by
    rw [List.map_cons, List.map_cons] at e r
    have e1 : a = b := (List.cons.inj e).1
    have e2 := (List.cons.inj e).2
    subst e1
    cases r with
    | cons rv r =>
      rw [List.lookup_cons] at h ⊢
      cases hf : f == a with
      | true =>
        rw [hf] at h
        cases h
        exact ⟨v, rfl, rv⟩
      | false =>
        rw [hf] at h
        exact relcs_lookup e2 r h
section
variable {X : Cx} {e a b : Expr} {pos : Pos} {m : M} {m1 m2 : M2}
theorem p2_bin {op : Operator} {g : PyData → PyData → Option PyData} (ho : OpD X (binaryOp op) g) (ha : P2 X a m1) (hb : P2 X b m2) : P2 X (.BinOp a op b pos) (eB g m1 m2) := PE.mono (pe_op ho ha hb) fun σ H Q h => by
  obtain ⟨w, ρ, F, n, S, c, S', R, q, k⟩ := h
  obtain ⟨⟨c1, S1⟩, h1, q⟩ := Option.bind_eq_some_iff.mp q
  obtain ⟨⟨c2, S2⟩, h2, q⟩ := Option.bind_eq_some_iff.mp q
  refine ⟨w, ρ, F, n, S, c1, S1, R, h1, fun v H1 ρ1 F1 R1 p1 x1 r1 => ?_⟩
  refine ⟨w, ρ1, F1, n, S1, c2, S2, R1, h2, fun u H2 ρ2 F2 R2 p2 x2 r2 => ?_⟩
  cases c1 with
  | r _ => cases q
  | d x =>
    cases c2 with
    | r _ => cases q
    | d y =>
      obtain ⟨z, hz, q⟩ := Option.map_eq_some_iff.mp q
      cases q
      exact ⟨F2, x, y, z, R2.s, dp_ex x2 r1, r2, hz, fun v3 H3 G3 g3 d3 => k v3 H3 ρ2 G3 (R2.grow g3) (p1.trans p2) ((x1.trans x2).trans g3.g) d3⟩
theorem p2_ix (ha : P2 X a m1) (hb : P2 X b m2) (hs : PlainIx b := by exact fun _ _ => rfl) : P2 X (.Subscript a b pos) (eIx m1 m2) := PE.mono (pe_ix ix_seq ha hb hs) fun σ H Q h => by
  obtain ⟨w, ρ, F, n, S, c, S', R, q, k⟩ := h
  obtain ⟨⟨c1, S1⟩, h1, q⟩ := Option.bind_eq_some_iff.mp q
  obtain ⟨⟨c2, S2⟩, h2, q⟩ := Option.bind_eq_some_iff.mp q
  refine ⟨w, ρ, F, n, S, c1, S1, R, h1, fun v H1 ρ1 F1 R1 p1 x1 r1 => ?_⟩
  refine ⟨w, ρ1, F1, n, S1, c2, S2, R1, h2, fun u H2 ρ2 F2 R2 p2 x2 r2 => ?_⟩
  cases c2 with
  | r _ => cases c1 <;> cases q
  | d y =>
    cases c1 with
    | d x =>
      obtain ⟨z, hz, q⟩ := Option.map_eq_some_iff.mp q
      cases q
      have k2 : ∀ u, Dp X.K F2 u z → Q u H2 := fun u d => k u H2 ρ2 F2 R2 (p1.trans p2) (x1.trans x2) d
      have d1 : Dp X.K F2 v x := dp_ex x2 r1
      have d2 : Dp X.K F2 u y := r2
      unfold vIx at hz
      split at hz
      · obtain ⟨p, vs, rfl, g1, a1⟩ := dp_lst d1
        cases dp_int d2
        obtain ⟨u, hu, du⟩ := dpa_at a1 hz
        exact .inl ⟨p, vs, _, u, rfl, rfl, ex_l R2.s g1, hu, k2 u du⟩
      · obtain ⟨p, vs, rfl, g1, a1⟩ := dp_tup d1
        cases dp_int d2
        obtain ⟨u, hu, du⟩ := dpa_at a1 hz
        exact .inr (.inl ⟨p, vs, _, u, rfl, rfl, ex_t R2.s g1, hu, k2 u du⟩)
      · cases dp_str d1
        cases dp_int d2
        split at hz
        · rename_i hzz
          obtain ⟨u, hu, rfl⟩ := Option.map_eq_some_iff.mp hz
          exact .inr (.inr ⟨_, _, u, rfl, rfl, hzz, hu, k2 _ (.str _)⟩)
        · cases hz
      · cases hz
    | r i =>
      cases y with
      | int j =>
        obtain ⟨e, he, q⟩ := Option.bind_eq_some_iff.mp q
        cases e with
        | l cs =>
          obtain ⟨c', hc', q⟩ := Option.map_eq_some_iff.mp q
          cases q
          obtain ⟨p, hp, rfl⟩ := r1.mono x2 p2
          obtain ⟨vs, hH, rs⟩ := R2.ent i p _ hp he
          cases dp_int r2
          obtain ⟨u, hu, ru⟩ := relcs_at rs hc'
          exact .inl ⟨p, vs, j, u, rfl, rfl, SqL.of hH, hu, k u H2 ρ2 F2 R2 (p1.trans p2) (x1.trans x2) ru⟩
        | o _ _ => cases q
        | m _ => cases q
      | _ => cases q
/-- what is known of the classes -/
def ClsKnown (K : PySem.W.Frag) (mg : Str → Option Value) (C f : Str) : Prop := ∀ Ca, mg C = some (.ref Ca) → Cls K Ca ∧ NoAttr K Ca f
theorem p2_fld {C f : Str} (he : P2 X e m1) (hk : ClsKnown X.K X.mg C f) (hb : attributeBase e f X.env (eval e X.env) = eval e X.env := by rfl) : P2 X (.Attribute e f pos) (eFld C f m1) := PE.mono (pe_fld he hb) fun σ H Q h => by
  obtain ⟨w, ρ, F, n, S, c, S', R, q, k⟩ := h
  obtain ⟨⟨c1, S1⟩, h1, q⟩ := Option.bind_eq_some_iff.mp q
  refine ⟨w, ρ, F, n, S, c1, S1, R, h1, fun v H1 ρ1 F1 R1 p1 x1 r1 => ?_⟩
  cases c1 with
  | d x => cases q
  | r i =>
    obtain ⟨e, he, q⟩ := Option.bind_eq_some_iff.mp q
    cases e with
    | o D fs =>
      have q' : (if D = C then (fs.lookup f).map (fun c => (c, S1)) else none) = some (c, S') := q
      clear q
      by_cases hD : D = C
      case neg =>
        rw [if_neg hD] at q'
        cases q'
      rw [if_pos hD] at q'
      subst hD
      obtain ⟨c', hc', q⟩ := Option.map_eq_some_iff.mp q'
      cases q
      obtain ⟨p, hp, rfl⟩ := r1
      obtain ⟨Ca, dx, vs, hC, hH, hn, rs⟩ := R1.ent i p _ hp he
      obtain ⟨u, hu, ru⟩ := relcs_lookup hn rs hc'
      obtain ⟨c1, c2⟩ := hk Ca hC
      exact ⟨p, Ca, dx, vs, u, rfl, hH, c1, c2, hu, k u H1 ρ1 F1 R1 p1 x1 ru⟩
    | l _ => cases q
    | m _ => cases q
end
end
end VE
/-! ### the store grows, changes -/
namespace VE
noncomputable section
open PySem PySem.Spec L2 Evl
section
variable {K : PySem.W.Frag} {mg : Str → Option Value} {w : Wd} {F F' H H' : Hp} {ρ ρ' : List Addr} {σ : L2.St} {n : En2} {S : Store}
theorem St2.there (R : St2 K mg w ρ F H σ n S) {p : Addr} (hp : p ∈ ρ) : ∃ o, H p = some o := by
  obtain ⟨i, e, _, _, he⟩ := R.at_ hp
  exact he.some_
theorem pre_append {α : Type} (xs ys : List α) : xs <+: xs ++ ys := ⟨ys, rfl⟩
theorem St2.alloc (R : St2 K mg w ρ F H σ n S) {p : Addr} {o : HO} {e : Ent} (hp : H p = none) (he : EntR K mg F (ρ ++ [p]) (upd H p o) p e) : St2 K mg w (ρ ++ [p]) F (upd H p o) σ n (S ++ [e]) := by
  have np : p ∉ ρ := fun h => by
    obtain ⟨o, ho⟩ := R.there h
    rw [hp] at ho
    cases ho
  have hF : F p = none := by
    cases hf : F p with
    | none => rfl
    | some o =>
      have := R.s p o hf
      rw [hp] at this
      cases this
  have h0 : w.H0 p = none := by
    cases hf : w.H0 p with
    | none => rfl
    | some o =>
      by_cases hq : p ∈ w.ρ0
      · exact absurd (R.pre.subset hq) np
      · have := R.out p o hf hq
        rw [hp] at this
        cases this
  refine ⟨R.g, fun q o' h => ?_, R.pre.trans (pre_append _ _), ?_, fun q hq => ?_, fun q o' h hn => ?_, fun q hq => ?_, R.nof, by rw [List.length_append, List.length_append, R.sz]; rfl, fun i q e' h1 h2 => ?_, R.len, fun i c h => ?_⟩
  · have : q ≠ p := fun z => by
      subst z
      rw [hF] at h
      cases h
    rw [upd_ne this]
    exact R.s q o' h
  · rw [List.nodup_append]
    exact ⟨R.nod, by simp, fun a ha b hb => by
      cases List.mem_singleton.mp hb
      exact fun z => np (z ▸ ha)⟩
  · rcases List.mem_append.mp hq with hq | hq
    · exact R.own q hq
    · cases List.mem_singleton.mp hq
      exact hF
  · have : q ≠ p := fun z => by
      subst z
      rw [h0] at h
      cases h
    rw [upd_ne this]
    exact R.out q o' h hn
  · rcases List.mem_append.mp hq with hq | hq
    · exact R.new q hq
    · cases List.mem_singleton.mp hq
      exact .inr h0
  · by_cases hi : i < ρ.length
    · rw [List.getElem?_append_left hi] at h1
      rw [List.getElem?_append_left (by rw [R.sz]; exact hi)] at h2
      have hq : q ∈ ρ := List.mem_of_getElem? h1
      have : q ≠ p := fun z => np (z ▸ hq)
      exact (R.ent i q e' h1 h2).mono (Ex.refl F) (pre_append _ _) (upd_ne this)
    · rw [List.getElem?_append_right (by omega)] at h1
      rw [List.getElem?_append_right (by rw [R.sz]; omega), R.sz] at h2
      have h3 := (List.getElem?_eq_some_iff.mp h1).1
      simp at h3
      have h4 : i - ρ.length = 0 := by omega
      rw [h4] at h1 h2
      cases h1
      cases h2
      exact he
  · obtain ⟨v, h1, h2⟩ := R.sl i c h
    exact ⟨v, h1, h2.mono (Ex.refl F) (pre_append _ _)⟩
theorem St2.put (R : St2 K mg w ρ F H σ n S) {i : Nat} {p : Addr} {o : HO} {e : Ent} (hi : ρ[i]? = some p) (he : EntR K mg F ρ (upd H p o) p e) : St2 K mg w ρ F (upd H p o) σ n (S.set i e) := by
  have hp : p ∈ ρ := List.mem_of_getElem? hi
  have hF := R.own p hp
  refine ⟨R.g, fun q o' h => ?_, R.pre, R.nod, R.own, fun q o' h hn => ?_, R.new, R.nof, by rw [List.length_set]; exact R.sz, fun j q e' h1 h2 => ?_, R.len, R.sl⟩
  · have : q ≠ p := fun z => by
      subst z
      rw [hF] at h
      cases h
    rw [upd_ne this]
    exact R.s q o' h
  · have : q ≠ p := fun z => by
      subst z
      rcases R.new q hp with h' | h'
      · exact hn h'
      · rw [h'] at h
        cases h
    rw [upd_ne this]
    exact R.out q o' h hn
  · by_cases hj : i = j
    · subst hj
      rw [hi] at h1
      cases h1
      have hl : i < S.length := by
        rw [R.sz]
        exact (List.getElem?_eq_some_iff.mp hi).1
      rw [List.getElem?_set_self hl] at h2
      cases h2
      exact he
    · rw [List.getElem?_set_ne hj] at h2
      have : q ≠ p := fun z => by
        subst z
        have a1 := List.getElem?_eq_some_iff.mp hi
        have a2 := List.getElem?_eq_some_iff.mp h1
        exact hj ((List.getElem_inj R.nod).mp (a1.2.trans a2.2.symm))
      exact (R.ent j q e' h1 h2).mono (Ex.refl F) (List.prefix_refl _) (upd_ne this)
end
/-! ### lists of expressions -/
abbrev M2A := En2 → Store → Option (List Cell × Store)
def tEA (K : PySem.W.Frag) (mg : Str → Option Value) (m : M2A) : TA := fun σ H Q => ∃ w ρ F n S cs S', St2 K mg w ρ F H σ n S ∧ m n S = some (cs, S') ∧ ∀ vs H' ρ' F', St2 K mg w ρ' F' H' σ n S' → ρ <+: ρ' → Ex F F' → RelCs K F' ρ' vs cs → Q vs H'
abbrev P2A (X : Cx) (es : List Expr) (m : M2A) : Prop := PA X es (tEA X.K X.mg m)
def aNil : M2A := fun _ S => some ([], S)
def aCons (m : M2) (ms : M2A) : M2A := fun n S => (m n S).bind fun a => (ms n a.2).map fun b => (a.1 :: b.1, b.2)
def datas : List Cell → Option (List PyData)
  | [] => some []
  | .d x :: r => (datas r).map (x :: ·)
  | _ => none
theorem datas_ok {K : PySem.W.Frag} {F : Hp} {ρ : List Addr} : ∀ {vs : List V} {cs : List Cell} {ds : List PyData}, RelCs K F ρ vs cs → datas cs = some ds → DpAll K F vs ds
  | _, _, _, .nil, h => by
    cases h
    exact .nil
  | _, .d x :: cs, _, .cons r rs, h => by
    obtain ⟨ds, hd, rfl⟩ := Option.map_eq_some_iff.mp (show (datas cs).map (x :: ·) = some _ from h)
    exact .cons r (datas_ok rs hd)
  | _, .r _ :: _, _, .cons _ _, h => by cases h
/-- a call of what reads data alone -/
def eC (g : List PyData → Option PyData) (ms : M2A) : M2 := fun n S => (ms n S).bind fun a => (datas a.1).bind fun ds => (g ds).map fun d => (.d d, a.2)
def eD (N : Nat) (g : List PyData → Option PyData) (ms : M2A) : M2 := fun n S => (ms n S).bind fun a => (datas a.1).bind fun ds => if ds.length = N then (g ds).map fun d => (.d d, a.2) else none
/-- a new list -/
def eLst (ms : M2A) : M2 := fun n S => (ms n S).bind fun a => @ite _ (a.1.length ≤ sizeLine) (Classical.propDecidable _) (some (.r a.2.length, a.2 ++ [.l a.1])) none
section
variable {X : Cx} {e a b : Expr} {es : List Expr} {pos p : Pos} {m : M} {m1 m2 : M2} {ms : M2A}
theorem p2a_nil : P2A X [] aNil := PA.mono pa_nil fun σ H Q h => by
  obtain ⟨w, ρ, F, n, S, c, S', R, q, k⟩ := h
  cases q
  exact k [] H ρ F R (List.prefix_refl _) (Ex.refl F) .nil
theorem p2a_cons (ha : P2 X e m1) (hr : P2A X es ms) (hs : starEach (e :: es) X.env = (false, eval e X.env) :: starEach es X.env := by rfl) : P2A X (e :: es) (aCons m1 ms) := PA.mono (pa_cons ha hr hs) fun σ H Q h => by
  obtain ⟨w, ρ, F, n, S, c, S', R, q, k⟩ := h
  obtain ⟨⟨c1, S1⟩, h1, q⟩ := Option.bind_eq_some_iff.mp q
  obtain ⟨⟨c2, S2⟩, h2, q⟩ := Option.map_eq_some_iff.mp q
  cases q
  refine ⟨w, ρ, F, n, S, c1, S1, R, h1, fun v H1 ρ1 F1 R1 p1 x1 r1 => ?_⟩
  exact ⟨w, ρ1, F1, n, S1, c2, S2, R1, h2, fun u H2 ρ2 F2 R2 p2 x2 r2 => k _ H2 ρ2 F2 R2 (p1.trans p2) (x1.trans x2) (.cons (r1.mono x2 p2) r2)⟩
theorem t2_cb {K : PySem.W.Frag} {mg : Str → Option Value} {g : List PyData → Option PyData} : ∀ σ H Q, tE K mg (eC g ms) σ H Q → tCB (rC K g) (tEA K mg ms) σ H Q := fun σ H Q h => by
  obtain ⟨w, ρ, F, n, S, c, S', R, q, k⟩ := h
  obtain ⟨⟨cs, S1⟩, h1, q⟩ := Option.bind_eq_some_iff.mp q
  obtain ⟨ds, hd, q⟩ := Option.bind_eq_some_iff.mp q
  obtain ⟨z, hz, q⟩ := Option.map_eq_some_iff.mp q
  cases q
  exact ⟨w, ρ, F, n, S, cs, S1, R, h1, fun vs H1 ρ1 F1 R1 p1 x1 r1 => ⟨F1, ds, z, R1.s, datas_ok r1 hd, hz, fun v H2 G2 g2 d2 => k v H2 ρ1 G2 (R1.grow g2) p1 (x1.trans g2.g) d2⟩⟩
theorem p2_cb {id : String} {x : Str} {g : List PyData → Option PyData} (hc : CallD X (.builtin id) g) (hm : X.mg x = none) (ha : P2A X (e :: es) ms) (hg : Gl X x := by rfl) (hv : bootBuiltins x = some (.builtin id) := by decide +kernel) (hn : x ≠ "__name__" := by decide) (hdb : (x == ("__debug__" : Str)) = false := by decide)
    (he : starEach (e :: es) X.env = (false, eval e X.env) :: starEach es X.env := by rfl) (hpl : (backTo pos (starEach es X.env)).any (·.1) = false := by rfl) : P2 X (.Call (.Name x p) (e :: es) [] pos) (eC g ms) := PE.mono (pe_callB hc hg hm hv ha hn hdb he hpl) t2_cb
theorem p2_cty {T : String} {x : Str} {g : List PyData → Option PyData} (hc : CallD X (.type T) g) (hm : X.mg x = none) (ha : P2A X (e :: es) ms) (hg : Gl X x := by rfl) (hv : bootBuiltins x = some (.type T) := by decide +kernel) (hn : x ≠ "__name__" := by decide) (hdb : (x == ("__debug__" : Str)) = false := by decide)
    (he : starEach (e :: es) X.env = (false, eval e X.env) :: starEach es X.env := by rfl) (hpl : (backTo pos (starEach es X.env)).any (·.1) = false := by rfl) : P2 X (.Call (.Name x p) (e :: es) [] pos) (eC g ms) := PE.mono (pe_callTy hc hg hm hv ha hn hdb he hpl) t2_cb
theorem p2_call {x : Str} {j k n : Nat} {g : List PyData → Option PyData} (D : Def X.prog X.w X.K X.mg X.base x k n g) (hr : Room j X.A) (ha : P2A X (e :: es) ms) (hk : k ≤ j := by decide) (hg : Gl X x := by rfl)
    (hdb : (x == ("__debug__" : Str)) = false := by decide) (he : starEach (e :: es) X.env = (false, eval e X.env) :: starEach es X.env := by rfl) (hpl : (backTo pos (starEach es X.env)).any (·.1) = false := by rfl) :
    P2 X (.Call (.Name x p) (e :: es) [] pos) (eD n g ms) := by
  obtain ⟨CX, f, fd, ps, hp, Fn, hm, hkp, hb⟩ := D.ex
  refine PE.mono (pe_call Fn (hr.mono hk) hg hm hkp hb .nil (hp X rfl rfl) ha hdb he hpl) fun σ H Q h => ?_
  obtain ⟨w, ρ, F, n', S, c, S', R, q, k⟩ := h
  obtain ⟨⟨cs, S1⟩, h1, q⟩ := Option.bind_eq_some_iff.mp q
  obtain ⟨ds, hd, q⟩ := Option.bind_eq_some_iff.mp q
  by_cases hl : ds.length = n
  case neg =>
    rw [if_neg hl] at q
    cases q
  rw [if_pos hl] at q
  obtain ⟨z, hz, q⟩ := Option.map_eq_some_iff.mp q
  cases q
  refine ⟨w, ρ, F, n', S, cs, S1, R, h1, fun vs H1 ρ1 F1 R1 p1 x1 r1 => ?_⟩
  show spM X.K n g (vs ++ []) H1 Q E0
  rw [List.append_nil]
  exact ⟨F1, ds, z, R1.s, datas_ok r1 hd, hl, hz, fun v H2 G2 g2 d2 => k v H2 ρ1 G2 (R1.grow g2) p1 (x1.trans g2.g) d2⟩
end
end
end VE
set_option Elab.async false
set_option linter.all false
set_option maxRecDepth 100000
set_option maxHeartbeats 2000000
/-! statements over the store -/
namespace VE
noncomputable section
open PySem PySem.Spec L2 Evl
inductive Out2
  | nx (n : En2)
  | bk (n : En2)
  | ct (n : En2)
  | rt (c : Cell)
abbrev MS2 := En2 → Store → Option (Out2 × Store)
def Post2 (K : PySem.W.Frag) (mg : Str → Option Value) (w : Wd) (ρ : List Addr) (F : Hp) (D : Ends) (S' : Store) : Out2 → Prop
  | .nx n => ∀ σ H ρ' F', St2 K mg w ρ' F' H σ n S' → ρ <+: ρ' → Ex F F' → D.nx σ H
  | .bk n => ∀ σ H ρ' F', St2 K mg w ρ' F' H σ n S' → ρ <+: ρ' → Ex F F' → D.bk σ H
  | .ct n => ∀ σ H ρ' F', St2 K mg w ρ' F' H σ n S' → ρ <+: ρ' → Ex F F' → D.ct σ H
  | .rt c => ∀ v H ρ' F' σ n, St2 K mg w ρ' F' H σ n S' → ρ <+: ρ' → Ex F F' → RelC K F' ρ' v c → D.rt v H
theorem Post2.mono {K : PySem.W.Frag} {mg : Str → Option Value} {w : Wd} {ρ ρ1 : List Addr} {F F1 : Hp} {D : Ends} {S' : Store} {o : Out2} (h : Post2 K mg w ρ F D S' o) (p : ρ <+: ρ1) (x : Ex F F1) : Post2 K mg w ρ1 F1 D S' o := by
  cases o with
  | nx n => exact fun σ H ρ' F' R q y => h σ H ρ' F' R (p.trans q) (x.trans y)
  | bk n => exact fun σ H ρ' F' R q y => h σ H ρ' F' R (p.trans q) (x.trans y)
  | ct n => exact fun σ H ρ' F' R q y => h σ H ρ' F' R (p.trans q) (x.trans y)
  | rt c => exact fun v H ρ' F' σ n R q y => h v H ρ' F' σ n R (p.trans q) (x.trans y)
def tS2 (K : PySem.W.Frag) (mg : Str → Option Value) (m : MS2) : TS := fun D σ H => ∃ w ρ F n S o S', St2 K mg w ρ F H σ n S ∧ m n S = some (o, S') ∧ Post2 K mg w ρ F D S' o
abbrev PS2 (X : Cx) (st : Stmt) (m : MS2) : Prop := PS X st (tS2 X.K X.mg m)
abbrev PSs2 (X : Cx) (st : List Stmt) (m : MS2) : Prop := PSs X st (tS2 X.K X.mg m)
/-! ### tests -/
abbrev MT2 := En2 → Store → Option (Bool × Store)
def tT2 (K : PySem.W.Frag) (mg : Str → Option Value) (m : MT2) : TT := fun σ H Q => ∃ w ρ F n S b S', St2 K mg w ρ F H σ n S ∧ m n S = some (b, S') ∧ ∀ H' ρ' F', St2 K mg w ρ' F' H' σ n S' → ρ <+: ρ' → Ex F F' → Q b H'
abbrev PB2 (X : Cx) (e : Expr) (m : MT2) : Prop := PT X e (tT2 X.K X.mg m)
def s2Skip : MS2 := fun n S => some (.nx n, S)
def s2Seq (a b : MS2) : MS2 := fun n S => (a n S).bind fun r => match r.1 with
  | .nx n' => b n' r.2
  | o => some (o, r.2)
def s2If (c : MT2) (a b : MS2) : MS2 := fun n S => (c n S).bind fun r => if r.1 = true then a n r.2 else b n r.2
def s2Asg (i : Nat) (m : M2) : MS2 := fun n S => (m n S).map fun r => (.nx (n.set i (some r.1)), r.2)
def s2Ret (m : M2) : MS2 := fun n S => (m n S).map fun r => (.rt r.1, r.2)
def s2RetN : MS2 := fun n S => some (.rt (.d .none), S)
def s2Drop (m : M2) : MS2 := fun n S => (m n S).map fun r => (.nx n, r.2)
theorem St2.set {K : PySem.W.Frag} {mg : Str → Option Value} {w : Wd} {F H : Hp} {ρ : List Addr} {σ : L2.St} {n : En2} {S : Store} {i : Nat} {v : V} {c : Cell} (R : St2 K mg w ρ F H σ n S) (h : RelC K F ρ v c) : St2 K mg w ρ F H (σ.set i (some v)) (n.set i (some c)) S := { R with
  len := by rw [List.length_set, List.length_set]; exact R.len
  sl := fun j e h1 => by
    by_cases z : i = j
    · subst z
      by_cases hi : i < n.length
      · rw [List.getElem?_set_self hi] at h1
        cases h1
        exact ⟨v, by rw [List.getElem?_set_self (by rw [R.len]; exact hi)], h⟩
      · simp [List.getElem?_set, hi] at h1
    · rw [List.getElem?_set_ne z] at h1 ⊢
      exact R.sl j e h1 }
section
variable {X : Cx} {e c : Expr} {es : List Expr} {pos p : Pos} {m : M2} {mt : MT2} {st : Stmt} {rest aa bb : List Stmt} {s1 s2 : MS2}
theorem ps2_nil : PSs2 X [] s2Skip := PSs.mono pss_nil fun D σ H h => by
  obtain ⟨w, ρ, F, n, S, o, S', R, q, k⟩ := h
  cases q
  exact k σ H ρ F R (List.prefix_refl _) (Ex.refl F)
theorem ps2_pass : PS2 X (.Pass pos) s2Skip := PS.mono ps_pass fun D σ H h => by
  obtain ⟨w, ρ, F, n, S, o, S', R, q, k⟩ := h
  cases q
  exact k σ H ρ F R (List.prefix_refl _) (Ex.refl F)
theorem ps2_one (h : PS2 X st s1) : PSs2 X [st] s1 := pss_one h
theorem ps2_cons (h1 : PS2 X st s1) (h2 : PSs2 X rest s2) : PSs2 X (st :: rest) (s2Seq s1 s2) := PSs.mono (pss_cons h1 h2) fun D σ H h => by
  obtain ⟨w, ρ, F, n, S, o, S', R, q, k⟩ := h
  obtain ⟨⟨o1, S1⟩, h1, q⟩ := Option.bind_eq_some_iff.mp q
  refine ⟨w, ρ, F, n, S, o1, S1, R, h1, ?_⟩
  cases o1 with
  | nx n1 => exact fun σ1 H1 ρ1 F1 R1 p1 x1 => ⟨w, ρ1, F1, n1, S1, o, S', R1, q, k.mono p1 x1⟩
  | rt d => cases q; exact k
  | bk d => cases q; exact k
  | ct d => cases q; exact k
theorem ps2_set (i : Nat) {x : Str} {pos' : Pos} (hN : X.N.Nodup) (he : P2 X e m) (hi : X.N[i]? = some x := by rfl) (hx : Loc X.env.scope x := by first | exact .inl rfl | exact .inr rfl) (hs : swapsWith e (some (.Name x pos')) pos.line X.env = pure false := by rfl) (hf : X.fn x = true ∨ X.env.scope.names.lookup x = some .local := by first | exact .inl rfl | exact .inr rfl) :
    PS2 X (.Assign [.Name x pos'] e pos) (s2Asg i m) := PS.mono (ps_set hN hi hx he hs hf) fun D σ H h => by
  obtain ⟨w, ρ, F, n, S, o, S', R, q, k⟩ := h
  obtain ⟨⟨c, S1⟩, h1, q⟩ := Option.map_eq_some_iff.mp q
  cases q
  exact ⟨w, ρ, F, n, S, c, S1, R, h1, fun v H1 ρ1 F1 R1 p1 x1 r1 => k _ H1 ρ1 F1 (R1.set r1) p1 x1⟩
theorem ps2_ret (he : P2 X e m) : PS2 X (.Return (some e) pos) (s2Ret m) := PS.mono (ps_ret he) fun D σ H h => by
  obtain ⟨w, ρ, F, n, S, o, S', R, q, k⟩ := h
  obtain ⟨⟨c, S1⟩, h1, q⟩ := Option.map_eq_some_iff.mp q
  cases q
  exact ⟨w, ρ, F, n, S, c, S1, R, h1, fun v H1 ρ1 F1 R1 p1 x1 r1 => k v H1 ρ1 F1 σ n R1 p1 x1 r1⟩
theorem ps2_retN : PS2 X (.Return none pos) s2RetN := PS.mono ps_retN fun D σ H h => by
  obtain ⟨w, ρ, F, n, S, o, S', R, q, k⟩ := h
  cases q
  exact k .non H ρ F σ n R (List.prefix_refl _) (Ex.refl F) .non
theorem ps2_expr (he : P2 X e m) (hs : swapsWith e none pos.line X.env = pure false := by rfl) : PS2 X (.Expr e pos) (s2Drop m) := PS.mono (ps_expr he hs) fun D σ H h => by
  obtain ⟨w, ρ, F, n, S, o, S', R, q, k⟩ := h
  obtain ⟨⟨c, S1⟩, h1, q⟩ := Option.map_eq_some_iff.mp q
  cases q
  exact ⟨w, ρ, F, n, S, c, S1, R, h1, fun v H1 ρ1 F1 R1 p1 x1 r1 => k σ H1 ρ1 F1 R1 p1 x1⟩
theorem ps2_if (hc : PB2 X c mt) (ha : PSs2 X aa s1) (hb : PSs2 X bb s2) : PS2 X (.If c aa bb pos) (s2If mt s1 s2) := PS.mono (ps_if hc ha hb) fun D σ H h => by
  obtain ⟨w, ρ, F, n, S, o, S', R, q, k⟩ := h
  obtain ⟨⟨b, S1⟩, h1, q⟩ := Option.bind_eq_some_iff.mp q
  refine ⟨w, ρ, F, n, S, b, S1, R, h1, fun H1 ρ1 F1 R1 p1 x1 => ?_⟩
  cases b with
  | true => exact iteT ⟨w, ρ1, F1, n, S1, o, S', R1, by simpa using q, k.mono p1 x1⟩
  | false => exact iteF ⟨w, ρ1, F1, n, S1, o, S', R1, by simpa using q, k.mono p1 x1⟩
end
/-! ### methods of lists -/
def lstAt (S : Store) : Cell → Option (Nat × List Cell)
  | .r i => (S[i]?).bind fun e => match e with
    | .l cs => some (i, cs)
    | _ => none
  | _ => none
theorem lstAt_eq {S : Store} {c : Cell} {i : Nat} {cs : List Cell} (h : lstAt S c = some (i, cs)) : c = .r i ∧ S[i]? = some (.l cs) := by
  cases c with
  | d _ => cases h
  | r j =>
    obtain ⟨e, he, h⟩ := Option.bind_eq_some_iff.mp (show (S[j]?).bind _ = _ from h)
    cases e with
    | l xs =>
      cases h
      exact ⟨rfl, he⟩
    | o _ _ => cases h
    | m _ => cases h
def eApp (mo me : M2) : M2 := fun n S => (mo n S).bind fun a => (lstAt a.2 a.1).bind fun _ => (me n a.2).bind fun b => (lstAt b.2 a.1).bind fun x => @ite _ (x.2.length < 16000000) (Classical.propDecidable _) (some (.d .none, b.2.set x.1 (.l (x.2 ++ [b.1])))) none
def ePop (mo : M2) : M2 := fun n S => (mo n S).bind fun a => match a.1 with
  | .r i => (a.2[i]?).bind fun e => match e with
    | .l cs => (cs[cs.length - 1]?).map fun c => (c, a.2.set i (.l cs.dropLast))
    | _ => none
  | _ => none
/-- kinds of things stay -/
theorem RelCs.dropLast {K : PySem.W.Frag} {F : Hp} {ρ : List Addr} {vs : List V} {cs : List Cell} (h : RelCs K F ρ vs cs) : RelCs K F ρ vs.dropLast cs.dropLast := by
  rw [List.dropLast_eq_take, List.dropLast_eq_take, h.len]
  exact h.take _
section
variable {X : Cx} {o e : Expr} {p1 p2 p3 : Pos} {mo me : M2}
theorem p2_pop (ho : P2 X o mo) (hbase : attributeBase o "pop" X.env (eval o X.env) = eval o X.env := by rfl) (hline : (p2.endLine == p3.line) = true := by rfl) : P2 X (.Call (.Attribute o "pop" p2) [] [] p3) (ePop mo) :=
  PE.mono (pe_bm0 PySem.F.plainAttrs_list PySem.F.slot_list_pop PySem.F.type_list_pop mt_pop ho hbase hline) fun σ H Q h => by
  obtain ⟨w, ρ, F, n, S, c, S', R, q, k⟩ := h
  obtain ⟨⟨c1, S1⟩, h1, q⟩ := Option.bind_eq_some_iff.mp q
  refine ⟨w, ρ, F, n, S, c1, S1, R, h1, fun v H1 ρ1 F1 R1 p1 x1 r1 => ?_⟩
  cases c1 with
  | d _ => cases q
  | r i =>
    obtain ⟨e, he, q⟩ := Option.bind_eq_some_iff.mp q
    cases e with
    | o _ _ => cases q
    | m _ => cases q
    | l cs =>
      obtain ⟨c', hc', q⟩ := Option.map_eq_some_iff.mp q
      cases q
      obtain ⟨p, hp, rfl⟩ := r1
      obtain ⟨vs, hH, rs⟩ := R1.ent i p _ hp he
      obtain ⟨u, hu, ru⟩ := rs.get hc'
      rw [← rs.len] at hu
      exact ⟨.inl ⟨rfl, vs, SqL.of hH⟩, p, vs, u, rfl, rfl, hH, hu, k u _ ρ1 F1 (R1.put hp ⟨vs.dropLast, upd_same, rs.dropLast⟩) p1 x1 ru⟩
theorem p2_app (ho : P2 X o mo) (he : P2 X e me) (hst : starEach [e] X.env = (false, eval e X.env) :: starEach [] X.env := by rfl) (hpl : (backTo p3 (starEach [] X.env)).any (·.1) = false := by rfl)
    (hbase : attributeBase o "append" X.env (eval o X.env) = eval o X.env := by rfl)
    (hfew : ((backTo p3 (starEach [e] X.env)).all (fun x => !x.1) && (backToKw p3 (keywordEach [] X.env)).all (fun x => x.1.isSome)
      && decide ([e].length + ([] : List Keyword).length + (if ([] : List Keyword).isEmpty then 0 else 1) < 30)) = true := by rfl)
    (hline : (p2.endLine == p3.line) = true := by rfl) : P2 X (.Call (.Attribute o "append" p2) [e] [] p3) (eApp mo me) :=
  PE.mono (pe_bm PySem.F.plainAttrs_list PySem.F.slot_list_append PySem.F.type_list_append mt_append ho (p2a_cons he p2a_nil hst) hbase hfew hline hst hpl) fun σ H Q h => by
  obtain ⟨w, ρ, F, n, S, c, S', R, q, k⟩ := h
  obtain ⟨⟨c1, S1⟩, h1, q⟩ := Option.bind_eq_some_iff.mp q
  obtain ⟨⟨i0, cs0⟩, hl0, q⟩ := Option.bind_eq_some_iff.mp q
  obtain ⟨⟨c2, S2⟩, h2, q⟩ := Option.bind_eq_some_iff.mp q
  obtain ⟨⟨i, cs⟩, hl, q⟩ := Option.bind_eq_some_iff.mp q
  by_cases hz : cs.length < 16000000
  case neg =>
    rw [if_neg hz] at q
    cases q
  rw [if_pos hz] at q
  cases q
  obtain ⟨e0, g0⟩ := lstAt_eq hl0
  obtain ⟨e1, g1⟩ := lstAt_eq hl
  have e0 : c1 = .r i0 := e0
  have e1 : c1 = .r i := e1
  subst e0
  cases e1
  refine ⟨w, ρ, F, n, S, _, S1, R, h1, fun v H1 ρ1 F1 R1 p1 x1 r1 => ?_⟩
  obtain ⟨p, hp, rfl⟩ := r1
  obtain ⟨vs0, hH0, _⟩ := R1.ent i0 p _ hp g0
  refine ⟨.inl ⟨rfl, vs0, SqL.of hH0⟩, w, ρ1, F1, n, S1, [c2], S2, R1, by show (me n S1).bind _ = _; rw [h2]; rfl, fun vs H2 ρ2 F2 R2 p2 x2 r2 => ?_⟩
  have hp2 := pre_get p2 hp
  obtain ⟨us, hH, rs⟩ := R2.ent i0 p _ hp2 g1
  cases r2 with
  | @cons u _ _ _ ru rr =>
    cases rr
    have hz' : us.length < sizeLine := by
      have : sizeLine = 16777216 := sizeLine_eq
      rw [rs.len]
      omega
    exact ⟨p, us, u, rfl, rfl, hH, hz', k .non _ ρ2 F2 (R2.put hp2 ⟨_, upd_same, rs.app (.cons ru .nil)⟩) (p1.trans p2) (x1.trans x2) .non⟩
end
/-! ### while -/
def whl2 (t : MT2) (b : MS2) : Nat → MS2
  | 0 => fun _ _ => none
  | j + 1 => fun n S => (t n S).bind fun c => if c.1 = true then (b n c.2).bind fun o => match o.1 with
    | .nx n2 => whl2 t b j n2 o.2
    | .ct n2 => whl2 t b j n2 o.2
    | .bk n2 => some (.nx n2, o.2)
    | .rt d => some (.rt d, o.2)
    else some (.nx n, c.2)
theorem whl2_mono (t : MT2) (b : MS2) : ∀ (j i : Nat) (n : En2) (S : Store) (o : Out2 × Store), whl2 t b j n S = some o → j ≤ i → whl2 t b i n S = some o
  | 0, _, _, _, _, h, _ => by cases h
  | j + 1, 0, _, _, _, _, h => by omega
  | j + 1, i + 1, n, S, o, h, hi => by
    unfold whl2 at h ⊢
    obtain ⟨⟨c, S1⟩, hc, h⟩ := Option.bind_eq_some_iff.mp h
    rw [hc, Option.bind_some]
    cases c with
    | false => exact h
    | true =>
      rw [if_pos rfl] at h ⊢
      obtain ⟨⟨o1, S2⟩, h1, h⟩ := Option.bind_eq_some_iff.mp h
      rw [h1, Option.bind_some]
      cases o1 with
      | nx n2 => exact whl2_mono t b j i n2 S2 o h (by omega)
      | ct n2 => exact whl2_mono t b j i n2 S2 o h (by omega)
      | bk n2 => exact h
      | rt d => exact h
noncomputable def s2While (t : MT2) (b : MS2) : MS2 := open Classical in fun n S => if h : ∃ o j, whl2 t b j n S = some o then some h.choose else none
theorem s2While_of {t : MT2} {b : MS2} {n : En2} {S : Store} {o : Out2 × Store} {j : Nat} (h : whl2 t b j n S = some o) : s2While t b n S = some o := by
  have hex : ∃ o j, whl2 t b j n S = some o := ⟨o, j, h⟩
  unfold s2While
  rw [dif_pos hex]
  obtain ⟨i, hi⟩ := hex.choose_spec
  have e1 := whl2_mono t b i (max i j) n S _ hi (Nat.le_max_left _ _)
  have e2 := whl2_mono t b j (max i j) n S _ h (Nat.le_max_right _ _)
  rw [e1] at e2
  exact e2
theorem of_s2While {t : MT2} {b : MS2} {n : En2} {S : Store} {o : Out2 × Store} (h : s2While t b n S = some o) : ∃ j, whl2 t b j n S = some o := by
  unfold s2While at h
  split at h
  · rename_i hex
    obtain ⟨i, hi⟩ := hex.choose_spec
    cases h
    exact ⟨i, hi⟩
  · cases h
section
variable {X : Cx} {c : Expr} {pos : Pos} {mt : MT2} {body : List Stmt} {s1 : MS2}
theorem ps2_while (hc : PB2 X c mt) (hb : PSs2 X body s1) (hp : PassesOwn (model X.prog X.w) X.A X.env X.xe := by first | exact PassesOwn.never | assumption) : PS2 X (.While c body [] pos) (s2While mt s1) := PS.mono (ps_while hp hc hb) fun D σ H h => by
  obtain ⟨w, ρ, F, n, S, o, S', R, q, k⟩ := h
  obtain ⟨j, q⟩ := of_s2While q
  refine ⟨fun m σ H => ∃ ρ1 F1 n S, St2 X.K X.mg w ρ1 F1 H σ n S ∧ ρ <+: ρ1 ∧ Ex F F1 ∧ whl2 mt s1 m n S = some (o, S'), ⟨j, ρ, F, n, S, R, List.prefix_refl _, Ex.refl F, q⟩, ?_⟩
  rintro m σ H ⟨ρ1, F1, n, S, R1, p1, x1, q⟩
  cases m with
  | zero => cases q
  | succ m =>
    unfold whl2 at q
    obtain ⟨⟨b, S1⟩, hb, q⟩ := Option.bind_eq_some_iff.mp q
    refine ⟨w, ρ1, F1, n, S, b, S1, R1, hb, fun H2 ρ2 F2 R2 p2 x2 => ?_⟩
    cases b with
    | false =>
      refine iteF ?_
      cases q
      exact k σ H2 ρ2 F2 R2 (p1.trans p2) (x1.trans x2)
    | true =>
      refine iteT ?_
      rw [if_pos rfl] at q
      obtain ⟨⟨o1, S2⟩, h1, q⟩ := Option.bind_eq_some_iff.mp q
      refine ⟨fun σ' H' => ∃ ρ1 F1 n S, St2 X.K X.mg w ρ1 F1 H' σ' n S ∧ ρ <+: ρ1 ∧ Ex F F1 ∧ whl2 mt s1 m n S = some (o, S'), fun σ' H' z => ⟨m, Nat.lt_succ_self m, z⟩, w, ρ2, F2, n, S1, o1, S2, R2, h1, ?_⟩
      cases o1 with
      | nx n2 => exact fun σ3 H3 ρ3 F3 R3 p3 x3 => ⟨ρ3, F3, n2, S2, R3, (p1.trans p2).trans p3, (x1.trans x2).trans x3, q⟩
      | ct n2 => exact fun σ3 H3 ρ3 F3 R3 p3 x3 => ⟨ρ3, F3, n2, S2, R3, (p1.trans p2).trans p3, (x1.trans x2).trans x3, q⟩
      | bk n2 =>
        cases q
        exact k.mono (p1.trans p2) (x1.trans x2)
      | rt d =>
        cases q
        exact k.mono (p1.trans p2) (x1.trans x2)
end
end
end VE
set_option Elab.async false
set_option linter.all false
set_option maxRecDepth 100000
set_option maxHeartbeats 2000000
/-! defs over the store -/
namespace VE
noncomputable section
open PySem PySem.Spec L2 Evl
section
variable {K : PySem.W.Frag} {mg : Str → Option Value} {w : Wd} {F F' H H' : Hp} {ρ ρ' : List Addr} {σ σ' : L2.St} {n n' : En2} {S S' : Store}
/-- a callee begins -/
theorem St2.enter (R : St2 K mg w ρ F H σ n S) : St2 K mg ⟨F, H, ρ⟩ ρ F H [] [] S where
  g := Ex.refl F
  s := R.s
  pre := List.prefix_refl _
  nod := R.nod
  own := R.own
  out := fun p o h _ => h
  new := fun p hp => .inl hp
  nof := fun p o _ h => h
  sz := R.sz
  ent := R.ent
  len := rfl
  sl := fun i c h => by simp at h
/-- .. and ends -/
theorem St2.leave (R : St2 K mg w ρ F H σ n S) (C : St2 K mg ⟨F, H, ρ⟩ ρ' F' H' σ' n' S') : St2 K mg w ρ' F' H' σ n S' where
  g := R.g.trans C.g
  s := C.s
  pre := R.pre.trans C.pre
  nod := C.nod
  own := C.own
  out := fun p o h hn => C.out p o (R.out p o h hn) fun hp => by
    rcases R.new p hp with h1 | h1
    · exact hn h1
    · rw [h1] at h
      cases h
  new := fun p hp => by
    rcases C.new p hp with h1 | h1
    · exact R.new p h1
    · right
      cases h0 : w.H0 p with
      | none => rfl
      | some o =>
        have h1 : H p = none := h1
        by_cases hq : p ∈ w.ρ0
        · obtain ⟨o', ho⟩ := R.there (R.pre.subset hq)
          rw [h1] at ho
          cases ho
        · have := R.out p o h0 hq
          rw [h1] at this
          cases this
  nof := fun p o h0 hg => by
    have hF := R.nof p o h0 hg
    by_cases hq : p ∈ w.ρ0
    · obtain ⟨o', ho⟩ := R.there (R.pre.subset hq)
      exact C.nof p o' ho hF
    · exact C.nof p o (R.out p o h0 hq) hF
  sz := C.sz
  ent := C.ent
  len := R.len
  sl := fun i c h => by
    obtain ⟨v, h1, h2⟩ := R.sl i c h
    exact ⟨v, h1, h2.mono C.g C.pre⟩
end
/-- a def's promise: arguments and the caller's whole store, a result and the store behind it -/
def spS (K : PySem.W.Frag) (mg : Str → Option Value) (N : Nat) (m : List Cell → Store → Option (Cell × Store)) : Sp := fun vs H Q _ => ∃ ρ F S cs c S', St2 K mg ⟨F, H, ρ⟩ ρ F H [] [] S ∧ RelCs K F ρ vs cs ∧ cs.length = N ∧ m cs S = some (c, S') ∧
  ∀ v H' ρ' F' σ' n', St2 K mg ⟨F, H, ρ⟩ ρ' F' H' σ' n' S' → ρ <+: ρ' → Ex F F' → RelC K F' ρ' v c → Q v H'
theorem spS_len {K : PySem.W.Frag} {mg : Str → Option Value} {N : Nat} {m : List Cell → Store → Option (Cell × Store)} {vs : List V} {H : Hp} {Q : VK} {E : XK} (h : spS K mg N m vs H Q E) : vs.length = N := by
  obtain ⟨ρ, F, S, cs, c, S', _, r, hl, _⟩ := h
  rw [r.len, hl]
structure Def2 (P : Program) (w : World) (K : PySem.W.Frag) (mg : Str → Option Value) (base : Heap) (x : Str) (k n : Nat) (m : List Cell → Store → Option (Cell × Store)) : Prop where
  ex : ∃ (f : Addr) (fd : FuncData) (ps : List Str), FnOk P w K mg base CX0 k f fd ps (spS K mg n m) ∧ mg x = some (.ref f) ∧ PySem.W.keepIn K (.ref f) = true ∧ L2.Binds K fd ps []
def eD2 (N : Nat) (g : List Cell → Store → Option (Cell × Store)) (ms : M2A) : M2 := fun n S => (ms n S).bind fun a => if a.1.length = N then g a.1 a.2 else none
section
variable {X : Cx} {e : Expr} {es : List Expr} {pos p : Pos} {ms : M2A}
theorem p2_call2 {x : Str} {j k n : Nat} {g : List Cell → Store → Option (Cell × Store)} (D : Def2 X.prog X.w X.K X.mg X.base x k n g) (hr : Room j X.A) (ha : P2A X (e :: es) ms) (hk : k ≤ j := by decide) (hg : Gl X x := by rfl)
    (hdb : (x == ("__debug__" : Str)) = false := by decide) (he : starEach (e :: es) X.env = (false, eval e X.env) :: starEach es X.env := by rfl) (hpl : (backTo pos (starEach es X.env)).any (·.1) = false := by rfl) :
    P2 X (.Call (.Name x p) (e :: es) [] pos) (eD2 n g ms) := by
  obtain ⟨f, fd, ps, Fn, hm, hkp, hb⟩ := D.ex
  refine PE.mono (pe_call Fn (hr.mono hk) hg hm hkp hb .nil pass0 ha hdb he hpl) fun σ H Q h => ?_
  obtain ⟨w, ρ, F, n', S, c, S', R, q, k⟩ := h
  obtain ⟨⟨cs, S1⟩, h1, q⟩ := Option.bind_eq_some_iff.mp q
  by_cases hl : cs.length = n
  case neg =>
    rw [if_neg hl] at q
    cases q
  rw [if_pos hl] at q
  refine ⟨w, ρ, F, n', S, cs, S1, R, h1, fun vs H1 ρ1 F1 R1 p1 x1 r1 => ?_⟩
  show spS X.K X.mg n g (vs ++ []) H1 Q E0
  rw [List.append_nil]
  exact ⟨ρ1, F1, S1, cs, c, S', R1.enter, r1, hl, q, fun v H2 ρ2 F2 σ2 n2 C p2 x2 r2 => k v H2 ρ2 F2 (R1.leave C) (p1.trans p2) (x1.trans x2) r2⟩
end
def run2 (N : List Str) (body : MS2) (cs : List Cell) (S : Store) : Option (Cell × Store) := (body (cs.map some ++ List.replicate (N.length - cs.length) none) S).bind fun o => match o.1 with
  | .rt c => some (c, o.2)
  | .nx _ => some (.d .none, o.2)
  | _ => none
section
variable {P : Program} {w : World} {K : PySem.W.Frag} {mg : Str → Option Value} {base : Heap}
theorem body2_ok {N : List Str} {body : MS2} {vs : List V} {H : Hp} {Q : VK} {E : XK} {n : Nat} (h : spS K mg n (run2 N body) vs H Q E) : tS2 K mg body { nx := fun _ H' => Q .non H', rt := Q } (L2.start N vs) H := by
  obtain ⟨ρ, F, S, cs, c, S', R, r, hl, q, k⟩ := h
  obtain ⟨⟨o, S1⟩, ho, q⟩ := Option.bind_eq_some_iff.mp q
  refine ⟨⟨F, H, ρ⟩, ρ, F, _, S, o, S1, { R with
    len := by simp [L2.start, r.len]
    sl := fun i c h => ?_ }, ho, ?_⟩
  · by_cases hi : i < cs.length
    · rw [List.getElem?_append_left (by simpa using hi), List.getElem?_map] at h
      obtain ⟨c', hc, h⟩ := Option.map_eq_some_iff.mp h
      cases h
      obtain ⟨v, hv, rv⟩ := r.get hc
      refine ⟨v, ?_, rv⟩
      unfold L2.start
      have hi' := (List.getElem?_eq_some_iff.mp hv).1
      rw [List.getElem?_append_left (by simpa using hi'), List.getElem?_map, hv]
      rfl
    · rw [List.getElem?_append_right (by simpa using hi), List.getElem?_replicate] at h
      split at h <;> cases h
  · cases o with
    | rt c' =>
      cases q
      exact fun v H' ρ' F' σ' n' R' p x rv => k v H' ρ' F' σ' n' R' p x rv
    | nx n' =>
      cases q
      exact fun σ' H' ρ' F' R' p x => k .non H' ρ' F' σ' n' R' p x .non
    | bk _ => cases q
    | ct _ => cases q
theorem def2_ok {x : Str} {st : Stmt} {f : Addr} {fd : FuncData} {N ps : List Str} {k : Nat} {body : MS2} (F : FnP K x st f fd) (S : FnScope N ps (defScope st)) (hm : mg x = some (.ref f)) (hb : L2.Binds K fd ps [])
    (h : ∀ (cdv : Value) (A : Around) (outer : List Env) (s : Shared) (H : Hp) (E : XK), Room k (A.deeper (PyProof.Rows.envOfC x (defScope st) s.heap.objs.size f cdv)) → PSs2 (cxOf CX0 P w K mg base N x (defScope st) f cdv A outer s H E).nox (defBody st) body) :
    Def2 P w K mg base x (k + 1) ps.length (run2 N body) :=
  ⟨f, fd, ps, F.ok S (fun vs H Q E h => spS_len h) fun cdv A outer s H vs Q E hr hs => ⟨_, L2.PSs.nox (h cdv A outer s H E hr), body2_ok hs⟩, hm, F.kp, hb⟩
end
end
end VE
set_option Elab.async false
set_option linter.all false
set_option maxRecDepth 100000
set_option maxHeartbeats 2000000
/-! more expressions over the store -/
namespace VE
noncomputable section
open PySem PySem.Spec L2 Evl
section
variable {X : Cx} {e a b o : Expr} {es : List Expr} {pos p : Pos} {m m1 m2 : M2} {ms : M2A}
theorem p2_lst (h : P2A X es ms) : P2 X (.List es pos) (eLst ms) := PE.mono (pe_lst h) fun σ H Q h => by
  obtain ⟨w, ρ, F, n, S, c, S', R, q, k⟩ := h
  obtain ⟨⟨cs, S1⟩, h1, q⟩ := Option.bind_eq_some_iff.mp q
  by_cases hz : cs.length ≤ sizeLine
  case neg =>
    rw [if_neg hz] at q
    cases q
  rw [if_pos hz] at q
  cases q
  refine ⟨w, ρ, F, n, S, cs, S1, R, h1, fun vs H1 ρ1 F1 R1 p1 x1 r1 => ⟨by rw [r1.len]; exact hz, fun p hp => ?_⟩⟩
  have hl : ρ1.length = S1.length := R1.sz.symm
  refine k (.ref p) _ (ρ1 ++ [p]) F1 (R1.alloc hp ⟨vs, upd_same, r1.mono (Ex.refl F1) (pre_append _ _)⟩) (p1.trans (pre_append _ _)) x1 ⟨p, ?_, rfl⟩
  rw [← hl, List.getElem?_append_right (Nat.le_refl _), Nat.sub_self]
  rfl
/-- len(x) -/
def eLen (m : M2) : M2 := fun n S => (m n S).bind fun a => match a.1 with
  | .d x => (vLen [x]).map fun d => (.d d, a.2)
  | .r _ => (lstAt a.2 a.1).map fun x => (.d (.int x.2.length), a.2)
theorem p2_len (he : P2 X e m) (hm : X.mg "len" = none) (hg : Gl X "len" := by rfl) (hs : starEach [e] X.env = (false, eval e X.env) :: starEach [] X.env := by rfl) (hpl : (backTo pos (starEach [] X.env)).any (·.1) = false := by rfl) :
    P2 X (.Call (.Name "len" p) [e] [] pos) (eLen m) := PE.mono (pe_callB (CallR.or call_len_seq call_len_str) hg hm (by decide +kernel) (p2a_cons he p2a_nil hs) (by decide) (by decide) hs hpl) fun σ H Q h => by
  obtain ⟨w, ρ, F, n, S, c, S', R, q, k⟩ := h
  obtain ⟨⟨c1, S1⟩, h1, q⟩ := Option.bind_eq_some_iff.mp q
  refine ⟨w, ρ, F, n, S, [c1], S1, R, by show (m n S).bind _ = _; rw [h1]; rfl, fun vs H1 ρ1 F1 R1 p1 x1 r1 => ?_⟩
  cases r1 with
  | @cons v _ _ _ rv rr =>
    cases rr
    cases c1 with
    | r i =>
      obtain ⟨⟨j, cs⟩, hl, q⟩ := Option.map_eq_some_iff.mp q
      cases q
      obtain ⟨e1, g1⟩ := lstAt_eq hl
      cases e1
      obtain ⟨p, hp, rfl⟩ := rv
      obtain ⟨us, hH, rs⟩ := R1.ent i p _ hp g1
      exact .inl ⟨p, us, rfl, .inl (SqL.of hH), k _ H1 ρ1 F1 R1 p1 x1 (by rw [rs.len]; exact .int _)⟩
    | d x =>
      obtain ⟨z, hz, q⟩ := Option.map_eq_some_iff.mp q
      cases q
      have d1 : Dp X.K F1 v x := rv
      have k2 : ∀ u, Dp X.K F1 u z → Q u H1 := fun u d => k u H1 ρ1 F1 R1 p1 x1 d
      unfold vLen at hz
      split at hz
      · rename_i xs heq
        cases heq
        cases hz
        obtain ⟨p, us, rfl, h2, a2⟩ := dp_lst d1
        exact .inl ⟨p, us, rfl, .inl (ex_l R1.s h2), k2 _ (by rw [dpa_len a2]; exact .int _)⟩
      · rename_i xs heq
        cases heq
        cases hz
        obtain ⟨p, us, rfl, h2, a2⟩ := dp_tup d1
        exact .inl ⟨p, us, rfl, .inr (ex_t R1.s h2), k2 _ (by rw [dpa_len a2]; exact .int _)⟩
      · rename_i z' heq
        cases heq
        by_cases hzz : z'.length ≤ sizeLine
        case neg =>
          rw [if_neg hzz] at hz
          cases hz
        rw [if_pos hzz] at hz
        cases hz
        cases dp_str d1
        exact .inr ⟨_, rfl, hzz, k2 _ (.int _)⟩
      · cases hz
end
/-! ### o.f = e -/
def putC (f : Str) (v : Cell) : List (Str × Cell) → List (Str × Cell)
  | [] => [(f, v)]
  | (g, x) :: r => if g = f then (g, v) :: r else (g, x) :: putC f v r
theorem put_rel {K : PySem.W.Frag} {F : Hp} {ρ : List Addr} {f : Str} {v : V} {c : Cell} (rv : RelC K F ρ v c) : ∀ {vs : List (Str × V)} {fs : List (Str × Cell)}, vs.map (·.1) = fs.map (·.1) → RelCs K F ρ (vs.map (·.2)) (fs.map (·.2)) → (putF f v vs).map (·.1) = (putC f c fs).map (·.1) ∧ RelCs K F ρ ((putF f v vs).map (·.2)) ((putC f c fs).map (·.2))
  | [], [], _, _ => ⟨rfl, .cons rv .nil⟩
  | [], _ :: _, h, _ => by cases h
  | _ :: _, [], h, _ => by cases h
  | (a, u) :: vs, (b, x) :: fs, e, r => by
    rw [List.map_cons, List.map_cons] at e r
    have e1 : a = b := (List.cons.inj e).1
    have e2 := (List.cons.inj e).2
    subst e1
    cases r with
    | cons ru r =>
      unfold putF putC
      by_cases h : a = f
      · rw [if_pos h, if_pos h]
        exact ⟨by rw [List.map_cons, List.map_cons, e2], .cons rv r⟩
      · rw [if_neg h, if_neg h]
        obtain ⟨h1, h2⟩ := put_rel rv e2 r
        exact ⟨by rw [List.map_cons, List.map_cons, h1], .cons ru h2⟩
def objAt (C : Str) (S : Store) : Cell → Option (Nat × List (Str × Cell))
  | .r i => (S[i]?).bind fun e => match e with
    | .o D fs => if D = C then some (i, fs) else none
    | _ => none
  | _ => none
theorem objAt_eq {C : Str} {S : Store} {c : Cell} {i : Nat} {fs : List (Str × Cell)} (h : objAt C S c = some (i, fs)) : c = .r i ∧ S[i]? = some (.o C fs) := by
  cases c with
  | d _ => cases h
  | r j =>
    obtain ⟨e, he, h⟩ := Option.bind_eq_some_iff.mp (show (S[j]?).bind _ = _ from h)
    cases e with
    | o D xs =>
      have h' : (if D = C then some (j, xs) else none) = some (i, fs) := h
      clear h
      by_cases hD : D = C
      · rw [if_pos hD] at h'
        cases h'
        rw [← hD]
        exact ⟨rfl, he⟩
      · rw [if_neg hD] at h'
        cases h'
    | l _ => cases h
    | m _ => cases h
def s2Fld (C f : Str) (mo me : M2) : MS2 := fun n S => (me n S).bind fun a => (mo n a.2).bind fun b => (objAt C b.2 b.1).bind fun x => if x.2.length < 1000 then some (.nx n, b.2.set x.1 (.o C (putC f a.1 x.2))) else none
section
variable {X : Cx} {e o : Expr} {pos p : Pos} {mo me : M2}
theorem ps2_fld {C f : Str} (ho : P2 X o mo) (he : P2 X e me) (hk : ClsKnown X.K X.mg C f) (hs : swapsWith e (some (.Attribute o f p)) pos.line X.env = pure false := by rfl) : PS2 X (.Assign [.Attribute o f p] e pos) (s2Fld C f mo me) := PS.mono (ps_fld ho he hs) fun D σ H h => by
  obtain ⟨w, ρ, F, n, S, out, S', R, q, k⟩ := h
  obtain ⟨⟨c1, S1⟩, h1, q⟩ := Option.bind_eq_some_iff.mp q
  obtain ⟨⟨c2, S2⟩, h2, q⟩ := Option.bind_eq_some_iff.mp q
  obtain ⟨⟨i, fs⟩, h3, q⟩ := Option.bind_eq_some_iff.mp q
  by_cases hl : fs.length < 1000
  case neg =>
    rw [if_neg hl] at q
    cases q
  rw [if_pos hl] at q
  cases q
  obtain ⟨e1, g1⟩ := objAt_eq h3
  have e1 : c2 = .r i := e1
  subst e1
  refine ⟨w, ρ, F, n, S, c1, S1, R, h1, fun v H1 ρ1 F1 R1 p1 x1 r1 => ?_⟩
  refine ⟨w, ρ1, F1, n, S1, _, S2, R1, h2, fun u H2 ρ2 F2 R2 p2 x2 r2 => ?_⟩
  obtain ⟨p, hp, rfl⟩ := r2
  obtain ⟨Ca, dx, vs, hC, hH, hn, rs⟩ := R2.ent i p _ hp g1
  obtain ⟨k1, k2⟩ := hk Ca hC
  obtain ⟨a1, a2⟩ := put_rel (f := f) (r1.mono x2 p2) hn rs
  have hlen : vs.length < 1000 := by
    have := congrArg List.length hn
    rw [List.length_map, List.length_map] at this
    omega
  exact ⟨p, Ca, dx, vs, rfl, hH, k1, k2, hlen, k _ _ ρ2 F2 (R2.put hp ⟨Ca, dx, _, hC, upd_same, a1, a2⟩) (p1.trans p2) (x1.trans x2)⟩
end
/-! ### o[i] = e -/
def s2Put (mo mi me : M2) : MS2 := fun n S => (me n S).bind fun a => (mo n a.2).bind fun b => (mi n b.2).bind fun x => match x.1 with
  | .d (.int k) => (lstAt x.2 b.1).bind fun y => (ixN y.2.length k).map fun j => (.nx n, x.2.set y.1 (.l (y.2.set j a.1)))
  | _ => none
section
variable {X : Cx} {e o b : Expr} {pos p2 : Pos} {mo mi me : M2}
theorem ps2_put (ho : P2 X o mo) (hb : P2 X b mi) (he : P2 X e me)
    (hs : swapsWithSole [.Subscript o b p2] e pos.line X.env = pure false := by rfl) (hw : swappedStores [.Subscript o b p2] e X.env = pure none := by rfl)
    (h1 : (assignEach [.Subscript o b p2] X.env).map (·.2) = [assign (.Subscript o b p2) X.env] := by rfl)
    (hst : ∀ v, assign (.Subscript o b p2) X.env v = (do
      let ov ← holding [v] (eval o X.env)
      let iv ← holding [v, ov] (eval b X.env)
      standAt p2
      holding [v, ov, iv] (setItem ov iv v)
      release [v, ov, iv] []) := by intro _; rfl) :
    PS2 X (.Assign [.Subscript o b p2] e pos) (s2Put mo mi me) := PS.mono (ps_asg he (pg_sub ho hb set_list hst) hs hw h1) fun D σ H h => by
  obtain ⟨w, ρ, F, n, S, out, S', R, q, k⟩ := h
  obtain ⟨⟨c1, S1⟩, h1, q⟩ := Option.bind_eq_some_iff.mp q
  obtain ⟨⟨c2, S2⟩, h2, q⟩ := Option.bind_eq_some_iff.mp q
  obtain ⟨⟨c3, S3⟩, h3, q⟩ := Option.bind_eq_some_iff.mp q
  cases c3 with
  | r _ => cases q
  | d y =>
    cases y with
    | int kk =>
      obtain ⟨⟨i, cs⟩, h4, q⟩ := Option.bind_eq_some_iff.mp q
      obtain ⟨j, hj, q⟩ := Option.map_eq_some_iff.mp q
      cases q
      obtain ⟨e1, g1⟩ := lstAt_eq h4
      have e1 : c2 = .r i := e1
      subst e1
      refine ⟨w, ρ, F, n, S, c1, S1, R, h1, fun v H1 ρ1 F1 R1 p1 x1 r1 => ?_⟩
      refine ⟨w, ρ1, F1, n, S1, _, S2, R1, h2, fun u H2 ρ2 F2 R2 p2 x2 r2 => ?_⟩
      refine ⟨w, ρ2, F2, n, S2, _, S3, R2, h3, fun t H3 ρ3 F3 R3 p3 x3 r3 => ?_⟩
      obtain ⟨p, hp, rfl⟩ := r2.mono x3 p3
      obtain ⟨vs, hH, rs⟩ := R3.ent i p _ hp g1
      cases dp_int r3
      exact ⟨p, vs, kk, j, rfl, rfl, hH, by rw [rs.len]; exact hj, k _ _ ρ3 F3 (R3.put hp ⟨_, upd_same, rs.set (r1.mono (x2.trans x3) (p2.trans p3)) j⟩) ((p1.trans p2).trans p3) ((x1.trans x2).trans x3)⟩
    | _ => cases q
end
end
end VE
set_option Elab.async false
set_option linter.all false
set_option maxRecDepth 100000
set_option maxHeartbeats 2000000
/-! loops over data -/
namespace VE
noncomputable section
open PySem PySem.Spec L2 Evl
def sets2 (n : En2) : List (Nat × PyData) → En2
  | [] => n
  | (i, d) :: r => sets2 (n.set i (some (.d d))) r
def for2 (f : Fl) (b : MS2) : List PyData → MS2
  | [] => fun n S => some (.nx n, S)
  | d :: ds => fun n S => (f d).bind fun as => (b (sets2 n as) S).bind fun o => match o.1 with
    | .nx n2 => for2 f b ds n2 o.2
    | .ct n2 => for2 f b ds n2 o.2
    | .bk n2 => some (.nx n2, o.2)
    | .rt c => some (.rt c, o.2)
def s2For (mi : MA) (f : Fl) (b : MS2) : MS2 := fun n S => (mi (view n)).bind fun ds => for2 f b ds n S
theorem St2.sets {K : PySem.W.Frag} {mg : Str → Option Value} {w : Wd} {F H : Hp} {ρ : List Addr} {S : Store} {bs : List (Nat × V)} {as : List (Nat × PyData)} (h : PairD K F bs as) : ∀ {σ : L2.St} {n : En2}, St2 K mg w ρ F H σ n S → St2 K mg w ρ F H (setsV σ bs) (sets2 n as) S := by
  induction h with
  | nil => exact fun R => R
  | cons d _ ih => exact fun R => ih (R.set (c := .d _) d)
theorem for2_ok {K : PySem.W.Frag} {mg : Str → Option Value} {w : Wd} {g : TG} {f : Fl} {b : MS2} {J : It} {D : Ends} {ρ : List Addr} {F G H : Hp} {σ : L2.St} {ds : List PyData} {n : En2} {S S' : Store} {o : Out2} (hg : TGD K g f)
    (y : Yld K J G ds) (eG : Ex G F) (R : St2 K mg w ρ F H σ n S) (q : for2 f b ds n S = some (o, S')) (k : Post2 K mg w ρ F D S' o) :
    ∃ W : Nat → Nat → L2.St → Hp → Prop, (∃ m, W 0 m σ H) ∧ ∀ i m σ H, W i m σ H →
      (J.stop i H ∧ D.nx σ H) ∨ (J.go i H ∧ ∃ N : L2.St → Hp → Prop, (∀ σ' H', N σ' H' → ∃ m', m' < m ∧ W (i + 1) m' σ' H') ∧ ∀ x H', J.yld i H x H' → g x σ H' fun σ2 H2 => tS2 K mg b { D with nx := N, ct := N, bk := D.nx } σ2 H2) := by
  refine ⟨fun i m σ H => m = ds.length - i ∧ i ≤ ds.length ∧ ∃ ρ1 F1 n S, St2 K mg w ρ1 F1 H σ n S ∧ ρ <+: ρ1 ∧ Ex F F1 ∧ for2 f b (ds.drop i) n S = some (o, S'), ⟨ds.length, by simp, Nat.zero_le _, ρ, F, n, S, R, List.prefix_refl _, Ex.refl F, by simpa using q⟩, ?_⟩
  rintro i m σ H ⟨rfl, hi, ρ1, F1, n, S, R, p1, x1, q⟩
  by_cases hlt : i < ds.length
  · rw [List.drop_eq_getElem_cons hlt] at q
    obtain ⟨as, h1, q⟩ := Option.bind_eq_some_iff.mp q
    obtain ⟨⟨o1, S1⟩, h2, q⟩ := Option.bind_eq_some_iff.mp q
    obtain ⟨hgo, hy⟩ := (y i H ((eG.trans x1).trans R.s)).1 _ (List.getElem?_eq_getElem hlt)
    refine .inr ⟨hgo, fun σ' H' => ∃ ρ1 F1 n S, St2 K mg w ρ1 F1 H' σ' n S ∧ ρ <+: ρ1 ∧ Ex F F1 ∧ for2 f b (ds.drop (i + 1)) n S = some (o, S'), fun σ' H' z => ⟨ds.length - (i + 1), by omega, rfl, hlt, z⟩, fun x H' hx => ?_⟩
    obtain ⟨F', g', dx⟩ := hy x H' hx F1 (eG.trans x1) R.s
    refine hg F' H' σ _ x as g'.s dx h1 _ fun bs hp => ⟨w, ρ1, F', _, S, o1, S1, (R.grow g').sets hp, h2, ?_⟩
    cases o1 with
    | nx n2 => exact fun σ2 H2 ρ2 F2 R2 p2 x2 => ⟨ρ2, F2, n2, S1, R2, p1.trans p2, (x1.trans g'.g).trans x2, q⟩
    | ct n2 => exact fun σ2 H2 ρ2 F2 R2 p2 x2 => ⟨ρ2, F2, n2, S1, R2, p1.trans p2, (x1.trans g'.g).trans x2, q⟩
    | bk n2 =>
      cases q
      exact k.mono p1 (x1.trans g'.g)
    | rt d =>
      cases q
      exact k.mono p1 (x1.trans g'.g)
  · have e : i = ds.length := by omega
    subst e
    rw [List.drop_length] at q
    cases q
    exact .inl ⟨(y _ H ((eG.trans x1).trans R.s)).2 (Nat.le_refl _), k σ H ρ1 F1 R p1 x1⟩
section
variable {X : Cx} {tg e : Expr} {pos : Pos} {body : List Stmt} {mi : MA} {f : Fl} {s1 : MS2}
theorem ps2_for (hi : PIV X tg e mi) (hg : PT1 X tg f) (hb : PSs2 X body s1) (hp : PassesOwn (model X.prog X.w) X.A X.env X.xe := by first | exact PassesOwn.never | assumption) (hc : X.calm = true := by rfl) (hs : ∀ x, foldedSetIterable e X.env x = pure x := by intro _; rfl) : PS2 X (.For tg e body [] pos) (s2For mi f s1) := by
  obtain ⟨g, pg, kg⟩ := hg
  refine PS.mono (ps_for hp hc hi pg hb hs) fun D σ H h => ?_
  obtain ⟨w, ρ, F, n, S, o, S', R, q, k⟩ := h
  obtain ⟨ds, hd, q⟩ := Option.bind_eq_some_iff.mp q
  exact ⟨F, view n, ds, R.s, R.vr, hd, fun J H1 G1 g1 y => for2_ok kg y (Ex.refl G1) (R.grow g1) q (k.mono (List.prefix_refl _) g1.g)⟩
end
end
end VE
set_option Elab.async false
set_option linter.all false
set_option maxRecDepth 100000
set_option maxHeartbeats 2000000
/-! tests over the store -/
namespace VE
noncomputable section
open PySem PySem.Spec L2 Evl
/-- truth: data, or a list of the store -/
def tTru (m : M2) : MT2 := fun n S => (m n S).bind fun a => match a.1 with
  | .d x => (truD x).map fun b => (b, a.2)
  | .r _ => (lstAt a.2 a.1).map fun x => (!x.2.isEmpty, a.2)
def tNot (m : MT2) : MT2 := fun n S => (m n S).map fun a => (!a.1, a.2)
def tP (m : MT) : MT2 := fun n S => (m (view n)).map fun b => (b, S)
section
variable {X : Cx} {e a b : Expr} {pos : Pos} {m : M2} {mt : MT2} {m0 : MT}
theorem pb2_of (h : PB X e m0) : PB2 X e (tP m0) := PT.mono h fun σ H Q h => by
  obtain ⟨w, ρ, F, n, S, c, S', R, q, k⟩ := h
  obtain ⟨d, hd, q⟩ := Option.map_eq_some_iff.mp q
  cases q
  exact ⟨F, view n, _, R.s, R.vr, hd, fun H1 G1 g1 => k H1 ρ G1 (R.grow g1) (List.prefix_refl _) g1.g⟩
theorem pb2_truth (ha : P2 X a m) (he : ∀ whole, isTrue a X.env whole = (do let v ← whole; standAt a.pos; holding [v] (truthy v)) := by intro _; rfl) : PB2 X a (tTru m) := PT.mono (pt_truth ha he) fun σ H Q h => by
  obtain ⟨w, ρ, F, n, S, c, S', R, q, k⟩ := h
  obtain ⟨⟨c1, S1⟩, h1, q⟩ := Option.bind_eq_some_iff.mp q
  refine ⟨w, ρ, F, n, S, c1, S1, R, h1, fun v H1 ρ1 F1 R1 p1 x1 r1 => ?_⟩
  cases c1 with
  | d x =>
    obtain ⟨b, hb, q⟩ := Option.map_eq_some_iff.mp q
    cases q
    exact ⟨_, dp_tru R1.s r1 hb, k H1 ρ1 F1 R1 p1 x1⟩
  | r i =>
    obtain ⟨⟨j, cs⟩, hl, q⟩ := Option.map_eq_some_iff.mp q
    cases q
    obtain ⟨e1, g1⟩ := lstAt_eq hl
    cases e1
    obtain ⟨p, hp, rfl⟩ := r1
    obtain ⟨vs, hH, rs⟩ := R1.ent i p _ hp g1
    refine ⟨_, .inl ⟨vs, SqL.of hH, ?_⟩, k H1 ρ1 F1 R1 p1 x1⟩
    cases rs <;> rfl
theorem pb2_not (ha : PB2 X a mt) : PB2 X (.UnaryOp .Not a pos) (tNot mt) := PT.mono (pt_not ha) fun σ H Q h => by
  obtain ⟨w, ρ, F, n, S, c, S', R, q, k⟩ := h
  obtain ⟨⟨b, S1⟩, h1, q⟩ := Option.map_eq_some_iff.mp q
  cases q
  exact ⟨w, ρ, F, n, S, b, S1, R, h1, fun H1 ρ1 F1 R1 p1 x1 => k H1 ρ1 F1 R1 p1 x1⟩
/-! ### comparisons of data -/
def tBool (m : M2) : MT2 := fun n S => (m n S).bind fun a => match a.1 with
  | .d x => (asB x).map fun b => (b, a.2)
  | _ => none
theorem t2_op {K : PySem.W.Frag} {mg : Str → Option Value} {g : PyData → PyData → Option PyData} {m1 m2 : M2} {r : L2.R2} (hr : ∀ F x y d e z H Q, Ex F H → Dp K F x d → Dp K F y e → g d e = some z → (∀ v H' G', Gr F H G' H' → Dp K G' v z → Q v H') → r x y H Q) : ∀ σ H Q, tE K mg (eB g m1 m2) σ H Q → tOp r (tE K mg m1) (tE K mg m2) σ H Q := fun σ H Q h => by
  obtain ⟨w, ρ, F, n, S, c, S', R, q, k⟩ := h
  obtain ⟨⟨c1, S1⟩, h1, q⟩ := Option.bind_eq_some_iff.mp q
  obtain ⟨⟨c2, S2⟩, h2, q⟩ := Option.bind_eq_some_iff.mp q
  refine ⟨w, ρ, F, n, S, c1, S1, R, h1, fun v H1 ρ1 F1 R1 p1 x1 r1 => ?_⟩
  refine ⟨w, ρ1, F1, n, S1, c2, S2, R1, h2, fun u H2 ρ2 F2 R2 p2 x2 r2 => ?_⟩
  cases c1 with
  | r _ => cases q
  | d x =>
    cases c2 with
    | r _ => cases q
    | d y =>
      obtain ⟨z, hz, q⟩ := Option.map_eq_some_iff.mp q
      cases q
      exact hr F2 v u x y z H2 Q R2.s (dp_ex x2 r1) r2 hz fun v3 H3 G3 g3 d3 => k v3 H3 ρ2 G3 (R2.grow g3) (p1.trans p2) ((x1.trans x2).trans g3.g) d3
theorem p2_cmp {op : CmpOp} {g : PyData → PyData → Option PyData} {m1 m2 : M2} (ho : OpD X (compareOp op) g) (ha : P2 X a m1) (hb : P2 X b m2) (hm : behindInMarks op b = false) : P2 X (.Compare a [op] [b] pos) (eB g m1 m2) := PE.mono (pe_cmpR ho ha hb hm) (t2_op fun F x y d e z H Q e1 d1 d2 hz k => ⟨F, d, e, z, e1, d1, d2, hz, k⟩)
theorem t2_test {K : PySem.W.Frag} {mg : Str → Option Value} {t : TE} (i : ∀ σ H Q, tE K mg m σ H Q → t σ H Q) : ∀ σ H Q, tT2 K mg (tBool m) σ H Q → tTest t σ H Q := fun σ H Q h => by
  obtain ⟨w, ρ, F, n, S, c, S', R, q, k⟩ := h
  obtain ⟨⟨c1, S1⟩, h1, q⟩ := Option.bind_eq_some_iff.mp q
  refine i σ H _ ⟨w, ρ, F, n, S, c1, S1, R, h1, fun v H1 ρ1 F1 R1 p1 x1 r1 => ?_⟩
  cases c1 with
  | r _ => cases q
  | d x =>
    obtain ⟨b, hb, q⟩ := Option.map_eq_some_iff.mp q
    cases q
    cases asB_eq hb
    cases dp_bool r1
    exact ⟨_, rfl, k H1 ρ1 F1 R1 p1 x1⟩
theorem pb2_cmp {op : CmpOp} {g : PyData → PyData → Option PyData} {m1 m2 : M2} (ho : OpD X (compareOp op) g) (ha : P2 X a m1) (hb : P2 X b m2) (hm : behindInMarks op b = false) : PB2 X (.Compare a [op] [b] pos) (tBool (eB g m1 m2)) := PT.mono (pt_cmpR ho ha hb hm) (t2_test (t2_op fun F x y d e z H Q e1 d1 d2 hz k => ⟨F, d, e, z, e1, d1, d2, hz, k⟩))
/-! ### and, or -/
def tAnd2 (ma mb : MT2) : MT2 := fun n S => (ma n S).bind fun a => if a.1 = true then mb n a.2 else some (false, a.2)
def tOr2 (ma mb : MT2) : MT2 := fun n S => (ma n S).bind fun a => if a.1 = true then some (true, a.2) else mb n a.2
abbrev PBW2 (X : Cx) (e : Expr) (m : MT2) : Prop := PW X e (tT2 X.K X.mg m)
theorem t2_and {K : PySem.W.Frag} {mg : Str → Option Value} {mt mu : MT2} : ∀ σ H Q, tT2 K mg (tAnd2 mt mu) σ H Q → tAnd (tT2 K mg mt) (tT2 K mg mu) σ H Q := fun σ H Q h => by
  obtain ⟨w, ρ, F, n, S, c, S', R, q, k⟩ := h
  obtain ⟨⟨b1, S1⟩, h1, q⟩ := Option.bind_eq_some_iff.mp q
  refine ⟨w, ρ, F, n, S, b1, S1, R, h1, fun H1 ρ1 F1 R1 p1 x1 => ?_⟩
  cases b1 with
  | true => exact iteT ⟨w, ρ1, F1, n, S1, c, S', R1, by simpa using q, fun H2 ρ2 F2 R2 p2 x2 => k H2 ρ2 F2 R2 (p1.trans p2) (x1.trans x2)⟩
  | false =>
    have q' : some (false, S1) = some (c, S') := by simpa using q
    cases q'
    exact iteF (k H1 ρ1 F1 R1 p1 x1)
theorem t2_or {K : PySem.W.Frag} {mg : Str → Option Value} {mt mu : MT2} : ∀ σ H Q, tT2 K mg (tOr2 mt mu) σ H Q → tOr (tT2 K mg mt) (tT2 K mg mu) σ H Q := fun σ H Q h => by
  obtain ⟨w, ρ, F, n, S, c, S', R, q, k⟩ := h
  obtain ⟨⟨b1, S1⟩, h1, q⟩ := Option.bind_eq_some_iff.mp q
  refine ⟨w, ρ, F, n, S, b1, S1, R, h1, fun H1 ρ1 F1 R1 p1 x1 => ?_⟩
  cases b1 with
  | false => exact iteF ⟨w, ρ1, F1, n, S1, c, S', R1, by simpa using q, fun H2 ρ2 F2 R2 p2 x2 => k H2 ρ2 F2 R2 (p1.trans p2) (x1.trans x2)⟩
  | true =>
    have q' : some (true, S1) = some (c, S') := by simpa using q
    cases q'
    exact iteT (k H1 ρ1 F1 R1 p1 x1)
section
variable {rest : List Expr} {mu : MT2}
theorem pbw2_and1 (ha : PB2 X a mt) : PBW2 X (.BoolOp .And [a] pos) mt := pw_and1 ha
theorem pbw2_or1 (ha : PB2 X a mt) : PBW2 X (.BoolOp .Or [a] pos) mt := pw_or1 ha
theorem pbw2_and (ha : PB2 X a mt) (hb : PBW2 X (.BoolOp .And (b :: rest) pos) mu) : PBW2 X (.BoolOp .And (a :: b :: rest) pos) (tAnd2 mt mu) := PW.mono (pw_and ha hb) t2_and
theorem pbw2_or (ha : PB2 X a mt) (hb : PBW2 X (.BoolOp .Or (b :: rest) pos) mu) : PBW2 X (.BoolOp .Or (a :: b :: rest) pos) (tOr2 mt mu) := PW.mono (pw_or ha hb) t2_or
theorem pb2_w (h : PBW2 X a mt) : PB2 X a mt := h.pt
end
end
end
end VE
set_option Elab.async false
set_option linter.all false
set_option maxRecDepth 100000
set_option maxHeartbeats 2000000
/-! slices over the store -/
namespace VE
noncomputable section
open PySem PySem.Spec L2 Evl
def cutC (cs : List Cell) (lo hi : Option Int) : List Cell := (cs.drop (HT.sIx cs.length 0 lo)).take (HT.sIx cs.length cs.length hi - HT.sIx cs.length 0 lo)
def eSl (m : M2) (ml mh : MO) : M2 := fun n S => (m n S).bind fun a => (lstAt a.2 a.1).bind fun x => (ml (view n)).bind fun lo => (mh (view n)).map fun hi => (.r a.2.length, a.2 ++ [.l (cutC x.2 lo hi)])
section
variable {X : Cx} {a : Expr} {pos : Pos} {m : M2}
theorem p2_slice {lo hi : Option Expr} {ml mh : MO} {p2 : Pos} (ha : P2 X a m) (hl : POV X lo ml) (hh : POV X hi mh) : P2 X (.Subscript a (.Slice lo hi none p2) pos) (eSl m ml mh) := PE.mono (pe_slice sl_list ha hl hh) fun σ H Q h => by
  obtain ⟨w, ρ, F, n, S, c, S', R, q, k⟩ := h
  obtain ⟨⟨c1, S1⟩, h1, q⟩ := Option.bind_eq_some_iff.mp q
  obtain ⟨⟨i, cs⟩, h2, q⟩ := Option.bind_eq_some_iff.mp q
  obtain ⟨l, hl, q⟩ := Option.bind_eq_some_iff.mp q
  obtain ⟨u, hu, q⟩ := Option.map_eq_some_iff.mp q
  cases q
  obtain ⟨e1, g1⟩ := lstAt_eq h2
  have e1 : c1 = .r i := e1
  subst e1
  refine ⟨w, ρ, F, n, S, _, S1, R, h1, fun v H1 ρ1 F1 R1 p1 x1 r1 => ?_⟩
  refine ⟨F1, view n, l, R1.s, R1.vr, hl, fun H2 F2 g2 => ?_⟩
  have R2 := R1.grow g2
  refine ⟨F2, view n, u, R2.s, R2.vr, hu, fun H3 F3 g3 => ?_⟩
  have R3 := R2.grow g3
  obtain ⟨p, hp, rfl⟩ := r1
  obtain ⟨vs, hH, rs⟩ := R3.ent i p _ hp g1
  refine ⟨p, vs, rfl, SqL.of hH, fun q hq => ?_⟩
  have hlen : ρ1.length = S1.length := R1.sz.symm
  have rc : RelCs X.K F3 ρ1 ((vs.drop (HT.sIx vs.length 0 l)).take (HT.sIx vs.length vs.length u - HT.sIx vs.length 0 l)) (cutC cs l u) := by
    unfold cutC
    rw [rs.len]
    exact (rs.drop _).take _
  refine k (.ref q) _ (ρ1 ++ [q]) F3 (R3.alloc hq ⟨_, upd_same, rc.mono (Ex.refl F3) (pre_append _ _)⟩) (p1.trans (pre_append _ _)) ((x1.trans g2.g).trans g3.g) ⟨q, ?_, rfl⟩
  rw [← hlen, List.getElem?_append_right (Nat.le_refl _), Nat.sub_self]
  rfl
/-- tuple(x): of a list of the store that holds data alone, or of data -/
def eTup (m : M2) : M2 := fun n S => (m n S).bind fun a => match a.1 with
  | .d x => (vTuple [x]).map fun d => (.d d, a.2)
  | .r _ => (lstAt a.2 a.1).bind fun x => (datas x.2).map fun ds => (.d (.tuple ds), a.2)
theorem p2_tuple {e : Expr} {p : Pos} (he : P2 X e m) (hm : X.mg "tuple" = none) (hg : Gl X "tuple" := by rfl) (hs : starEach [e] X.env = (false, eval e X.env) :: starEach [] X.env := by rfl) (hpl : (backTo pos (starEach [] X.env)).any (·.1) = false := by rfl) :
    P2 X (.Call (.Name "tuple" p) [e] [] pos) (eTup m) := PE.mono (pe_callTy call_tuple_of hg hm (by decide +kernel) (p2a_cons he p2a_nil hs) (by decide) (by decide) hs hpl) fun σ H Q h => by
  obtain ⟨w, ρ, F, n, S, c, S', R, q, k⟩ := h
  obtain ⟨⟨c1, S1⟩, h1, q⟩ := Option.bind_eq_some_iff.mp q
  refine ⟨w, ρ, F, n, S, [c1], S1, R, by show (m n S).bind _ = _; rw [h1]; rfl, fun vs H1 ρ1 F1 R1 p1 x1 r1 => ?_⟩
  cases r1 with
  | @cons v _ _ _ rv rr =>
    cases rr
    cases c1 with
    | r i =>
      obtain ⟨⟨j, cs⟩, hl, q⟩ := Option.bind_eq_some_iff.mp q
      obtain ⟨ds, hd, q⟩ := Option.map_eq_some_iff.mp q
      cases q
      obtain ⟨e1, g1⟩ := lstAt_eq hl
      cases e1
      obtain ⟨p, hp, rfl⟩ := rv
      obtain ⟨us, hH, rs⟩ := R1.ent i p _ hp g1
      exact ⟨p, us, rfl, .inl ⟨SqL.of hH, fin_t R1.s (datas_ok rs hd) fun v H2 G2 g2 d2 => k v H2 ρ1 G2 (R1.grow g2) p1 (x1.trans g2.g) d2⟩⟩
    | d x =>
      obtain ⟨z, hz, q⟩ := Option.map_eq_some_iff.mp q
      cases q
      have d1 : Dp X.K F1 v x := rv
      have k2 : ∀ v H' G', Gr F1 H1 G' H' → Dp X.K G' v z → Q v H' := fun v H2 G2 g2 d2 => k v H2 ρ1 G2 (R1.grow g2) p1 (x1.trans g2.g) d2
      unfold vTuple at hz
      split at hz
      · rename_i xs heq
        cases heq
        cases hz
        obtain ⟨p, us, rfl, h2, a2⟩ := dp_lst d1
        exact ⟨p, us, rfl, .inl ⟨ex_l R1.s h2, fin_t R1.s a2 k2⟩⟩
      · rename_i xs heq
        cases heq
        cases hz
        obtain ⟨p, us, rfl, h2, a2⟩ := dp_tup d1
        exact ⟨p, us, rfl, .inr ⟨ex_t R1.s h2, fin_v R1.s d1 k2⟩⟩
      · cases hz
end
end
end VE
set_option Elab.async false
set_option linter.all false
set_option maxRecDepth 100000
set_option maxHeartbeats 2000000
/-! for over range(..), its ends read off the store -/
namespace VE
noncomputable section
open PySem PySem.Spec L2 Evl
def s2ForR (rng : List PyData → Option (List PyData)) (ms : M2A) (f : Fl) (b : MS2) : MS2 := fun n S => (ms n S).bind fun a => (datas a.1).bind fun ds => (rng ds).bind fun its => for2 f b its n a.2
section
variable {X : Cx} {tg a b : Expr} {p pos pos2 : Pos} {body : List Stmt} {ms : M2A} {f : Fl} {s1 : MS2}
theorem ps2_forR1 (hm : X.mg "range" = none) (ha : P2A X [a] ms) (hg : PT1 X tg f) (hb : PSs2 X body s1) (hgl : Gl X "range" := by rfl) (hs : starEach [a] X.env = [(false, eval a X.env)] := by rfl) (hp : PassesOwn (model X.prog X.w) X.A X.env X.xe := by first | exact PassesOwn.never | assumption) (hc : X.calm = true := by rfl)
    (hfs : ∀ x, foldedSetIterable (.Call (.Name "range" p) [a] [] pos2) X.env x = pure x := by intro _; rfl) : PS2 X (.For tg (.Call (.Name "range" p) [a] [] pos2) body [] pos) (s2ForR rng1 ms f s1) := by
  obtain ⟨g, pg, kg⟩ := hg
  refine PS.mono (ps_for hp hc (pi_range1 hgl hm ha hs) pg hb hfs) fun D σ H h => ?_
  obtain ⟨w, ρ, F, n, S, o, S', R, q, k⟩ := h
  obtain ⟨⟨cs, S1⟩, h1, q⟩ := Option.bind_eq_some_iff.mp q
  obtain ⟨ds, hd, q⟩ := Option.bind_eq_some_iff.mp q
  obtain ⟨its, hi, q⟩ := Option.bind_eq_some_iff.mp q
  refine ⟨w, ρ, F, n, S, cs, S1, R, h1, fun vs H1 ρ1 F1 R1 p1 x1 r1 => ?_⟩
  have al := datas_ok r1 hd
  unfold rng1 at hi
  split at hi
  · rename_i jj
    obtain ⟨v, rfl, h1⟩ := dpa1 al
    by_cases hz : -(2 ^ 62) ≤ jj ∧ jj < 2 ^ 62
    case neg =>
      rw [if_neg hz] at hi
      cases hi
    rw [if_pos hz] at hi
    cases hi
    cases dp_int h1
    exact ⟨_, rfl, hz.1, hz.2, for2_ok kg (yld_range 0 _) (Ex.refl F1) R1 q (k.mono p1 x1)⟩
  · cases hi
end
end
end VE
set_option Elab.async false
set_option linter.all false
set_option maxRecDepth 100000
set_option maxHeartbeats 2000000
/-! break, continue, a, b = e, x op= e, o[i] op= e, o.f op= e; is None; dicts -/
namespace VE
noncomputable section
open PySem PySem.Spec L2 Evl
def s2Brk : MS2 := fun n S => some (.bk n, S)
def s2Cnt : MS2 := fun n S => some (.ct n, S)
section
variable {X : Cx} {e o tg value : Expr} {pos p p2 : Pos} {m mo me mi : M2}
theorem ps2_break : PS2 X (.Break pos) s2Brk := PS.mono ps_break fun D σ H h => by
  obtain ⟨w, ρ, F, n, S, o, S', R, q, k⟩ := h
  cases q
  exact k σ H ρ F R (List.prefix_refl _) (Ex.refl F)
theorem ps2_continue : PS2 X (.Continue pos) s2Cnt := PS.mono ps_continue fun D σ H h => by
  obtain ⟨w, ρ, F, n, S, o, S', R, q, k⟩ := h
  cases q
  exact k σ H ρ F R (List.prefix_refl _) (Ex.refl F)
/-- a, b = e (a value) -/
def s2AsgT (f : Fl) (m : M2) : MS2 := fun n S => (m n S).bind fun a => match a.1 with
  | .d x => (f x).map fun as => (.nx (sets2 n as), a.2)
  | .r _ => none
theorem ps2_asgT {f : Fl} (he : P2 X e m) (hg : PT1 X tg f) (hs : swapsWithSole [tg] e pos.line X.env = pure false := by rfl) (hw : swappedStores [tg] e X.env = pure none := by rfl)
    (h1 : (assignEach [tg] X.env).map (·.2) = [assign tg X.env] := by rfl) : PS2 X (.Assign [tg] e pos) (s2AsgT f m) := by
  obtain ⟨g, pg, kg⟩ := hg
  refine PS.mono (ps_asg he pg hs hw h1) fun D σ H h => ?_
  obtain ⟨w, ρ, F, n, S, out, S', R, q, k⟩ := h
  obtain ⟨⟨c1, S1⟩, h1, q⟩ := Option.bind_eq_some_iff.mp q
  cases c1 with
  | r _ => cases q
  | d x =>
    obtain ⟨as, ha, q⟩ := Option.map_eq_some_iff.mp q
    cases q
    refine ⟨w, ρ, F, n, S, _, S1, R, h1, fun v H1 ρ1 F1 R1 p1 x1 r1 => ?_⟩
    exact kg F1 H1 σ x v as R1.s r1 ha _ fun bs hp => k _ _ ρ1 F1 (R1.sets hp) p1 x1
/-- x op= e of data -/
def s2Aug (g : PyData → PyData → Option PyData) (i : Nat) (m : M2) : MS2 := fun n S => match n[i]? with
  | some (some (.d x)) => (m n S).bind fun a => match a.1 with
    | .d y => (g x y).map fun z => (.nx (n.set i (some (.d z))), a.2)
    | .r _ => none
  | _ => none
theorem ps2_aug {op : Operator} {g : PyData → PyData → Option PyData} (ho : OpD X (inplaceOp op) g) (i : Nat) {x : Str} {pos' : Pos} (hN : X.N.Nodup) (he : P2 X e m) (hi : X.N[i]? = some x := by rfl) (hx : Loc X.env.scope x := by first | exact .inl rfl | exact .inr rfl) (hf : X.fn x = true ∨ X.env.scope.names.lookup x = some .local := by first | exact .inl rfl | exact .inr rfl) :
    PS2 X (.AugAssign (.Name x pos') op e pos) (s2Aug g i m) := PS.mono (ps_aug (ti := fun x y H Q => ∃ F d e z, Ex F H ∧ Dp X.K F x d ∧ Dp X.K F y e ∧ g d e = some z ∧ ∀ v H' F', Gr F H F' H' → Dp X.K F' v z → Q v H') hN hi hx he (by
      intro pins s σ H x y v u Q I r1 r2 h
      obtain ⟨F, d, e, z, eF, d1, d2, hz, k⟩ := h
      exact ho pins s σ H x y v u Q I r1 r2 ⟨F, d, e, z, eF, d1, d2, hz, k⟩) hf) fun D σ H h => by
  obtain ⟨w, ρ, F, n, S, out, S', R, q, k⟩ := h
  unfold s2Aug at q
  split at q
  · rename_i x0 hx0
    obtain ⟨⟨c1, S1⟩, h1, q⟩ := Option.bind_eq_some_iff.mp q
    cases c1 with
    | r _ => cases q
    | d y =>
      obtain ⟨z, hz, q⟩ := Option.map_eq_some_iff.mp q
      cases q
      obtain ⟨v, hv, rv⟩ := R.sl i _ hx0
      refine ⟨v, hv, w, ρ, F, n, S, _, S1, R, h1, fun u H1 ρ1 F1 R1 p1 x1 r1 => ?_⟩
      exact ⟨F1, x0, y, z, R1.s, dp_ex x1 rv, r1, hz, fun v3 H3 F3 g3 d3 => k _ _ ρ1 F3 ((R1.grow g3).set (c := .d z) d3) p1 (x1.trans g3.g)⟩
  · cases q
/-! ### o[i] op= e, ints of a list -/
def rGetL : V → V → Hp → VK → Prop := fun x y H Q => ∃ p xs i v, x = .ref p ∧ y = .int i ∧ H p = some (.lst xs) ∧ atI xs i = some v ∧ Q v H
theorem get_list : PGet X rGetL := by
  intro pins s σ H x y v u Q I rx ry h
  obtain ⟨p, xs, i, z, rfl, rfl, hq, he, q⟩ := h
  cases rx
  obtain ⟨t, rfl⟩ := ry
  obtain ⟨its, r, pl, hz⟩ := I.list (SqL.of hq)
  obtain ⟨j, h1, h2, h3, h4, h5⟩ := atI_get he
  obtain ⟨w, ew, rw'⟩ := r.get h2
  have hl := r.length
  have hn := line63
  have fin : EP X pins σ Q w s := ⟨z, H, I, rw', q⟩
  by_cases h0 : 0 ≤ i
  · have hj : i.toNat = j := by
      rw [seqIndex_of h0 h5] at h1
      exact Option.some.inj h1
    exact wpAny_getItem_list pl.isList h0 (by omega) (by rw [hj]; simpa using ew) fin
  · have hj : (i + (its.toArray.size : Int)).toNat = j := by
      rw [seqIndex_neg (by omega) h4] at h1
      rw [List.size_toArray, ← hl]
      exact Option.some.inj h1
    exact wpAny_getItem_list_neg pl.isList (by omega) (by rw [List.size_toArray] <;> omega) (by omega) (by rw [hj]; simpa using ew) fin
def s2AugS (f : Int → Int → Int) (mo mi : M2) (me : M) : MS2 := fun n S => (mo n S).bind fun a => (mi n a.2).bind fun b => match b.1 with
  | .d (.int k) => (lstAt b.2 a.1).bind fun y => (ixN y.2.length k).bind fun j => match y.2[j]? with
    | some (.d (.int x)) => (me (view n)).bind fun c => match c with
      | .int z => some (.nx n, b.2.set y.1 (.l (y.2.set j (.d (.int (f x z))))))
      | _ => none
    | _ => none
  | _ => none
theorem ps2_augS {op : Operator} {f : Int → Int → Int} {i : Expr} {tpos : Pos} {me : M} (hp : PIp X op (ipI f)) (ho : P2 X o mo) (hi : P2 X i mi) (he : PV X e me)
    (ha : ∀ ov iv new, augStore i ov iv new = (do holding [new, ov, iv] (setItem ov iv new); release [new, ov, iv] []; pure .next) := by intros; rfl) : PS2 X (.AugAssign (.Subscript o i tpos) op e pos) (s2AugS f mo mi me) := PS.mono (ps_augS ho hi get_list he hp set_list ha) fun D σ H h => by
  obtain ⟨w, ρ, F, n, S, out, S', R, q, k⟩ := h
  obtain ⟨⟨c1, S1⟩, h1, q⟩ := Option.bind_eq_some_iff.mp q
  obtain ⟨⟨c2, S2⟩, h2, q⟩ := Option.bind_eq_some_iff.mp q
  cases c2 with
  | r _ => cases q
  | d y =>
    cases y with
    | int kk =>
      obtain ⟨⟨l, cs⟩, h4, q⟩ := Option.bind_eq_some_iff.mp q
      obtain ⟨j, hj, q⟩ := Option.bind_eq_some_iff.mp q
      have q : (match cs[j]? with
        | some (.d (.int x)) => (me (view n)).bind fun c => match c with
          | .int z => some (Out2.nx n, S2.set l (.l (cs.set j (.d (.int (f x z))))))
          | _ => none
        | _ => none) = some (out, S') := q
      split at q
      case h_2 => cases q
      rename_i x hx
      obtain ⟨cz, hcz, q⟩ := Option.bind_eq_some_iff.mp q
      cases cz with
      | int z =>
        cases q
        obtain ⟨e1, g1⟩ := lstAt_eq h4
        have e1 : c1 = .r l := e1
        subst e1
        refine ⟨w, ρ, F, n, S, _, S1, R, h1, fun v H1 ρ1 F1 R1 p1 x1 r1 => ?_⟩
        refine ⟨w, ρ1, F1, n, S1, _, S2, R1, h2, fun u H2 ρ2 F2 R2 p2 x2 r2 => ?_⟩
        obtain ⟨p, hp, rfl⟩ := r1.mono x2 p2
        obtain ⟨vs, hH, rs⟩ := R2.ent l p _ hp g1
        cases dp_int r2
        obtain ⟨u0, hu0, ru0⟩ := rs.get hx
        cases dp_int ru0
        refine ⟨p, vs, kk, .int x, rfl, rfl, hH, ?_, ?_⟩
        · unfold atI
          rw [rs.len]
          rw [hj]
          exact hu0
        refine ⟨F2, view n, _, R2.s, R2.vr, hcz, fun t H3 F3 g3 d3 => ?_⟩
        cases dp_int d3
        have R3 := R2.grow g3
        obtain ⟨vs3, hH3, rs3⟩ := R3.ent l p _ hp g1
        exact ⟨x, z, rfl, rfl, p, vs3, kk, j, rfl, rfl, hH3, by rw [rs3.len]; exact hj, k _ _ ρ2 F3 (R3.put hp ⟨_, upd_same, rs3.set (c := .d _) (.int _) j⟩) (p1.trans p2) ((x1.trans x2).trans g3.g)⟩
      | _ => cases q
    | _ => cases q
/-! ### o.f op= e -/
def s2FldAug (C fl : Str) (f : Int → Int → Int) (mo : M2) (me : M) : MS2 := fun n S => (mo n S).bind fun a => (objAt C a.2 a.1).bind fun y => match y.2.lookup fl with
  | some (.d (.int x)) => (me (view n)).bind fun c => match c with
    | .int z => if y.2.length < 1000 then some (.nx n, a.2.set y.1 (.o C (putC fl (.d (.int (f x z))) y.2))) else none
    | _ => none
  | _ => none
def rI (f : Int → Int → Int) : V → V → Hp → VK → Prop := fun x y H Q => ∃ i j, x = .int i ∧ y = .int j ∧ Q (.int (f i j)) H
theorem ps2_fldaug {op : Operator} {C fl : Str} {f : Int → Int → Int} {tpos : Pos} {me : M} (hop : InOp X op (rI f)) (hk : ClsKnown X.K X.mg C fl) (ho : P2 X o mo) (he : PV X e me) : PS2 X (.AugAssign (.Attribute o fl tpos) op e pos) (s2FldAug C fl f mo me) := PS.mono (ps_fldaug ho he hop) fun D σ H h => by
  obtain ⟨w, ρ, F, n, S, out, S', R, q, k⟩ := h
  obtain ⟨⟨c1, S1⟩, h1, q⟩ := Option.bind_eq_some_iff.mp q
  obtain ⟨⟨l, fs⟩, h4, q⟩ := Option.bind_eq_some_iff.mp q
  have q : (match fs.lookup fl with
  | some (.d (.int x)) => (me (view n)).bind fun c => match c with
    | .int z => if fs.length < 1000 then some (Out2.nx n, S1.set l (.o C (putC fl (.d (.int (f x z))) fs))) else none
    | _ => none
  | _ => none) = some (out, S') := q
  split at q
  case h_2 => cases q
  rename_i x hx
  obtain ⟨cz, hcz, q⟩ := Option.bind_eq_some_iff.mp q
  cases cz with
  | int z =>
    have q : (if fs.length < 1000 then some (Out2.nx n, S1.set l (.o C (putC fl (.d (.int (f x z))) fs))) else none) = some (out, S') := q
    by_cases hl : fs.length < 1000
    case neg =>
      rw [if_neg hl] at q
      cases q
    rw [if_pos hl] at q
    cases q
    obtain ⟨e1, g1⟩ := objAt_eq h4
    have e1 : c1 = .r l := e1
    subst e1
    refine ⟨w, ρ, F, n, S, _, S1, R, h1, fun v H1 ρ1 F1 R1 p1 x1 r1 => ?_⟩
    obtain ⟨p, hp, rfl⟩ := r1
    obtain ⟨Ca, dx, vs, hC, hH, hn, rs⟩ := R1.ent l p _ hp g1
    obtain ⟨u, hu, ru⟩ := relcs_lookup hn rs hx
    cases dp_int ru
    obtain ⟨k1, k2⟩ := hk Ca hC
    refine ⟨p, Ca, dx, vs, .int x, rfl, hH, k1, k2, hu, F1, view n, _, R1.s, R1.vr, hcz, fun t H3 F3 g3 d3 => ?_⟩
    cases dp_int d3
    have R3 := R1.grow g3
    obtain ⟨Ca3, dx3, vs3, hC3, hH3, hn3, rs3⟩ := R3.ent l p _ hp g1
    have eC : Ca3 = Ca := by
      have := hC3.symm.trans hC
      cases this
      rfl
    subst eC
    obtain ⟨a1, a2⟩ := put_rel (f := fl) (v := .int (f x z)) (c := .d (.int (f x z))) (.int _) hn3 rs3
    have hlen : vs3.length < 1000 := by
      have := congrArg List.length hn3
      rw [List.length_map, List.length_map] at this
      omega
    exact ⟨x, z, rfl, rfl, dx3, vs3, hH3, hlen, k _ _ ρ1 F3 (R3.put hp ⟨Ca3, dx3, _, hC3, upd_same, a1, a2⟩) p1 (x1.trans g3.g)⟩
  | _ => cases q
end
/-! ### is None -/
def isNC : Cell → Bool
  | .d .none => true
  | _ => false
theorem isNC_ok {K : PySem.W.Frag} {F : Hp} {ρ : List Addr} {v : V} {c : Cell} (r : RelC K F ρ v c) : decide (v = .non) = isNC c := by
  cases c with
  | r i =>
    obtain ⟨p, _, rfl⟩ := r
    rfl
  | d x =>
    have r : Dp K F v x := r
    cases r <;> rfl
def eIsN (m : M2) : M2 := fun n S => (m n S).map fun a => (.d (.bool (isNC a.1)), a.2)
def eNotN (m : M2) : M2 := fun n S => (m n S).map fun a => (.d (.bool (!isNC a.1)), a.2)
section
variable {X : Cx} {a : Expr} {pos pos' : Pos} {j : Nat} {m : M2}
theorem t2_isN {K : PySem.W.Frag} {mg : Str → Option Value} : ∀ σ H Q, tE K mg (eIsN m) σ H Q → tIsN (tE K mg m) σ H Q := fun σ H Q h => by
  obtain ⟨w, ρ, F, n, S, c, S', R, q, k⟩ := h
  obtain ⟨⟨c1, S1⟩, h1, q⟩ := Option.map_eq_some_iff.mp q
  cases q
  refine ⟨w, ρ, F, n, S, c1, S1, R, h1, fun v H1 ρ1 F1 R1 p1 x1 r1 => ?_⟩
  show Q (.bl (decide (v = .non))) H1
  rw [isNC_ok r1]
  exact k _ H1 ρ1 F1 R1 p1 x1 (show Dp K F1 _ _ from .bl _)
theorem t2_notN {K : PySem.W.Frag} {mg : Str → Option Value} : ∀ σ H Q, tE K mg (eNotN m) σ H Q → tNotN (tE K mg m) σ H Q := fun σ H Q h => by
  obtain ⟨w, ρ, F, n, S, c, S', R, q, k⟩ := h
  obtain ⟨⟨c1, S1⟩, h1, q⟩ := Option.map_eq_some_iff.mp q
  cases q
  refine ⟨w, ρ, F, n, S, c1, S1, R, h1, fun v H1 ρ1 F1 R1 p1 x1 r1 => ?_⟩
  show Q (.bl (!decide (v = .non))) H1
  rw [isNC_ok r1]
  exact k _ H1 ρ1 F1 R1 p1 x1 (show Dp K F1 _ _ from .bl _)
theorem t2_B {K : PySem.W.Frag} {mg : Str → Option Value} {t : TE} (i : ∀ σ H Q, tE K mg m σ H Q → t σ H Q) : ∀ σ H Q, tT2 K mg (tBool m) σ H Q → tB t σ H Q := fun σ H Q h => by
  obtain ⟨w, ρ, F, n, S, c, S', R, q, k⟩ := h
  obtain ⟨⟨c1, S1⟩, h1, q⟩ := Option.bind_eq_some_iff.mp q
  refine i σ H _ ⟨w, ρ, F, n, S, c1, S1, R, h1, fun v H1 ρ1 F1 R1 p1 x1 r1 => ?_⟩
  cases c1 with
  | r _ => cases q
  | d x =>
    obtain ⟨b, hb, q⟩ := Option.map_eq_some_iff.mp q
    cases q
    cases asB_eq hb
    cases dp_bool r1
    exact ⟨_, rfl, k H1 ρ1 F1 R1 p1 x1⟩
theorem p2_isN (ha : P2 X a m) : P2 X (.Compare a [.Is] [.Constant .none j pos'] pos) (eIsN m) := PE.mono (pe_cmp (pc_isN ha)) t2_isN
theorem p2_notN (ha : P2 X a m) : P2 X (.Compare a [.IsNot] [.Constant .none j pos'] pos) (eNotN m) := PE.mono (pe_cmp (pc_notN ha)) t2_notN
theorem pb2_isN (ha : P2 X a m) : PB2 X (.Compare a [.Is] [.Constant .none j pos'] pos) (tBool (eIsN m)) := PT.mono (pt_cmp (pc_isN ha)) (t2_B t2_isN)
theorem pb2_notN (ha : P2 X a m) : PB2 X (.Compare a [.IsNot] [.Constant .none j pos'] pos) (tBool (eNotN m)) := PT.mono (pt_cmp (pc_notN ha)) (t2_B t2_notN)
end
end
end VE
set_option Elab.async false
set_option linter.all false
set_option maxRecDepth 100000
set_option maxHeartbeats 2000000
/-! dicts of the store -/
namespace VE
noncomputable section
open PySem PySem.Spec L2 Evl
def keyD : PyData → Option Key
  | .int i => some (.inl i)
  | .str s => some (.inr s)
  | _ => none
def getC (kvs : List (Key × Cell)) (k : Key) : Option Cell := (kvs.find? fun kv => decide (kv.1 = k)).map (·.2)
def putKC (kvs : List (Key × Cell)) (k : Key) (v : Cell) : List (Key × Cell) :=
  if (kvs.any fun kv => decide (kv.1 = k)) = true then kvs.map (fun kv => if kv.1 = k then (kv.1, v) else kv) else kvs ++ [(k, v)]
def dicAt (S : Store) : Cell → Option (Nat × List (Key × Cell))
  | .r i => (S[i]?).bind fun e => match e with
    | .m kvs => some (i, kvs)
    | _ => none
  | _ => none
theorem dicAt_eq {S : Store} {c : Cell} {i : Nat} {kvs : List (Key × Cell)} (h : dicAt S c = some (i, kvs)) : c = .r i ∧ S[i]? = some (.m kvs) := by
  cases c with
  | d _ => cases h
  | r j =>
    obtain ⟨e, he, h⟩ := Option.bind_eq_some_iff.mp (show (S[j]?).bind _ = _ from h)
    cases e with
    | m xs =>
      cases h
      exact ⟨rfl, he⟩
    | o _ _ => cases h
    | l _ => cases h
inductive RelKs (K : PySem.W.Frag) (F : Hp) (ρ : List Addr) : List (Key × V) → List (Key × Cell) → Prop
  | nil : RelKs K F ρ [] []
  | cons {k v c vs cs} : RelC K F ρ v c → RelKs K F ρ vs cs → RelKs K F ρ ((k, v) :: vs) ((k, c) :: cs)
section
variable {K : PySem.W.Frag} {F : Hp} {ρ : List Addr}
theorem relks_of : ∀ {vs : List (Key × V)} {cs : List (Key × Cell)}, vs.map (·.1) = cs.map (·.1) → RelCs K F ρ (vs.map (·.2)) (cs.map (·.2)) → RelKs K F ρ vs cs
  | [], [], _, _ => .nil
  | [], _ :: _, h, _ => by cases h
  | _ :: _, [], h, _ => by cases h
  | (a, v) :: vs, (b, c) :: cs, h, r => by
    rw [List.map_cons, List.map_cons] at h r
    have e1 : a = b := (List.cons.inj h).1
    subst e1
    cases r with
    | cons rv r => exact .cons rv (relks_of (List.cons.inj h).2 r)
theorem RelKs.keys {vs : List (Key × V)} {cs : List (Key × Cell)} (h : RelKs K F ρ vs cs) : vs.map (·.1) = cs.map (·.1) := by
  induction h with
  | nil => rfl
  | cons _ _ ih => rw [List.map_cons, List.map_cons, ih]
theorem RelKs.vals {vs : List (Key × V)} {cs : List (Key × Cell)} (h : RelKs K F ρ vs cs) : RelCs K F ρ (vs.map (·.2)) (cs.map (·.2)) := by
  induction h with
  | nil => exact .nil
  | cons a _ ih => exact .cons a ih
theorem RelKs.len {vs : List (Key × V)} {cs : List (Key × Cell)} (h : RelKs K F ρ vs cs) : vs.length = cs.length := by
  induction h with
  | nil => rfl
  | cons _ _ ih => rw [List.length_cons, List.length_cons, ih]
theorem RelKs.get {vs : List (Key × V)} {cs : List (Key × Cell)} (h : RelKs K F ρ vs cs) (k : Key) : (valV vs k = none ∧ getC cs k = none) ∨ ∃ v c, valV vs k = some v ∧ getC cs k = some c ∧ RelC K F ρ v c := by
  induction h with
  | nil => exact .inl ⟨rfl, rfl⟩
  | @cons j v c vs cs a _ ih =>
    by_cases e : j = k
    · exact .inr ⟨v, c, valV_pos (p := (j, v)) e, by simp [getC, List.find?_cons, e], a⟩
    · rw [valV_neg (p := (j, v)) e]
      have : getC ((j, c) :: cs) k = getC cs k := by simp [getC, List.find?_cons, e]
      rw [this]
      exact ih
theorem RelKs.any {vs : List (Key × V)} {cs : List (Key × Cell)} (h : RelKs K F ρ vs cs) (k : Key) : (vs.any fun kv => decide (kv.1 = k)) = (cs.any fun kv => decide (kv.1 = k)) := by
  induction h with
  | nil => rfl
  | cons a _ ih => rw [List.any_cons, List.any_cons, ih]
theorem RelKs.map {vs : List (Key × V)} {cs : List (Key × Cell)} {k : Key} {v : V} {c : Cell} (h : RelKs K F ρ vs cs) (r : RelC K F ρ v c) : RelKs K F ρ (vs.map fun kv => if kv.1 = k then (kv.1, v) else kv) (cs.map fun kv => if kv.1 = k then (kv.1, c) else kv) := by
  induction h with
  | nil => exact .nil
  | @cons j v' c' vs cs a _ ih =>
    rw [List.map_cons, List.map_cons]
    by_cases e : j = k
    · rw [if_pos e, if_pos e]
      exact .cons r ih
    · rw [if_neg e, if_neg e]
      exact .cons a ih
theorem RelKs.snoc {vs : List (Key × V)} {cs : List (Key × Cell)} {k : Key} {v : V} {c : Cell} (h : RelKs K F ρ vs cs) (r : RelC K F ρ v c) : RelKs K F ρ (vs ++ [(k, v)]) (cs ++ [(k, c)]) := by
  induction h with
  | nil => exact .cons r .nil
  | cons a _ ih => exact .cons a ih
theorem RelKs.put {vs : List (Key × V)} {cs : List (Key × Cell)} {v : V} {c : Cell} (h : RelKs K F ρ vs cs) (r : RelC K F ρ v c) (k : Key) : RelKs K F ρ (putK vs k v) (putKC cs k c) := by
  unfold putK putKC
  rw [h.any k]
  by_cases e : (cs.any fun kv => decide (kv.1 = k)) = true
  · rw [if_pos e, if_pos e]
    exact h.map r
  · rw [if_neg e, if_neg e]
    exact h.snoc r
end
theorem keyD_eq {K : PySem.W.Frag} {F : Hp} {v : V} {d : PyData} {k : Key} (r : Dp K F v d) (h : keyD d = some k) : v = kV k := by
  cases d with
  | int i =>
    cases h
    cases dp_int r
    rfl
  | str s =>
    cases h
    cases dp_str r
    rfl
  | _ => cases h
/-! ### d[k], k in d, d[k] = v, {}, {k: v} -/
def eDGet (md mi : M2) : M2 := fun n S => (md n S).bind fun a => (mi n a.2).bind fun b => match b.1 with
  | .d x => (keyD x).bind fun k => (dicAt b.2 a.1).bind fun y => (getC y.2 k).map fun c => (c, b.2)
  | .r _ => none
def eDIn (neg : Bool) (mi md : M2) : M2 := fun n S => (mi n S).bind fun a => (md n a.2).bind fun b => match a.1 with
  | .d x => (keyD x).bind fun k => (dicAt b.2 b.1).map fun y => (.d (.bool (if neg then !(getC y.2 k).isSome else (getC y.2 k).isSome)), b.2)
  | .r _ => none
def eDNew : M2 := fun n S => some (.r S.length, S ++ [.m []])
def eDOne (mk mv : M2) : M2 := fun n S => (mk n (S ++ [.m []])).bind fun a => (mv n a.2).bind fun b => match a.1 with
  | .d x => (keyD x).bind fun k => match b.2[S.length]? with
    | some (.m []) => some (.r S.length, b.2.set S.length (.m [(k, b.1)]))
    | _ => none
  | .r _ => none
def s2DPut (md mi mv : M2) : MS2 := fun n S => (mv n S).bind fun a => (md n a.2).bind fun b => (mi n b.2).bind fun x => match x.1 with
  | .d y => (keyD y).bind fun k => (dicAt x.2 b.1).bind fun z => @ite _ (z.2.length < sizeLine) (Classical.propDecidable _) (some (.nx n, x.2.set z.1 (.m (putKC z.2 k a.1)))) none
  | .r _ => none
theorem put_nil (k : Key) (v : V) : putK ([] : List (Key × V)) k v = [(k, v)] := rfl
section
variable {X : Cx} {o i e value : Expr} {pos pos' : Pos} {md mi mv mk : M2} {j : Nat}
theorem p2_dget (hr : Room j X.A) (ho : P2 X o md) (hi : P2 X i mi) (hs : NoSl i := by exact fun _ _ => rfl) : P2 X (.Subscript o i pos) (eDGet md mi) := PE.mono (pe_dget (by have := hr.un; omega) ho hi hs) fun σ H Q h => by
  obtain ⟨w, ρ, F, n, S, c, S', R, q, k⟩ := h
  obtain ⟨⟨c1, S1⟩, h1, q⟩ := Option.bind_eq_some_iff.mp q
  obtain ⟨⟨c2, S2⟩, h2, q⟩ := Option.bind_eq_some_iff.mp q
  refine ⟨w, ρ, F, n, S, c1, S1, R, h1, fun v H1 ρ1 F1 R1 p1 x1 r1 => ?_⟩
  refine ⟨w, ρ1, F1, n, S1, c2, S2, R1, h2, fun u H2 ρ2 F2 R2 p2 x2 r2 => ?_⟩
  cases c2 with
  | r _ => cases q
  | d y =>
    obtain ⟨key, hk, q⟩ := Option.bind_eq_some_iff.mp q
    obtain ⟨⟨l, kvs⟩, h4, q⟩ := Option.bind_eq_some_iff.mp q
    obtain ⟨c', hc', q⟩ := Option.map_eq_some_iff.mp q
    cases q
    obtain ⟨e1, g1⟩ := dicAt_eq h4
    have e1 : c1 = .r l := e1
    subst e1
    obtain ⟨p, hp, rfl⟩ := r1.mono x2 p2
    obtain ⟨vs, hH, hn, rs⟩ := R2.ent l p _ hp g1
    cases keyD_eq r2 hk
    rcases (relks_of hn rs).get key with ⟨_, a2⟩ | ⟨v', c'', a1, a2, a3⟩
    · have hc' : getC kvs key = some _ := hc'
      rw [a2] at hc'
      cases hc'
    · have hc' : getC kvs key = some _ := hc'
      rw [a2] at hc'
      cases hc'
      exact ⟨p, v', rfl, by rw [← a1]; exact DGet.k hH, k v' H2 ρ2 F2 R2 (p1.trans p2) (x1.trans x2) a3⟩
theorem dget_is {K : PySem.W.Frag} {mg : Str → Option Value} {F : Hp} {ρ : List Addr} {H : Hp} {p : Addr} {kvs : List (Key × Cell)} (h : EntR K mg F ρ H p (.m kvs)) (key : Key) : ∃ o : Option V, DGet H p (kV key) o ∧ o.isSome = (getC kvs key).isSome := by
  obtain ⟨vs, hH, hn, rs⟩ := h
  refine ⟨valV vs key, DGet.k hH, ?_⟩
  rcases (relks_of hn rs).get key with ⟨a1, a2⟩ | ⟨v', c'', a1, a2, a3⟩
  · rw [a1, a2]; rfl
  · rw [a1, a2]; rfl
theorem t2_din {K : PySem.W.Frag} {mg : Str → Option Value} : ∀ σ H Q, tE K mg (eDIn false mi md) σ H Q → tDIn (tE K mg mi) (tE K mg md) σ H Q := fun σ H Q h => by
  obtain ⟨w, ρ, F, n, S, c, S', R, q, k⟩ := h
  obtain ⟨⟨c1, S1⟩, h1, q⟩ := Option.bind_eq_some_iff.mp q
  obtain ⟨⟨c2, S2⟩, h2, q⟩ := Option.bind_eq_some_iff.mp q
  refine ⟨w, ρ, F, n, S, c1, S1, R, h1, fun v H1 ρ1 F1 R1 p1 x1 r1 => ?_⟩
  refine ⟨w, ρ1, F1, n, S1, c2, S2, R1, h2, fun u H2 ρ2 F2 R2 p2 x2 r2 => ?_⟩
  cases c1 with
  | r _ => cases q
  | d y =>
    obtain ⟨key, hk, q⟩ := Option.bind_eq_some_iff.mp q
    obtain ⟨⟨l, kvs⟩, h4, q⟩ := Option.map_eq_some_iff.mp q
    cases q
    obtain ⟨e1, g1⟩ := dicAt_eq h4
    have e1 : c2 = .r l := e1
    subst e1
    obtain ⟨p, hp, rfl⟩ := r2
    cases keyD_eq r1 hk
    obtain ⟨o, d1, d2⟩ := dget_is (R2.ent l p _ hp g1) key
    exact ⟨p, o, rfl, d1, k _ H2 ρ2 F2 R2 (p1.trans p2) (x1.trans x2) (show Dp K F2 _ _ from by rw [d2]; exact .bl _)⟩
theorem t2_dnotin {K : PySem.W.Frag} {mg : Str → Option Value} : ∀ σ H Q, tE K mg (eDIn true mi md) σ H Q → tDNotIn (tE K mg mi) (tE K mg md) σ H Q := fun σ H Q h => by
  obtain ⟨w, ρ, F, n, S, c, S', R, q, k⟩ := h
  obtain ⟨⟨c1, S1⟩, h1, q⟩ := Option.bind_eq_some_iff.mp q
  obtain ⟨⟨c2, S2⟩, h2, q⟩ := Option.bind_eq_some_iff.mp q
  refine ⟨w, ρ, F, n, S, c1, S1, R, h1, fun v H1 ρ1 F1 R1 p1 x1 r1 => ?_⟩
  refine ⟨w, ρ1, F1, n, S1, c2, S2, R1, h2, fun u H2 ρ2 F2 R2 p2 x2 r2 => ?_⟩
  cases c1 with
  | r _ => cases q
  | d y =>
    obtain ⟨key, hk, q⟩ := Option.bind_eq_some_iff.mp q
    obtain ⟨⟨l, kvs⟩, h4, q⟩ := Option.map_eq_some_iff.mp q
    cases q
    obtain ⟨e1, g1⟩ := dicAt_eq h4
    have e1 : c2 = .r l := e1
    subst e1
    obtain ⟨p, hp, rfl⟩ := r2
    cases keyD_eq r1 hk
    obtain ⟨o, d1, d2⟩ := dget_is (R2.ent l p _ hp g1) key
    exact ⟨p, o, rfl, d1, k _ H2 ρ2 F2 R2 (p1.trans p2) (x1.trans x2) (show Dp K F2 _ _ from by rw [d2]; exact .bl _)⟩
theorem p2_din (hr : Room j X.A) (hi : P2 X i mi) (ho : P2 X o md) (h1 : behindInMarks .In o = false := by rfl) : P2 X (.Compare i [.In] [o] pos) (eDIn false mi md) := PE.mono (pe_cmp (pc_din (by have := hr.un; omega) hi ho) h1) t2_din
theorem p2_dnotin (hr : Room j X.A) (hi : P2 X i mi) (ho : P2 X o md) (h1 : behindInMarks .NotIn o = false := by rfl) : P2 X (.Compare i [.NotIn] [o] pos) (eDIn true mi md) := PE.mono (pe_cmp (pc_dnotin (by have := hr.un; omega) hi ho) h1) t2_dnotin
theorem pb2_din (hr : Room j X.A) (hi : P2 X i mi) (ho : P2 X o md) (h1 : behindInMarks .In o = false := by rfl) : PB2 X (.Compare i [.In] [o] pos) (tBool (eDIn false mi md)) := PT.mono (pt_cmp (pc_din (by have := hr.un; omega) hi ho) h1) (t2_B t2_din)
theorem pb2_dnotin (hr : Room j X.A) (hi : P2 X i mi) (ho : P2 X o md) (h1 : behindInMarks .NotIn o = false := by rfl) : PB2 X (.Compare i [.NotIn] [o] pos) (tBool (eDIn true mi md)) := PT.mono (pt_cmp (pc_dnotin (by have := hr.un; omega) hi ho) h1) (t2_B t2_dnotin)
theorem p2_dnew : P2 X (.Dict [] [] pos) eDNew := PE.mono pe_dnewK fun σ H Q h => by
  obtain ⟨w, ρ, F, n, S, c, S', R, q, k⟩ := h
  cases q
  intro p hp
  refine k (.ref p) _ (ρ ++ [p]) F (R.alloc hp ⟨[], upd_same, rfl, .nil⟩) (pre_append _ _) (Ex.refl F) ⟨p, ?_, rfl⟩
  rw [← R.sz.symm, List.getElem?_append_right (Nat.le_refl _), Nat.sub_self]
  rfl
theorem p2_done (hk : P2 X i mk) (hv : P2 X value mv) : P2 X (.Dict [some i] [value] pos) (eDOne mk mv) := PE.mono (pe_disp (pps_cons hk hv pps_nil) rfl rfl (by simp) (by simp)) fun σ H Q h => by
  obtain ⟨w, ρ, F, n, S, c, S', R, q, k⟩ := h
  obtain ⟨⟨c1, S1⟩, h1, q⟩ := Option.bind_eq_some_iff.mp q
  obtain ⟨⟨c2, S2⟩, h2, q⟩ := Option.bind_eq_some_iff.mp q
  intro p hp
  have R0 : St2 X.K X.mg w (ρ ++ [p]) F (upd H p (.dK [])) σ n (S ++ [.m []]) := R.alloc hp ⟨[], upd_same, rfl, .nil⟩
  refine ⟨w, ρ ++ [p], F, n, _, c1, S1, R0, h1, fun v H1 ρ1 F1 R1 p1 x1 r1 => ?_⟩
  refine ⟨w, ρ1, F1, n, S1, c2, S2, R1, h2, fun u H2 ρ2 F2 R2 p2 x2 r2 => ?_⟩
  cases c1 with
  | r _ => cases q
  | d y =>
    obtain ⟨key, hkey, q⟩ := Option.bind_eq_some_iff.mp q
    have q : (match S2[S.length]? with
      | some (.m []) => some (Cell.r S.length, S2.set S.length (.m [(key, c2)]))
      | _ => none) = some (c, S') := q
    split at q
    case h_2 => cases q
    rename_i hS
    cases q
    cases keyD_eq (dp_ex x2 r1) hkey
    have hpi : ρ2[S.length]? = some p := by
      refine pre_get (p1.trans p2) ?_
      rw [R.sz, List.getElem?_append_right (Nat.le_refl _), Nat.sub_self]
      rfl
    obtain ⟨vs, hH, hn, rs⟩ := R2.ent _ p _ hpi hS
    have : vs = [] := List.map_eq_nil_iff.mp hn
    subst this
    refine ⟨hH, [(key, u)], rfl, by simp, ?_⟩
    refine k (.ref p) _ ρ2 F2 (R2.put hpi ⟨[(key, u)], upd_same, rfl, .cons r2 .nil⟩) ((pre_append _ _).trans (p1.trans p2)) (x1.trans x2) ⟨p, hpi, rfl⟩
theorem ps2_dput (hr : Room j X.A) (ho : P2 X o md) (hi : P2 X i mi) (hv : P2 X value mv) (hs : swapsWith value (some (.Subscript o i pos')) pos.line X.env = pure false := by rfl) : PS2 X (.Assign [.Subscript o i pos'] value pos) (s2DPut md mi mv) := PS.mono (ps_dput (by have := hr.un; omega) ho hi hv hs) fun D σ H h => by
  obtain ⟨w, ρ, F, n, S, out, S', R, q, k⟩ := h
  obtain ⟨⟨c1, S1⟩, h1, q⟩ := Option.bind_eq_some_iff.mp q
  obtain ⟨⟨c2, S2⟩, h2, q⟩ := Option.bind_eq_some_iff.mp q
  obtain ⟨⟨c3, S3⟩, h3, q⟩ := Option.bind_eq_some_iff.mp q
  refine ⟨w, ρ, F, n, S, c1, S1, R, h1, fun v H1 ρ1 F1 R1 p1 x1 r1 => ?_⟩
  refine ⟨w, ρ1, F1, n, S1, c2, S2, R1, h2, fun u H2 ρ2 F2 R2 p2 x2 r2 => ?_⟩
  refine ⟨w, ρ2, F2, n, S2, c3, S3, R2, h3, fun t H3 ρ3 F3 R3 p3 x3 r3 => ?_⟩
  cases c3 with
  | r _ => cases q
  | d y =>
    obtain ⟨key, hk, q⟩ := Option.bind_eq_some_iff.mp q
    obtain ⟨⟨l, kvs⟩, h4, q⟩ := Option.bind_eq_some_iff.mp q
    by_cases hl : kvs.length < sizeLine
    case neg =>
      have q : (@ite _ (kvs.length < sizeLine) (Classical.propDecidable _) (some (Out2.nx n, S3.set l (.m (putKC kvs key c1)))) none) = some (out, S') := q
      rw [if_neg hl] at q
      cases q
    have q : (@ite _ (kvs.length < sizeLine) (Classical.propDecidable _) (some (Out2.nx n, S3.set l (.m (putKC kvs key c1)))) none) = some (out, S') := q
    rw [if_pos hl] at q
    cases q
    obtain ⟨e1, g1⟩ := dicAt_eq h4
    have e1 : c2 = .r l := e1
    subst e1
    obtain ⟨p, hp, rfl⟩ := r2.mono x3 p3
    obtain ⟨vs, hH, hn, rs⟩ := R3.ent l p _ hp g1
    cases keyD_eq r3 hk
    have rk := relks_of hn rs
    have rk2 := rk.put (r1.mono (x2.trans x3) (p2.trans p3)) key
    exact ⟨p, _, rfl, DPut.k hH (by rw [rk.len]; exact hl), k _ _ ρ3 F3 (R3.put hp ⟨_, upd_same, rk2.keys, rk2.vals⟩) ((p1.trans p2).trans p3) ((x1.trans x2).trans x3)⟩
end
end
end VE
set_option Elab.async false
set_option linter.all false
set_option maxRecDepth 100000
set_option maxHeartbeats 2000000
/-! objects are made, methods called; ranges off the store; list(x) -/
namespace VE
noncomputable section
open PySem PySem.Spec L2 Evl
/-- a class that may be made; m: its __init__ -/
structure Mak2 (P : Program) (w : World) (K : PySem.W.Frag) (mg : Str → Option Value) (base : Heap) (x : Str) (k n : Nat) (m : List Cell → Store → Option (Cell × Store)) : Prop where
  ex : ∃ (C f : Addr) (fd : FuncData) (ps : List Str), Mk K C f ∧ FnOk P w K mg base CX0 k f fd ps (spS K mg (n + 1) m) ∧ mg x = some (.ref C) ∧ L2.Binds K fd ps []
structure Met2 (P : Program) (w : World) (K : PySem.W.Frag) (mg : Str → Option Value) (base : Heap) (C m : Str) (k n : Nat) (g : List Cell → Store → Option (Cell × Store)) : Prop where
  ex : ∃ (Ca f : Addr) (fd : FuncData) (ps : List Str), mg C = some (.ref Ca) ∧ Cls K Ca ∧ Meth K Ca m f ∧ FnOk P w K mg base CX0 k f fd ps (spS K mg (n + 1) g) ∧ L2.Binds K fd ps []
def eMk (C : Str) (N : Nat) (g : List Cell → Store → Option (Cell × Store)) (ms : M2A) : M2 := fun n S => (ms n S).bind fun a => if a.1.length = N then (g (.r a.2.length :: a.1) (a.2 ++ [.o C []])).bind fun r => match r.1 with
  | .d .none => some (.r a.2.length, r.2)
  | _ => none
  else none
def eMt (C m : Str) (N : Nat) (g : List Cell → Store → Option (Cell × Store)) (mo : M2) (ms : M2A) : M2 := fun n S => (mo n S).bind fun a => (objAt C a.2 a.1).bind fun y => if (y.2.lookup m).isNone = true then (ms n a.2).bind fun b => if b.1.length = N then g (a.1 :: b.1) b.2 else none else none
theorem Gr.own_ {F H : Hp} {dx : Addr} {o : HO} (s : Ex F H) (h : H dx = none) : Gr F H F (upd H dx o) :=
  ⟨Ex.refl F, fun a o' e => by
    have : a ≠ dx := fun z => by
      subst z
      rw [s a o' e] at h
      cases h
    rw [upd_ne this]
    exact s a o' e, Ex.new h, fun a o' _ e => e⟩
theorem lookup_none_rel {f : Str} : ∀ {vs : List (Str × V)} {fs : List (Str × Cell)}, vs.map (·.1) = fs.map (·.1) → fs.lookup f = none → vs.lookup f = none
  | [], [], _, _ => rfl
  | [], _ :: _, h, _ => by cases h
  | _ :: _, [], h, _ => by cases h
  | (a, v) :: vs, (b, x) :: fs, e, h => by
    rw [List.map_cons, List.map_cons] at e
    have e1 : a = b := (List.cons.inj e).1
    subst e1
    rw [List.lookup_cons] at h ⊢
    cases hf : f == a with
    | true =>
      rw [hf] at h
      cases h
    | false =>
      rw [hf] at h
      exact lookup_none_rel (List.cons.inj e).2 h
section
variable {X : Cx} {e o : Expr} {es : List Expr} {pos p apos : Pos} {mo : M2} {ms : M2A}
theorem t2_make {K : PySem.W.Frag} {mg : Str → Option Value} {x : Str} {C : Addr} {n : Nat} {g : List Cell → Store → Option (Cell × Store)} (hm : mg x = some (.ref C)) : ∀ σ H Q, tE K mg (eMk x n g ms) σ H Q → tMake C (spS K mg (n + 1) g) [] E0 (tEA K mg ms) σ H Q := fun σ H Q h => by
  obtain ⟨w, ρ, F, n', S, c, S', R, q, k⟩ := h
  obtain ⟨⟨cs, S1⟩, h1, q⟩ := Option.bind_eq_some_iff.mp q
  by_cases hl : cs.length = n
  case neg =>
    rw [if_neg hl] at q
    cases q
  rw [if_pos hl] at q
  obtain ⟨⟨c2, S2⟩, h2, q⟩ := Option.bind_eq_some_iff.mp q
  refine ⟨w, ρ, F, n', S, cs, S1, R, h1, fun vs H1 ρ1 F1 R1 p1 x1 r1 => ?_⟩
  intro a dx na ndx ne
  have ne2 : a ≠ dx := fun z => ne z.symm
  have R2 := R1.grow (Gr.own_ (o := .own a) R1.s ndx)
  have R3 : St2 K mg w (ρ1 ++ [a]) F1 (upd (upd H1 dx (.own a)) a (.ins C dx [])) σ n' (S1 ++ [.o x []]) := R2.alloc (by rw [upd_ne ne2]; exact na) ⟨C, dx, [], hm, upd_same, rfl, .nil⟩
  have ha : (ρ1 ++ [a])[S1.length]? = some a := by
    rw [R1.sz, List.getElem?_append_right (Nat.le_refl _), Nat.sub_self]
    rfl
  rw [List.append_nil]
  cases c2 with
  | r _ => cases q
  | d y =>
    cases y with
    | none =>
      cases q
      refine ⟨ρ1 ++ [a], F1, S1 ++ [.o x []], .r S1.length :: cs, .d .none, S2, R3.enter, .cons ⟨a, ha, rfl⟩ (r1.mono (Ex.refl F1) (pre_append _ _)), by rw [List.length_cons, hl], h2, fun v H' ρ' F' σ' n'' C' p' x' r' => ?_⟩
      have hv : v = .non := dp_non r'
      refine ⟨hv, k (.ref a) H' ρ' F' (R3.leave C') (p1.trans ((pre_append _ _).trans p')) (x1.trans x') ⟨a, pre_get p' ha, rfl⟩⟩
    | _ => cases q
theorem p2_mk {x : Str} {j k n : Nat} {g : List Cell → Store → Option (Cell × Store)} (D : Mak2 X.prog X.w X.K X.mg X.base x k n g) (hr : Room j X.A) (ha : P2A X (e :: es) ms) (hk : k + 1 ≤ j := by decide) (hg : Gl X x := by rfl)
    (hdb : (x == ("__debug__" : Str)) = false := by decide) (he : starEach (e :: es) X.env = (false, eval e X.env) :: starEach es X.env := by rfl) (hpl : (backTo pos (starEach es X.env)).any (·.1) = false := by rfl) :
    P2 X (.Call (.Name x p) (e :: es) [] pos) (eMk x n g ms) := by
  obtain ⟨C, f, fd, ps, M, F, hm, hb⟩ := D.ex
  exact PE.mono (pe_make M F (hr.mono hk) hg hm hb .nil pass0 ha hdb he hpl) (t2_make hm)
theorem p2_mk0 {x : Str} {j k : Nat} {g : List Cell → Store → Option (Cell × Store)} (D : Mak2 X.prog X.w X.K X.mg X.base x k 0 g) (hr : Room j X.A) (hk : k + 1 ≤ j := by decide) (hg : Gl X x := by rfl)
    (hdb : (x == ("__debug__" : Str)) = false := by decide) : P2 X (.Call (.Name x p) [] [] pos) (eMk x 0 g aNil) := by
  obtain ⟨C, f, fd, ps, M, F, hm, hb⟩ := D.ex
  refine PE.mono (pe_make0 M F (hr.mono hk) hg hm hb .nil pass0 hdb) fun σ H Q h => ?_
  have h1 := t2_make (ms := aNil) hm σ H Q h
  obtain ⟨w, ρ, F, n', S, c, S', R, q, k⟩ := h1
  cases q
  exact k [] H ρ F R (List.prefix_refl _) (Ex.refl F) .nil
theorem t2_meth {K : PySem.W.Frag} {mg : Str → Option Value} {C m : Str} {Ca : Addr} {n : Nat} {g : List Cell → Store → Option (Cell × Store)} (hm : mg C = some (.ref Ca)) : ∀ σ H Q, tE K mg (eMt C m n g mo ms) σ H Q → tMeth Ca m (spS K mg (n + 1) g) [] E0 (tE K mg mo) (tEA K mg ms) σ H Q := fun σ H Q h => by
  obtain ⟨w, ρ, F, n', S, c, S', R, q, k⟩ := h
  obtain ⟨⟨c1, S1⟩, h1, q⟩ := Option.bind_eq_some_iff.mp q
  obtain ⟨⟨l, fs⟩, h4, q⟩ := Option.bind_eq_some_iff.mp q
  by_cases hn : (fs.lookup m).isNone = true
  case neg =>
    have q : (if (fs.lookup m).isNone = true then (ms n' S1).bind (fun b => if b.1.length = n then g (c1 :: b.1) b.2 else none) else none) = some (c, S') := q
    rw [if_neg hn] at q
    cases q
  have q : (if (fs.lookup m).isNone = true then (ms n' S1).bind (fun b => if b.1.length = n then g (c1 :: b.1) b.2 else none) else none) = some (c, S') := q
  rw [if_pos hn] at q
  obtain ⟨⟨cs, S2⟩, h2, q⟩ := Option.bind_eq_some_iff.mp q
  have q : (if cs.length = n then g (c1 :: cs) S2 else none) = some (c, S') := q
  by_cases hl : cs.length = n
  case neg =>
    rw [if_neg hl] at q
    cases q
  rw [if_pos hl] at q
  obtain ⟨e1, g1⟩ := objAt_eq h4
  have e1 : c1 = .r l := e1
  subst e1
  refine ⟨w, ρ, F, n', S, _, S1, R, h1, fun v H1 ρ1 F1 R1 p1 x1 r1 => ?_⟩
  obtain ⟨a, ha, rfl⟩ := id r1
  obtain ⟨Ca', dx, vs, hC, hH, hn', rs⟩ := R1.ent l a _ ha g1
  have eC : Ca' = Ca := by
    have := hC.symm.trans hm
    cases this
    rfl
  subst eC
  refine ⟨a, dx, vs, rfl, hH, lookup_none_rel hn' (Option.isNone_iff_eq_none.mp hn), w, ρ1, F1, n', S1, cs, S2, R1, h2, fun us H2 ρ2 F2 R2 p2 x2 r2 => ?_⟩
  show spS K mg (n + 1) g (V.ref a :: (us ++ [])) H2 Q E0
  rw [List.append_nil]
  exact ⟨ρ2, F2, S2, .r l :: cs, c, S', R2.enter, .cons (r1.mono x2 p2) r2, by rw [List.length_cons, hl], q, fun v H3 ρ3 F3 σ3 n3 C' p3 x3 r3 => k v H3 ρ3 F3 (R2.leave C') ((p1.trans p2).trans p3) ((x1.trans x2).trans x3) r3⟩
theorem p2_meth {pl : Sem Bool} {C m : Str} {j k n : Nat} {g : List Cell → Store → Option (Cell × Store)} (D : Met2 X.prog X.w X.K X.mg X.base C m k n g) (hr : Room j X.A) (ho : P2 X o mo) (ha : P2A X (e :: es) ms) (hk : k ≤ j := by decide)
    (hst : starEach (e :: es) X.env = (false, eval e X.env) :: starEach es X.env := by rfl) (hpl : (backTo pos (starEach es X.env)).any (·.1) = false := by rfl)
    (ht : eval (.Call (.Attribute o m apos) (e :: es) [] pos) X.env = (do
      let ov ← eval o X.env
      standAt apos.atName
      let (f, first) ← holding [ov] (getMethod ov m pl)
      callWith pos f first (backTo pos (starEach (e :: es) X.env)) (backToKw pos (keywordEach [] X.env))) := by rfl) :
    P2 X (.Call (.Attribute o m apos) (e :: es) [] pos) (eMt C m n g mo ms) := by
  obtain ⟨Ca, f, fd, ps, hm, c, M, F, hb⟩ := D.ex
  exact PE.mono (pe_meth (pl := pl) ho c M F (hr.mono hk) hb .nil pass0 ha hst hpl ht) (t2_meth hm)
theorem p2_meth0 {pl : Sem Bool} {C m : Str} {j k : Nat} {g : List Cell → Store → Option (Cell × Store)} (D : Met2 X.prog X.w X.K X.mg X.base C m k 0 g) (hr : Room j X.A) (ho : P2 X o mo) (hk : k ≤ j := by decide)
    (ht : eval (.Call (.Attribute o m apos) [] [] pos) X.env = (do
      let ov ← eval o X.env
      standAt apos.atName
      let (f, first) ← holding [ov] (getMethod ov m pl)
      callWith pos f first (backTo pos (starEach [] X.env)) (backToKw pos (keywordEach [] X.env))) := by rfl) :
    P2 X (.Call (.Attribute o m apos) [] [] pos) (eMt C m 0 g mo aNil) := by
  obtain ⟨Ca, f, fd, ps, hm, c, M, F, hb⟩ := D.ex
  refine PE.mono (pe_meth0 (pl := pl) ho c M F (hr.mono hk) hb .nil pass0 ht) fun σ H Q h => ?_
  have h1 := t2_meth (ms := aNil) hm σ H Q h
  obtain ⟨w, ρ, F, n', S, c, S', R, q, k⟩ := h1
  refine ⟨w, ρ, F, n', S, c, S', R, q, fun v H1 ρ1 F1 R1 p1 x1 r1 => ?_⟩
  obtain ⟨a, dx, fs, e1, e2, e3, w2, ρ2, F2, n2, S2, cs2, S3, R2, q2, k2⟩ := k v H1 ρ1 F1 R1 p1 x1 r1
  cases q2
  exact ⟨a, dx, fs, e1, e2, e3, k2 [] H1 ρ2 F2 R2 (List.prefix_refl _) (Ex.refl F2) .nil⟩
end
section
variable {P : Program} {w : World} {K : PySem.W.Frag} {mg : Str → Option Value} {base : Heap}
theorem fn2_ok {m q : Str} {st : Stmt} {f : Addr} {fd : FuncData} {N ps : List Str} {k : Nat} {body : MS2} (F : FunD K m q (defArgs st) (defBody st) (defScope st) [] [] f fd) (S : FnScope N ps (defScope st))
    (h : ∀ (cdv : Value) (A : Around) (outer : List Env) (s : Shared) (H : Hp) (E : XK), Room k (A.deeper (PyProof.Rows.envOfC q (defScope st) s.heap.objs.size f cdv)) → PSs2 (cxOf CX0 P w K mg base N q (defScope st) f cdv A outer s H E).nox (defBody st) body) :
    FnOk P w K mg base CX0 (k + 1) f fd ps (spS K mg ps.length (run2 N body)) :=
  F.ok S (fun vs H Q E h => spS_len h) fun cdv A outer s H vs Q E hr hs => ⟨_, L2.PSs.nox (h cdv A outer s H E hr), body2_ok hs⟩
end
end
end VE
set_option Elab.async false
set_option linter.all false
set_option maxRecDepth 100000
set_option maxHeartbeats 2000000
/-! ranges off the store, list(x), keywords, what a def over the store gives to plain code, written dicts -/
namespace VE
noncomputable section
open PySem PySem.Spec L2 Evl
section
variable {X : Cx} {tg a b c : Expr} {p pos pos2 : Pos} {body : List Stmt} {ms : M2A} {f : Fl} {s1 : MS2}
theorem ps2_forR2 (hm : X.mg "range" = none) (ha : P2A X [a, b] ms) (hg : PT1 X tg f) (hb : PSs2 X body s1) (hgl : Gl X "range" := by rfl) (hs : starEach [a, b] X.env = [(false, eval a X.env), (false, eval b X.env)] := by rfl) (hs2 : starEach [b] X.env = [(false, eval b X.env)] := by rfl) (hp : PassesOwn (model X.prog X.w) X.A X.env X.xe := by first | exact PassesOwn.never | assumption) (hc : X.calm = true := by rfl)
    (hfs : ∀ x, foldedSetIterable (.Call (.Name "range" p) [a, b] [] pos2) X.env x = pure x := by intro _; rfl) : PS2 X (.For tg (.Call (.Name "range" p) [a, b] [] pos2) body [] pos) (s2ForR rng2 ms f s1) := by
  obtain ⟨g, pg, kg⟩ := hg
  refine PS.mono (ps_for hp hc (pi_range2 hgl hm ha hs hs2) pg hb hfs) fun D σ H h => ?_
  obtain ⟨w, ρ, F, n, S, o, S', R, q, k⟩ := h
  obtain ⟨⟨cs, S1⟩, h1, q⟩ := Option.bind_eq_some_iff.mp q
  obtain ⟨ds, hd, q⟩ := Option.bind_eq_some_iff.mp q
  obtain ⟨its, hi, q⟩ := Option.bind_eq_some_iff.mp q
  refine ⟨w, ρ, F, n, S, cs, S1, R, h1, fun vs H1 ρ1 F1 R1 p1 x1 r1 => ?_⟩
  have al := datas_ok r1 hd
  unfold rng2 at hi
  split at hi
  · rename_i ii jj
    obtain ⟨v, u, rfl, h1, h2⟩ := dpa2 al
    by_cases hz : -(2 ^ 62) ≤ ii ∧ ii < 2 ^ 62 ∧ -(2 ^ 62) ≤ jj ∧ jj < 2 ^ 62
    case neg =>
      rw [if_neg hz] at hi
      cases hi
    rw [if_pos hz] at hi
    cases hi
    cases dp_int h1
    cases dp_int h2
    exact ⟨_, _, rfl, hz, for2_ok kg (yld_range _ _) (Ex.refl F1) R1 q (k.mono p1 x1)⟩
  · cases hi
theorem ps2_forR3 (hm : X.mg "range" = none) (ha : P2A X [a, b, c] ms) (hg : PT1 X tg f) (hb : PSs2 X body s1) (hgl : Gl X "range" := by rfl) (hs : starEach [a, b, c] X.env = (false, eval a X.env) :: starEach [b, c] X.env := by rfl) (hpl : (backTo pos2 (starEach [b, c] X.env)).any (·.1) = false := by rfl) (hp : PassesOwn (model X.prog X.w) X.A X.env X.xe := by first | exact PassesOwn.never | assumption) (hc : X.calm = true := by rfl)
    (hfs : ∀ x, foldedSetIterable (.Call (.Name "range" p) [a, b, c] [] pos2) X.env x = pure x := by intro _; rfl) : PS2 X (.For tg (.Call (.Name "range" p) [a, b, c] [] pos2) body [] pos) (s2ForR rng3 ms f s1) := by
  obtain ⟨g, pg, kg⟩ := hg
  refine PS.mono (ps_for hp hc (pi_range3 hgl hm ha hs hpl) pg hb hfs) fun D σ H h => ?_
  obtain ⟨w, ρ, F, n, S, o, S', R, q, k⟩ := h
  obtain ⟨⟨cs, S1⟩, h1, q⟩ := Option.bind_eq_some_iff.mp q
  obtain ⟨ds, hd, q⟩ := Option.bind_eq_some_iff.mp q
  obtain ⟨its, hi, q9⟩ := Option.bind_eq_some_iff.mp q
  clear q
  refine ⟨w, ρ, F, n, S, cs, S1, R, h1, fun vs H1 ρ1 F1 R1 p1 x1 r1 => ?_⟩
  have al := datas_ok r1 hd
  unfold rng3 at hi
  split at hi
  · rename_i ii jj cc
    obtain ⟨v, w', u, rfl, e1, e2, e3⟩ := dpa3 al
    by_cases hz : cc = -1 ∧ -(2 ^ 62) ≤ ii ∧ ii < 2 ^ 62 ∧ -(2 ^ 62) ≤ jj ∧ jj < 2 ^ 62
    case neg =>
      rw [if_neg hz] at hi
      cases hi
    rw [if_pos hz] at hi
    cases hi
    obtain ⟨rfl, h1, h2, h3, h4⟩ := hz
    cases dp_int e1; cases dp_int e2; cases dp_int e3
    exact ⟨_, _, _, _, rfl, RgC.neg h1 h2 h3 h4, for2_ok kg (yld_rangeC _ _ _) (Ex.refl F1) R1 q9 (k.mono p1 x1)⟩
  · cases hi
end
/-! ### list(x): a new list of the store -/
def eList (m : M2) : M2 := fun n S => (m n S).bind fun a => match a.1 with
  | .d (.list xs) => some (.r a.2.length, a.2 ++ [.l (xs.map .d)])
  | .d (.tuple xs) => some (.r a.2.length, a.2 ++ [.l (xs.map .d)])
  | .d _ => none
  | .r _ => (lstAt a.2 a.1).map fun x => (.r a.2.length, a.2 ++ [.l x.2])
theorem relcs_d {K : PySem.W.Frag} {F : Hp} {ρ : List Addr} : ∀ {vs : List V} {ds : List PyData}, DpAll K F vs ds → RelCs K F ρ vs (ds.map .d)
  | _, _, .nil => .nil
  | _, _, .cons d h => .cons (c := .d _) d (relcs_d h)
section
variable {X : Cx} {e : Expr} {p pos : Pos} {m : M2}
theorem p2_list (he : P2 X e m) (hm : X.mg "list" = none) (hg : Gl X "list" := by rfl) (hs : starEach [e] X.env = (false, eval e X.env) :: starEach [] X.env := by rfl) (hpl : (backTo pos (starEach [] X.env)).any (·.1) = false := by rfl) :
    P2 X (.Call (.Name "list" p) [e] [] pos) (eList m) := PE.mono (pe_callTy call_list_of hg hm (by decide +kernel) (p2a_cons he p2a_nil hs) (by decide) (by decide) hs hpl) fun σ H Q h => by
  obtain ⟨w, ρ, F, n, S, c, S', R, q, k⟩ := h
  obtain ⟨⟨c1, S1⟩, h1, q⟩ := Option.bind_eq_some_iff.mp q
  refine ⟨w, ρ, F, n, S, [c1], S1, R, by show (m n S).bind _ = _; rw [h1]; rfl, fun vs H1 ρ1 F1 R1 p1 x1 r1 => ?_⟩
  have fin : ∀ {us : List V} {cs : List Cell} {l : Addr}, RelCs X.K F1 ρ1 us cs → H1 l = none → (some (Cell.r S1.length, S1 ++ [.l cs]) = some (c, S')) → Q (.ref l) (upd H1 l (.lst us)) := fun {us cs l} rs hl q => by
    cases q
    refine k (.ref l) _ (ρ1 ++ [l]) F1 (R1.alloc hl ⟨us, upd_same, rs.mono (Ex.refl F1) (pre_append _ _)⟩) (p1.trans (pre_append _ _)) x1 ⟨l, ?_, rfl⟩
    rw [← R1.sz.symm, List.getElem?_append_right (Nat.le_refl _), Nat.sub_self]
    rfl
  cases r1 with
  | @cons v _ _ _ rv rr =>
    cases rr
    cases c1 with
    | r i =>
      obtain ⟨⟨j, cs⟩, hl, q⟩ := Option.map_eq_some_iff.mp q
      obtain ⟨e1, g1⟩ := lstAt_eq hl
      cases e1
      obtain ⟨p, hp, rfl⟩ := rv
      obtain ⟨us, hH, rs⟩ := R1.ent i p _ hp g1
      exact ⟨p, us, rfl, .inl (SqL.of hH), fun l hl => fin rs hl (congrArg some q)⟩
    | d x =>
      have d1 : Dp X.K F1 v x := rv
      cases x with
      | list xs =>
        obtain ⟨p, us, rfl, h2, a2⟩ := dp_lst d1
        exact ⟨p, us, rfl, .inl (ex_l R1.s h2), fun l hl => fin (relcs_d a2) hl q⟩
      | tuple xs =>
        obtain ⟨p, us, rfl, h2, a2⟩ := dp_tup d1
        exact ⟨p, us, rfl, .inr (ex_t R1.s h2), fun l hl => fin (relcs_d a2) hl q⟩
      | _ => cases q
end
/-! ### what is left of the store is frozen -/
def optAll : List (Option PyData) → Option (List PyData)
  | [] => some []
  | o :: r => o.bind fun x => (optAll r).map (x :: ·)
def frz2 : Nat → Store → Cell → Option PyData
  | _, _, .d x => some x
  | 0, _, .r _ => none
  | k + 1, S, .r i => (S[i]?).bind fun e => match e with
    | .l cs => (optAll (cs.map (frz2 k S))).map .list
    | _ => none
def pureOf (k : Nat) (g : List Cell → Store → Option (Cell × Store)) (ds : List PyData) : Option PyData := (g (ds.map .d) []).bind fun o => frz2 k o.2 o.1
open Classical in
def allF (ρ : List Addr) (F H : Hp) : Hp := fun p => if p ∈ ρ then H p else F p
section
variable {K : PySem.W.Frag} {mg : Str → Option Value} {w : Wd} {F H : Hp} {ρ : List Addr} {σ : L2.St} {n : En2} {S : Store}
theorem St2.allF_ex (R : St2 K mg w ρ F H σ n S) : Ex F (allF ρ F H) := fun p o h => by
  unfold allF
  by_cases hp : p ∈ ρ
  · rw [R.own p hp] at h
    cases h
  · rw [if_neg hp]
    exact h
theorem optAll_ok {G : Hp} {f : Cell → Option PyData} (hf : ∀ v c d, RelC K F ρ v c → f c = some d → Dp K G v d) : ∀ {vs : List V} {cs : List Cell} {ds : List PyData}, RelCs K F ρ vs cs → optAll (cs.map f) = some ds → DpAll K G vs ds
  | _, _, _, .nil, h => by
    cases h
    exact .nil
  | _, c :: cs, _, .cons a r, h => by
    obtain ⟨x, hx, hd⟩ := Option.bind_eq_some_iff.mp (show (f c).bind _ = _ from h)
    obtain ⟨ys, hy, rfl⟩ := Option.map_eq_some_iff.mp hd
    exact .cons (hf _ _ _ a hx) (optAll_ok hf r hy)
theorem frz2_ok (R : St2 K mg w ρ F H σ n S) : ∀ (k : Nat) (v : V) (c : Cell) (d : PyData), RelC K F ρ v c → frz2 k S c = some d → Dp K (allF ρ F H) v d
  | 0, v, .d x, d, r, h => by
    cases h
    exact dp_ex R.allF_ex r
  | 0, v, .r i, d, r, h => by cases h
  | k + 1, v, .d x, d, r, h => by
    cases h
    exact dp_ex R.allF_ex r
  | k + 1, v, .r i, d, r, h => by
    obtain ⟨e, he, h⟩ := Option.bind_eq_some_iff.mp (show (S[i]?).bind _ = _ from h)
    cases e with
    | o _ _ => cases h
    | m _ => cases h
    | l cs =>
      obtain ⟨ds, hd, rfl⟩ := Option.map_eq_some_iff.mp h
      obtain ⟨p, hp, rfl⟩ := r
      obtain ⟨vs, hH, rs⟩ := R.ent i p _ hp he
      have hF : allF ρ F H p = some (.lst vs) := by
        unfold allF
        rw [if_pos (List.mem_of_getElem? hp)]
        exact hH
      exact .lst (SqL.of hF) (optAll_ok (frz2_ok R k) rs hd)
end
theorem spM_of2 {K : PySem.W.Frag} {mg : Str → Option Value} {N k : Nat} {g : List Cell → Store → Option (Cell × Store)} {vs : List V} {H : Hp} {Q : VK} {E : XK} (h : spM K N (pureOf k g) vs H Q E) : spS K mg N g vs H Q E := by
  obtain ⟨G, ds, d, e, a, hl, q, kk⟩ := h
  obtain ⟨⟨c, S'⟩, h1, q⟩ := Option.bind_eq_some_iff.mp q
  refine ⟨[], G, [], ds.map .d, c, S', ⟨Ex.refl G, e, List.prefix_refl _, List.nodup_nil, fun p hp => (by cases hp), fun p o h _ => h, fun p hp => (by cases hp), fun p o _ h => h, rfl, fun i p e h1 h2 => (by simp at h1), rfl, fun i c h => (by simp at h)⟩, relcs_d a, by rw [List.length_map, hl], h1, fun v H' ρ' F' σ' n' R' p x r => ?_⟩
  refine kk v H' (allF ρ' F' H') ⟨x.trans R'.allF_ex, fun p o h => ?_, fun p o h => R'.out p o h (by simp), fun p o h hg => ?_⟩ (frz2_ok R' k _ _ _ r q)
  · unfold allF at h
    by_cases hp : p ∈ ρ'
    · rw [if_pos hp] at h
      exact h
    · rw [if_neg hp] at h
      exact R'.s p o h
  · unfold allF
    by_cases hp : p ∈ ρ'
    · rcases R'.new p hp with h' | h'
      · cases h'
      · have h' : H p = none := h'
        rw [h] at h'
        cases h'
    · rw [if_neg hp]
      exact R'.nof p o h hg
section
variable {P : Program} {w : World} {K : PySem.W.Frag} {mg : Str → Option Value} {base : Heap}
/-- a def over the store, as plain code knows it -/
theorem def_of2 {x : Str} {k n : Nat} {g : List Cell → Store → Option (Cell × Store)} (kf : Nat) (D : Def2 P w K mg base x k n g) : Def P w K mg base x k n (pureOf kf g) := by
  obtain ⟨f, fd, ps, F, hm, hk, hb⟩ := D.ex
  exact ⟨CX0, f, fd, ps, fun _ _ _ => pass0, F.imp fun vs H Q E h => spM_of2 h, hm, hk, hb⟩
/-! ### keyword-only parameters -/
structure DefK (P : Program) (w : World) (K : PySem.W.Frag) (mg : Str → Option Value) (base : Heap) (x : Str) (k n : Nat) (ks : List Str) (m : List PyData → Option PyData) : Prop where
  ex : ∃ (f : Addr) (fd : FuncData) (ps : List Str), FnOk P w K mg base CX0 k f fd ps (spM K (n + ks.length) m) ∧ mg x = some (.ref f) ∧ PySem.W.keepIn K (.ref f) = true ∧ KBn K fd ps n ks (fun us ws => us ++ ws) (fun vs zs => vs ++ zs)
theorem kbn_of {x qual : Str} {params : Arguments} {body : List Stmt} {scope : Scope} {f : Addr} {fd : FuncData} {ps : List Str} (F : FunD K x qual params body scope [] [] f fd) (n : Nat) (ks : List Str)
    (h : ∀ (kV doc pm : Value) (an : Option Addr) (cdv ct : Value) (us ws : List Value), us.length = n → ws.length = ks.length → bindArgs (PySem.W.fnOf x qual params body scope .none kV doc pm an cdv ct) ⟨us, ks.zip ws⟩ = pure (ps.zip (us ++ ws))) : KBn K fd ps n ks (fun us ws => us ++ ws) (fun vs zs => vs ++ zs) := by
  obtain ⟨oc, od, dV, kV, doc, pm, an, cdv, ct, osl, rfl, lk, hcd, hD, hK⟩ := F.ex
  rcases hD with ⟨_, rfl⟩ | ⟨e, _⟩
  · exact ⟨fun s us ws X l1 l2 => .of_eq (h kV doc pm an cdv ct us ws l1 l2), fun r1 r2 => r1.append r2⟩
  · exact absurd rfl e
theorem defK_okD {x : Str} {st : Stmt} {f : Addr} {fd : FuncData} {N ps ks : List Str} {n k : Nat} {body : MS} (F : FnP K x st f fd) (S : FnScope N ps (defScope st)) (hm : mg x = some (.ref f)) (hb : KBn K fd ps n ks (fun us ws => us ++ ws) (fun vs zs => vs ++ zs)) (hl : ps.length = n + ks.length)
    (h : ∀ (cdv : Value) (A : Around) (outer : List Env) (s : Shared) (H : Hp) (E : XK), Room k (A.deeper (PyProof.Rows.envOfC x (defScope st) s.heap.objs.size f cdv)) → PSsV (cxOf CX0 P w K mg base N x (defScope st) f cdv A outer s H E).nox (defBody st) body) :
    DefK P w K mg base x (k + 1) n ks (runM N body) := by
  have z := fn_okD F S h
  rw [hl] at z
  exact ⟨f, fd, ps, z, hm, F.kp, hb⟩
theorem defK_of2 {x : Str} {st : Stmt} {f : Addr} {fd : FuncData} {N ps ks : List Str} {n k : Nat} {body : MS2} (kf : Nat) (F : FnP K x st f fd) (S : FnScope N ps (defScope st)) (hm : mg x = some (.ref f)) (hb : KBn K fd ps n ks (fun us ws => us ++ ws) (fun vs zs => vs ++ zs)) (hl : ps.length = n + ks.length)
    (h : ∀ (cdv : Value) (A : Around) (outer : List Env) (s : Shared) (H : Hp) (E : XK), Room k (A.deeper (PyProof.Rows.envOfC x (defScope st) s.heap.objs.size f cdv)) → PSs2 (cxOf CX0 P w K mg base N x (defScope st) f cdv A outer s H E).nox (defBody st) body) :
    DefK P w K mg base x (k + 1) n ks (pureOf kf (run2 N body)) := by
  have z := fn2_ok (P := P) (w := w) (mg := mg) (base := base) F S h
  rw [hl] at z
  exact ⟨f, fd, ps, z.imp fun vs H Q E h => spM_of2 h, hm, F.kp, hb⟩
end
/-! ### f(e, .., k = v) -/
abbrev PKL (X : Cx) (kws : List Keyword) (m : MA) : Prop := PK X kws (tMA X.K m)
section
variable {X : Cx} {e : Expr} {es : List Expr} {kws : List Keyword} {nm : Option Str} {kpos pos p : Pos} {m : M} {ms mk : MA}
theorem PK.mono {t t' : TA} (h : PK X kws t) (i : ∀ σ H Q, t' σ H Q → t σ H Q) : PK X kws t' := ⟨fun pos pins s σ H Q I q => h.run pos pins s σ H Q I (i σ H Q q)⟩
theorem pkl_nil : PKL X [] mNil := PK.mono pk_nil fun σ H Q h => by
  obtain ⟨G, n, ds, g, r, q, k⟩ := h
  cases q
  exact k [] H G (Gr.refl g) .nil
theorem pkl_cons (ha : PV X e m) (hr : PKL X kws ms) : PKL X (⟨nm, e, kpos⟩ :: kws) (mCons m ms) := PK.mono (pk_cons ha hr) fun σ H Q h => by
  obtain ⟨G, n, ds, g, r, q, k⟩ := h
  obtain ⟨x, hx, q⟩ := Option.bind_eq_some_iff.mp q
  obtain ⟨y, hy, q⟩ := Option.bind_eq_some_iff.mp q
  cases q
  refine ⟨G, n, x, g, r, hx, fun v H1 G1 g1 d1 => ?_⟩
  refine ⟨G1, n, y, g1.s, r.mono g1.g, hy, fun vs H2 G2 g2 d2 => ?_⟩
  exact k _ H2 G2 (g1.trans g2) (.cons (dp_ex g2.g d1) d2)
def mDefK (N N' : Nat) (g : List PyData → Option PyData) (ms mk : MA) : M := fun n => (ms n).bind fun ds => (mk n).bind fun es => if ds.length = N ∧ es.length = N' then g (ds ++ es) else none
theorem pv_callK {x : Str} {j k n : Nat} {ks : List Str} {g : List PyData → Option PyData} (D : DefK X.prog X.w X.K X.mg X.base x k n ks g) (hr : Room j X.A) (ha : PL X (e :: es) ms) (hkw : PKL X kws mk) (hk : k ≤ j := by decide) (hg : Gl X x := by rfl)
    (hall : (backToKw pos (keywordEach kws X.env)).all (·.1.isSome) = true := by rfl) (hks : (backToKw pos (keywordEach kws X.env)).filterMap (·.1) = ks := by rfl)
    (hdb : (x == ("__debug__" : Str)) = false := by decide) (he : starEach (e :: es) X.env = (false, eval e X.env) :: starEach es X.env := by rfl)
    (hpl : ((backTo pos (starEach (e :: es) X.env)).any (·.1) || (backToKw pos (keywordEach kws X.env)).any (·.1.isNone)) = false := by rfl) :
    PV X (.Call (.Name x p) (e :: es) kws pos) (mDefK n ks.length g ms mk) := by
  obtain ⟨f, fd, ps, F, hm, hkp, hb⟩ := D.ex
  refine PE.mono (pe_callN F (hr.mono hk) hg hm hkp hb pass0 ha hkw hall hks hdb he hpl) fun σ H Q h => ?_
  obtain ⟨G, n', d, e, r, q, k⟩ := h
  obtain ⟨ds, hd, q⟩ := Option.bind_eq_some_iff.mp q
  obtain ⟨es', hes, q⟩ := Option.bind_eq_some_iff.mp q
  by_cases hl : ds.length = n ∧ es'.length = ks.length
  case neg =>
    rw [if_neg hl] at q
    cases q
  rw [if_pos hl] at q
  refine ⟨G, n', ds, e, r, hd, fun vs H1 G1 g1 d1 => ?_⟩
  refine ⟨G1, n', es', g1.s, r.mono g1.g, hes, fun zs H2 G2 g2 d2 => ?_⟩
  refine ⟨by rw [dpa_len d1]; exact hl.1, by rw [dpa_len d2]; exact hl.2, G2, ds ++ es', d, g2.s, dpa_app (dpa_ex g2.g d1) d2, by rw [List.length_append, hl.1, hl.2], q, fun v H3 G3 g3 d3 => k v H3 G3 ((g1.trans g2).trans g3) d3⟩
end
end
end VE
set_option Elab.async false
set_option linter.all false
set_option maxRecDepth 100000
set_option maxHeartbeats 2000000
/-! written dicts of the module; a last parameter that is None if nothing is given -/
namespace VE
noncomputable section
open PySem PySem.Spec L2 Evl
/-- values of a written dict -/
inductive Kv
  | int (i : Int)
  | str (s : Str)
def Kv.d : Kv → PyData
  | .int i => .int i
  | .str s => .str s
def Kv.v : Kv → V
  | .int i => .int i
  | .str s => .str s
theorem Kv.dp {K : PySem.W.Frag} {F : Hp} : ∀ k : Kv, Dp K F k.v k.d
  | .int _ => .int _
  | .str _ => .str _
structure KTab (K : PySem.W.Frag) (w : World) (mg : Str → Option Value) (x : Str) (kvs : List (Str × Kv)) : Prop where
  ex : ∃ d es n, mg x = some (.ref d) ∧ KDict K w d es n ∧ ∀ z, (kvs.lookup z = none → PySem.W.nsIn K d z = some none) ∧ ∀ k, kvs.lookup z = some k → ∃ u, PySem.W.nsIn K d z = some (some u) ∧ RelV k.v u
def kGet (kvs : List (Str × Kv)) : PyData → Option PyData
  | .str z => some (((kvs.lookup z).map Kv.d).getD .none)
  | _ => none
def kIx (kvs : List (Str × Kv)) : PyData → Option PyData
  | .str z => (kvs.lookup z).map Kv.d
  | _ => none
section
variable {X : Cx} {e : Expr} {p apos cpos pos : Pos} {m : M} {x : Str} {kvs : List (Str × Kv)}
theorem pv_kget (T : KTab X.K X.w X.mg x kvs) (he : PV X e m) (hg : Gl X x := by rfl) (hdb : (x == ("__debug__" : Str)) = false := by decide)
    (base : attributeBase (.Name x p) "get" X.env (eval (.Name x p) X.env) = eval (.Name x p) X.env := by rfl)
    (few : ((backTo cpos (starEach [e] X.env)).all (fun x => !x.1) && (backToKw cpos (keywordEach [] X.env)).all (fun x => x.1.isSome)
      && decide (([e] : List Expr).length + ([] : List Keyword).length + (if ([] : List Keyword).isEmpty then 0 else 1) < 30)) = true := by rfl)
    (line : (apos.endLine == cpos.line) = true := by rfl)
    (trees : backTo cpos (starEach [e] X.env) = [(false, eval e X.env)] := by rfl) : PV X (.Call (.Attribute (.Name x p) "get" apos) [e] [] cpos) (mUn (kGet kvs) m) := by
  obtain ⟨d, es, n, hm, D, hz⟩ := T.ex
  refine ⟨fun pins s σ H Q I h => ?_⟩
  obtain ⟨G, n', dd, g, r, q, k⟩ := h
  obtain ⟨y, hy, q⟩ := Option.bind_eq_some_iff.mp q
  refine wpAny_Call_method base few line PySem.F.plainAttrs_dict PySem.F.slot_dict_get PySem.F.type_dict_get (ld_glob I hg hm ?_ hdb)
  refine ⟨kd_type D I, fun b e => ?_, ?_⟩
  · cases e
    exact ⟨_, I.kIn _ _ D.at_, rfl⟩
  · rw [trees]
    refine Calls.callWith_builtin rfl (Calls.evalArgs_plain (Calls.spliced_cons (thn (he.run pins s σ H (fun v H' => ∃ G', Gr G H G' H' ∧ Dp X.K G' v y) I ⟨G, n', y, g, r, hy, fun v H' G' g' d' => ⟨G', g', d'⟩⟩) fun iv s2 ⟨v, H2, I2, ry, G2, g2, d2⟩ => Calls.spliced_nil ?_)))
    cases y with
    | str z =>
      cases dp_str d2
      obtain ⟨t, rfl⟩ := ry
      refine call_meetsIn PySem.F.slot_dict_get (kd_type D I2) PySem.F.entry_dict_get (PySem.F.args_dict_get_2 _ _) (meets_dict_get (strKind X.prog X.w) d (PySem.strKind_is X.prog X.w z t) D.low) ⟨_, PySem.W.mapOf_K (prog := X.prog) I2.kIn D.at_ D.lit, ?_⟩
      have q : some (((kvs.lookup z).map Kv.d).getD .none) = some dd := q
      cases hl : kvs.lookup z with
      | none =>
        rw [hl] at q
        cases q
        have h0 := (hz z).1 hl
        have h1 := PySem.W.find_K D.at_ h0
        simp only [h1]
        exact ⟨.non, H2, I2.tok _, rfl, k _ H2 G2 g2 .non⟩
      | some kv =>
        rw [hl] at q
        cases q
        obtain ⟨u, h0, ru⟩ := (hz z).2 kv hl
        have h1 := PySem.W.find_K D.at_ h0
        simp only [h1]
        exact ⟨kv.v, H2, I2.tok _, ru, k _ H2 G2 g2 kv.dp⟩
    | _ => cases q
theorem pv_kix (T : KTab X.K X.w X.mg x kvs) (he : PV X e m) (hg : Gl X x := by rfl) (hdb : (x == ("__debug__" : Str)) = false := by decide) (hs : NoSl e := by exact fun _ _ => rfl) : PV X (.Subscript (.Name x p) e pos) (mUn (kIx kvs) m) := by
  obtain ⟨d, es, n, hm, D, hz⟩ := T.ex
  refine ⟨fun pins s σ H Q I h => ?_⟩
  obtain ⟨G, n', dd, g, r, q, k⟩ := h
  obtain ⟨y, hy, q⟩ := Option.bind_eq_some_iff.mp q
  refine subD_of PySem.F.slot_dict_getitem.lookup hs (ld_glob I hg hm ?_ hdb)
  refine thn (he.run pins s σ H (fun v H' => ∃ G', Gr G H G' H' ∧ Dp X.K G' v y) I ⟨G, n', y, g, r, hy, fun v H' G' g' d' => ⟨G', g', d'⟩⟩) fun iv s2 ⟨v, H2, I2, ry, G2, g2, d2⟩ => ?_
  cases y with
  | str z =>
    cases dp_str d2
    obtain ⟨kv, hl, q⟩ := Option.map_eq_some_iff.mp (show (kvs.lookup z).map Kv.d = some dd from q)
    cases q
    obtain ⟨u, h0, ru⟩ := (hz z).2 kv hl
    exact ⟨kd_type D I2, op_item_kd D pins s2 σ H2 (.ref d) (.str z) (.ref d) iv Q I2 rfl ry ⟨z, u, kv.v, rfl, rfl, h0, ru, k _ H2 G2 g2 kv.dp⟩⟩
  | _ => cases q
end
/-! ### a written dict, looked at -/
def kvB (K : PySem.W.Frag) (x : Str) (kvs : List (Str × Kv)) : Bool := He.eqO (PySem.W.nsIn K mainGlobals x) (some (some (.ref (He.ga K x)))) && match K.lookup (He.ga K x) with
  | some ⟨_, _, .dict es _, _⟩ => decide ((es.toList.map fun e => (He.keyOf e).map (·.1)) = kvs.map fun q => some q.1) && kvs.all fun q => match PySem.W.nsIn K (He.ga K x) q.1 with
    | some (some u) => He.relB q.2.v u
    | _ => false
  | _ => false
theorem kvs_mem {kvs : List (Str × Kv)} {z : Str} {k : Kv} (h : kvs.lookup z = some k) : (z, k) ∈ kvs := by
  induction kvs with
  | nil => cases h
  | cons a r ih =>
    obtain ⟨y, j⟩ := a
    rw [List.lookup_cons] at h
    cases hz : z == y with
    | true =>
      rw [hz] at h
      cases h
      have : z = y := eq_of_beq hz
      subst this
      exact List.mem_cons_self ..
    | false =>
      rw [hz] at h
      exact List.mem_cons_of_mem _ (ih h)
theorem lookup_of_mem {kvs : List (Str × Kv)} {z : Str} (h : z ∈ kvs.map (·.1)) : ∃ k, kvs.lookup z = some k := by
  induction kvs with
  | nil => cases h
  | cons a r ih =>
    obtain ⟨y, j⟩ := a
    rw [List.lookup_cons]
    cases hz : z == y with
    | true => exact ⟨j, rfl⟩
    | false =>
      rw [List.map_cons] at h
      rcases List.mem_cons.mp h with h | h
      · have h : z = y := h
        subst h
        rw [beq_self_eq_true] at hz
        cases hz
      · exact ih h
theorem ktab_of {K : PySem.W.Frag} {w : World} {h : Heap} {mg : Str → Option Value} {x : Str} {kvs : List (Str × Kv)} {ks : List Str} (X : K.In h) (G : h.Ns mainGlobals mg) (hb : kvB K x kvs = true) (D : ∃ es n, KDict K w (He.ga K x) es n) : KTab K w mg x kvs := by
  obtain ⟨es, n, D⟩ := D
  obtain ⟨h1, h2⟩ := He.ba hb
  rw [D.at_] at h2
  obtain ⟨h3, h4⟩ := He.ba (show (decide ((es.toList.map fun e => (He.keyOf e).map (·.1)) = kvs.map fun q => some q.1) && kvs.all fun q => match PySem.W.nsIn K (He.ga K x) q.1 with
    | some (some u) => He.relB q.2.v u
    | _ => false) = true from h2)
  have h3 := of_decide_eq_true h3
  refine ⟨He.ga K x, es, n, PySem.W.mg_of X G (He.eqO_ok h1), D, fun z => ⟨fun hz => ?_, fun k hz => ?_⟩⟩
  · unfold PySem.W.nsIn
    rw [D.at_]
    have hk : ∀ e ∈ es.toList, ∃ y t, e.key = .str y t ∧ y ∈ kvs.map (·.1) := fun e he => by
      have h5 : (He.keyOf e).map (·.1) ∈ es.toList.map fun e => (He.keyOf e).map (·.1) := List.mem_map.mpr ⟨e, he, rfl⟩
      rw [h3] at h5
      obtain ⟨q, hq, e2⟩ := List.mem_map.mp h5
      have e2 : some q.1 = (He.keyOf e).map (·.1) := e2
      unfold He.keyOf at e2
      split at e2
      · rename_i y t hy
        have e3 : q.1 = y := Option.some.inj e2
        exact ⟨y, t, hy, List.mem_map.mpr ⟨q, hq, e3⟩⟩
      · cases e2
    have nf : es.toList.find? (·.key.isStr z) = none := by
      rw [List.find?_eq_none]
      intro e he hs
      obtain ⟨y, t, hy, hm⟩ := hk e he
      have : y = z := by
        rw [hy] at hs
        simpa [Value.isStr] using hs
      subst this
      obtain ⟨k, hk⟩ := lookup_of_mem hm
      rw [hk] at hz
      cases hz
    have na : es.toList.any (·.refKey) = false := by
      rw [List.any_eq_false]
      intro e he
      obtain ⟨y, t, hy, hm⟩ := hk e he
      simp [DictEntry.refKey, hy]
    simp only [nf, na]
    rfl
  · have h5 := List.all_eq_true.mp h4 (z, k) (kvs_mem hz)
    cases e : PySem.W.nsIn K (He.ga K x) z with
    | none =>
      simp only [e] at h5
      cases h5
    | some r =>
      cases r with
      | none =>
        simp only [e] at h5
        cases h5
      | some u =>
        simp only [e] at h5
        exact ⟨u, rfl, He.relB_ok h5⟩
/-! ### the last parameter is None where nothing is given -/
structure DefN (P : Program) (w : World) (K : PySem.W.Frag) (mg : Str → Option Value) (base : Heap) (x : Str) (k n : Nat) (m : List PyData → Option PyData) : Prop where
  ex : ∃ (f : Addr) (fd : FuncData) (ps : List Str), FnOk P w K mg base CX0 k f fd ps (spM K (n + 1) m) ∧ mg x = some (.ref f) ∧ PySem.W.keepIn K (.ref f) = true ∧ L2.Binds K fd ps [.none]
def mDefN (N : Nat) (g : List PyData → Option PyData) (ms : MA) : M := fun n => (ms n).bind fun ds => if ds.length = N then g (ds ++ [.none]) else none
section
variable {X : Cx} {e : Expr} {es : List Expr} {pos p : Pos} {ms : MA}
theorem pv_callN {x : Str} {j k n : Nat} {g : List PyData → Option PyData} (D : DefN X.prog X.w X.K X.mg X.base x k n g) (hr : Room j X.A) (ha : PL X (e :: es) ms) (hk : k ≤ j := by decide) (hg : Gl X x := by rfl)
    (hdb : (x == ("__debug__" : Str)) = false := by decide) (he : starEach (e :: es) X.env = (false, eval e X.env) :: starEach es X.env := by rfl) (hpl : (backTo pos (starEach es X.env)).any (·.1) = false := by rfl) :
    PV X (.Call (.Name x p) (e :: es) [] pos) (mDefN n g ms) := by
  obtain ⟨f, fd, ps, F, hm, hkp, hb⟩ := D.ex
  refine PE.mono (pe_call F (hr.mono hk) hg hm hkp hb (dvs := [.non]) (.cons rfl .nil) pass0 ha hdb he hpl) fun σ H Q h => ?_
  obtain ⟨G, n', d, e, r, q, k⟩ := h
  obtain ⟨ds, hd, q⟩ := Option.bind_eq_some_iff.mp q
  by_cases hl : ds.length = n
  case neg =>
    rw [if_neg hl] at q
    cases q
  rw [if_pos hl] at q
  refine ⟨G, n', ds, e, r, hd, fun vs H1 G1 g1 d1 => ?_⟩
  exact ⟨G1, ds ++ [.none], d, g1.s, dpa_app d1 (.cons .non .nil), by rw [List.length_append, hl]; rfl, q, fun v H2 G2 g2 d2 => k v H2 G2 (g1.trans g2) d2⟩
end
end
end VE
set_option Elab.async false
set_option linter.all false
set_option maxRecDepth 100000
set_option maxHeartbeats 2000000
/-! tuples off the store; exception classes, looked at -/
namespace VE
noncomputable section
open PySem PySem.Spec L2 Evl
def eTupL (ms : M2A) : M2 := fun n S => (ms n S).bind fun a => (datas a.1).bind fun ds => @ite _ (ds.length ≤ sizeLine) (Classical.propDecidable _) (some (.d (.tuple ds), a.2)) none
section
variable {X : Cx} {es : List Expr} {pos : Pos} {ms : M2A}
theorem p2_tup {x1 : Nat} (h : P2A X es ms) : P2 X (.Tuple es x1 pos) (eTupL ms) := PE.mono (pe_tup h) fun σ H Q h => by
  obtain ⟨w, ρ, F, n, S, c, S', R, q, k⟩ := h
  obtain ⟨⟨cs, S1⟩, h1, q⟩ := Option.bind_eq_some_iff.mp q
  obtain ⟨ds, hd, q⟩ := Option.bind_eq_some_iff.mp q
  by_cases hz : ds.length ≤ sizeLine
  case neg =>
    rw [if_neg hz] at q
    cases q
  rw [if_pos hz] at q
  cases q
  refine ⟨w, ρ, F, n, S, cs, S1, R, h1, fun vs H1 ρ1 F1 R1 p1 x1 r1 => ?_⟩
  have al := datas_ok r1 hd
  exact ⟨by rw [dpa_len al]; exact hz, fin_t R1.s al fun v H2 G2 g2 d2 => k v H2 ρ1 G2 (R1.grow g2) p1 (x1.trans g2.g) d2⟩
end
def oexB (K : PySem.W.Frag) (C : Addr) : Bool := match K.lookup C with
  | some ⟨.type "type", _, .cls cd, sl⟩ => (match cd.mro, sl.toList with
    | .ref C' :: bm, [_, _, _, _, some (.builtin n), _] => C' == C && n == "ValueError.__new__" && !cd.hasDel && cd.hasDict && PySem.HandSPX.refsVE bm
    | _, _ => false)
  | _ => false
theorem oexB_ok {K : PySem.W.Frag} {C : Addr} (q : oexB K C = true) : ∃ nm q N bs bm sn sub ab col dd k0 k1 k2 k3 k5, K.lookup C = some (excClassObj nm q C N bs bm true sn sub ab col dd k0 k1 k2 k3 k5 "ValueError.__new__") ∧ PySem.HandSPX.refsVE bm = true := by
  unfold oexB at q
  split at q
  · rename_i dd cd sl ho
    split at q
    · rename_i C' bm k0 k1 k2 k3 n k5 hm hs
      simp only [Bool.and_eq_true, beq_iff_eq, Bool.not_eq_true'] at q
      obtain ⟨⟨⟨⟨rfl, rfl⟩, hdel⟩, hdi⟩, ht⟩ := q
      obtain ⟨nm, bs, mro, ns, qn, hd, sn, sub, ab, col, del⟩ := cd
      dsimp only at hm hdel hdi
      subst hm hdel hdi
      have hsl : sl = #[k0, k1, k2, k3, some (.builtin "ValueError.__new__"), k5] := by
        obtain ⟨l⟩ := sl
        simp only at hs
        rw [hs]
      subst hsl
      exact ⟨nm, qn, ns, bs, bm, sn, sub, ab, col, dd, k0, k1, k2, k3, k5, ho, ht⟩
    · cases q
  · cases q
/-- an exception class x with an __init__ of its own that stores names; sub: which handlers take it -/
def rclsB (K : PySem.W.Frag) (x : Str) (names : List Str) (sub : List (Str × Bool)) : Bool :=
  He.eqO (PySem.W.nsIn K mainGlobals x) (some (some (.ref (He.ga K x)))) && (oexB K (He.ga K x) && (He.eqO (PySem.W.findIn K (.ref (He.ga K x)) "__setattr__") (some (some (.builtin "object.__setattr__"))) &&
  (decide (PySem.W.subIn K (.ref (He.ga K x)) (.type "BaseException") = some true) && (decide (PySem.W.typeIn K (.ref (He.ga K x)) = some (.type "type")) && (PySem.W.keepIn K (.ref (He.ga K x)) &&
  (He.eqO (PySem.W.findIn K (.ref (He.ga K x)) "__init__") (some (some (.ref (He.ma K (He.ga K x) "__init__")))) && (decide (PySem.W.typeIn K (.ref (He.ma K (He.ga K x) "__init__")) = some (.type "function")) &&
  ((names.all fun f => He.eqO (PySem.W.findIn K (.ref (He.ga K x)) f) (some none)) && sub.all fun q => He.eqO (PySem.W.nsIn K mainGlobals q.1) (some (some (.ref (He.ga K q.1)))) && decide (PySem.W.exmOne K (.ref (He.ga K x)) (.ref (He.ga K q.1)) = some q.2)))))))))
structure RclsF (K : PySem.W.Frag) (mg : Str → Option Value) (x : Str) (names : List Str) (sub : List (Str × Bool)) : Prop where
  o : OexC K (He.ga K x)
  m : mg x = some (.ref (He.ga K x))
  i : PySem.W.findIn K (.ref (He.ga K x)) "__init__" = some (some (.ref (He.ma K (He.ga K x) "__init__")))
  t : PySem.W.typeIn K (.ref (He.ma K (He.ga K x) "__init__")) = some (.type "function")
  n : ∀ f ∈ names, PySem.W.findIn K (.ref (He.ga K x)) f = some none
  s : ∀ y b, sub.lookup y = some b → ∃ D, mg y = some (.ref D) ∧ PySem.W.exmOne K (.ref (He.ga K x)) (.ref D) = some b
theorem sub_mem {α : Type} {kvs : List (Str × α)} {z : Str} {k : α} (h : kvs.lookup z = some k) : (z, k) ∈ kvs := by
  induction kvs with
  | nil => cases h
  | cons a r ih =>
    obtain ⟨y, j⟩ := a
    rw [List.lookup_cons] at h
    cases hz : z == y with
    | true =>
      rw [hz] at h
      cases h
      have : z = y := eq_of_beq hz
      subst this
      exact List.mem_cons_self ..
    | false =>
      rw [hz] at h
      exact List.mem_cons_of_mem _ (ih h)
theorem rcls_of {K : PySem.W.Frag} {h : Heap} {mg : Str → Option Value} {x : Str} {names : List Str} {sub : List (Str × Bool)} (X : K.In h) (G : h.Ns mainGlobals mg) (hb : rclsB K x names sub = true) : RclsF K mg x names sub := by
  obtain ⟨h0, h⟩ := He.ba hb
  obtain ⟨h1, h⟩ := He.ba h
  obtain ⟨h2, h⟩ := He.ba h
  obtain ⟨h3, h⟩ := He.ba h
  obtain ⟨h4, h⟩ := He.ba h
  obtain ⟨h5, h⟩ := He.ba h
  obtain ⟨h6, h⟩ := He.ba h
  obtain ⟨h7, h⟩ := He.ba h
  obtain ⟨h8, h9⟩ := He.ba h
  refine ⟨⟨oexB_ok h1, He.eqO_ok h2, of_decide_eq_true h3, of_decide_eq_true h4, h5⟩, PySem.W.mg_of X G (He.eqO_ok h0), He.eqO_ok h6, of_decide_eq_true h7, fun f hf => He.eqO_ok (List.all_eq_true.mp h8 f hf), fun y b hy => ?_⟩
  have h10 := List.all_eq_true.mp h9 (y, b) (sub_mem hy)
  obtain ⟨h11, h12⟩ := He.ba h10
  exact ⟨He.ga K y, PySem.W.mg_of X G (He.eqO_ok h11), of_decide_eq_true h12⟩
theorem RclsF.mk_ {P : Program} {w : World} {K : PySem.W.Frag} {mg : Str → Option Value} {base : Heap} {x : Str} {names ps : List Str} {sub : List (Str × Bool)} {k : Nat} {fd : FuncData} (T : RclsF K mg x names sub)
    (F : FnOk P w K mg base CX0 k (He.ma K (He.ga K x) "__init__") fd ps (spI (He.ga K x) names)) (hb : L2.Binds K fd ps []) : RCls P w K mg base x k names sub :=
  ⟨_, _, fd, ps, T.o, T.m, T.i, T.t, F, hb, T.s⟩
/-! ### // by great divisors; text.index -/
section
variable {X : Cx}
def vDivP : PyData → PyData → Option PyData
  | .int i, .int j => if 0 < j then some (.int (i / j)) else none
  | _, _ => none
/-- what of the ground a long division asks -/
structure SeerK (K : PySem.W.Frag) : Prop where
  statics : ∀ h, K.In h → ∃ mc, h.Ns cStatics mc ∧ mc "sys.audit-hooks" = none ∧ mc "sys.dict" = none
  mods : ∀ h, K.In h → ∃ mm, h.Ns sysModules mm ∧ mm "_pylong" = none
  main : ∀ h mg, K.In h → h.Ns mainGlobals mg → ∃ bm ob, mg "__builtins__" = some (.ref bm) ∧ h.get? bm = some ob ∧ ob.cls = .type "module" ∧ ob.dict = some builtinsNs
theorem SeerK.of {K : PySem.W.Frag} {mg : Str → Option Value} {base : Heap} (S : SeerK K) (M : Mod K mg base) : base.NoSeer where
  statics := S.statics base M.kin
  mods := S.mods base M.kin
  imp := M.blt
  main := by
    obtain ⟨bm, ob, h1, h2, h3, h4⟩ := S.main base mg M.kin M.glob
    exact ⟨mg, bm, ob, M.glob, h1, h2, h3, h4⟩
theorem op_fdivP {k : Nat} (hr : Room k X.A) (sr : SeerK X.K) (ht : X.prog.given.tree = none) (h32 : 32 ≤ k := by decide) (hstk : X.stack = X.env :: X.outer := by rfl) (hgen : X.env.scope.isGenerator = false := by rfl) (hco : X.env.scope.isCoroutine = false := by rfl) :
    OpR X (binaryOp .FloorDiv) (L2.rI (fun _ j => 0 < j) fun i j => .int (i / j)) := by
  intro pins s σ H x y v u Q I rx ry h
  obtain ⟨i, j, rfl, rfl, h1, q⟩ := h
  obtain ⟨t, rfl⟩ := rx
  obtain ⟨t', rfl⟩ := ry
  have h1 : (0 : Int) < j := h1
  refine PyProof.Rows.floordiv_int (by omega) (by rw [Int.fdiv_eq_ediv_of_nonneg i (by omega)]; exact ⟨.int (i / j), H, I.tok _, ⟨_, rfl⟩, q⟩) (.inr ?_)
  exact PySem.PylongRoom.of I.nolimit (by have := hr.dp; have e : Builtin.pylongFrames = 100 := rfl; omega) (PySem.SeerAt.of (env := X.env) (l := X.outer) ((sr.of I.ok.mod).keeps I.bk) ht (by rw [I.ok.frames, hstk]) hgen hco I.ok.blt I.ok.glob)
theorem od_divP {k : Nat} (hr : Room k X.A) (sr : SeerK X.K) (ht : X.prog.given.tree = none) (h32 : 32 ≤ k := by decide) (hstk : X.stack = X.env :: X.outer := by rfl) (hgen : X.env.scope.isGenerator = false := by rfl) (hco : X.env.scope.isCoroutine = false := by rfl) : OpD X (binaryOp .FloorDiv) vDivP := oi1 (op_fdivP hr sr ht h32 hstk hgen hco) (fun d e z h => by
  unfold vDivP at h
  split at h
  · split at h
    · rename_i c
      cases h
      exact ⟨_, _, rfl, rfl, c, rfl⟩
    · cases h
  · cases h) fun _ _ _ => .int _
end
section
variable {X : Cx}
theorem od_inR {j : Nat} (hr : Room j X.A) : OpD X (compareOp .In) vIn := od_in (by have := hr.un; omega)
theorem od_notInR {j : Nat} (hr : Room j X.A) : OpD X (compareOp .NotIn) vNotIn := od_notIn (by have := hr.un; omega)
end
def vIndex : PyData → PyData → Option PyData
  | .str a, .str b => match Builtin.Str.occurrences a b 0 a.length 1 with
    | i :: _ => some (.int i)
    | [] => none
  | _, _ => none
section
variable {X : Cx} {a e : Expr} {ma mb : M} {apos pos : Pos}
theorem pv_index (ho : PV X a ma) (he : PV X e mb) (hst : starEach [e] X.env = (false, eval e X.env) :: starEach [] X.env := by rfl) (hpl : (backTo pos (starEach [] X.env)).any (·.1) = false := by rfl)
    (hbase : attributeBase a "index" X.env (eval a X.env) = eval a X.env := by rfl)
    (hfew : ((backTo pos (starEach [e] X.env)).all (fun x => !x.1) && (backToKw pos (keywordEach [] X.env)).all (fun x => x.1.isSome)
      && decide ([e].length + ([] : List Keyword).length + (if ([] : List Keyword).isEmpty then 0 else 1) < 30)) = true := by rfl)
    (hline : (apos.endLine == pos.line) = true := by rfl) : PV X (.Call (.Attribute a "index" apos) [e] [] pos) (mBin vIndex ma mb) :=
  PE.mono (pe_bm PySem.F.plainAttrs_str PySem.F.slot_str_index PySem.F.type_str_index mt_sindex ho (pl_cons he pl_nil hst) hbase hfew hline hst hpl) fun σ H Q h => by
  obtain ⟨G, n, d, g, r, q, k⟩ := h
  obtain ⟨x, hx, q⟩ := Option.bind_eq_some_iff.mp q
  obtain ⟨y, hy, q⟩ := Option.bind_eq_some_iff.mp q
  refine ⟨G, n, x, g, r, hx, fun v H1 G1 g1 d1 => ?_⟩
  unfold vIndex at q
  split at q
  · split at q
    · rename_i i rest ho
      cases q
      cases dp_str d1
      refine ⟨rfl, G1, n, [_], g1.s, r.mono g1.g, by show (mb n).bind _ = _; rw [hy]; rfl, fun vs H2 G2 g2 d2 => ?_⟩
      obtain ⟨v, rfl, h1⟩ := dpa1 d2
      cases dp_str h1
      exact ⟨_, _, i, rest, rfl, rfl, ho, k _ H2 G2 (g1.trans g2) (.int _)⟩
    · cases q
  · cases q
end
def seerB (K : PySem.W.Frag) : Bool := PySem.W.nsOkIn K cStatics && (He.eqO (PySem.W.nsIn K cStatics "sys.audit-hooks") (some none) && (He.eqO (PySem.W.nsIn K cStatics "sys.dict") (some none) && (PySem.W.nsOkIn K sysModules && (He.eqO (PySem.W.nsIn K sysModules "_pylong") (some none) &&
  match PySem.W.nsIn K mainGlobals "__builtins__" with
  | some (some (.ref b)) => (match K.lookup b with
    | some ⟨.type c, some d, _, _⟩ => decide (c = "module") && d == builtinsNs
    | _ => false)
  | _ => false))))
theorem seerK_of {K : PySem.W.Frag} (hb : seerB K = true) : SeerK K := by
  obtain ⟨h1, hb⟩ := He.ba hb
  obtain ⟨h2, hb⟩ := He.ba hb
  obtain ⟨h3, hb⟩ := He.ba hb
  obtain ⟨h4, hb⟩ := He.ba hb
  obtain ⟨h5, hb⟩ := He.ba hb
  refine ⟨fun h X => ⟨_, .of_isNs (PySem.W.isNs_of_in X h1), PySem.W.nsMap_none_of_in X h1 (He.eqO_ok h2), PySem.W.nsMap_none_of_in X h1 (He.eqO_ok h3)⟩, fun h X => ⟨_, .of_isNs (PySem.W.isNs_of_in X h4), PySem.W.nsMap_none_of_in X h4 (He.eqO_ok h5)⟩, fun h mg X G => ?_⟩
  split at hb
  · rename_i b hn
    split at hb
    · rename_i c d dt sl hl
      obtain ⟨h6, h7⟩ := He.ba hb
      have e : c = "module" := of_decide_eq_true h6
      subst e
      exact ⟨b, _, PySem.W.mg_of X G hn, X _ _ hl, rfl, by rw [beq_iff_eq.mp h7]⟩
    · cases hb
  · cases hb
/-! ### the Hook, by more roots -/
def asS (g : Addr → Option Obj) (n : Nat) : List Addr := He.asD g n ++ [cStatics, sysModules]
def obsS (n : Nat) (fa : List He.Fa) (fn : List He.DefD) (ts : List He.Tab) (ex : PySem.W.Frag → Bool) (g : Addr → Option Obj) : He.AlX := (He.obsT fa fn ts (He.frG g (asS g n)), ex (He.frG g (asS g n)))
structure SaysS (fa : List He.Fa) (fn : List He.DefD) (ts : List He.Tab) (ex : PySem.W.Frag → Bool) (w : World) (K : PySem.W.Frag) : Prop where
  t : He.SaysT fa fn ts w K
  more : ex K = true
theorem saysS_of {n : Nat} {fa : List He.Fa} {fn : List He.DefD} {ts : List He.Tab} {ex : PySem.W.Frag → Bool} {w : World} {g : Addr → Option Obj} (e : obsS n fa fn ts ex g = He.valX fn ts w) : SaysS fa fn ts ex w (He.frG g (asS g n)) :=
  ⟨congrArg (fun z : He.AlX => z.1) e, congrArg (fun z : He.AlX => z.2) e⟩
def hookS (n : Nat) (fa : List He.Fa) (fn : List He.DefD) (ts : List He.Tab) (ex : PySem.W.Frag → Bool) : PySem.W.Hook where
  α := He.AlX
  obs := fun s => obsS n fa fn ts ex s.heap.get?
  val := fun w => He.valX fn ts w
  says := fun w h => ∃ K : PySem.W.Frag, K.In h ∧ SaysS fa fn ts ex w K
  of := fun _ _ e => ⟨_, He.frG_in, saysS_of e⟩
  keeps := fun _ _ _ ⟨K, hK, c⟩ k => ⟨K, PySem.W.Frag.In.keeps hK k, c⟩
theorem obsS_eq {n : Nat} {fa : List He.Fa} {fn : List He.DefD} {ts : List He.Tab} {ex : PySem.W.Frag → Bool} {g : Addr → Option Obj} {s : Shared} (h : ∀ a, g a = s.heap.get? a) : obsS n fa fn ts ex g = (hookS n fa fn ts ex).obs s := by
  have e : g = s.heap.get? := funext h
  rw [e] <;> rfl
theorem takes_no {X : Cx} : Takes X (fun _ _ _ _ => False) := fun _ _ ⟨_, _, _, _, _, _, _, _, _, _, _, _, _, _, _, _, w⟩ => w.elim
theorem clsK {K : PySem.W.Frag} {mg : Str → Option Value} {C f : Str} (hg : mg C = some (.ref (He.ga K C))) (h1 : Cls K (He.ga K C)) (h2 : NoAttr K (He.ga K C) f) : ClsKnown K mg C f := fun Ca h => by
  have e := hg.symm.trans h
  cases e
  exact ⟨h1, h2⟩
/-- the defs of a class -/
def clsBdy : Stmt → List Stmt
  | .ClassDef (body := b) .. => b
  | _ => []
end
end VE
set_option Elab.async false
set_option linter.all false
set_option maxRecDepth 100000
set_option maxHeartbeats 2000000
/-! reversed walks, *=, o[i] += e, max of four -/
namespace VE
noncomputable section
open PySem PySem.Spec L2 Evl
theorem rev_get {α : Type} {xs : List α} {i : Nat} {x : α} (h : xs.reverse[i]? = some x) : i < xs.length ∧ xs[xs.length - 1 - i]? = some x := by
  have hi := (List.getElem?_eq_some_iff.mp h).1
  rw [List.length_reverse] at hi
  rw [List.getElem?_reverse hi] at h
  exact ⟨hi, h⟩
theorem yld_rev {K : PySem.W.Frag} {G : Hp} {a : Addr} {vs : List V} {ds : List PyData} (h : SqL K G a vs) (al : DpAll K G vs ds) : Yld K (Itv K a vs.length) G ds.reverse := fun i H e => by
  refine ⟨fun d hd => ?_, fun hl => by
    show vs.length ≤ i
    rw [List.length_reverse] at hl
    rw [dpa_len al]
    exact hl⟩
  obtain ⟨hi, hd⟩ := rev_get hd
  obtain ⟨v, hv, dv⟩ := dpa_get al hd
  rw [← dpa_len al] at hv hi
  refine ⟨⟨hi, vs, v, ex_l e h, hv⟩, fun x H' y F e1 e2 => ?_⟩
  obtain ⟨rfl, y⟩ := y
  have z := y vs (ex_l e h)
  rw [hv] at z
  cases z
  exact ⟨F, Gr.refl e2, dp_ex e1 dv⟩
theorem yld_revT {K : PySem.W.Frag} {G : Hp} {a : Addr} {vs : List V} {ds : List PyData} (h : SqT K G a vs) (al : DpAll K G vs ds) : Yld K (RT.ItvT K a vs.length) G ds.reverse := fun i H e => by
  refine ⟨fun d hd => ?_, fun hl => by
    show vs.length ≤ i
    rw [List.length_reverse] at hl
    rw [dpa_len al]
    exact hl⟩
  obtain ⟨hi, hd⟩ := rev_get hd
  obtain ⟨v, hv, dv⟩ := dpa_get al hd
  rw [← dpa_len al] at hv hi
  refine ⟨⟨hi, vs, v, ex_t e h, hv⟩, fun x H' y F e1 e2 => ?_⟩
  obtain ⟨rfl, y⟩ := y
  have z := y vs (ex_t e h)
  rw [hv] at z
  cases z
  exact ⟨F, Gr.refl e2, dp_ex e1 dv⟩
def revD : PyData → Option (List PyData)
  | .list xs => some xs.reverse
  | .tuple xs => some xs.reverse
  | _ => none
def mRevI (m : M) : MA := fun n => (m n).bind revD
section
variable {X : Cx} {tg e b : Expr} {pos p : Pos} {m mb : M}
theorem piv_rev (he : PV X e m) (hm : X.mg "reversed" = none) (hg : Gl X "reversed" := by rfl) (hs : starEach [e] X.env = (false, eval e X.env) :: starEach [] X.env := by rfl) : PIV X tg (.Call (.Name "reversed" p) [e] [] pos) (mRevI m) := PI.mono (RT.pi_revA hg hm he hs) fun σ H R h => by
  obtain ⟨G, n, ds, g, r, q, k⟩ := h
  obtain ⟨d, hd, q⟩ := Option.bind_eq_some_iff.mp q
  refine ⟨G, n, d, g, r, hd, fun v H1 G1 g1 d1 => ?_⟩
  cases d with
  | list xs =>
    have q : some xs.reverse = some ds := q
    cases q
    obtain ⟨a, vs, rfl, h1, al⟩ := dp_lst d1
    exact ⟨a, vs, rfl, .inl ⟨ex_l g1.s h1, k _ H1 G1 g1 (yld_rev h1 al)⟩⟩
  | tuple xs =>
    have q : some xs.reverse = some ds := q
    cases q
    obtain ⟨a, vs, rfl, h1, al⟩ := dp_tup d1
    exact ⟨a, vs, rfl, .inr ⟨ex_t g1.s h1, k _ H1 G1 g1 (yld_revT h1 al)⟩⟩
  | _ => cases q
theorem iop_mulW : OpR X (inplaceOp .Mult) (L2.rI CMulW fun i j => .int (i * j)) := opI fun _ _ _ _ _ _ _ hc q => PyProof.Rows.imul_int q hc.ok
def vMulW : PyData → PyData → Option PyData
  | .int i, .int j => @ite _ (CMulW i j) (Classical.propDecidable _) (some (.int (i * j))) none
  | _, _ => none
theorem od_imul : OpD X (inplaceOp .Mult) vMulW := oi1 iop_mulW (fun d e z h => by
  unfold vMulW at h
  split at h
  · split at h
    · rename_i c
      cases h
      exact ⟨_, _, rfl, rfl, c, rfl⟩
    · cases h
  · cases h) fun _ _ _ => .int _
/-- x[b] op= e, x a list of one's own -/
def mAugP (f : Int → Int → Int) (ws : List Nat) (i : Nat) (m mb : M) : MS := fun n => (getO n i).bind fun xs => (mb (hide ws n)).bind fun kd => (asI kd).bind fun k => (ixN xs.length k).bind fun j => (xs[j]?).bind fun xd => (asI xd).bind fun x => (m (hide ws n)).bind fun d => (asI d).bind fun y => some (.nx (n.set i (.o (xs.set j (.int (f x y))))))
theorem psv_augP {op : Operator} {f : Int → Int → Int} (hop : PIp X op (ipI f)) (ws : List Nat) (i : Nat) {x : Str} {p1 tpos : Pos} (he : PV X e m) (hb : PV X b mb) (hN : X.N[i]? = some x := by rfl) (hv : Vis X.env.scope x := by first | exact Or.inl rfl | exact Or.inr (Or.inl rfl) | exact Or.inr (Or.inr rfl)) (hd : (x == ("__debug__" : Str)) = false := by decide)
    (hcd : (x == ("__classdict__" : Str)) = false := by decide)
    (ha : ∀ ov iv new, augStore b ov iv new = (do holding [new, ov, iv] (setItem ov iv new); release [new, ov, iv] []; pure .next) := by intros; rfl) :
    PSV X (.AugAssign (.Subscript (.Name x p1) b tpos) op e pos) (mAugP f ws i m mb) := PS.mono (ps_augS (pe_var hN hv hd hcd) hb get_list he hop set_list ha) fun D σ H h => by
  obtain ⟨G0, H0, n, o, ⟨F, g, R⟩, q, k⟩ := h
  obtain ⟨xs, hx, q⟩ := Option.bind_eq_some_iff.mp q
  obtain ⟨kd, hk, q⟩ := Option.bind_eq_some_iff.mp q
  obtain ⟨kk, hkk, q⟩ := Option.bind_eq_some_iff.mp q
  obtain ⟨j, hj, q⟩ := Option.bind_eq_some_iff.mp q
  obtain ⟨xd, hxd, q⟩ := Option.bind_eq_some_iff.mp q
  obtain ⟨x0, hx0, q⟩ := Option.bind_eq_some_iff.mp q
  obtain ⟨d, hd, q⟩ := Option.bind_eq_some_iff.mp q
  obtain ⟨y, hy, q⟩ := Option.bind_eq_some_iff.mp q
  cases q
  cases asI_eq hkk
  cases asI_eq hx0
  cases asI_eq hy
  have hx := getO_eq hx
  obtain ⟨p, vs, e, hF, h0, hH, al⟩ := R.o i xs hx
  refine ⟨.ref p, e, withO ws n σ F H, hide ws n, _, withO_s ws g.s, vr_hide ws R, hk, fun w H2 G2 g2 d2 => ?_⟩
  cases dp_int d2
  obtain ⟨u0, hu0, du0⟩ := dpa_get al hxd
  cases dp_int du0
  refine ⟨p, vs, kk, .int x0, rfl, rfl, g2.h p _ hH, ?_, ?_⟩
  · unfold atI
    rw [dpa_len al, hj]
    exact hu0
  refine ⟨G2, hide ws n, _, g2.s, (vr_hide ws R).mono g2.g, hd, fun t H3 G3 g3 d3 => ?_⟩
  cases dp_int d3
  have g23 := g2.trans g3
  exact ⟨x0, y, rfl, rfl, p, vs, kk, j, rfl, rfl, g23.h p _ hH, by rw [dpa_len al]; exact hj, k _ _ ⟨F, gr_mut ⟨g.g, g.s.trans g23.h, g.h.trans g23.h, g.f⟩ hF h0, (R.stay g23.h).mut hx e (dpa_set (.int _) j al)⟩⟩
end
/-! ### max of four -/
section
variable {prog : Program} {w : World} {A : Around} {E : Value → Shared → Prop} {s : Shared}
theorem args_max4 (a b c d : Value) : argsOk "max" ⟨[a, b, c, d], []⟩ := by unfold argsOk; kernel_rfl
def mx2 (i j : Int) : Int := if j > i then j else i
theorem call_max_four {a b c d : Value} {Q : Value → Shared → Prop}
    (h : wpAny (model prog w) A.in1 (pyIter (.ref s.heap.objs.size)) (fun it s₂ => ∃ I fp wr n P St bt, it = .ref I ∧ Walks prog w A.in1 I fp wr n P St ∧ St 0 s₂.heap ∧ (∀ b ∈ fp, b < s₂.heap.objs.size) ∧ 0 < n ∧ CmpOf prog w A.in1 .Gt P bt ∧
      ∀ v h' tk, P (argBest bt (n - 1)) v → (∀ b o, b ∉ wr → s₂.heap.get? b = some o → h'.get? b = some o) → Q v { s₂ with heap := h', toks := tk }) E
      { s with heap := s.heap.push { cls := .type "tuple", data := .seq #[a, b, c, d] } }) :
    wpAny (model prog w) A (call (.builtin "max") [a, b, c, d]) Q E s := by
  have hname : (toString "max" ++ toString ".loop" : String) = "max.loop" := by decide
  refine call_function_tree PySem.F.kind_max PySem.F.plain_max PySem.F.entry_max (args_max4 _ _ _ _) ?_
  show wpAny _ A.in1 (Builtin.Builtins.bindParams "max" ["key", "default"] 0 ⟨[], []⟩ >>= _) _ _ s
  refine wpAny_bind (wpAny_of_eq (show Builtin.Builtins.bindParams "max" ["key", "default"] 0 ⟨[], []⟩ = pure [none, none] from rfl) ?_)
  show wpAny _ A.in1 (newTuple [a, b, c, d] >>= _) _ _ s
  refine wpAny_bind (wpAny_newObj_type ?_)
  refine wpAny_bind (wpAny_mono h (fun it s₂ h₂ => ?_) fun _ _ e => e)
  obtain ⟨I, fp, wr, n, P, St, bt, rfl, W, hst, hfp, hn, hcmp, hQ⟩ := h₂
  refine wpAny_bind (wpAny_newObj_type ?_)
  have hSf : s₂.heap.objs.size ∉ fp := fun hm => Nat.lt_irrefl _ (hfp _ hm)
  rw [hname]
  refine wpAny_pure ⟨plainId_quiet PySem.F.plain_max_loop _, codeAny_max_loop_first W bt hcmp s₂.heap.objs.size hSf hn (W.frame _ _ _ hst fun b _ o e => Heap.get?_push_of_some _ e) (Heap.get?_push_size _ rfl) fun v h' tk hP hk => ?_⟩
  exact hQ v h' tk hP fun b o hbw e => hk b o hbw (Nat.ne_of_lt (Heap.lt_size e)) (Heap.get?_push_of_some _ e)
theorem max_four_ints {a b c d : Int} {t u x y : Tok} {Q : Value → Shared → Prop} (hh : A.handled = none)
    (h : ∀ v h' tk, (∀ d o, s.heap.get? d = some o → h'.get? d = some o) → (∃ tv, v = .int (mx2 (mx2 (mx2 a b) c) d) tv) → Q v { s with heap := h', toks := tk }) :
    wpAny (model prog w) A (call (.builtin "max") [.int a t, .int b u, .int c x, .int d y]) Q E s := by
  have hT : (s.heap.push { cls := .type "tuple", data := .seq #[.int a t, .int b u, .int c x, .int d y] }).IsTuple s.heap.objs.size (intItems #[(a, t), (b, u), (c, x), (d, y)]) := ⟨_, Heap.get?_push_size _ rfl, rfl, 0, by simp [intItems]⟩
  refine call_max_four (wpAny_pyIter_tuple hT ?_)
  have hsz : (s.heap.push { cls := .type "tuple", data := .seq #[.int a t, .int b u, .int c x, .int d y] }).objs.size = s.heap.objs.size + 1 := Heap.size_push ..
  refine ⟨_, [_, s.heap.objs.size], [_], _, _, _, _, rfl, Walks.tuple (A := A.in1) hh _ s.heap.objs.size (by rw [hsz]; exact Nat.ne_of_lt (Nat.lt_succ_self _)) (intItems #[(a, t), (b, u), (c, x), (d, y)]),
    ⟨⟨_, Heap.get?_push_size _ rfl, rfl, rfl⟩, hT.push _⟩, fun d hd => ?_, by simp [intItems], CmpOf.ints_gt (numAt #[(a, t), (b, u), (c, x), (d, y)]) (fun _ _ => intItems_at), fun v h' tk hP hk => ?_⟩
  · show d < ((s.heap.push _).push _).objs.size
    rw [Heap.size_push, hsz]
    rcases List.mem_cons.mp hd with rfl | hd
    · rw [hsz]; exact Nat.lt_succ_self _
    · rcases List.mem_cons.mp hd with rfl | hd
      · exact Nat.lt_succ_of_lt (Nat.lt_succ_self _)
      · cases hd
  · have hold : ∀ d o, s.heap.get? d = some o → h'.get? d = some o := fun d o e => by
      refine hk d o (fun hm => ?_) (Heap.get?_push_of_some _ (Heap.get?_push_of_some _ e))
      rcases List.mem_cons.mp hm with e1 | hm
      · have := Heap.lt_size e; rw [e1, hsz] at this; exact Nat.lt_irrefl _ (Nat.lt_of_succ_lt this)
      · cases hm
    refine h v h' tk hold ?_
    have hP' : (intItems #[(a, t), (b, u), (c, x), (d, y)])[argBest (fun i j => decide (numAt #[(a, t), (b, u), (c, x), (d, y)] i > numAt #[(a, t), (b, u), (c, x), (d, y)] j)) 3]? = some v := by
      have hsz2 : (intItems #[(a, t), (b, u), (c, x), (d, y)]).size - 1 = 3 := by simp [intItems]
      rw [← hsz2]; exact hP
    by_cases hba : b > a
    · by_cases hc : c > b
      · by_cases hd : d > c
        · simp [argBest, numAt, hba, hc, hd, intItems] at hP'
          exact ⟨y, by rw [← hP']; simp [mx2, hba, hc, hd]⟩
        · simp [argBest, numAt, hba, hc, hd, intItems] at hP'
          exact ⟨x, by rw [← hP']; simp [mx2, hba, hc, hd]⟩
      · by_cases hd : d > b
        · simp [argBest, numAt, hba, hc, hd, intItems] at hP'
          exact ⟨y, by rw [← hP']; simp [mx2, hba, hc, hd]⟩
        · simp [argBest, numAt, hba, hc, hd, intItems] at hP'
          exact ⟨u, by rw [← hP']; simp [mx2, hba, hc, hd]⟩
    · by_cases hc : c > a
      · by_cases hd : d > c
        · simp [argBest, numAt, hba, hc, hd, intItems] at hP'
          exact ⟨y, by rw [← hP']; simp [mx2, hba, hc, hd]⟩
        · simp [argBest, numAt, hba, hc, hd, intItems] at hP'
          exact ⟨x, by rw [← hP']; simp [mx2, hba, hc, hd]⟩
      · by_cases hd : d > a
        · simp [argBest, numAt, hba, hc, hd, intItems] at hP'
          exact ⟨y, by rw [← hP']; simp [mx2, hba, hc, hd]⟩
        · simp [argBest, numAt, hba, hc, hd, intItems] at hP'
          exact ⟨t, by rw [← hP']; simp [mx2, hba, hc, hd]⟩
end
def vMax4 : List PyData → Option PyData
  | [.int a, .int b, .int c, .int d] => some (.int (mx2 (mx2 (mx2 a b) c) d))
  | _ => none
theorem cd_max4 {X : Cx} (hc : X.calm = true := by rfl) : CallD X (.builtin "max") vMax4 := by
  intro pins s σ H xs us Q I r h
  obtain ⟨G, ds, z, g, a, q, k⟩ := h
  unfold vMax4 at q
  split at q
  · cases q
    cases a with
    | cons d1 a =>
      cases a with
      | cons d2 a =>
        cases a with
        | cons d3 a =>
          cases a with
          | cons d4 a =>
            cases a
            cases dp_int d1; cases dp_int d2; cases dp_int d3; cases dp_int d4
            cases r with
            | cons r1 r =>
              cases r with
              | cons r2 r =>
                cases r with
                | cons r3 r =>
                  cases r with
                  | cons r4 r =>
                    cases r
                    obtain ⟨t1, rfl⟩ := r1
                    obtain ⟨t2, rfl⟩ := r2
                    obtain ⟨t3, rfl⟩ := r3
                    obtain ⟨t4, rfl⟩ := r4
                    refine max_four_ints (I.ok.hd hc) fun v h' tk hk ⟨tv, e⟩ => ?_
                    subst e
                    exact ⟨.int _, H, I.kept hk, ⟨tv, rfl⟩, k _ H G (Gr.refl g) (.int _)⟩
  · cases q
end
end VE
set_option Elab.async false
set_option linter.all false
set_option maxRecDepth 100000
set_option maxHeartbeats 100000
/-! running the mirrors in plain Lean -/
namespace VE
open PySem L2
/-! ### expressions, applied -/
section
variable {n : En} {m ma mb mc : M} {mt mu : MT} {ms : MA}
@[simp] theorem mC_ap {d : PyData} : mC d n = some d := rfl
@[simp] theorem mVar_ap {i : Nat} : mVar i n = (n[i]?).bind Sl.val := rfl
@[simp] theorem mBin_ap {g : PyData → PyData → Option PyData} : mBin g ma mb n = (ma n).bind fun x => (mb n).bind fun y => g x y := rfl
@[simp] theorem mUn_ap {g : PyData → Option PyData} : mUn g m n = (m n).bind g := rfl
@[simp] theorem mBool_ap : mBool m n = (m n).bind asB := rfl
@[simp] theorem mTru_ap : mTru m n = (m n).bind truD := rfl
@[simp] theorem mNot_ap : mNot mt n = (mt n).map not := rfl
@[simp] theorem mAnd_ap : mAnd mt mu n = (mt n).bind fun a => if a = true then mu n else some false := rfl
@[simp] theorem mOr_ap : mOr mt mu n = (mt n).bind fun a => if a = true then some true else mu n := rfl
@[simp] theorem mAndV_ap : mAndV ma mb n = (ma n).bind fun x => (truD x).bind fun k => if k = true then mb n else some x := rfl
@[simp] theorem mOrV_ap : mOrV ma mb n = (ma n).bind fun x => (truD x).bind fun k => if k = true then some x else mb n := rfl
@[simp] theorem mNotV_ap : mNotV m n = (m n).bind fun x => (truD x).map fun k => .bool (!k) := rfl
@[simp] theorem mIf_ap : mIf mt ma mb n = (mt n).bind fun c => if c = true then ma n else mb n := rfl
@[simp] theorem mChain_ap {g g' : PyData → PyData → Option PyData} : mChain g g' ma mb mc n = (ma n).bind fun x => (mb n).bind fun y => (g x y).bind fun z => (asB z).bind fun k => if k = true then (mc n).bind fun w => g' y w else some (.bool false) := rfl
@[simp] theorem mON_ap : mON n = some none := rfl
@[simp] theorem mOS_ap : mOS m n = (m n).bind fun x => (asI x).map some := rfl
@[simp] theorem mSl_ap {ml mh : MO} : mSl m ml mh n = (m n).bind fun x => (ml n).bind fun l => (mh n).bind fun h => vSl x l h := rfl
@[simp] theorem mSlF_ap {ml mh : MO} : mSlF m ml mh n = (m n).bind fun x => (ml n).bind fun l => (mh n).bind fun h => match x with
  | .list xs => some (cutD xs l h)
  | _ => none := rfl
@[simp] theorem mNil_ap : mNil n = some [] := rfl
@[simp] theorem mCons_ap : mCons m ms n = (m n).bind fun d => (ms n).bind fun ds => some (d :: ds) := rfl
@[simp] theorem mTup_ap : mTup ms n = (ms n).bind fun ds => @ite _ (ds.length ≤ sizeLine) (Classical.propDecidable _) (some (.tuple ds)) none := rfl
@[simp] theorem mL_ap : mL ms n = (ms n).map .list := rfl
@[simp] theorem mLst_ap : mLst ms n = (ms n).bind fun ds => @ite _ (ds.length ≤ sizeLine) (Classical.propDecidable _) (some ds) none := rfl
@[simp] theorem mCall_ap {g : List PyData → Option PyData} : mCall g ms n = (ms n).bind g := rfl
@[simp] theorem mCallF_ap {g : List PyData → Option (List PyData)} : mCallF g ms n = (ms n).bind g := rfl
@[simp] theorem mDef_ap {N : Nat} {g : List PyData → Option PyData} : mDef N g ms n = (ms n).bind fun ds => if ds.length = N then g ds else none := rfl
@[simp] theorem mItems_ap : mItems m n = (m n).bind itemsD := rfl
@[simp] theorem mRng_ap {f : List PyData → Option (List PyData)} : mRng f ms n = (ms n).bind f := rfl
@[simp] theorem mListRev_ap : mListRev m n = (m n).bind fun d => match d with
  | .list xs => some xs.reverse
  | _ => none := rfl
@[simp] theorem mLR1_ap : mLR1 m n = (m n).bind fun d => (asI d).bind fun i => lrg 0 i := rfl
@[simp] theorem mLR2_ap : mLR2 ma mb n = (ma n).bind fun d => (mb n).bind fun e => (asI d).bind fun i => (asI e).bind fun j => lrg i j := rfl
@[simp] theorem mRep_ap : mRep ms m n = (ms n).bind fun xs => (m n).bind fun d => (asI d).bind fun k => @ite _ (-(2 ^ 63) ≤ k ∧ k < 2 ^ 63 ∧ xs.length * k.toNat ≤ 16000000) (Classical.propDecidable _) (some (repD xs k.toNat)) none := rfl
@[simp] theorem mCatF_ap : mCatF ma mb n = (ma n).bind fun x => (mb n).bind fun y => match x, y with
  | .list xs, .list ys => @ite _ (xs.length + ys.length ≤ sizeLine) (Classical.propDecidable _) (some (xs ++ ys)) none
  | _, _ => none := rfl
@[simp] theorem mYes_ap : mYes n = some true := rfl
@[simp] theorem mLc_ap {vs : List Nat} {f : Fl} {me : M} : mLc vs ms f mt me n = (ms n).bind fun ds => (compL f vs mt me (wipeE n vs) ds).bind fun rs => @ite _ (rs.length < 16000000) (Classical.propDecidable _) (some rs) none := rfl
end
end VE
namespace VE
open PySem L2
@[simp] theorem sl_val_v {d : PyData} : (Sl.v d).val = some d := rfl
@[simp] theorem sl_val_o {d : List PyData} : (Sl.o d).val = some (.list d) := rfl
@[simp] theorem sl_val_no : (Sl.no).val = none := rfl
@[simp] theorem asB_b {b : Bool} : asB (.bool b) = some b := rfl
@[simp] theorem asI_i {b : Int} : asI (.int b) = some b := rfl
@[simp] theorem truD_b {b : Bool} : truD (.bool b) = some b := rfl
@[simp] theorem truD_i {b : Int} : truD (.int b) = some (b != 0) := rfl
@[simp] theorem truD_n : truD .none = some false := rfl
@[simp] theorem truD_l {b : List PyData} : truD (.list b) = some (!b.isEmpty) := rfl
@[simp] theorem truD_t {b : List PyData} : truD (.tuple b) = some (!b.isEmpty) := rfl
@[simp] theorem vAdd_ii {i j : Int} : vAdd (.int i) (.int j) = some (.int (i + j)) := rfl
@[simp] theorem vAdd_ss {i j : Str} : vAdd (.str i) (.str j) = @ite _ (i.length + j.length ≤ sizeLine) (Classical.propDecidable _) (some (.str (i ++ j))) none := rfl
@[simp] theorem vAdd_ll {i j : List PyData} : vAdd (.list i) (.list j) = @ite _ (i.length + j.length ≤ sizeLine) (Classical.propDecidable _) (some (.list (i ++ j))) none := rfl
@[simp] theorem vAdd_tt {i j : List PyData} : vAdd (.tuple i) (.tuple j) = @ite _ (i.length + j.length ≤ sizeLine) (Classical.propDecidable _) (some (.tuple (i ++ j))) none := rfl
@[simp] theorem vAddI_ii {i j : Int} : vAddI (.int i) (.int j) = some (.int (i + j)) := rfl
@[simp] theorem vSub_ii {i j : Int} : vSub (.int i) (.int j) = some (.int (i - j)) := rfl
@[simp] theorem vMul_ii {i j : Int} : vMul (.int i) (.int j) = @ite _ (CM i j) (Classical.propDecidable _) (some (.int (i * j))) none := rfl
@[simp] theorem vMul_si {i : Str} {j : Int} : vMul (.str i) (.int j) = @ite _ (0 ≤ j ∧ j ≤ 1000000 ∧ i.length * j.toNat ≤ 1000000) (Classical.propDecidable _) (some (.str (strRep i j.toNat))) none := rfl
@[irreducible] def DB (j : Int) : Prop := 0 < j ∧ j.natAbs.log2 < 9000
theorem db_of {j : Int} (h0 : 0 < j) (h : j < 1152921504606846976) : DB j := by
  unfold DB
  refine ⟨h0, ?_⟩
  have h1 : j.natAbs < 2 ^ 60 := by
    have : (2 : Nat) ^ 60 = 1152921504606846976 := by decide
    omega
  have := (Nat.log2_lt (by omega) (k := 60)).mpr h1
  omega
@[simp] theorem db_lit {n : Nat} (h0 : 0 < n) (h : n < 1152921504606846976) : DB (no_index (OfNat.ofNat n)) := db_of (j := ((n : Nat) : Int)) (Int.natCast_pos.mpr h0) (by omega)
@[simp] theorem vDiv_ii {i j : Int} : vDiv (.int i) (.int j) = @ite _ (DB j) (Classical.propDecidable _) (some (.int (i / j))) none := by
  unfold DB
  rfl
theorem cm_right {i j : Int} (h1 : -18446744073709551616 < j) (h2 : j < 18446744073709551616) : CM i j := .inl (.inr ⟨h1, h2⟩)
theorem cm_left {i j : Int} (h1 : -18446744073709551616 < i) (h2 : i < 18446744073709551616) : CM i j := .inl (.inl ⟨h1, h2⟩)
@[simp] theorem cm_litR {i : Int} {n : Nat} (h : n < 1152921504606846976) : CM i (no_index (OfNat.ofNat n)) := cm_right (j := ((n : Nat) : Int)) (by omega) (by omega)
@[simp] theorem cm_litL {i : Int} {n : Nat} (h : n < 1152921504606846976) : CM (no_index (OfNat.ofNat n)) i := cm_left (i := ((n : Nat) : Int)) (by omega) (by omega)
@[irreducible] def RB (j : Int) : Prop := -(2 ^ 62) ≤ j ∧ j < 2 ^ 62
theorem rb_of {j : Int} (h0 : -1152921504606846976 ≤ j) (h : j ≤ 1152921504606846976) : RB j := by
  unfold RB
  constructor
  · exact Int.le_trans (by decide) h0
  · exact Int.lt_of_le_of_lt h (by decide)
theorem rb_nat {n : Nat} (h : n ≤ 1152921504606846976) : RB (n : Int) := rb_of (by omega) (by omega)
@[simp] theorem rb_lit {n : Nat} (h : n ≤ 1152921504606846976) : RB (no_index (OfNat.ofNat n)) := rb_of (j := ((n : Nat) : Int)) (by omega) (by omega)
@[simp] theorem rb_m1 : RB (-1) := rb_of (by decide) (by decide)
@[simp] theorem vMod_ii {i j : Int} : vMod (.int i) (.int j) = if 0 < j then some (.int (i % j)) else none := rfl
@[simp] theorem vPow_ii {i j : Int} : vPow (.int i) (.int j) = @ite _ (0 ≤ j ∧ j ≤ 1000000 ∧ i.natAbs < 2 ^ 64) (Classical.propDecidable _) (some (.int (i ^ j.toNat))) none := rfl
@[simp] theorem vShl_ii {i j : Int} : vShl (.int i) (.int j) = @ite _ (0 ≤ j ∧ (Builtin.Int.intBits i : Int) + j ≤ 2 ^ 27) (Classical.propDecidable _) (some (.int (i * 2 ^ j.toNat))) none := rfl
@[simp] theorem vShr_ii {i j : Int} : vShr (.int i) (.int j) = if 0 ≤ j then some (.int (i / 2 ^ j.toNat)) else none := rfl
@[simp] theorem vAnd_ii {i j : Int} : vAnd (.int i) (.int j) = some (.int (Builtin.bitAnd i j)) := rfl
@[simp] theorem vNeg_i {i : Int} : vNeg (.int i) = some (.int (-i)) := rfl
@[simp] theorem vBits_i {i : Int} : vBits (.int i) = some (.int (Builtin.Int.intBits i : Nat)) := rfl
@[simp] theorem vEq_ii {i j : Int} : vEq (.int i) (.int j) = some (.bool (decide (i = j))) := rfl
@[simp] theorem vEq_ss {i j : Str} : vEq (.str i) (.str j) = some (.bool (decide (i = j))) := rfl
@[simp] theorem vEq_bb {i j : Bool} : vEq (.bool i) (.bool j) = some (.bool (decide (i = j))) := rfl
@[simp] theorem vNe_ii {i j : Int} : vNe (.int i) (.int j) = some (.bool (!decide (i = j))) := rfl
@[simp] theorem vNe_ss {i j : Str} : vNe (.str i) (.str j) = some (.bool (!decide (i = j))) := rfl
@[simp] theorem vNe_bb {i j : Bool} : vNe (.bool i) (.bool j) = some (.bool (!decide (i = j))) := rfl
@[simp] theorem vLt_ii {i j : Int} : vLt (.int i) (.int j) = some (.bool (decide (i < j))) := rfl
@[simp] theorem vLe_ii {i j : Int} : vLe (.int i) (.int j) = some (.bool (decide (i ≤ j))) := rfl
@[simp] theorem vGt_ii {i j : Int} : vGt (.int i) (.int j) = some (.bool (decide (j < i))) := rfl
@[simp] theorem vGe_ii {i j : Int} : vGe (.int i) (.int j) = some (.bool (decide (j ≤ i))) := rfl
@[simp] theorem vIs_n {d : PyData} : vIs d .none = some (.bool (isNonD d)) := by cases d <;> rfl
@[simp] theorem vIs_bb {a b : Bool} : vIs (.bool a) (.bool b) = some (.bool (decide (a = b))) := rfl
@[simp] theorem vIsNot_n {d : PyData} : vIsNot d .none = some (.bool (!isNonD d)) := by cases d <;> rfl
@[simp] theorem isNon_n : isNonD .none = true := rfl
@[simp] theorem isNon_i {i : Int} : isNonD (.int i) = false := rfl
@[simp] theorem isNon_s {i : Str} : isNonD (.str i) = false := rfl
@[simp] theorem isNon_b {i : Bool} : isNonD (.bool i) = false := rfl
@[simp] theorem isNon_l {i : List PyData} : isNonD (.list i) = false := rfl
@[simp] theorem isNon_t {i : List PyData} : isNonD (.tuple i) = false := rfl
@[simp] theorem vIx_l {xs : List PyData} {i : Int} : vIx (.list xs) (.int i) = atI xs i := rfl
@[simp] theorem vIx_t {xs : List PyData} {i : Int} : vIx (.tuple xs) (.int i) = atI xs i := rfl
@[simp] theorem vIx_s {z : Str} {i : Int} : vIx (.str z) (.int i) = @ite _ (z.length ≤ sizeLine) (Classical.propDecidable _) ((atI z.cps.toList i).map fun c => .str ⟨#[c]⟩) none := rfl
@[simp] theorem vSl_l {xs : List PyData} {l h : Option Int} : vSl (.list xs) l h = some (.list (cutD xs l h)) := rfl
@[simp] theorem vSl_t {xs : List PyData} {l h : Option Int} : vSl (.tuple xs) l h = some (.tuple (cutD xs l h)) := rfl
@[simp] theorem vSl_s {z : Str} {l h : Option Int} : vSl (.str z) l h = @ite _ (z.length ≤ sizeLine) (Classical.propDecidable _) (some (.str (cutS z l h))) none := rfl
@[simp] theorem vLen_l {xs : List PyData} : vLen [.list xs] = some (.int xs.length) := rfl
@[simp] theorem vLen_t {xs : List PyData} : vLen [.tuple xs] = some (.int xs.length) := rfl
@[simp] theorem vLen_s {z : Str} : vLen [.str z] = @ite _ (z.length ≤ sizeLine) (Classical.propDecidable _) (some (.int z.length)) none := rfl
@[simp] theorem vAbs_i {i : Int} : vAbs [.int i] = some (.int (if i < 0 then -i else i)) := rfl
@[simp] theorem vMax2_ii {i j : Int} : vMax2 [.int i, .int j] = some (.int (if j > i then j else i)) := rfl
@[simp] theorem vMin2_ii {i j : Int} : vMin2 [.int i, .int j] = some (.int (if j < i then j else i)) := rfl
@[simp] theorem vInt_i {i : Int} : vInt [.int i] = some (.int i) := rfl
@[simp] theorem vInt_b {i : Bool} : vInt [.bool i] = some (.int (if i = true then 1 else 0)) := rfl
@[simp] theorem vInt_s {i : Str} : vInt [.str i] = @ite _ (i.length ≤ 640) (Classical.propDecidable _) ((PySem.intText? i).map .int) none := rfl
@[simp] theorem vStr_i {i : Int} : vStr [.int i] = @ite _ (i.natAbs.log2 < 1920) (Classical.propDecidable _) (some (.str (toString i))) none := rfl
@[simp] theorem vTuple_l {xs : List PyData} : vTuple [.list xs] = some (.tuple xs) := rfl
@[simp] theorem vTuple_t {xs : List PyData} : vTuple [.tuple xs] = some (.tuple xs) := rfl
@[simp] theorem vListF_l {xs : List PyData} : vListF [.list xs] = some xs := rfl
@[simp] theorem vListF_t {xs : List PyData} : vListF [.tuple xs] = some xs := rfl
@[simp] theorem intsD_map {is : List Int} : intsD (is.map .int) = some is := by
  induction is with
  | nil => rfl
  | cons x r ih => rw [List.map_cons, intsD, ih]; rfl
@[simp] theorem vSum_ints {is : List Int} : vSum [.list (is.map .int)] = some (.int is.sum) := by rw [vSum, intsD_map]; rfl
@[simp] theorem mEnum_ap {m : M} {n : En} : mEnum m n = (m n).bind fun d => match d with
  | .list xs => some (enumD xs)
  | .tuple xs => some (enumD xs)
  | _ => none := rfl
@[simp] theorem mZip_ap {ma mb : M} {n : En} : mZip ma mb n = (ma n).bind fun d => (mb n).bind fun e => match d, e with
  | .list xs, .list ys => some (zipD xs ys)
  | .tuple xs, .tuple ys => some (zipD xs ys)
  | _, _ => none := rfl
@[simp] theorem vMaxL_ints {is : List Int} : vMaxL [.list (is.map .int)] = is.max?.map .int := by rw [vMaxL, intsD_map]; rfl
@[simp] theorem vMinL_ints {is : List Int} : vMinL [.list (is.map .int)] = is.min?.map .int := by rw [vMinL, intsD_map]; rfl
@[simp] theorem itemsD_l {xs : List PyData} : itemsD (.list xs) = some xs := rfl
@[simp] theorem itemsD_t {xs : List PyData} : itemsD (.tuple xs) = some xs := rfl
@[simp] theorem itemsD_s {xs : Str} : itemsD (.str xs) = some (signsD xs) := rfl
@[simp] theorem rng1_i {j : Int} : rng1 [.int j] = @ite _ (RB j) (Classical.propDecidable _) (some (rangeD 0 j.toNat)) none := by
  unfold RB
  rfl
@[simp] theorem rng2_i {i j : Int} : rng2 [.int i, .int j] = @ite _ (RB i ∧ RB j) (Classical.propDecidable _) (some (rangeD i (j - i).toNat)) none := by
  unfold RB
  by_cases h : -(2 ^ 62) ≤ i ∧ i < 2 ^ 62 ∧ -(2 ^ 62) ≤ j ∧ j < 2 ^ 62
  · rw [if_pos ⟨⟨h.1, h.2.1⟩, h.2.2⟩]
    exact if_pos h
  · rw [if_neg (fun q => h ⟨q.1.1, q.1.2, q.2⟩)]
    exact if_neg h
@[simp] theorem rng3_i {i j c : Int} : rng3 [.int i, .int j, .int c] = @ite _ (c = -1 ∧ RB i ∧ RB j) (Classical.propDecidable _) (some (rangeDC i (-1) (i - j).toNat)) none := by
  unfold RB
  by_cases h : c = -1 ∧ -(2 ^ 62) ≤ i ∧ i < 2 ^ 62 ∧ -(2 ^ 62) ≤ j ∧ j < 2 ^ 62
  · rw [if_pos ⟨h.1, ⟨h.2.1, h.2.2.1⟩, h.2.2.2⟩]
    exact if_pos h
  · rw [if_neg (fun q => h ⟨q.1, q.2.1.1, q.2.1.2, q.2.2⟩)]
    exact if_neg h
@[simp] theorem scalD_i {i : Int} : scalD (.int i) = true := rfl
@[simp] theorem scalD_s {i : Str} : scalD (.str i) = true := rfl
@[simp] theorem scalD_b {i : Bool} : scalD (.bool i) = true := rfl
@[simp] theorem scalD_n : scalD .none = true := rfl
@[simp] theorem scalD_l {i : List PyData} : scalD (.list i) = false := rfl
@[simp] theorem scalD_t {i : List PyData} : scalD (.tuple i) = false := rfl
theorem kit_str : kitB "NoneType" "str" = some false ∧ kitB "bool" "str" = some false ∧ kitB "int" "str" = some false ∧ kitB "str" "str" = some true ∧ kitB "list" "str" = some false ∧ kitB "tuple" "str" = some false ∧ kitB "dict" "str" = some false := by decide +kernel
@[simp] theorem isi_str {d : PyData} : vIsi "str" d = some (.bool (match d with | .str _ => true | _ => false)) := by
  obtain ⟨h1, h2, h3, h4, h5, h6, h7⟩ := kit_str
  unfold vIsi
  cases d <;> simp only [tyD, h1, h2, h3, h4, h5, h6, h7, Option.map_some]
theorem kit_int : kitB "NoneType" "int" = some false ∧ kitB "bool" "int" = some true ∧ kitB "int" "int" = some true ∧ kitB "str" "int" = some false ∧ kitB "list" "int" = some false ∧ kitB "tuple" "int" = some false ∧ kitB "dict" "int" = some false := by decide +kernel
@[simp] theorem isi_int {d : PyData} : vIsi "int" d = some (.bool (match d with | .int _ => true | .bool _ => true | _ => false)) := by
  obtain ⟨h1, h2, h3, h4, h5, h6, h7⟩ := kit_int
  unfold vIsi
  cases d <;> simp only [tyD, h1, h2, h3, h4, h5, h6, h7, Option.map_some]
theorem kit_bool : kitB "NoneType" "bool" = some false ∧ kitB "bool" "bool" = some true ∧ kitB "int" "bool" = some false ∧ kitB "str" "bool" = some false ∧ kitB "list" "bool" = some false ∧ kitB "tuple" "bool" = some false ∧ kitB "dict" "bool" = some false := by decide +kernel
@[simp] theorem isi_bool {d : PyData} : vIsi "bool" d = some (.bool (match d with | .bool _ => true | _ => false)) := by
  obtain ⟨h1, h2, h3, h4, h5, h6, h7⟩ := kit_bool
  unfold vIsi
  cases d <;> simp only [tyD, h1, h2, h3, h4, h5, h6, h7, Option.map_some]
theorem kit_tuple : kitB "NoneType" "tuple" = some false ∧ kitB "bool" "tuple" = some false ∧ kitB "int" "tuple" = some false ∧ kitB "str" "tuple" = some false ∧ kitB "list" "tuple" = some false ∧ kitB "tuple" "tuple" = some true ∧ kitB "dict" "tuple" = some false := by decide +kernel
@[simp] theorem isi_tuple {d : PyData} : vIsi "tuple" d = some (.bool (match d with | .tuple _ => true | _ => false)) := by
  obtain ⟨h1, h2, h3, h4, h5, h6, h7⟩ := kit_tuple
  unfold vIsi
  cases d <;> simp only [tyD, h1, h2, h3, h4, h5, h6, h7, Option.map_some]
theorem kit_list : kitB "NoneType" "list" = some false ∧ kitB "bool" "list" = some false ∧ kitB "int" "list" = some false ∧ kitB "str" "list" = some false ∧ kitB "list" "list" = some true ∧ kitB "tuple" "list" = some false ∧ kitB "dict" "list" = some false := by decide +kernel
@[simp] theorem isi_list {d : PyData} : vIsi "list" d = some (.bool (match d with | .list _ => true | _ => false)) := by
  obtain ⟨h1, h2, h3, h4, h5, h6, h7⟩ := kit_list
  unfold vIsi
  cases d <;> simp only [tyD, h1, h2, h3, h4, h5, h6, h7, Option.map_some]
@[simp] theorem atI_cast {α : Type} {xs : List α} {n : Nat} : atI xs (n : Int) = xs[n]? := by
  unfold atI ixN
  rw [if_pos (by omega)]
  by_cases h : n < xs.length
  · rw [if_pos (by omega), Int.toNat_natCast]
    rfl
  · rw [if_neg (by omega), List.getElem?_eq_none (by omega)]
    rfl
@[simp] theorem atI_lit {α : Type} {xs : List α} {n : Nat} : atI xs (no_index (OfNat.ofNat n : Int)) = xs[n]? := atI_cast
@[simp] theorem atI_m1 {α : Type} {xs : List α} : atI xs (-1) = xs.getLast? := by
  rcases List.eq_nil_or_concat xs with rfl | ⟨ys, y, rfl⟩
  · rfl
  · rw [List.concat_eq_append, atI_last, List.getLast?_append]
    rfl
theorem rangeD_nats (n : Nat) : rangeD 0 n = (List.range n).map fun k : Nat => PyData.int (k : Int) := by
  unfold rangeD
  refine List.map_congr_left fun k _ => ?_
  rw [Int.zero_add]
@[simp] theorem lrg_nats {n : Nat} : lrg 0 (n : Int) = @ite _ (n ≤ 16000000) (Classical.propDecidable _) (some ((List.range n).map fun k : Nat => PyData.int (k : Int))) none := by
  have e : (((n : Nat) : Int) - 0).toNat = n := by omega
  have l1 : (-(2 ^ 62) : Int) ≤ 0 := by decide
  have l2 : (0 : Int) < 2 ^ 62 := by decide
  by_cases h : n ≤ 16000000
  · rw [if_pos h]
    unfold lrg
    rw [if_pos ⟨l1, l2, Int.le_trans l1 (by omega), Int.lt_of_le_of_lt (Int.ofNat_le.mpr h) (by decide), by rw [e]; exact h⟩, e, rangeD_nats]
  · rw [if_neg h]
    unfold lrg
    rw [if_neg fun q => h (by have := q.2.2.2.2; rwa [e] at this)]
@[simp] theorem lrg_lit {n : Nat} : lrg 0 (no_index (OfNat.ofNat n : Int)) = @ite _ (n ≤ 16000000) (Classical.propDecidable _) (some ((List.range n).map fun k : Nat => PyData.int (k : Int))) none := lrg_nats
@[simp] theorem sz_lit {n : Nat} (h : n ≤ 16777216) : (no_index (OfNat.ofNat n : Nat)) ≤ sizeLine := by
  have : sizeLine = 16777216 := sizeLine_eq
  rw [this]
  exact h
theorem sz_of {n : Nat} (h : n ≤ 16000000) : n ≤ sizeLine := by
  have : sizeLine = 16777216 := sizeLine_eq
  rw [this]
  omega
@[simp] theorem vMul_li {xs : List PyData} {k : Int} : vMul (.list xs) (.int k) = @ite _ (RB k ∧ xs.length * k.toNat ≤ 16000000) (Classical.propDecidable _) (some (.list (repD xs k.toNat))) none := by
  unfold RB
  by_cases h : -(2 ^ 62) ≤ k ∧ k < 2 ^ 62 ∧ xs.length * k.toNat ≤ 16000000
  · rw [if_pos ⟨⟨h.1, h.2.1⟩, h.2.2⟩]
    exact if_pos h
  · rw [if_neg (fun q => h ⟨q.1.1, q.1.2, q.2⟩)]
    exact if_neg h
/-! ### slices at natural numbers -/
@[simp] theorem cutD_nn {xs : List PyData} {a b : Nat} : cutD xs (some (a : Int)) (some (b : Int)) = (xs.drop a).take (b - a) := by
  unfold cutD
  rw [HT.sIx_nat, HT.sIx_nat]
  rcases Nat.lt_or_ge a xs.length with h | h
  · rw [Nat.min_eq_left (Nat.le_of_lt h)]
    apply List.ext_getElem?
    intro i
    rw [List.getElem?_take, List.getElem?_take]
    by_cases h1 : i < b - a
    · rw [if_pos h1]
      by_cases h2 : i < min b xs.length - a
      · rw [if_pos h2]
      · rw [if_neg h2, List.getElem?_eq_none (by rw [List.length_drop]; omega)]
    · rw [if_neg h1, if_neg (by omega)]
  · rw [Nat.min_eq_right h, List.drop_eq_nil_of_le (Nat.le_refl _), List.drop_eq_nil_of_le h]
    simp
@[simp] theorem cutD_to {xs : List PyData} {b : Nat} : cutD xs none (some (b : Int)) = xs.take b := by
  unfold cutD
  rw [HT.sIx_nat, HT.sIx_none, Nat.sub_zero, List.drop_zero]
  apply List.ext_getElem?
  intro i
  rw [List.getElem?_take, List.getElem?_take]
  by_cases h1 : i < b
  · rw [if_pos h1]
    by_cases h2 : i < xs.length
    · rw [if_pos (by omega)]
    · rw [if_neg (by omega), List.getElem?_eq_none (by omega)]
  · rw [if_neg h1, if_neg (by omega)]
@[simp] theorem cutD_from {xs : List PyData} {a : Nat} : cutD xs (some (a : Int)) none = xs.drop a := by
  unfold cutD
  rw [HT.sIx_nat, HT.sIx_none]
  rcases Nat.lt_or_ge a xs.length with h | h
  · rw [Nat.min_eq_left (Nat.le_of_lt h)]
    exact List.take_of_length_le (by rw [List.length_drop]; omega)
  · rw [Nat.min_eq_right h, List.drop_eq_nil_of_le (Nat.le_refl _), List.drop_eq_nil_of_le h]
    simp
@[simp] theorem cutD_all {xs : List PyData} : cutD xs none none = xs := by
  unfold cutD
  rw [HT.sIx_none, HT.sIx_none]
  simp
theorem cutD_lit1 {xs : List PyData} {a : Nat} {b : Int} : cutD xs (some (no_index (OfNat.ofNat a : Int))) (some b) = cutD xs (some ((a : Nat) : Int)) (some b) := rfl
/-! ### statements by what is wanted behind them -/
def Wp (m : MS) (n : En) (Q : Out → Prop) : Prop := ∃ o, m n = some o ∧ Q o
def Thn (b : MS) (Q : Out → Prop) : Out → Prop
  | .nx n => Wp b n Q
  | o => Q o
section
variable {n : En} {Q : Out → Prop} {a b : MS} {m mb : M} {mt : MT} {ms : MA} {ws : List Nat} {i : Nat}
@[simp] theorem thn_nx : Thn b Q (.nx n) = Wp b n Q := rfl
@[simp] theorem thn_rt {d : PyData} : Thn b Q (.rt d) = Q (.rt d) := rfl
@[simp] theorem thn_rl {d : List PyData} : Thn b Q (.rl d) = Q (.rl d) := rfl
@[simp] theorem thn_bk : Thn b Q (.bk n) = Q (.bk n) := rfl
@[simp] theorem thn_ct : Thn b Q (.ct n) = Q (.ct n) := rfl
@[simp] theorem wp_seq : Wp (mSeq a b) n Q ↔ Wp a n (Thn b Q) := by
  unfold Wp mSeq
  constructor
  · rintro ⟨o, h, q⟩
    obtain ⟨o1, h1, h⟩ := Option.bind_eq_some_iff.mp h
    refine ⟨o1, h1, ?_⟩
    cases o1 with
    | nx n1 => exact ⟨o, h, q⟩
    | rt d => cases h; exact q
    | rl d => cases h; exact q
    | bk d => cases h; exact q
    | ct d => cases h; exact q
  · rintro ⟨o1, h1, q⟩
    cases o1 with
    | nx n1 =>
      obtain ⟨o, h, q⟩ := q
      exact ⟨o, by rw [h1]; exact h, q⟩
    | rt d => exact ⟨_, by rw [h1]; rfl, q⟩
    | rl d => exact ⟨_, by rw [h1]; rfl, q⟩
    | bk d => exact ⟨_, by rw [h1]; rfl, q⟩
    | ct d => exact ⟨_, by rw [h1]; rfl, q⟩
theorem wp_one {f : Out} (h : a n = some f) : Wp a n Q ↔ Q f := by
  unfold Wp
  rw [h]
  simp
@[simp] theorem wp_skip : Wp mSkip n Q ↔ Q (.nx n) := wp_one rfl
@[simp] theorem wp_break : Wp mBreak n Q ↔ Q (.bk n) := wp_one rfl
@[simp] theorem wp_cont : Wp mCont n Q ↔ Q (.ct n) := wp_one rfl
@[simp] theorem wp_retN : Wp mRetN n Q ↔ Q (.rt .none) := wp_one rfl
@[simp] theorem wp_asg : Wp (mAsg ws i m) n Q ↔ ∃ d, m (hide ws n) = some d ∧ Q (.nx (if scalD d = true then n.set i (.v d) else (frz ws n).set i (.v d))) := by
  unfold Wp mAsg
  constructor
  · rintro ⟨o, h, q⟩
    obtain ⟨d, hd, h⟩ := Option.bind_eq_some_iff.mp h
    refine ⟨d, hd, ?_⟩
    split at h <;> (rename_i hs; cases h; simpa [hs] using q)
  · rintro ⟨d, hd, q⟩
    refine ⟨_, by rw [hd, Option.bind_some, ← apply_ite some, ← apply_ite Out.nx], q⟩
@[simp] theorem wp_asgO : Wp (mAsgO ws i ms) n Q ↔ ∃ d, ms (hide ws n) = some d ∧ Q (.nx ((frz ws n).set i (.o d))) := by
  unfold Wp mAsgO
  constructor
  · rintro ⟨o, h, q⟩
    obtain ⟨d, hd, h⟩ := Option.bind_eq_some_iff.mp h
    cases h
    exact ⟨d, hd, q⟩
  · rintro ⟨d, hd, q⟩
    exact ⟨_, by rw [hd]; rfl, q⟩
@[simp] theorem wp_asgT {f : Fl} : Wp (mAsgT ws f m) n Q ↔ ∃ d, m (hide ws n) = some d ∧ ∃ as, f d = some as ∧ Q (.nx (setsE (frz ws n) as)) := by
  unfold Wp mAsgT
  constructor
  · rintro ⟨o, h, q⟩
    obtain ⟨d, hd, h⟩ := Option.bind_eq_some_iff.mp h
    obtain ⟨as, ha, h⟩ := Option.bind_eq_some_iff.mp h
    cases h
    exact ⟨d, hd, as, ha, q⟩
  · rintro ⟨d, hd, as, ha, q⟩
    exact ⟨_, by rw [hd, Option.bind_some, ha]; rfl, q⟩
@[simp] theorem wp_ret : Wp (mRet ws m) n Q ↔ ∃ d, m (hide ws n) = some d ∧ Q (.rt d) := by
  unfold Wp mRet
  constructor
  · rintro ⟨o, h, q⟩
    obtain ⟨d, hd, rfl⟩ := Option.map_eq_some_iff.mp h
    exact ⟨d, hd, q⟩
  · rintro ⟨d, hd, q⟩
    exact ⟨_, by rw [hd]; rfl, q⟩
@[simp] theorem wp_retF : Wp (mRetF ws ms) n Q ↔ ∃ d, ms (hide ws n) = some d ∧ Q (.rl d) := by
  unfold Wp mRetF
  constructor
  · rintro ⟨o, h, q⟩
    obtain ⟨d, hd, rfl⟩ := Option.map_eq_some_iff.mp h
    exact ⟨d, hd, q⟩
  · rintro ⟨d, hd, q⟩
    exact ⟨_, by rw [hd]; rfl, q⟩
@[simp] theorem wp_retO : Wp (mRetO i) n Q ↔ ∃ d, getO n i = some d ∧ Q (.rl d) := by
  unfold Wp mRetO
  constructor
  · rintro ⟨o, h, q⟩
    obtain ⟨d, hd, rfl⟩ := Option.map_eq_some_iff.mp h
    exact ⟨d, hd, q⟩
  · rintro ⟨d, hd, q⟩
    exact ⟨_, by rw [hd]; rfl, q⟩
@[simp] theorem wp_ifS : Wp (mIfS ws mt a b) n Q ↔ ∃ c, mt (hide ws n) = some c ∧ if c = true then Wp a n Q else Wp b n Q := by
  unfold Wp mIfS
  constructor
  · rintro ⟨o, h, q⟩
    obtain ⟨d, hd, h⟩ := Option.bind_eq_some_iff.mp h
    refine ⟨d, hd, ?_⟩
    split at h <;> (rename_i hs; simp only [hs]; exact ⟨o, h, q⟩)
  · rintro ⟨d, hd, q⟩
    split at q
    · rename_i hs
      obtain ⟨o, h, q⟩ := q
      exact ⟨o, by rw [hd, Option.bind_some, if_pos hs]; exact h, q⟩
    · rename_i hs
      obtain ⟨o, h, q⟩ := q
      exact ⟨o, by rw [hd, Option.bind_some, if_neg hs]; exact h, q⟩
@[simp] theorem wp_drop : Wp (mDrop ws m) n Q ↔ ∃ d, m (hide ws n) = some d ∧ Q (.nx n) := by
  unfold Wp mDrop
  constructor
  · rintro ⟨o, h, q⟩
    obtain ⟨d, hd, h⟩ := Option.bind_eq_some_iff.mp h
    cases h
    exact ⟨d, hd, q⟩
  · rintro ⟨d, hd, q⟩
    exact ⟨_, by rw [hd]; rfl, q⟩
@[simp] theorem wp_app : Wp (mApp ws i m) n Q ↔ ∃ xs, getO n i = some xs ∧ ∃ d, m (hide ws n) = some d ∧ (xs.length < 16000000 ∧ ws.contains i = false) ∧ Q (.nx (if scalD d = true then n.set i (.o (xs ++ [d])) else (frz ws n).set i (.o (xs ++ [d])))) := by
  unfold Wp mApp
  constructor
  · rintro ⟨o, h, q⟩
    obtain ⟨xs, hx, h⟩ := Option.bind_eq_some_iff.mp h
    obtain ⟨d, hd, h⟩ := Option.bind_eq_some_iff.mp h
    split at h
    · rename_i hz
      refine ⟨xs, hx, d, hd, hz, ?_⟩
      split at h <;> (rename_i hs; cases h; simpa [hs] using q)
    · cases h
  · rintro ⟨xs, hx, d, hd, hz, q⟩
    refine ⟨_, by rw [hx, Option.bind_some, hd, Option.bind_some, if_pos hz, ← apply_ite some, ← apply_ite Out.nx], q⟩
@[simp] theorem wp_popAsg {j : Nat} : Wp (mPopAsg i j) n Q ↔ ∃ xs, getO n i = some xs ∧ ∃ d, xs[xs.length - 1]? = some d ∧ Q (.nx ((n.set i (.o xs.dropLast)).set j (.v d))) := by
  unfold Wp mPopAsg
  constructor
  · rintro ⟨o, h, q⟩
    obtain ⟨xs, hx, h⟩ := Option.bind_eq_some_iff.mp h
    obtain ⟨d, hd, h⟩ := Option.bind_eq_some_iff.mp h
    cases h
    exact ⟨xs, hx, d, hd, q⟩
  · rintro ⟨xs, hx, d, hd, q⟩
    exact ⟨_, by rw [hx, Option.bind_some, hd]; rfl, q⟩
@[simp] theorem wp_pop : Wp (mPop i) n Q ↔ ∃ xs, getO n i = some xs ∧ ∃ d, xs[xs.length - 1]? = some d ∧ Q (.nx (n.set i (.o xs.dropLast))) := by
  unfold Wp mPop
  constructor
  · rintro ⟨o, h, q⟩
    obtain ⟨xs, hx, h⟩ := Option.bind_eq_some_iff.mp h
    obtain ⟨d, hd, h⟩ := Option.bind_eq_some_iff.mp h
    cases h
    exact ⟨xs, hx, d, hd, q⟩
  · rintro ⟨xs, hx, d, hd, q⟩
    exact ⟨_, by rw [hx, Option.bind_some, hd]; rfl, q⟩
@[simp] theorem wp_rev : Wp (mRev i) n Q ↔ ∃ xs, getO n i = some xs ∧ Q (.nx (n.set i (.o xs.reverse))) := by
  unfold Wp mRev
  constructor
  · rintro ⟨o, h, q⟩
    obtain ⟨xs, hx, h⟩ := Option.bind_eq_some_iff.mp h
    cases h
    exact ⟨xs, hx, q⟩
  · rintro ⟨xs, hx, q⟩
    exact ⟨_, by rw [hx]; rfl, q⟩
@[simp] theorem wp_aug {g : PyData → PyData → Option PyData} : Wp (mAug g ws i m) n Q ↔ ∃ x, getV n i = some x ∧ ∃ y, m (hide ws n) = some y ∧ ∃ z, g x y = some z ∧ scalD z = true ∧ Q (.nx (n.set i (.v z))) := by
  unfold Wp mAug
  constructor
  · rintro ⟨o, h, q⟩
    obtain ⟨x, hx, h⟩ := Option.bind_eq_some_iff.mp h
    obtain ⟨y, hy, h⟩ := Option.bind_eq_some_iff.mp h
    obtain ⟨z, hz, h⟩ := Option.bind_eq_some_iff.mp h
    split at h
    · rename_i hs
      cases h
      exact ⟨x, hx, y, hy, z, hz, hs, q⟩
    · cases h
  · rintro ⟨x, hx, y, hy, z, hz, hs, q⟩
    exact ⟨_, by rw [hx, Option.bind_some, hy, Option.bind_some, hz, Option.bind_some, if_pos hs], q⟩
@[simp] theorem wp_ins : Wp (mIns ws i mb m) n Q ↔ ∃ xs, getO n i = some xs ∧ ∃ kd, mb (hide ws n) = some kd ∧ ∃ d, m (hide ws n) = some d ∧ ∃ k, asI kd = some k ∧ (xs.length < 16000000 ∧ 0 ≤ k ∧ k < 2 ^ 63 ∧ scalD d = true) ∧ Q (.nx (n.set i (.o (insD xs k d)))) := by
  unfold Wp mIns
  constructor
  · rintro ⟨o, h, q⟩
    obtain ⟨xs, hx, h⟩ := Option.bind_eq_some_iff.mp h
    obtain ⟨kd, hk, h⟩ := Option.bind_eq_some_iff.mp h
    obtain ⟨d, hd, h⟩ := Option.bind_eq_some_iff.mp h
    obtain ⟨k, hkk, h⟩ := Option.bind_eq_some_iff.mp h
    split at h
    · rename_i hz
      cases h
      exact ⟨xs, hx, kd, hk, d, hd, k, hkk, hz, q⟩
    · cases h
  · rintro ⟨xs, hx, kd, hk, d, hd, k, hkk, hz, q⟩
    exact ⟨_, by rw [hx, Option.bind_some, hk, Option.bind_some, hd, Option.bind_some, hkk, Option.bind_some, if_pos hz], q⟩
@[simp] theorem wp_put : Wp (mPut ws i m mb) n Q ↔ ∃ d, m (hide ws n) = some d ∧ ∃ kd, mb (hide ws n) = some kd ∧ ∃ k, asI kd = some k ∧ ∃ xs, getO n i = some xs ∧ ∃ j, ixN xs.length k = some j ∧ (scalD d = true ∨ ws.contains i = false) ∧ Q (.nx (if scalD d = true then n.set i (.o (xs.set j d)) else (frz ws n).set i (.o (xs.set j d)))) := by
  unfold Wp mPut
  constructor
  · rintro ⟨o, h, q⟩
    obtain ⟨d, hd, h⟩ := Option.bind_eq_some_iff.mp h
    obtain ⟨kd, hk, h⟩ := Option.bind_eq_some_iff.mp h
    obtain ⟨k, hkk, h⟩ := Option.bind_eq_some_iff.mp h
    obtain ⟨xs, hx, h⟩ := Option.bind_eq_some_iff.mp h
    obtain ⟨j, hj, h⟩ := Option.bind_eq_some_iff.mp h
    refine ⟨d, hd, kd, hk, k, hkk, xs, hx, j, hj, ?_⟩
    split at h
    · rename_i hs
      cases h
      exact ⟨.inl hs, by simpa [hs] using q⟩
    · rename_i hs
      split at h
      · rename_i hw
        cases h
        exact ⟨.inr hw, by simpa [hs] using q⟩
      · cases h
  · rintro ⟨d, hd, kd, hk, k, hkk, xs, hx, j, hj, hz, q⟩
    by_cases hs : scalD d = true
    · exact ⟨_, by rw [hd, Option.bind_some, hk, Option.bind_some, hkk, Option.bind_some, hx, Option.bind_some, hj, Option.bind_some, if_pos hs], by simpa [hs] using q⟩
    · exact ⟨_, by rw [hd, Option.bind_some, hk, Option.bind_some, hkk, Option.bind_some, hx, Option.bind_some, hj, Option.bind_some, if_neg hs, if_pos (hz.resolve_left hs)], by simpa [hs] using q⟩
end
@[simp] theorem getO_nil {i : Nat} : getO [] i = none := by unfold getO; rfl
@[simp] theorem getO_zero_o {r : En} {xs : List PyData} : getO (.o xs :: r) 0 = some xs := rfl
@[simp] theorem getO_zero_v {r : En} {d : PyData} : getO (.v d :: r) 0 = none := rfl
@[simp] theorem getO_zero_n {r : En} : getO (.no :: r) 0 = none := rfl
@[simp] theorem getO_succ {s : Sl} {r : En} {i : Nat} : getO (s :: r) (i + 1) = getO r i := rfl
@[simp] theorem getV_zero_v {r : En} {d : PyData} : getV (.v d :: r) 0 = some d := rfl
@[simp] theorem getV_succ {s : Sl} {r : En} {i : Nat} : getV (s :: r) (i + 1) = getV r i := rfl
@[simp] theorem hide_eq {ws : List Nat} {n : En} : hide ws n = hideAt ws 0 n := rfl
@[simp] theorem frz_eq {ws : List Nat} {n : En} : frz ws n = frzAt ws 0 n := rfl
@[simp] theorem hideAt_nil {ws : List Nat} {k : Nat} : hideAt ws k [] = [] := rfl
@[simp] theorem frzAt_nil {ws : List Nat} {k : Nat} : frzAt ws k [] = [] := rfl
def hid1 (ws : List Nat) (k : Nat) : Sl → Sl
  | .o xs => if ws.contains k then .o xs else .no
  | s => s
def frz1 (ws : List Nat) (k : Nat) : Sl → Sl
  | .o xs => if ws.contains k then .v (.list xs) else .o xs
  | s => s
@[simp] theorem hideAt_cons {ws : List Nat} {k : Nat} {s : Sl} {r : En} : hideAt ws k (s :: r) = hid1 ws k s :: hideAt ws (k + 1) r := by cases s <;> rfl
@[simp] theorem frzAt_cons {ws : List Nat} {k : Nat} {s : Sl} {r : En} : frzAt ws k (s :: r) = frz1 ws k s :: frzAt ws (k + 1) r := by cases s <;> rfl
@[simp] theorem frz1_none {k : Nat} {s : Sl} : frz1 [] k s = s := by cases s <;> rfl
@[simp] theorem hid1_v {ws : List Nat} {k : Nat} {d : PyData} : hid1 ws k (.v d) = .v d := rfl
@[simp] theorem hid1_n {ws : List Nat} {k : Nat} : hid1 ws k .no = .no := rfl
@[simp] theorem hid1_o {ws : List Nat} {k : Nat} {d : List PyData} : hid1 ws k (.o d) = if ws.contains k = true then .o d else .no := rfl
@[simp] theorem frz1_out {ws : List Nat} {k : Nat} {s : Sl} (h : ws.contains k = false) : frz1 ws k s = s := by
  cases s with
  | o d =>
    show (if ws.contains k = true then _ else _) = _
    rw [h]
    rfl
  | _ => rfl
@[simp] theorem frz1_v {ws : List Nat} {k : Nat} {d : PyData} : frz1 ws k (.v d) = .v d := rfl
@[simp] theorem frz1_n {ws : List Nat} {k : Nat} : frz1 ws k .no = .no := rfl
@[simp] theorem frz1_o {ws : List Nat} {k : Nat} {d : List PyData} : frz1 ws k (.o d) = if ws.contains k = true then .v (.list d) else .o d := rfl
@[simp] theorem frzAt_none {n : En} : ∀ {k : Nat}, frzAt [] k n = n := by
  induction n with
  | nil => intro k; rfl
  | cons s r ih =>
    intro k
    cases s with
    | o d =>
      rw [frzAt_cons, ih]
      rfl
    | v d =>
      rw [frzAt_cons, ih]
      rfl
    | no =>
      rw [frzAt_cons, ih]
      rfl
@[simp] theorem setsE_nil {n : En} : setsE n [] = n := rfl
@[simp] theorem setsE_cons {n : En} {i : Nat} {d : PyData} {r : List (Nat × PyData)} : setsE n ((i, d) :: r) = setsE (n.set i (.v d)) r := rfl
@[simp] theorem flNil_ap : flNil [] = some [] := rfl
@[simp] theorem flCons_ap {f : Fl} {fs : List PyData → Option (List (Nat × PyData))} {d : PyData} {ds : List PyData} : flCons f fs (d :: ds) = (f d).bind fun a => (fs ds).bind fun b => some (a ++ b) := rfl
@[simp] theorem flTup_t {fs : List PyData → Option (List (Nat × PyData))} {l : Nat} {ds : List PyData} : flTup fs l (.tuple ds) = if ds.length = l then fs ds else none := rfl
@[simp] theorem flTup_l {fs : List PyData → Option (List (Nat × PyData))} {l : Nat} {ds : List PyData} : flTup fs l (.list ds) = if ds.length = l then fs ds else none := rfl
@[simp] theorem flN_ap {i : Nat} {d : PyData} : flN i d = some [(i, d)] := rfl
/-! ### a def's value -/
theorem comp_filter {α : Type} {emb g : α → PyData} {p : α → Bool} {i : Nat} {mt : MT} {me : M} {n : En} : ∀ {xs : List α}, (∀ x ∈ xs, mt (n.set i (.v (emb x))) = some (p x)) → (∀ x ∈ xs, p x = true → me (n.set i (.v (emb x))) = some (g x)) → compL (flN i) [i] mt me n (xs.map emb) = some ((xs.filter p).map g)
  | [], _, _ => rfl
  | x :: xs, h1, h2 => by
    have h3 := comp_filter (xs := xs) (fun y hy => h1 y (List.mem_cons_of_mem _ hy)) (fun y hy => h2 y (List.mem_cons_of_mem _ hy))
    have a := h1 x (List.mem_cons_self ..)
    have b := h2 x (List.mem_cons_self ..)
    rw [List.map_cons, compL, flN_ap, Option.bind_some, if_pos (by simp), setsE_cons, setsE_nil, a, Option.bind_some, List.filter_cons]
    split
    · rename_i hp
      rw [b hp, Option.bind_some, h3]
      rfl
    · exact h3
/-- any target -/
theorem comp_filterG {α : Type} {emb g : α → PyData} {p : α → Bool} {as : α → List (Nat × PyData)} {f : Fl} {vs : List Nat} {mt : MT} {me : M} {n : En} (hf : ∀ x, f (emb x) = some (as x)) (hv : ∀ x, (as x).all (fun p => vs.contains p.1) = true) : ∀ {xs : List α}, (∀ x ∈ xs, mt (setsE n (as x)) = some (p x)) → (∀ x ∈ xs, p x = true → me (setsE n (as x)) = some (g x)) → compL f vs mt me n (xs.map emb) = some ((xs.filter p).map g)
  | [], _, _ => rfl
  | x :: xs, h1, h2 => by
    have h3 := comp_filterG hf hv (xs := xs) (fun y hy => h1 y (List.mem_cons_of_mem _ hy)) (fun y hy => h2 y (List.mem_cons_of_mem _ hy))
    have a := h1 x (List.mem_cons_self ..)
    have b := h2 x (List.mem_cons_self ..)
    rw [List.map_cons, compL, hf, Option.bind_some, if_pos (hv x), a, Option.bind_some, List.filter_cons]
    split
    · rename_i hp
      rw [b hp, Option.bind_some, h3]
      rfl
    · exact h3
theorem comp_map {α : Type} {emb g : α → PyData} {i : Nat} {me : M} {n : En} {xs : List α} (h : ∀ x ∈ xs, me (n.set i (.v (emb x))) = some (g x)) : compL (flN i) [i] mYes me n (xs.map emb) = some (xs.map g) := by
  have := comp_filter (p := fun _ => true) (mt := mYes) (i := i) (n := n) (emb := emb) (g := g) (me := me) (xs := xs) (fun _ _ => rfl) (fun x hx _ => h x hx)
  rwa [List.filter_eq_self.mpr fun _ _ => rfl] at this
@[simp] theorem wipeE_nil {n : En} : wipeE n [] = n := rfl
@[simp] theorem wipeE_cons {n : En} {v : Nat} {vs : List Nat} : wipeE n (v :: vs) = (wipeE n vs).set v .no := rfl
theorem shl_one (k : Nat) (h : k ≤ 1000000) : vShl (.int 1) (.int (k : Int)) = some (.int ((2 ^ k : Nat) : Int)) := by
  have b : Builtin.Int.intBits 1 = 1 := by decide
  rw [vShl_ii, b, if_pos ⟨by omega, by omega⟩, Int.toNat_natCast, Int.one_mul, PySem.W.kbt_cast]
theorem wp_mid {a b : MS} {n : En} {Q : Out → Prop} (P : En → Prop) (h1 : Wp a n fun o => ∃ n', o = .nx n' ∧ P n') (h2 : ∀ n', P n' → Wp b n' Q) : Wp (mSeq a b) n Q := by
  refine wp_seq.mpr ?_
  obtain ⟨o, h, n', rfl, hp⟩ := h1
  exact ⟨_, h, h2 n' hp⟩
theorem thn_mid {a b : MS} {n : En} {Q : Out → Prop} (P : En → Prop) (h1 : Wp a n fun o => ∃ n', o = .nx n' ∧ P n') (h2 : ∀ n', P n' → Wp b n' Q) : Wp a n (Thn b Q) := by
  obtain ⟨o, h, n', rfl, hp⟩ := h1
  exact ⟨_, h, h2 n' hp⟩
theorem runM_of {N : List Str} {body : MS} {ds : List PyData} {d : PyData} (h : Wp body (ds.map .v ++ List.replicate (N.length - ds.length) .no) fun o => match o with
    | .rt e => e = d
    | .rl xs => PyData.list xs = d
    | .nx _ => PyData.none = d
    | _ => False) : runM N body ds = some d := by
  obtain ⟨o, ho, q⟩ := h
  unfold runM
  rw [ho]
  cases o <;> simp_all
theorem runM_ex {N : List Str} {body : MS} {ds : List PyData} {P : PyData → Prop} (h : Wp body (ds.map .v ++ List.replicate (N.length - ds.length) .no) fun o => match o with
    | .rt e => P e
    | .rl xs => P (.list xs)
    | .nx _ => P .none
    | _ => False) : ∃ d, runM N body ds = some d ∧ P d := by
  obtain ⟨o, ho, q⟩ := h
  unfold runM
  rw [ho]
  cases o <;> first | exact ⟨_, rfl, q⟩ | exact q.elim
/-! ### loops -/
def Lp (I : En → Prop) (Q : Out → Prop) : Out → Prop
  | .nx n => I n
  | .ct n => I n
  | .bk n => Q (.nx n)
  | .rt d => Q (.rt d)
  | .rl d => Q (.rl d)
@[simp] theorem lp_nx {I : En → Prop} {Q : Out → Prop} {n : En} : Lp I Q (.nx n) = I n := rfl
@[simp] theorem lp_ct {I : En → Prop} {Q : Out → Prop} {n : En} : Lp I Q (.ct n) = I n := rfl
@[simp] theorem lp_bk {I : En → Prop} {Q : Out → Prop} {n : En} : Lp I Q (.bk n) = Q (.nx n) := rfl
@[simp] theorem lp_rt {I : En → Prop} {Q : Out → Prop} {n : PyData} : Lp I Q (.rt n) = Q (.rt n) := rfl
@[simp] theorem lp_rl {I : En → Prop} {Q : Out → Prop} {n : List PyData} : Lp I Q (.rl n) = Q (.rl n) := rfl
theorem forL_wp {f : Fl} {b : MS} {Q : Out → Prop} (I : Nat → En → Prop) : ∀ (ds : List PyData) (k : Nat) (n : En), I k n →
    (∀ i d n, ds[i]? = some d → I (k + i) n → ∃ as, f d = some as ∧ Wp b (setsE n as) (Lp (I (k + i + 1)) Q)) → (∀ n, I (k + ds.length) n → Q (.nx n)) → ∃ o, forL f b ds n = some o ∧ Q o
  | [], k, n, h0, _, hd => ⟨_, rfl, hd n h0⟩
  | d :: ds, k, n, h0, hs, hd => by
    obtain ⟨as, ha, o, ho, q⟩ := hs 0 d n rfl h0
    have rec_ : ∀ n, I (k + 1) n → ∃ o, forL f b ds n = some o ∧ Q o := fun n hn => forL_wp I ds (k + 1) n hn
      (fun i d n hi h => by
        have := hs (i + 1) d n (by simpa using hi) (by rw [show k + (i + 1) = k + 1 + i by omega]; exact h)
        rw [show k + (i + 1) + 1 = k + 1 + i + 1 by omega] at this
        exact this) (fun n h => hd n (by rw [List.length_cons, show k + (ds.length + 1) = k + 1 + ds.length by omega]; exact h))
    unfold forL
    rw [ha, Option.bind_some, ho, Option.bind_some]
    cases o with
    | nx n1 => exact rec_ n1 q
    | ct n1 => exact rec_ n1 q
    | bk n1 => exact ⟨_, rfl, q⟩
    | rt d => exact ⟨_, rfl, q⟩
    | rl d => exact ⟨_, rfl, q⟩
section
variable {n : En} {Q : Out → Prop} {b : MS} {mt : MT} {mi : MA} {ws : List Nat} {f : Fl}
theorem wp_for (I : Nat → En → Prop) {ds : List PyData} (hi : mi (hide ws n) = some ds) (h0 : I 0 (frz ws n)) (hs : ∀ i d n, ds[i]? = some d → I i n → ∃ as, f d = some as ∧ Wp b (setsE n as) (Lp (I (i + 1)) Q)) (hd : ∀ n, I ds.length n → Q (.nx n)) : Wp (mFor ws mi f b) n Q := by
  unfold Wp mFor
  rw [hi, Option.bind_some]
  exact forL_wp I ds 0 _ h0 (fun i d n h1 h2 => by rw [Nat.zero_add] at h2 ⊢; exact hs i d n h1 h2) (fun n h => hd n (by rw [Nat.zero_add] at h; exact h))
theorem wp_forR (I : Nat → En → Prop) {ds : List PyData} (hi : mi (hide ws n) = some ds) (h0 : I 0 n) (hs : ∀ i d n, ds[i]? = some d → I i n → ∃ as, f d = some as ∧ Wp b (setsE n as) (Lp (I (i + 1)) Q)) (hd : ∀ n, I ds.length n → Q (.nx n)) : Wp (mForR ws mi f b) n Q := by
  unfold Wp mForR
  rw [hi, Option.bind_some]
  exact forL_wp I ds 0 _ h0 (fun i d n h1 h2 => by rw [Nat.zero_add] at h2 ⊢; exact hs i d n h1 h2) (fun n h => hd n (by rw [Nat.zero_add] at h; exact h))
/-- over range(k) -/
theorem wp_forN (I : Nat → En → Prop) {j : Nat} {lo : Int} {k : Nat} (hi : mi (hide ws n) = some (rangeD lo k)) (h0 : I 0 n) (hs : ∀ i n, i < k → I i n → Wp b (n.set j (.v (.int (lo + (i : Int))))) (Lp (I (i + 1)) Q)) (hd : ∀ n, I k n → Q (.nx n)) : Wp (mForR ws mi (flN j) b) n Q := by
  refine wp_forR I hi h0 (fun i d n h1 h2 => ?_) (fun n h => hd n (by simpa [rangeD] using h))
  unfold rangeD at h1
  rw [List.getElem?_map] at h1
  obtain ⟨x, hx, rfl⟩ := Option.map_eq_some_iff.mp h1
  obtain ⟨hl, hx⟩ := List.getElem?_eq_some_iff.mp hx
  rw [List.getElem_range] at hx
  rw [List.length_range] at hl
  subst hx
  exact ⟨_, rfl, hs _ n hl h2⟩
theorem wp_forL (I : Nat → En → Prop) {j : Nat} {ds : List PyData} (hi : mi (hide ws n) = some ds) (h0 : I 0 (frz ws n)) (hs : ∀ i d n, ds[i]? = some d → I i n → Wp b (n.set j (.v d)) (Lp (I (i + 1)) Q)) (hd : ∀ n, I ds.length n → Q (.nx n)) : Wp (mFor ws mi (flN j) b) n Q :=
  wp_for I hi h0 (fun i d n h1 h2 => ⟨_, rfl, hs i d n h1 h2⟩) hd
/-- over a list of ints -/
theorem wp_forI (I : Nat → En → Prop) {j : Nat} {is : List Int} (hi : mi (hide ws n) = some (is.map .int)) (h0 : I 0 (frz ws n)) (hs : ∀ i x n, is[i]? = some x → I i n → Wp b (n.set j (.v (.int x))) (Lp (I (i + 1)) Q)) (hd : ∀ n, I is.length n → Q (.nx n)) : Wp (mFor ws mi (flN j) b) n Q := by
  refine wp_forL I hi h0 (fun i d n h1 h2 => ?_) (fun n h => hd n (by simpa using h))
  rw [List.getElem?_map] at h1
  obtain ⟨x, hx, rfl⟩ := Option.map_eq_some_iff.mp h1
  exact hs i x n hx h2
theorem whl_wp {t : MT} {Q : Out → Prop} (I : Nat → En → Prop) (hs : ∀ k n, I k n → ∃ c, t (hide ws n) = some c ∧ if c = true then Wp b n (Lp (fun n' => ∃ k', k' < k ∧ I k' n') Q) else Q (.nx n)) : ∀ (k : Nat) (n : En), I k n → ∃ j o, whl ws t b j n = some o ∧ Q o := by
  intro k
  induction k using Nat.strongRecOn with
  | _ k ih =>
    intro n h
    obtain ⟨c, hc, q⟩ := hs k n h
    cases c with
    | false =>
      simp only [Bool.false_eq_true, if_false] at q
      exact ⟨1, _, by unfold whl; rw [hc]; rfl, q⟩
    | true =>
      simp only [if_true] at q
      obtain ⟨o, ho, q⟩ := q
      have step : ∀ j r, (match o with
          | .nx n2 => whl ws t b j n2
          | .ct n2 => whl ws t b j n2
          | .bk n2 => some (.nx n2)
          | .rt d => some (.rt d)
          | .rl d => some (.rl d)) = some r → whl ws t b (j + 1) n = some r := fun j r h => by
        rw [whl, hc, Option.bind_some, if_pos rfl, ho, Option.bind_some]
        exact h
      cases o with
      | nx n1 =>
        obtain ⟨k', hk, hI⟩ := q
        obtain ⟨j, r, hr, qr⟩ := ih k' hk n1 hI
        exact ⟨j + 1, r, step j r hr, qr⟩
      | ct n1 =>
        obtain ⟨k', hk, hI⟩ := q
        obtain ⟨j, r, hr, qr⟩ := ih k' hk n1 hI
        exact ⟨j + 1, r, step j r hr, qr⟩
      | bk n1 => exact ⟨1, _, step 0 _ rfl, q⟩
      | rt d => exact ⟨1, _, step 0 _ rfl, q⟩
      | rl d => exact ⟨1, _, step 0 _ rfl, q⟩
theorem wp_while (I : Nat → En → Prop) (k : Nat) (h0 : I k n) (hs : ∀ k n, I k n → ∃ c, mt (hide ws n) = some c ∧ if c = true then Wp b n (Lp (fun n' => ∃ k', k' < k ∧ I k' n') Q) else Q (.nx n)) : Wp (mWhile ws mt b) n Q := by
  obtain ⟨j, o, h, q⟩ := whl_wp I hs k n h0
  exact ⟨o, mWhile_of h, q⟩
end
section
variable {n : En} {Q : Out → Prop} {b : MS} {mt : MT} {mi : MA} {ws : List Nat} {f : Fl}
/-- over a list of natural numbers -/
theorem wp_forX (I : Nat → En → Prop) {j : Nat} {is : List Nat} (hi : mi (hide ws n) = some (is.map fun k : Nat => PyData.int (k : Int))) (h0 : I 0 (frz ws n)) (hs : ∀ i (x : Nat) n, is[i]? = some x → I i n → Wp b (n.set j (.v (.int (x : Int)))) (Lp (I (i + 1)) Q)) (hd : ∀ n, I is.length n → Q (.nx n)) : Wp (mFor ws mi (flN j) b) n Q := by
  refine wp_forL I hi h0 (fun i d n h1 h2 => ?_) (fun n h => hd n (by simpa using h))
  rw [List.getElem?_map] at h1
  obtain ⟨x, hx, rfl⟩ := Option.map_eq_some_iff.mp h1
  exact hs i x n hx h2
end
end VE
set_option Elab.async false
set_option linter.all false
set_option maxRecDepth 100000
set_option maxHeartbeats 4000000
namespace LW
open PySem PySem.Spec L2 VE
/-! ### the mirrors -/
def N__law_cell : List Str := ["script", "k", "seed", "cell"]
noncomputable def m__law_cell : MS := (mSeq (mIfS [] (mBool (mBin vLt (mVar 1) (mCall vLen (mCons (mVar 0) mNil)))) (mRet [] (mBin vIx (mVar 0) (mVar 1))) mSkip)
    (mSeq (mAsg [] 2 (mC (.int 17)))
    (mSeq (mFor [] (mItems (mVar 0)) (flN 3) (mAsg [] 2 (mBin vMod (mCall vInt (mCons (mBin vAdd (mBin vMul (mVar 2) (mC (.int 31))) (mBin vMod (mCall vInt (mCons (mVar 3) mNil)) (mC (.int 1000003)))) mNil)) (mC (.int 1000003)))))
    (mRet [] (mBin vMod (mCall vInt (mCons (mBin vMul (mBin vMul (mBin vAdd (mVar 2) (mC (.int 7))) (mBin vAdd (mVar 1) (mC (.int 3)))) (mC (.int 69621))) mNil)) (mC (.int 2147483647)))))))
noncomputable def r__law_cell : List PyData → Option PyData := runM N__law_cell m__law_cell
def N__law_digits : List Str := ["cell", "sizes", "row", "rest", "seed", "k", "size", "twice"]
noncomputable def m__law_digits : MS := (mSeq (mAsgO [] 2 (mLst mNil))
    (mSeq (mAsg [] 3 (mCall vInt (mCons (mVar 0) mNil)))
    (mSeq (mIfS [] (mBool (mBin vGe (mVar 3) (mBin vPow (mC (.int 10)) (mC (.int 18))))) (mSeq (mAsg [] 3 (mBin vSub (mVar 3) (mBin vPow (mC (.int 10)) (mC (.int 18)))))
    (mSeq (mFor [] (mItems (mVar 1)) (flN 6) (mSeq (mApp [] 2 (mBin vMod (mCall vInt (mCons (mVar 3) mNil)) (mVar 6)))
    (mAsg [] 3 (mBin vDiv (mCall vInt (mCons (mVar 3) mNil)) (mVar 6)))))
    (mRetO 2))) mSkip)
    (mSeq (mAsg [] 4 (mBin vMod (mCall vInt (mCons (mVar 3) mNil)) (mC (.int 2147483629))))
    (mSeq (mForR [] (mRng rng1 (mCons (mCall vLen (mCons (mVar 1) mNil)) mNil)) (flN 5) (mSeq (mAsg [] 4 (mBin vMod (mCall vInt (mCons (mBin vAdd (mBin vAdd (mBin vMul (mVar 4) (mC (.int 48271))) (mBin vMul (mC (.int 974711)) (mVar 5))) (mC (.int 12345))) mNil)) (mC (.int 2147483647))))
    (mSeq (mAsg [] 7 (mBin vMod (mCall vInt (mCons (mBin vMul (mVar 4) (mBin vAdd (mBin vDiv (mVar 4) (mC (.int 65537))) (mC (.int 3)))) mNil)) (mC (.int 2147483629))))
    (mApp [] 2 (mBin vMod (mBin vDiv (mVar 7) (mC (.int 19))) (mBin vIx (mVar 1) (mVar 5)))))))
    (mRetO 2))))))
noncomputable def r__law_digits : List PyData → Option PyData := runM N__law_digits m__law_digits
def N__law_is : List Str := ["shown", "due", "waiting", "turn", "pair", "k"]
noncomputable def m__law_is : MS := (mSeq (mAsgO [] 2 (mLst (mCons (mL (mLst (mCons (mVar 0) (mCons (mVar 1) mNil)))) mNil)))
    (mSeq (mForR [] (mRng rng1 (mCons (mC (.int 1000000)) mNil)) (flN 3) (mSeq (mIfS [2] (mBool (mBin vEq (mCall vLen (mCons (mVar 2) mNil)) (mC (.int 0)))) (mRet [] (mC (.bool true))) mSkip)
    (mSeq (mPopAsg 2 4)
    (mIfS [] (mTru (mUn (vIsi "tuple") (mBin vIx (mVar 4) (mC (.int 1))))) (mSeq (mIfS [] (mOr (mNot (mTru (mUn (vIsi "tuple") (mBin vIx (mVar 4) (mC (.int 0)))))) (mBool (mBin vNe (mCall vLen (mCons (mBin vIx (mVar 4) (mC (.int 0))) mNil)) (mCall vLen (mCons (mBin vIx (mVar 4) (mC (.int 1))) mNil))))) (mRet [] (mC (.bool false))) mSkip)
    (mForR [] (mRng rng1 (mCons (mCall vLen (mCons (mBin vIx (mVar 4) (mC (.int 1))) mNil)) mNil)) (flN 5) (mApp [] 2 (mL (mLst (mCons (mBin vIx (mBin vIx (mVar 4) (mC (.int 0))) (mVar 5)) (mCons (mBin vIx (mBin vIx (mVar 4) (mC (.int 1))) (mVar 5)) mNil))))))) (mIfS [] (mBool (mBin vIs (mBin vIx (mVar 4) (mC (.int 1))) (mC .none))) (mIfS [] (mBool (mBin vIsNot (mBin vIx (mVar 4) (mC (.int 0))) (mC .none))) (mRet [] (mC (.bool false))) mSkip) (mIfS [] (mTru (mUn (vIsi "str") (mBin vIx (mVar 4) (mC (.int 1))))) (mIfS [] (mOr (mNot (mTru (mUn (vIsi "str") (mBin vIx (mVar 4) (mC (.int 0)))))) (mBool (mBin vNe (mBin vIx (mVar 4) (mC (.int 0))) (mBin vIx (mVar 4) (mC (.int 1)))))) (mRet [] (mC (.bool false))) mSkip) (mIfS [] (mOr (mNot (mTru (mUn (vIsi "int") (mBin vIx (mVar 4) (mC (.int 0)))))) (mOr (mBool (mBin vNe (mUn (vIsi "bool") (mBin vIx (mVar 4) (mC (.int 0)))) (mUn (vIsi "bool") (mBin vIx (mVar 4) (mC (.int 1)))))) (mBool (mBin vNe (mBin vIx (mVar 4) (mC (.int 0))) (mBin vIx (mVar 4) (mC (.int 1))))))) (mRet [] (mC (.bool false))) mSkip)))))))
    (mRet [] (mC (.bool false)))))
noncomputable def r__law_is : List PyData → Option PyData := runM N__law_is m__law_is
def N__law_are_whole : List Str := ["answers", "row", "share", "degree", "k"]
noncomputable def m__law_are_whole : MS := (mSeq (mAsg [] 1 (mL (mCallF vListF (mCons (mVar 0) mNil))))
    (mSeq (mAsg [] 2 (mC (.int 1)))
    (mSeq (mForR [] (mRng rng1 (mCons (mCall vLen (mCons (mVar 0) mNil)) mNil)) (flN 3) (mSeq (mIfS [] (mBool (mBin vGt (mVar 3) (mC (.int 0)))) (mAsg [] 2 (mBin vMul (mVar 2) (mVar 3))) mSkip)
    (mSeq (mIfS [] (mBool (mBin vNe (mBin vMod (mCall vInt (mCons (mBin vIx (mVar 1) (mC (.int 0))) mNil)) (mVar 2)) (mC (.int 0)))) (mRet [] (mC (.bool false))) mSkip)
    (mAsg [] 1 (mL (mLc [4] (mRng rng1 (mCons (mBin vSub (mCall vLen (mCons (mVar 1) mNil)) (mC (.int 1))) mNil)) (flN 4) mYes (mBin vSub (mBin vIx (mVar 1) (mBin vAdd (mVar 4) (mC (.int 1)))) (mBin vIx (mVar 1) (mVar 4)))))))))
    (mRet [] (mC (.bool true))))))
noncomputable def r__law_are_whole : List PyData → Option PyData := runM N__law_are_whole m__law_are_whole
def N__law_row_at : List Str := ["row", "place", "total", "power", "part"]
noncomputable def m__law_row_at : MS := (mSeq (mAsg [] 2 (mC (.int 0)))
    (mSeq (mAsg [] 3 (mC (.int 1)))
    (mSeq (mFor [] (mItems (mVar 0)) (flN 4) (mSeq (mAsg [] 2 (mBin vAdd (mVar 2) (mBin vMul (mVar 4) (mVar 3))))
    (mAsg [] 3 (mBin vMul (mVar 3) (mVar 1)))))
    (mRet [] (mVar 2)))))
noncomputable def r__law_row_at : List PyData → Option PyData := runM N__law_row_at m__law_row_at
def N__law_whole : List Str := ["value"]
noncomputable def m__law_whole : MS := (mRet [] (mAndV (mUn (vIsi "int") (mVar 0)) (mAndV (mNotV (mUn (vIsi "bool") (mVar 0))) (mBin vGe (mVar 0) (mC (.int 0))))))
noncomputable def r__law_whole : List PyData → Option PyData := runM N__law_whole m__law_whole
def N_differences : List Str := ["answers", "firsts", "row", "left", "right"]
noncomputable def m_differences : MS := (mSeq (mAsgO [] 1 (mLst mNil))
    (mSeq (mAsg [] 2 (mL (mCallF vListF (mCons (mVar 0) mNil))))
    (mSeq (mWhile [] (mTru (mVar 2)) (mSeq (mApp [] 1 (mBin vIx (mVar 2) (mC (.int 0))))
    (mAsg [] 2 (mL (mLc [3, 4] (mZip (mVar 2) (mSl (mVar 2) (mOS (mC (.int 1))) mON)) (flTup (flCons (flN 3) (flCons (flN 4) flNil)) 2) mYes (mBin vSub (mVar 4) (mVar 3)))))))
    (mRetO 1))))
noncomputable def r_differences : List PyData → Option PyData := runM N_differences m_differences
def N_parted : List Str := ["row", "plus", "minus", "part"]
noncomputable def m_parted : MS := (mSeq (mAsg [] 1 (mCall vTuple (mCons (mL (mLc [3] (mItems (mVar 0)) (flN 3) mYes (mCall vMax2 (mCons (mC (.int 0)) (mCons (mVar 3) mNil))))) mNil)))
    (mSeq (mAsg [] 2 (mCall vTuple (mCons (mL (mLc [3] (mItems (mVar 0)) (flN 3) mYes (mCall vMax2 (mCons (mC (.int 0)) (mCons (mUn vNeg (mVar 3)) mNil))))) mNil)))
    (mRet [] (mTup (mCons (mVar 1) (mCons (mVar 2) mNil))))))
noncomputable def r_parted : List PyData → Option PyData := runM N_parted m_parted
def N_times_less : List Str := ["row", "root", "higher", "lower", "part", "high", "low"]
noncomputable def m_times_less : MS := (mSeq (mAsg [] 2 (mBin vAdd (mL (mLst (mCons (mC (.int 0)) mNil))) (mVar 0)))
    (mSeq (mAsg [] 3 (mBin vAdd (mL (mLc [4] (mItems (mVar 0)) (flN 4) mYes (mBin vMul (mVar 1) (mVar 4)))) (mL (mLst (mCons (mC (.int 0)) mNil)))))
    (mRet [] (mL (mLc [5, 6] (mZip (mVar 2) (mVar 3)) (flTup (flCons (flN 5) (flCons (flN 6) flNil)) 2) mYes (mBin vSub (mVar 5) (mVar 6)))))))
noncomputable def r_times_less : List PyData → Option PyData := runM N_times_less m_times_less
def N_sum_of_answers : List Str := ["answers", "total", "product", "share", "degree", "first", "factor", "_", "index", "part"]
noncomputable def m_sum_of_answers : MS := (mSeq (mAsgO [] 1 (mLc [7] (mItems (mVar 0)) (flN 7) mYes (mC (.int 0))))
    (mSeq (mAsg [] 2 (mL (mLst (mCons (mC (.int 1)) mNil))))
    (mSeq (mAsg [] 3 (mC (.int 1)))
    (mSeq (mFor [] (mEnum (mDef 1 r_differences (mCons (mVar 0) mNil))) (flTup (flCons (flN 4) (flCons (flN 5) flNil)) 2) (mSeq (mIfS [] (mBool (mBin vGt (mVar 4) (mC (.int 0)))) (mSeq (mAsg [] 2 (mDef 2 r_times_less (mCons (mVar 2) (mCons (mBin vSub (mVar 4) (mC (.int 1))) mNil))))
    (mAug vMulW [] 3 (mVar 4))) mSkip)
    (mSeq (mIfS [] (mBool (mBin vNe (mBin vMod (mVar 5) (mVar 3)) (mC (.int 0)))) (mRet [] (mC .none)) mSkip)
    (mSeq (mAsg [] 6 (mBin vDiv (mVar 5) (mVar 3)))
    (mFor [] (mEnum (mVar 2)) (flTup (flCons (flN 8) (flCons (flN 9) flNil)) 2) (mAugP (fun i j => i + j) [] 1 (mBin vMul (mVar 6) (mVar 9)) (mVar 8)))))))
    (mRet [1] (mDef 1 r_parted (mCons (mVar 1) mNil)))))))
noncomputable def r_sum_of_answers : List PyData → Option PyData := runM N_sum_of_answers m_sum_of_answers
def N__law_answered : List Str := ["answers", "count", "handed", "told", "k", "found", "place"]
noncomputable def m__law_answered : MS := (mSeq (mAsg [] 2 (mL (mCallF vListF (mCons (mVar 0) mNil))))
    (mSeq (mAsg [] 3 (mDef 1 r_sum_of_answers (mCons (mVar 2) mNil)))
    (mSeq (mIfS [] (mBool (mBin vNe (mVar 2) (mL (mCallF vListF (mCons (mVar 0) mNil))))) (mRet [] (mC (.bool false))) mSkip)
    (mSeq (mIfS [] (mNot (mTru (mDef 1 r__law_are_whole (mCons (mVar 0) mNil)))) (mRet [] (mBin vIs (mVar 3) (mC .none))) mSkip)
    (mSeq (mIfS [] (mOr (mNot (mTru (mUn (vIsi "tuple") (mVar 3)))) (mBool (mBin vNe (mCall vLen (mCons (mVar 3) mNil)) (mC (.int 2))))) (mRet [] (mC (.bool false))) mSkip)
    (mSeq (mForR [] (mRng rng1 (mCons (mC (.int 2)) mNil)) (flN 4) (mIfS [] (mOr (mNot (mTru (mUn (vIsi "tuple") (mBin vIx (mVar 3) (mVar 4))))) (mBool (mBin vNe (mCall vLen (mCons (mBin vIx (mVar 3) (mVar 4)) mNil)) (mVar 1)))) (mRet [] (mC (.bool false))) mSkip))
    (mSeq (mForR [] (mRng rng1 (mCons (mVar 1) mNil)) (flN 4) (mIfS [] (mOr (mNot (mTru (mDef 1 r__law_whole (mCons (mBin vIx (mBin vIx (mVar 3) (mC (.int 0))) (mVar 4)) mNil)))) (mOr (mNot (mTru (mDef 1 r__law_whole (mCons (mBin vIx (mBin vIx (mVar 3) (mC (.int 1))) (mVar 4)) mNil)))) (mBool (mBin vNe (mCall vMin2 (mCons (mBin vIx (mBin vIx (mVar 3) (mC (.int 0))) (mVar 4)) (mCons (mBin vIx (mBin vIx (mVar 3) (mC (.int 1))) (mVar 4)) mNil))) (mC (.int 0)))))) (mRet [] (mC (.bool false))) mSkip))
    (mSeq (mAsg [] 5 (mL (mLc [4] (mRng rng1 (mCons (mVar 1) mNil)) (flN 4) mYes (mBin vSub (mBin vIx (mBin vIx (mVar 3) (mC (.int 0))) (mVar 4)) (mBin vIx (mBin vIx (mVar 3) (mC (.int 1))) (mVar 4))))))
    (mRet [] (mBin vEq (mL (mLc [6] (mRng rng1 (mCons (mVar 1) mNil)) (flN 6) mYes (mDef 2 r__law_row_at (mCons (mVar 5) (mCons (mVar 6) mNil))))) (mVar 0)))))))))))
noncomputable def r__law_answered : List PyData → Option PyData := runM N__law_answered m__law_answered
def N__law_lengths : List Str := ["script", "sizes", "count", "most", "parts", "row", "answers", "at", "product", "k", "place"]
noncomputable def m__law_lengths : MS := (mSeq (mAsg [] 1 (mDef 2 r__law_digits (mCons (mDef 2 r__law_cell (mCons (mVar 0) (mCons (mC (.int 4)) mNil))) (mCons (mL (mLst (mCons (mC (.int 9)) (mCons (mC (.int 4)) (mCons (mC (.int 5)) (mCons (mC (.int 9)) (mCons (mC (.int 6)) (mCons (mC (.int 8)) mNil)))))))) mNil))))
    (mSeq (mAsg [] 2 (mBin vAdd (mC (.int 1)) (mBin vIx (mVar 1) (mC (.int 0)))))
    (mSeq (mAsg [] 3 (mBin vIx (mL (mLst (mCons (mC (.int 41)) (mCons (mC (.int 4)) (mCons (mBin vPow (mC (.int 10)) (mC (.int 9))) (mCons (mC (.int 13)) mNil)))))) (mBin vIx (mVar 1) (mC (.int 1)))))
    (mSeq (mAsg [] 4 (mDef 2 r__law_digits (mCons (mDef 2 r__law_cell (mCons (mVar 0) (mCons (mC (.int 5)) mNil))) (mCons (mL (mRep (mLst (mCons (mBin vAdd (mBin vMul (mC (.int 2)) (mVar 3)) (mC (.int 1))) mNil)) (mC (.int 9)))) mNil))))
    (mSeq (mAsg [] 5 (mL (mLc [9] (mRng rng1 (mCons (mVar 2) mNil)) (flN 9) mYes (mBin vSub (mBin vIx (mVar 4) (mVar 9)) (mVar 3)))))
    (mSeq (mAsgO [] 6 (mLc [10] (mRng rng1 (mCons (mVar 2) mNil)) (flN 10) mYes (mDef 2 r__law_row_at (mCons (mVar 5) (mCons (mVar 10) mNil)))))
    (mSeq (mIfS [6] (mOr (mNot (mTru (mDef 1 r__law_are_whole (mCons (mVar 6) mNil)))) (mNot (mTru (mDef 2 r__law_answered (mCons (mVar 6) (mCons (mVar 2) mNil)))))) (mRet [] (mC (.bool false))) mSkip)
    (mSeq (mAsg [] 7 (mBin vMod (mCall vInt (mCons (mBin vIx (mVar 1) (mC (.int 3))) mNil)) (mVar 2)))
    (mSeq (mIfS [] (mBool (mBin vEq (mBin vIx (mVar 1) (mC (.int 2))) (mC (.int 1)))) (mPut [6] 6 (mBin vAdd (mBin vAdd (mBin vIx (mVar 6) (mVar 7)) (mC (.int 1))) (mBin vIx (mVar 1) (mC (.int 4)))) (mVar 7)) mSkip)
    (mSeq (mIfS [] (mBool (mBin vEq (mBin vIx (mVar 1) (mC (.int 2))) (mC (.int 2)))) (mSeq (mAsg [] 8 (mC (.int 1)))
    (mSeq (mForR [] (mRng rng1 (mCons (mVar 2) mNil)) (flN 9) (mAsg [] 8 (mBin vMul (mVar 8) (mBin vAdd (mVar 9) (mC (.int 1))))))
    (mPut [6] 6 (mBin vAdd (mBin vIx (mVar 6) (mVar 7)) (mBin vMul (mVar 8) (mBin vAdd (mBin vIx (mVar 1) (mC (.int 4))) (mC (.int 1))))) (mVar 7)))) mSkip)
    (mSeq (mIfS [] (mAnd (mBool (mBin vGt (mBin vIx (mVar 1) (mC (.int 2))) (mC (.int 2)))) (mBool (mBin vLt (mVar 3) (mC (.int 100))))) (mAsgO [] 6 (mLc [9] (mRng rng1 (mCons (mVar 2) mNil)) (flN 9) mYes (mBin vSub (mBin vMod (mCall vInt (mCons (mBin vIx (mVar 5) (mVar 9)) mNil)) (mC (.int 9))) (mC (.int 3))))) mSkip)
    (mRet [6] (mDef 2 r__law_answered (mCons (mVar 6) (mCons (mVar 2) mNil)))))))))))))))
noncomputable def r__law_lengths : List PyData → Option PyData := runM N__law_lengths m__law_lengths
def N__law_sum_at : List Str := ["sums", "place", "total", "power", "index"]
noncomputable def m__law_sum_at : MS := (mSeq (mAsg [] 2 (mC (.int 0)))
    (mSeq (mAsg [] 3 (mC (.int 1)))
    (mSeq (mForR [] (mRng rng1 (mCons (mC (.int 12)) mNil)) (flN 4) (mSeq (mIfS [] (mBool (mBin vLt (mVar 4) (mCall vLen (mCons (mBin vIx (mVar 0) (mC (.int 0))) mNil)))) (mAsg [] 2 (mBin vAdd (mVar 2) (mBin vMul (mBin vIx (mBin vIx (mVar 0) (mC (.int 0))) (mVar 4)) (mVar 3)))) mSkip)
    (mSeq (mIfS [] (mBool (mBin vLt (mVar 4) (mCall vLen (mCons (mBin vIx (mVar 0) (mC (.int 1))) mNil)))) (mAsg [] 2 (mBin vSub (mVar 2) (mBin vMul (mBin vIx (mBin vIx (mVar 0) (mC (.int 1))) (mVar 4)) (mVar 3)))) mSkip)
    (mAsg [] 3 (mBin vMul (mVar 3) (mVar 1))))))
    (mRet [] (mVar 2)))))
noncomputable def r__law_sum_at : List PyData → Option PyData := runM N__law_sum_at m__law_sum_at
def N__law_twin : List Str := ["row", "plus", "minus", "left", "right", "k"]
noncomputable def m__law_twin : MS := (mSeq (mAsgO [] 3 (mCallF vListF (mCons (mVar 1) mNil)))
    (mSeq (mAsgO [] 4 (mCallF vListF (mCons (mVar 2) mNil)))
    (mSeq (mIfS [] (mBool (mBin vEq (mBin vIx (mVar 0) (mC (.int 0))) (mC (.int 0)))) (mForR [3, 4] (mRng rng1 (mCons (mCall vMin2 (mCons (mCall vLen (mCons (mVar 3) mNil)) (mCons (mCall vLen (mCons (mVar 4) mNil)) mNil))) mNil)) (flN 5) (mSeq (mPut [3] 3 (mBin vAdd (mBin vIx (mVar 3) (mVar 5)) (mBin vIx (mVar 0) (mBin vAdd (mC (.int 1)) (mVar 5)))) (mVar 5))
    (mPut [4] 4 (mBin vAdd (mBin vIx (mVar 4) (mVar 5)) (mBin vIx (mVar 0) (mBin vAdd (mC (.int 1)) (mVar 5)))) (mVar 5)))) mSkip)
    (mSeq (mIfS [] (mBool (mBin vEq (mBin vIx (mVar 0) (mC (.int 0))) (mC (.int 1)))) (mSeq (mAsgO [3] 3 (mCatF (mVar 3) (mL (mRep (mLst (mCons (mC (.int 0)) mNil)) (mBin vIx (mVar 0) (mC (.int 1)))))))
    (mAsgO [4] 4 (mCatF (mVar 4) (mL (mRep (mLst (mCons (mC (.int 0)) mNil)) (mBin vAdd (mC (.int 1)) (mBin vIx (mVar 0) (mC (.int 2))))))))) mSkip)
    (mSeq (mIfS [] (mBool (mBin vEq (mBin vIx (mVar 0) (mC (.int 0))) (mC (.int 2)))) (mAsgO [3] 3 (mCatF (mVar 3) (mL (mLst (mCons (mBin vAdd (mBin vIx (mVar 0) (mC (.int 1))) (mC (.int 1))) mNil))))) mSkip)
    (mSeq (mIfS [3] (mAnd (mBool (mBin vEq (mBin vIx (mVar 0) (mC (.int 0))) (mC (.int 3)))) (mBool (mBin vGt (mCall vLen (mCons (mVar 3) mNil)) (mC (.int 0))))) (mPut [3] 3 (mBin vIx (mVar 0) (mC (.int 2))) (mBin vMod (mCall vInt (mCons (mBin vIx (mVar 0) (mC (.int 1))) mNil)) (mCall vLen (mCons (mVar 3) mNil)))) mSkip)
    (mSeq (mIfS [] (mBool (mBin vEq (mBin vIx (mVar 0) (mC (.int 0))) (mC (.int 4)))) (mSeq (mAsgO [] 3 (mCallF vListF (mCons (mSl (mVar 0) (mOS (mC (.int 1))) (mOS (mC (.int 4)))) mNil)))
    (mAsgO [] 4 (mCallF vListF (mCons (mSl (mVar 0) (mOS (mC (.int 4))) (mOS (mC (.int 6)))) mNil)))) mSkip)
    (mRet [3, 4] (mL (mLst (mCons (mVar 3) (mCons (mVar 4) mNil))))))))))))
noncomputable def r__law_twin : List PyData → Option PyData := runM N__law_twin m__law_twin
def N__law_whole_sign : List Str := ["value"]
noncomputable def m__law_whole_sign : MS := (mRet [] (mAndV (mUn (vIsi "int") (mVar 0)) (mNotV (mUn (vIsi "bool") (mVar 0)))))
noncomputable def r__law_whole_sign : List PyData → Option PyData := runM N__law_whole_sign m__law_whole_sign
def N_fooling_sum : List Str := ["count", "row", "root"]
noncomputable def m_fooling_sum : MS := (mSeq (mAsg [] 1 (mL (mLst (mCons (mC (.int 1)) mNil))))
    (mSeq (mForR [] (mRng rng1 (mCons (mVar 0) mNil)) (flN 2) (mAsg [] 1 (mDef 2 r_times_less (mCons (mVar 1) (mCons (mVar 2) mNil)))))
    (mRet [] (mDef 1 r_parted (mCons (mVar 1) mNil)))))
noncomputable def r_fooling_sum : List PyData → Option PyData := runM N_fooling_sum m_fooling_sum
def N_entry : List Str := ["row", "index"]
noncomputable def m_entry : MS := (mSeq (mIfS [] (mBool (mBin vLt (mVar 1) (mCall vLen (mCons (mVar 0) mNil)))) (mRet [] (mBin vIx (mVar 0) (mVar 1))) mSkip)
    (mRet [] (mC (.int 0))))
noncomputable def r_entry : List PyData → Option PyData := runM N_entry m_entry
def N_coefficients : List Str := ["sums", "plus", "minus", "index"]
noncomputable def m_coefficients : MS := (mSeq (mAsgT [] (flTup (flCons (flN 1) (flCons (flN 2) flNil)) 2) (mVar 0))
    (mRet [] (mL (mLc [3] (mRng rng1 (mCons (mCall vMax2 (mCons (mCall vLen (mCons (mVar 1) mNil)) (mCons (mCall vLen (mCons (mVar 2) mNil)) mNil))) mNil)) (flN 3) mYes (mBin vSub (mDef 2 r_entry (mCons (mVar 1) (mCons (mVar 3) mNil))) (mDef 2 r_entry (mCons (mVar 2) (mCons (mVar 3) mNil))))))))
noncomputable def r_coefficients : List PyData → Option PyData := runM N_coefficients m_coefficients
def N_sum_at : List Str := ["sums", "place", "total", "part"]
noncomputable def m_sum_at : MS := (mSeq (mAsg [] 2 (mC (.int 0)))
    (mSeq (mFor [] (mRevI (mDef 1 r_coefficients (mCons (mVar 0) mNil))) (flN 3) (mAsg [] 2 (mBin vAdd (mBin vMul (mVar 2) (mVar 1)) (mVar 3))))
    (mRet [] (mVar 2))))
noncomputable def r_sum_at : List PyData → Option PyData := runM N_sum_at m_sum_at
def N_shortened : List Str := ["row", "end"]
noncomputable def m_shortened : MS := (mSeq (mAsg [] 1 (mCall vLen (mCons (mVar 0) mNil)))
    (mSeq (mWhile [] (mAnd (mBool (mBin vGt (mVar 1) (mC (.int 0)))) (mBool (mBin vEq (mBin vIx (mVar 0) (mBin vSub (mVar 1) (mC (.int 1)))) (mC (.int 0))))) (mAug vSub [] 1 (mC (.int 1))))
    (mRet [] (mSl (mVar 0) mON (mOS (mVar 1))))))
noncomputable def r_shortened : List PyData → Option PyData := runM N_shortened m_shortened
def N_sum_same : List Str := ["one", "two"]
noncomputable def m_sum_same : MS := (mRet [] (mBin vEq (mDef 1 r_shortened (mCons (mDef 1 r_coefficients (mCons (mVar 0) mNil)) mNil)) (mDef 1 r_shortened (mCons (mDef 1 r_coefficients (mCons (mVar 1) mNil)) mNil))))
noncomputable def r_sum_same : List PyData → Option PyData := runM N_sum_same m_sum_same
def N_law : List Str := ["script", "sizes", "most", "plus", "minus", "twin", "length", "alike", "place", "count", "fool", "k", "one", "two", "product", "root", "value"]
noncomputable def m_law : MS := (mSeq (mAsg [] 1 (mDef 2 r__law_digits (mCons (mDef 2 r__law_cell (mCons (mVar 0) (mCons (mC (.int 0)) mNil))) (mCons (mL (mLst (mCons (mC (.int 6)) (mCons (mC (.int 6)) (mCons (mC (.int 11)) (mCons (mC (.int 4)) mNil)))))) mNil))))
    (mSeq (mAsg [] 2 (mBin vIx (mL (mLst (mCons (mC (.int 7)) (mCons (mC (.int 3)) (mCons (mBin vAdd (mBin vPow (mC (.int 10)) (mC (.int 9))) (mC (.int 1))) (mCons (mC (.int 40)) mNil)))))) (mBin vIx (mVar 1) (mC (.int 3)))))
    (mSeq (mAsg [] 3 (mSl (mDef 2 r__law_digits (mCons (mDef 2 r__law_cell (mCons (mVar 0) (mCons (mC (.int 1)) mNil))) (mCons (mL (mRep (mLst (mCons (mVar 2) mNil)) (mC (.int 5)))) mNil))) mON (mOS (mBin vIx (mVar 1) (mC (.int 0))))))
    (mSeq (mAsg [] 4 (mSl (mDef 2 r__law_digits (mCons (mDef 2 r__law_cell (mCons (mVar 0) (mCons (mC (.int 2)) mNil))) (mCons (mL (mRep (mLst (mCons (mVar 2) mNil)) (mC (.int 5)))) mNil))) mON (mOS (mBin vIx (mVar 1) (mC (.int 1))))))
    (mSeq (mAsg [] 3 (mL (mLc [16] (mItems (mVar 3)) (flN 16) mYes (mBin vMod (mCall vInt (mCons (mVar 16) mNil)) (mVar 2)))))
    (mSeq (mAsg [] 5 (mDef 3 r__law_twin (mCons (mDef 2 r__law_digits (mCons (mDef 2 r__law_cell (mCons (mVar 0) (mCons (mC (.int 3)) mNil))) (mCons (mBin vAdd (mL (mLst (mCons (mC (.int 5)) mNil))) (mL (mRep (mLst (mCons (mC (.int 6)) mNil)) (mC (.int 5))))) mNil))) (mCons (mVar 3) (mCons (mVar 4) mNil)))))
    (mSeq (mAsg [] 6 (mCall vMax4 (mCons (mCall vLen (mCons (mVar 3) mNil)) (mCons (mCall vLen (mCons (mVar 4) mNil)) (mCons (mCall vLen (mCons (mBin vIx (mVar 5) (mC (.int 0))) mNil)) (mCons (mCall vLen (mCons (mBin vIx (mVar 5) (mC (.int 1))) mNil)) mNil))))))
    (mSeq (mAsg [] 7 (mC (.bool true)))
    (mSeq (mForR [] (mRng rng1 (mCons (mBin vAdd (mVar 6) (mC (.int 3))) mNil)) (flN 8) (mSeq (mAsg [] 12 (mDef 2 r_sum_at (mCons (mTup (mCons (mL (mCallF vListF (mCons (mVar 3) mNil))) (mCons (mCall vTuple (mCons (mVar 4) mNil)) mNil))) (mCons (mVar 8) mNil))))
    (mSeq (mAsg [] 13 (mDef 2 r_sum_at (mCons (mVar 5) (mCons (mVar 8) mNil))))
    (mSeq (mIfS [] (mOr (mNot (mTru (mDef 1 r__law_whole_sign (mCons (mVar 12) mNil)))) (mNot (mTru (mDef 1 r__law_whole_sign (mCons (mVar 13) mNil))))) (mRet [] (mC (.bool false))) mSkip)
    (mSeq (mIfS [] (mOr (mBool (mBin vNe (mVar 12) (mDef 2 r__law_sum_at (mCons (mL (mLst (mCons (mVar 3) (mCons (mVar 4) mNil)))) (mCons (mVar 8) mNil))))) (mBool (mBin vNe (mVar 13) (mDef 2 r__law_sum_at (mCons (mVar 5) (mCons (mVar 8) mNil)))))) (mRet [] (mC (.bool false))) mSkip)
    (mIfS [] (mAnd (mBool (mBin vLt (mVar 8) (mVar 6))) (mBool (mBin vNe (mVar 12) (mVar 13)))) (mAsg [] 7 (mC (.bool false))) mSkip))))))
    (mSeq (mIfS [] (mNot (mTru (mDef 2 r__law_is (mCons (mDef 2 r_sum_same (mCons (mTup (mCons (mVar 3) (mCons (mVar 4) mNil))) (mCons (mTup (mCons (mCall vTuple (mCons (mBin vIx (mVar 5) (mC (.int 0))) mNil)) (mCons (mCall vTuple (mCons (mBin vIx (mVar 5) (mC (.int 1))) mNil)) mNil))) mNil))) (mCons (mVar 7) mNil))))) (mRet [] (mC (.bool false))) mSkip)
    (mSeq (mAsg [] 9 (mBin vIx (mVar 1) (mC (.int 2))))
    (mSeq (mAsg [] 10 (mDef 1 r_fooling_sum (mCons (mVar 9) mNil)))
    (mSeq (mIfS [] (mOr (mNot (mTru (mUn (vIsi "tuple") (mVar 10)))) (mOr (mBool (mBin vNe (mCall vLen (mCons (mVar 10) mNil)) (mC (.int 2)))) (mOr (mBool (mBin vNe (mCall vLen (mCons (mBin vIx (mVar 10) (mC (.int 0))) mNil)) (mBin vAdd (mVar 9) (mC (.int 1))))) (mBool (mBin vNe (mCall vLen (mCons (mBin vIx (mVar 10) (mC (.int 1))) mNil)) (mBin vAdd (mVar 9) (mC (.int 1)))))))) (mRet [] (mC (.bool false))) mSkip)
    (mSeq (mForR [] (mRng rng1 (mCons (mBin vAdd (mVar 9) (mC (.int 1))) mNil)) (flN 11) (mIfS [] (mOr (mNot (mTru (mDef 1 r__law_whole (mCons (mBin vIx (mBin vIx (mVar 10) (mC (.int 0))) (mVar 11)) mNil)))) (mOr (mNot (mTru (mDef 1 r__law_whole (mCons (mBin vIx (mBin vIx (mVar 10) (mC (.int 1))) (mVar 11)) mNil)))) (mBool (mBin vNe (mCall vMin2 (mCons (mBin vIx (mBin vIx (mVar 10) (mC (.int 0))) (mVar 11)) (mCons (mBin vIx (mBin vIx (mVar 10) (mC (.int 1))) (mVar 11)) mNil))) (mC (.int 0)))))) (mRet [] (mC (.bool false))) mSkip))
    (mSeq (mForR [] (mRng rng1 (mCons (mBin vAdd (mVar 9) (mC (.int 3))) mNil)) (flN 8) (mSeq (mAsg [] 14 (mC (.int 1)))
    (mSeq (mForR [] (mRng rng1 (mCons (mVar 9) mNil)) (flN 15) (mAsg [] 14 (mBin vMul (mVar 14) (mBin vSub (mVar 8) (mVar 15)))))
    (mIfS [] (mOr (mBool (mBin vNe (mDef 2 r__law_sum_at (mCons (mVar 10) (mCons (mVar 8) mNil))) (mVar 14))) (mBool (mBin vNe (mDef 2 r_sum_at (mCons (mVar 10) (mCons (mVar 8) mNil))) (mVar 14)))) (mRet [] (mC (.bool false))) mSkip))))
    (mSeq (mIfS [] (mOr (mBool (mBin vIsNot (mDef 2 r_sum_same (mCons (mVar 10) (mCons (mTup (mCons (mTup mNil) (mCons (mTup mNil) mNil))) mNil))) (mC (.bool false)))) (mBool (mBin vIsNot (mDef 2 r_sum_same (mCons (mVar 10) (mCons (mDef 1 r_fooling_sum (mCons (mVar 9) mNil)) mNil))) (mC (.bool true))))) (mRet [] (mC (.bool false))) mSkip)
    (mRet [] (mDef 1 r__law_lengths (mCons (mVar 0) mNil)))))))))))))))))))
noncomputable def r_law : List PyData → Option PyData := runM N_law m_law
end LW
set_option Elab.async false
set_option linter.all false
set_option maxRecDepth 100000
set_option maxHeartbeats 2000000
namespace LW
open PySem L2 VE
def nL (vs : List Nat) : List PyData := vs.map fun k : Nat => PyData.int (k : Int)
def iL (xs : List Int) : PyData := .list (xs.map .int)
theorem at_ints {xs : List Int} {i : Int} (h0 : 0 ≤ i) (h1 : i < xs.length) : ∃ x, xs[i.toNat]? = some x ∧ atI (xs.map PyData.int) i = some (.int x) := by
  have hl : i.toNat < xs.length := by omega
  refine ⟨xs[i.toNat], List.getElem?_eq_getElem hl, ?_⟩
  have h := atI_nat (xs := xs.map PyData.int) (j := i.toNat) (v := .int xs[i.toNat]) (by simp [hl])
  rwa [Int.toNat_of_nonneg h0] at h
theorem cell_ok (ns : List Int) (k : Int) (hk : 0 ≤ k) (hk2 : k < 2 ^ 60) : ∃ c : Int, r__law_cell [iL ns, .int k] = some (.int c) := by
  suffices h : ∃ d, r__law_cell [iL ns, .int k] = some d ∧ ∃ c : Int, d = .int c by
    obtain ⟨d, h, c, rfl⟩ := h
    exact ⟨c, h⟩
  refine runM_ex ?_
  unfold m__law_cell iL
  simp [N__law_cell]
  split
  · rename_i h
    obtain ⟨x, _, hx⟩ := at_ints hk h
    exact ⟨_, hx, x, rfl⟩
  · refine wp_forI (fun _ n => ∃ (s : Int) (x : Sl), n = [.v (.list (ns.map .int)), .v (.int k), .v (.int s), x] ∧ 0 ≤ s ∧ s < 1000003) (by simp; rfl) ⟨17, .no, by simp, by omega, by omega⟩ ?_ ?_
    · rintro i x n _ ⟨s, y, rfl, h0, h1⟩
      simp
      omega
    · rintro n ⟨s, y, rfl, h0, h1⟩
      have c1 : CM (s + 7) (k + 3) := cm_left (by omega) (by omega)
      simp [c1]
theorem digits_ok (c : Int) (sz : List Int) (hp : ∀ s ∈ sz, 0 < s ∧ s < 1152921504606846976) (hl : sz.length ≤ 1000) :
    ∃ row : List Int, r__law_digits [.int c, iL sz] = some (iL row) ∧ row.length = sz.length ∧ ∀ (i : Nat) (s x : Int), sz[i]? = some s → row[i]? = some x → 0 ≤ x ∧ x < s := by
  suffices h : ∃ d, r__law_digits [.int c, iL sz] = some d ∧ ∃ row : List Int, d = iL row ∧ row.length = sz.length ∧ ∀ (i : Nat) (s x : Int), sz[i]? = some s → row[i]? = some x → 0 ≤ x ∧ x < s by
    obtain ⟨d, h, row, rfl, h2⟩ := h
    exact ⟨row, h, h2⟩
  refine runM_ex ?_
  unfold m__law_digits iL
  have push : ∀ (row : List Int) (i : Nat) (s x : Int), row.length = i → (∀ (j : Nat) (s x : Int), sz[j]? = some s → row[j]? = some x → 0 ≤ x ∧ x < s) → sz[i]? = some s → 0 ≤ x → x < s → (∀ (j : Nat) (s x' : Int), sz[j]? = some s → (row ++ [x])[j]? = some x' → 0 ≤ x' ∧ x' < s) := by
    intro row i s x hr h hs h0 h1 j s' x' hj hx
    by_cases hji : j < row.length
    · rw [List.getElem?_append_left hji] at hx
      exact h j s' x' hj hx
    · rw [List.getElem?_append_right (by omega)] at hx
      have : j = i := by
        have := (List.getElem?_eq_some_iff.mp hx).1
        simp at this
        omega
      subst this
      rw [hs] at hj
      cases hj
      rw [hr, Nat.sub_self] at hx
      cases hx
      exact ⟨h0, h1⟩
  rcases Int.lt_or_le c 1000000000000000000 with hb | hb
  rotate_left
  · simp [N__law_digits, hb, Int.not_lt.mpr hb]
    refine wp_forI (fun i n => ∃ (row : List Int) (r : Int) (y : Sl), n = [.v (.int c), .v (.list (sz.map .int)), .o (row.map .int), .v (.int r), .no, .no, y, .no] ∧ row.length = i ∧ ∀ (j : Nat) (s x : Int), sz[j]? = some s → row[j]? = some x → 0 ≤ x ∧ x < s)
      (by simp; rfl) ⟨[], _, _, by simp; exact ⟨rfl, rfl⟩, rfl, by simp⟩ ?_ ?_
    · rintro i s n hi ⟨row, r, y, rfl, hr, h⟩
      obtain ⟨hs0, hs1⟩ := hp s (List.mem_of_getElem? hi)
      have hil := (List.getElem?_eq_some_iff.mp hi).1
      simp [hs0, db_of hs0 hs1]
      refine ⟨by omega, row ++ [r % s], by simp, by simp [hr], push row i s _ hr h hi (Int.emod_nonneg _ (by omega)) (Int.emod_lt_of_pos _ hs0)⟩
    · rintro n ⟨row, r, y, rfl, hr, h⟩
      simp
      exact ⟨row, rfl, hr, h⟩
  · simp [N__law_digits, hb, Int.not_le.mpr hb]
    refine wp_forN (lo := 0) (k := sz.length) (fun i n => ∃ (row : List Int) (r s : Int) (y z : Sl), n = [.v (.int c), .v (.list (sz.map .int)), .o (row.map .int), .v (.int r), .v (.int s), y, .no, z] ∧ 0 ≤ s ∧ s < 2147483647 ∧ row.length = i ∧ ∀ (j : Nat) (s x : Int), sz[j]? = some s → row[j]? = some x → 0 ≤ x ∧ x < s)
      (by simp [rb_nat (n := sz.length) (by omega)]) ⟨[], _, _, _, _, by simp; exact ⟨rfl, rfl, rfl, rfl⟩, by omega, by omega, rfl, by simp⟩ ?_ ?_
    · rintro i n hi ⟨row, r, s, y, z, rfl, hs0, hs1, hr, h⟩
      have hsz : sz[i]? = some sz[i] := List.getElem?_eq_getElem hi
      obtain ⟨hp0, hp1⟩ := hp _ (List.mem_of_getElem? hsz)
      obtain ⟨x, hx, hx2⟩ := at_ints (xs := sz) (i := (i : Int)) (by omega) (by omega)
      have ex : x = sz[i] := by
        rw [Int.toNat_natCast, hsz] at hx
        cases hx
        rfl
      subst ex
      have c3 : ∀ t : Int, CM (t % 2147483647) (t % 2147483647 / 65537 + 3) := fun t => cm_left (by omega) (by omega)
      simp [c3, hx2, hp0]
      refine ⟨by omega, row ++ [_], _, _, ⟨(List.map_append (l₂ := [_])).symm, rfl, rfl⟩, by omega, by omega, by simp [hr], push row i _ _ hr h hsz (Int.emod_nonneg _ (by omega)) (Int.emod_lt_of_pos _ hp0)⟩
    · rintro n ⟨row, r, s, y, z, rfl, hs0, hs1, hr, h⟩
      simp
      exact ⟨row, rfl, hr, h⟩
theorem digits_nat (c : Int) (sz : List Nat) (hp : ∀ s ∈ sz, 0 < s ∧ s < 1152921504606846976) (hl : sz.length ≤ 1000) :
    ∃ row : List Nat, r__law_digits [.int c, .list (nL sz)] = some (.list (nL row)) ∧ row.length = sz.length ∧ ∀ (i : Nat) (s x : Nat), sz[i]? = some s → row[i]? = some x → x < s := by
  obtain ⟨row, h1, h2, h3⟩ := digits_ok c (sz.map fun k : Nat => (k : Int)) (fun s hs => by
    obtain ⟨k, hk, rfl⟩ := List.mem_map.mp hs
    have := hp k hk
    omega) (by simpa using hl)
  rw [List.length_map] at h2
  have e0 : iL (sz.map fun k : Nat => (k : Int)) = .list (nL sz) := by
    unfold iL nL
    rw [List.map_map]
    rfl
  have pos : ∀ x ∈ row, 0 ≤ x := fun x hx => by
    obtain ⟨i, hi, rfl⟩ := List.mem_iff_getElem.mp hx
    have hi2 : i < sz.length := by omega
    exact (h3 i (sz[i] : Int) _ (by simp [hi2]) (List.getElem?_eq_getElem hi)).1
  have e1 : (row.map Int.toNat).map (fun k : Nat => (k : Int)) = row := by
    rw [List.map_map]
    refine (List.map_congr_left fun x hx => ?_).trans (List.map_id _)
    exact Int.toNat_of_nonneg (pos x hx)
  refine ⟨row.map Int.toNat, ?_, by simp [h2], fun i s x hs hx => ?_⟩
  · rw [← e0, h1]
    unfold iL nL
    rw [show ((row.map Int.toNat).map fun k : Nat => PyData.int (k : Int)) = ((row.map Int.toNat).map fun k : Nat => (k : Int)).map PyData.int by rw [List.map_map (g := PyData.int)]; rfl, e1]
  · rw [List.getElem?_map] at hx
    obtain ⟨y, hy, rfl⟩ := Option.map_eq_some_iff.mp hx
    have := h3 i s y (by simp [hs]) hy
    omega
/-- a stack of plain things (top first) and the turns it takes -/
inductive PlL : List PyData → Nat → Prop
  | nil : PlL [] 0
  | int {ds n} (i : Int) : PlL ds n → PlL (.int i :: ds) (n + 1)
  | bool {ds n} (i : Bool) : PlL ds n → PlL (.bool i :: ds) (n + 1)
  | str {ds n} (i : Str) : PlL ds n → PlL (.str i :: ds) (n + 1)
  | none {ds n} : PlL ds n → PlL (.none :: ds) (n + 1)
  | tup {ds n} (es : List PyData) : PlL (es.reverse ++ ds) n → PlL (.tuple es :: ds) (n + 1)
theorem PlL.app {ds es : List PyData} {n m : Nat} (h : PlL ds n) (g : PlL es m) : PlL (ds ++ es) (n + m) := by
  induction h with
  | nil => simpa using g
  | int i _ ih => rw [Nat.add_right_comm]; exact ih.int i
  | bool i _ ih => rw [Nat.add_right_comm]; exact ih.bool i
  | str i _ ih => rw [Nat.add_right_comm]; exact ih.str i
  | none _ ih => rw [Nat.add_right_comm]; exact ih.none
  | tup es' _ ih => rw [Nat.add_right_comm]; exact PlL.tup es' (by rw [List.append_assoc] at ih; exact ih)
theorem PlL.ints : ∀ xs : List Int, PlL (xs.map .int) xs.length
  | [] => .nil
  | x :: xs => (PlL.ints xs).int x
theorem PlL.nats : ∀ xs : List Nat, PlL (xs.map fun k : Nat => .int (k : Int)) xs.length
  | [] => .nil
  | x :: xs => (PlL.nats xs).int _
/-- a pair that waits -/
def prD (d : PyData) : PyData := .list [d, d]
theorem law_is_ok {d : PyData} {n : Nat} (hd : PlL [d] n) (hn : n < 1000000) : r__law_is [d, d] = some (.bool true) := by
  refine runM_of ?_
  unfold m__law_is
  simp [N__law_is]
  refine wp_forN (lo := 0) (k := 1000000) (fun i n => ∃ (ps : List PyData) (m : Nat) (x y z : Sl), n = [.v d, .v d, .o (ps.reverse.map prD), x, y, z] ∧ PlL ps m ∧ i + m < 1000000)
    (by simp) ⟨[d], _, .no, .no, .no, rfl, hd, by omega⟩ ?_ ?_
  · rintro i n hi ⟨ps, m, x, y, z, rfl, hp, hm⟩
    have hlen : ∀ {ds : List PyData} {n}, PlL ds n → ds.length ≤ n := fun h => by
      induction h with
      | nil => exact Nat.le_refl _
      | tup es _ ih => simp at ih ⊢; omega
      | _ => simp; assumption
    cases hp with
    | nil => simp
    | int i h => simp [prD]; exact fun _ => ⟨_, rfl, _, h, by omega⟩
    | bool i h => simp [prD]; exact fun _ => ⟨_, rfl, _, h, by omega⟩
    | str i h => simp [prD]; exact fun _ => ⟨_, rfl, _, h, by omega⟩
    | none h => simp [prD]; exact fun _ => ⟨_, rfl, _, h, by omega⟩
    | @tup ds m' es h =>
      have hl := hlen h
      rw [List.length_append, List.length_reverse] at hl
      simp [prD]
      intro _
      refine wp_forN (lo := 0) (k := es.length) (fun j n => ∃ w : Sl, n = [.v d, .v d, .o ((ds.map prD).reverse ++ (es.take j).map prD), .v (.int (i : Int)), .v (.list [.tuple es, .tuple es]), w])
        (by simp [rb_nat (n := es.length) (by omega)]) ⟨z, by simp⟩ ?_ ?_
      · rintro j n hj ⟨w, rfl⟩
        obtain ⟨e, he⟩ : ∃ e, es[j]? = some e := ⟨_, List.getElem?_eq_getElem hj⟩
        have hz : ds.length + min j es.length < 16000000 := by omega
        have ht : es.take (j + 1) = es.take j ++ [e] := by rw [List.take_add_one, he]; rfl
        simp [he, hz, ht, prD]
      · rintro n ⟨w, rfl⟩
        simp
        exact ⟨es.reverse ++ ds, by simp, _, h, by omega⟩
  · rintro n ⟨ps, m, x, y, z, rfl, hp, hm⟩
    omega
theorem is_int (i : Int) : r__law_is [.int i, .int i] = some (.bool true) := law_is_ok (n := 1) (.int i .nil) (by omega)
theorem is_tup {vs : List Nat} (h : vs.length < 900000) : r__law_is [.tuple (nL vs), .tuple (nL vs)] = some (.bool true) := by
  have hp : PlL (nL vs.reverse) vs.reverse.length := PlL.nats vs.reverse
  refine law_is_ok (n := vs.reverse.length + 1) (PlL.tup _ ?_) (by simp; omega)
  have e : (nL vs).reverse ++ [] = nL vs.reverse := by simp [nL]
  rw [e]
  exact hp
theorem can_ints : ∀ xs : List Int, PyData.canLayAll0 (xs.map .int) = true
  | [] => by simp [PyData.canLayAll0]
  | x :: xs => by simp [PyData.canLayAll0, PyData.canLay0, can_ints xs]
theorem depth_ints : ∀ xs : List Int, PyData.depthAll (xs.map .int) = 0
  | [] => by simp [PyData.depthAll]
  | x :: xs => by simp [PyData.depthAll, PyData.depth, depth_ints xs]
theorem ne_ints (xs : List Int) : vNe (.list (xs.map .int)) (.list (xs.map .int)) = some (.bool false) := by
  have hc : PyData.canLay0 (.list (xs.map .int)) = true := by
    simp [PyData.canLay0, can_ints]
  have hs : SeqAt.shaped (.list (xs.map .int)) = true := by
    simp [SeqAt.shaped, hc, PyData.depth, depth_ints]
  unfold vNe vEqB
  simp only [hs, and_self, if_true, SeqAt.eqv_refl _ hc]
  rfl
theorem ne_nats (vs : List Nat) : vNe (.list (nL vs)) (.list (nL vs)) = some (.bool false) := by
  have := ne_ints (vs.map fun k : Nat => (k : Int))
  rw [List.map_map] at this
  exact this
@[simp] theorem mRevI_ap {m : M} {n : En} : mRevI m n = (m n).bind revD := rfl
@[simp] theorem revD_l {xs : List PyData} : revD (.list xs) = some xs.reverse := rfl
@[simp] theorem revD_t {xs : List PyData} : revD (.tuple xs) = some xs.reverse := rfl
@[simp] theorem vMulW_ii {i j : Int} : vMulW (.int i) (.int j) = @ite _ (CMulW i j) (Classical.propDecidable _) (some (.int (i * j))) none := rfl
@[simp] theorem vMax4_i {a b c d : Int} : vMax4 [.int a, .int b, .int c, .int d] = some (.int (mx2 (mx2 (mx2 a b) c) d)) := rfl
@[simp] theorem wp_augP {f : Int → Int → Int} {n : En} {Q : Out → Prop} {m mb : M} {ws : List Nat} {i : Nat} : Wp (mAugP f ws i m mb) n Q ↔ ∃ xs, getO n i = some xs ∧ ∃ kd, mb (hide ws n) = some kd ∧ ∃ k, asI kd = some k ∧ ∃ j, ixN xs.length k = some j ∧ ∃ xd, xs[j]? = some xd ∧ ∃ x, asI xd = some x ∧ ∃ d, m (hide ws n) = some d ∧ ∃ y, asI d = some y ∧ Q (.nx (n.set i (.o (xs.set j (.int (f x y)))))) := by
  unfold Wp mAugP
  constructor
  · rintro ⟨o, h, q⟩
    obtain ⟨xs, hx, h⟩ := Option.bind_eq_some_iff.mp h
    obtain ⟨kd, hk, h⟩ := Option.bind_eq_some_iff.mp h
    obtain ⟨k, hkk, h⟩ := Option.bind_eq_some_iff.mp h
    obtain ⟨j, hj, h⟩ := Option.bind_eq_some_iff.mp h
    obtain ⟨xd, hxd, h⟩ := Option.bind_eq_some_iff.mp h
    obtain ⟨x, hx0, h⟩ := Option.bind_eq_some_iff.mp h
    obtain ⟨d, hd, h⟩ := Option.bind_eq_some_iff.mp h
    obtain ⟨y, hy, h⟩ := Option.bind_eq_some_iff.mp h
    cases h
    exact ⟨xs, hx, kd, hk, k, hkk, j, hj, xd, hxd, x, hx0, d, hd, y, hy, q⟩
  · rintro ⟨xs, hx, kd, hk, k, hkk, j, hj, xd, hxd, x, hx0, d, hd, y, hy, q⟩
    exact ⟨_, by rw [hx, Option.bind_some, hk, Option.bind_some, hkk, Option.bind_some, hj, Option.bind_some, hxd, Option.bind_some, hx0, Option.bind_some, hd, Option.bind_some, hy, Option.bind_some], q⟩
theorem ixN_nat {n i : Nat} (h : i < n) : ixN n (i : Int) = some i := by
  unfold ixN
  rw [if_pos (by omega), if_pos (by omega), Int.toNat_natCast]
theorem eqvAll_ints : ∀ xs ys : List Int, PyData.eqvAll (xs.map .int) (ys.map .int) = decide (xs = ys)
  | [], [] => by simp [PyData.eqvAll]
  | [], _ :: _ => by simp [PyData.eqvAll]
  | _ :: _, [] => by simp [PyData.eqvAll]
  | x :: xs, y :: ys => by
    rw [List.map_cons, List.map_cons, PyData.eqvAll, eqvAll_ints]
    by_cases h : x = y
    · simp [PyData.eqv, h]
    · simp [PyData.eqv, h]
theorem shaped_ints (xs : List Int) : SeqAt.shaped (.list (xs.map .int)) = true := by
  simp [SeqAt.shaped, PyData.canLay0, can_ints, PyData.depth, depth_ints]
theorem eqB_ints (xs ys : List Int) : vEqB (.list (xs.map .int)) (.list (ys.map .int)) = some (decide (xs = ys)) := by
  unfold vEqB
  simp only [shaped_ints, and_self, if_true]
  rw [PyData.eqv, eqvAll_ints]
@[simp] theorem eq_ints (xs ys : List Int) : vEq (.list (xs.map .int)) (.list (ys.map .int)) = some (.bool (decide (xs = ys))) := by
  unfold vEq
  rw [eqB_ints]
  rfl
theorem nei_ints (xs ys : List Int) : vNe (.list (xs.map .int)) (.list (ys.map .int)) = some (.bool (!decide (xs = ys))) := by
  unfold vNe
  rw [eqB_ints]
  rfl
/-! ### polynomials as rows of coefficients -/
def ev : List Int → Int → Int
  | [], _ => 0
  | c :: cs, x => c + x * ev cs x
/-- division by x - s: quotient and rest -/
def dvq (s : Int) : List Int → List Int × Int
  | [] => ([], 0)
  | [c] => ([], c)
  | c :: d :: cs => ((dvq s (d :: cs)).2 :: (dvq s (d :: cs)).1, c + s * (dvq s (d :: cs)).2)
theorem dvq_ev (s x : Int) : ∀ c : List Int, ev c x = (x - s) * ev (dvq s c).1 x + (dvq s c).2
  | [] => by simp [ev, dvq]
  | [c] => by simp [ev, dvq]
  | c :: d :: cs => by
    have ih := dvq_ev s x (d :: cs)
    rw [ev, ih]
    simp only [dvq, ev]
    grind
theorem dvq_len (s : Int) : ∀ c : List Int, (dvq s c).1.length = c.length - 1
  | [] => rfl
  | [c] => rfl
  | c :: d :: cs => by
    have ih := dvq_len s (d :: cs)
    simp only [dvq, List.length_cons] at ih ⊢
    omega
def Zr (c : List Int) : Prop := ∀ x ∈ c, x = 0
theorem dvq_zero (s : Int) : ∀ c : List Int, Zr (dvq s c).1 → (dvq s c).2 = 0 → Zr c
  | [], _, _ => fun x hx => by cases hx
  | [c], _, h => fun x hx => by
    simp only [dvq] at h
    simpa [h] using hx
  | c :: d :: cs, hq, hr => by
    simp only [dvq] at hq hr
    have h1 : (dvq s (d :: cs)).2 = 0 := hq _ (List.mem_cons_self ..)
    have ih := dvq_zero s (d :: cs) (fun x hx => hq x (List.mem_cons_of_mem _ hx)) h1
    rw [h1] at hr
    intro x hx
    rcases List.mem_cons.mp hx with rfl | hx
    · omega
    · exact ih x hx
theorem poly_zero : ∀ (n : Nat) (c : List Int) (s : Int), c.length ≤ n → (∀ i : Nat, i < n → ev c (s + i) = 0) → Zr c
  | 0, c, s, hl, _ => by
    have : c = [] := List.length_eq_zero_iff.mp (by omega)
    subst this
    intro x hx
    cases hx
  | n + 1, c, s, hl, h => by
    have h0 := h 0 (by omega)
    have hr : (dvq s c).2 = 0 := by
      have := dvq_ev s (s + (0 : Nat)) c
      rw [h0] at this
      have e : s + ((0 : Nat) : Int) - s = 0 := by omega
      rw [e, Int.zero_mul] at this
      omega
    refine dvq_zero s c (poly_zero n (dvq s c).1 (s + 1) (by rw [dvq_len]; omega) fun i hi => ?_) hr
    have h1 := h (i + 1) (by omega)
    have h2 := dvq_ev s (s + ((i + 1 : Nat) : Int)) c
    rw [h1, hr] at h2
    have e : s + ((i + 1 : Nat) : Int) - s = ((i : Int) + 1) := by omega
    have e2 : s + ((i + 1 : Nat) : Int) = s + 1 + (i : Int) := by omega
    rw [e, e2] at h2
    have h3 : ((i : Int) + 1) * ev (dvq s c).1 (s + 1 + i) = 0 := by omega
    rcases Int.mul_eq_zero.mp h3 with h4 | h4
    · omega
    · exact h4
theorem ev_append_zero (x : Int) : ∀ (c z : List Int), Zr z → ev (c ++ z) x = ev c x
  | [], [], h => rfl
  | [], a :: z, h => by
    have := ev_append_zero x [] z fun x hx => h x (List.mem_cons_of_mem _ hx)
    rw [List.nil_append] at this ⊢
    rw [show ev (a :: z) x = a + x * ev z x from rfl, this, h a (List.mem_cons_self ..)]
    simp [ev]
  | c :: cs, z, h => by
    rw [List.cons_append, ev, ev, ev_append_zero x cs z h]
/-- entry by entry -/
def coef (ps ms : List Int) : List Int := (List.range (max ps.length ms.length)).map fun i => ps.getD i 0 - ms.getD i 0
theorem coef_nil : coef [] [] = [] := rfl
theorem range_cons_map {α : Type} (n : Nat) (f : Nat → α) : (List.range (n + 1)).map f = f 0 :: (List.range n).map fun i => f (i + 1) := by
  rw [List.range_succ_eq_map, List.map_cons, List.map_map]
  rfl
theorem ev_gd (x : Int) : ∀ (n : Nat) (ps ms : List Int), ps.length ≤ n → ms.length ≤ n → ev ((List.range n).map fun i => ps.getD i 0 - ms.getD i 0) x = ev ps x - ev ms x
  | 0, ps, ms, h1, h2 => by
    have e1 : ps = [] := List.length_eq_zero_iff.mp (by omega)
    have e2 : ms = [] := List.length_eq_zero_iff.mp (by omega)
    subst e1 e2
    rfl
  | n + 1, ps, ms, h1, h2 => by
    rw [range_cons_map, ev]
    have ih := ev_gd x n ps.tail ms.tail (by rw [List.length_tail]; omega) (by rw [List.length_tail]; omega)
    have e : (fun i => ps.getD (i + 1) 0 - ms.getD (i + 1) 0) = fun i => ps.tail.getD i 0 - ms.tail.getD i 0 := by
      funext i
      cases ps <;> cases ms <;> simp
    rw [e, ih]
    cases ps <;> cases ms <;> simp [ev] <;> grind
theorem ev_coef (ps ms : List Int) (x : Int) : ev (coef ps ms) x = ev ps x - ev ms x := ev_gd x _ ps ms (by omega) (by omega)
theorem coef_len (ps ms : List Int) : (coef ps ms).length = max ps.length ms.length := by simp [coef]
/-! ### without the zeros at the end -/
def short (row : List Int) : List Int := (row.reverse.dropWhile (· == 0)).reverse
theorem short_split (row : List Int) : ∃ z, row = short row ++ z ∧ Zr z := by
  refine ⟨(row.reverse.takeWhile (· == 0)).reverse, ?_, fun x hx => ?_⟩
  · unfold short
    rw [← List.reverse_append, List.takeWhile_append_dropWhile, List.reverse_reverse]
  · rw [List.mem_reverse] at hx
    have : ∀ l : List Int, x ∈ l.takeWhile (· == 0) → x = 0 := by
      intro l
      induction l with
      | nil => intro h; cases h
      | cons a l ih =>
        intro h
        rw [List.takeWhile_cons] at h
        split at h
        · rename_i ha
          rcases List.mem_cons.mp h with rfl | h
          · simpa using ha
          · exact ih h
        · cases h
    exact this _ hx
theorem ev_short (row : List Int) (x : Int) : ev (short row) x = ev row x := by
  obtain ⟨z, h1, h2⟩ := short_split row
  conv => rhs; rw [h1]
  rw [ev_append_zero x _ _ h2]
theorem short_snoc (row : List Int) (c : Int) : short (row ++ [c]) = if c = 0 then short row else row ++ [c] := by
  unfold short
  rw [List.reverse_append]
  by_cases h : c = 0
  · simp [h]
  · simp [h]
theorem short_append_zero : ∀ (z row : List Int), Zr z → short (row ++ z) = short row
  | [], row, _ => by rw [List.append_nil]
  | c :: z, row, h => by
    rw [show row ++ c :: z = (row ++ [c]) ++ z by simp, short_append_zero z _ fun x hx => h x (List.mem_cons_of_mem _ hx), short_snoc, if_pos (h c (List.mem_cons_self ..))]
theorem eq_of_gd : ∀ (a b : List Int), a.length = b.length → (∀ i, a.getD i 0 = b.getD i 0) → a = b
  | [], [], _, _ => rfl
  | [], _ :: _, h, _ => by simp at h
  | _ :: _, [], h, _ => by simp at h
  | x :: a, y :: b, h, g => by
    have h0 := g 0
    have := eq_of_gd a b (by simpa using h) fun i => by simpa using g (i + 1)
    simp at h0
    rw [h0, this]
theorem pad_short (a : List Int) (n : Nat) (h : a.length ≤ n) : short (a ++ List.replicate (n - a.length) 0) = short a := short_append_zero _ _ fun x hx => (List.mem_replicate.mp hx).2
theorem gd_pad (a : List Int) (k i : Nat) : (a ++ List.replicate k 0).getD i 0 = a.getD i 0 := by
  by_cases h : i < a.length
  · simp [List.getD_eq_getElem?_getD, List.getElem?_append_left h]
  · rw [List.getD_eq_getElem?_getD, List.getElem?_append_right (by omega), List.getD_eq_getElem?_getD, List.getElem?_eq_none (l := a) (by omega), List.getElem?_replicate]
    split <;> rfl
theorem short_eq_of {a b : List Int} (h : ∀ i, a.getD i 0 = b.getD i 0) : short a = short b := by
  rw [← pad_short a (max a.length b.length) (by omega), ← pad_short b (max a.length b.length) (by omega)]
  congr 1
  exact eq_of_gd _ _ (by simp; omega) fun i => by rw [gd_pad, gd_pad, h]
theorem short_iff (a b : List Int) (n : Nat) (ha : a.length ≤ n) (hb : b.length ≤ n) : short a = short b ↔ ∀ i : Nat, i < n → ev a i = ev b i := by
  constructor
  · intro h i _
    rw [← ev_short a, ← ev_short b, h]
  · intro h
    have z : Zr ((List.range n).map fun i => a.getD i 0 - b.getD i 0) := poly_zero n _ 0 (by simp) fun i hi => by
      rw [Int.zero_add, ev_gd _ n a b ha hb, h i hi]
      omega
    refine short_eq_of fun i => ?_
    by_cases hi : i < n
    · have := z (a.getD i 0 - b.getD i 0) (List.mem_map.mpr ⟨i, List.mem_range.mpr hi, rfl⟩)
      omega
    · rw [List.getD_eq_getElem?_getD, List.getD_eq_getElem?_getD, List.getElem?_eq_none (by omega), List.getElem?_eq_none (by omega)]
/-! ### times x - r -/
def tml (row : List Int) (r : Int) : List Int := List.zipWith (fun h l => h - l) (0 :: row) (row.map (r * ·) ++ [0])
theorem tml_len (row : List Int) (r : Int) : (tml row r).length = row.length + 1 := by simp [tml]
theorem ev_zip (x : Int) : ∀ a b : List Int, a.length = b.length → ev (List.zipWith (fun h l => h - l) a b) x = ev a x - ev b x
  | [], [], _ => rfl
  | [], _ :: _, h => by simp at h
  | _ :: _, [], h => by simp at h
  | c :: a, d :: b, h => by
    rw [List.zipWith_cons_cons, ev, ev, ev, ev_zip x a b (by simpa using h)]
    grind
theorem ev_mul (x r : Int) : ∀ a : List Int, ev (a.map (r * ·)) x = r * ev a x
  | [] => by simp [ev]
  | c :: a => by
    rw [List.map_cons, ev, ev, ev_mul x r a]
    grind
theorem ev_tml (row : List Int) (r x : Int) : ev (tml row r) x = (x - r) * ev row x := by
  unfold tml
  rw [ev_zip x _ _ (by simp), ev_append_zero x _ [0] (by intro y hy; simpa using hy), ev_mul, ev]
  grind
/-! ### rows of differences -/
def fall (x : Int) : Nat → Int
  | 0 => 1
  | k + 1 => fall x k * (x - k)
theorem fall_step (x : Int) : ∀ k : Nat, fall (x + 1) (k + 1) = (x + 1) * fall x k
  | 0 => by simp [fall]
  | k + 1 => by
    have ih := fall_step x k
    rw [fall, ih]
    simp only [fall]
    push_cast
    grind
theorem fall_diff (x : Int) (k : Nat) : fall (x + 1) (k + 1) - fall x (k + 1) = ((k : Int) + 1) * fall x k := by
  rw [fall_step]
  simp only [fall]
  grind
theorem fall_zero (k : Nat) : fall 0 (k + 1) = 0 := by
  induction k with
  | zero => simp [fall]
  | succ k ih => rw [fall, ih]; simp
/-- sum of d_k times the falling product of k factors -/
def nwt (k : Nat) : List Int → Int → Int
  | [], _ => 0
  | d :: ds, x => d * fall x k + nwt (k + 1) ds x
def mulIx (k : Nat) : List Int → List Int
  | [] => []
  | d :: ds => ((k : Int) * d) :: mulIx (k + 1) ds
theorem mulIx_len : ∀ (k : Nat) (ds : List Int), (mulIx k ds).length = ds.length
  | _, [] => rfl
  | k, d :: ds => by rw [mulIx, List.length_cons, List.length_cons, mulIx_len]
theorem nwt_diff (x : Int) : ∀ (k : Nat) (ds : List Int), nwt (k + 1) ds (x + 1) - nwt (k + 1) ds x = nwt k (mulIx (k + 1) ds) x
  | _, [] => by simp [nwt, mulIx]
  | k, d :: ds => by
    have ih := nwt_diff x (k + 1) ds
    have h := fall_diff x k
    simp only [nwt, mulIx]
    rw [← ih]
    push_cast
    have : d * fall (x + 1) (k + 1) - d * fall x (k + 1) = ((k : Int) + 1) * d * fall x k := by
      rw [← Int.mul_sub, h]
      grind
    omega
theorem nwt_zero : ∀ (k : Nat) (ds : List Int), nwt (k + 1) ds 0 = 0
  | _, [] => rfl
  | k, d :: ds => by rw [nwt, fall_zero, nwt_zero]; simp
/-- the next row -/
def dfs (row : List Int) : List Int := List.zipWith (fun l r => r - l) row row.tail
theorem dfs_len (row : List Int) : (dfs row).length = row.length - 1 := by
  unfold dfs
  rw [List.length_zipWith, List.length_tail]
  omega
def firsts : Nat → List Int → List Int
  | 0, _ => []
  | n + 1, row => row.headD 0 :: firsts n (dfs row)
theorem firsts_len : ∀ (n : Nat) (row : List Int), (firsts n row).length = n
  | 0, _ => rfl
  | n + 1, row => by rw [firsts, List.length_cons, firsts_len]
theorem dfs_inj : ∀ (a b : List Int), a.length = b.length → a.headD 0 = b.headD 0 → dfs a = dfs b → a = b
  | [], [], _, _, _ => rfl
  | [], _ :: _, h, _, _ => by simp at h
  | _ :: _, [], h, _, _ => by simp at h
  | [x], [y], _, h, _ => by simpa using h
  | [_], _ :: _ :: _, h, _, _ => by simp at h
  | _ :: _ :: _, [_], h, _, _ => by simp at h
  | x :: x2 :: a, y :: y2 :: b, hl, h, g => by
    have h : x = y := h
    simp only [dfs, List.tail_cons, List.zipWith_cons_cons, List.cons.injEq] at g
    have h2 : x2 = y2 := by omega
    have := dfs_inj (x2 :: a) (y2 :: b) (by simpa using hl) h2 g.2
    rw [h, this]
theorem firsts_inj : ∀ (n : Nat) (a b : List Int), a.length = n → b.length = n → firsts n a = firsts n b → a = b
  | 0, a, b, ha, hb, _ => by rw [List.length_eq_zero_iff.mp ha, List.length_eq_zero_iff.mp hb]
  | n + 1, a, b, ha, hb, h => by
    simp only [firsts, List.cons.injEq] at h
    exact dfs_inj a b (by omega) h.1 (firsts_inj n _ _ (by rw [dfs_len]; omega) (by rw [dfs_len]; omega) h.2)
/-- the values at 0, 1 and on -/
def vals (f : Int → Int) (n : Nat) : List Int := (List.range n).map fun i : Nat => f (i : Int)
theorem vals_len (f : Int → Int) (n : Nat) : (vals f n).length = n := by simp [vals]
theorem dfs_vals (f : Int → Int) (n : Nat) : dfs (vals f (n + 1)) = vals (fun x => f (x + 1) - f x) n := by
  unfold dfs vals
  apply List.ext_getElem?
  intro i
  rw [List.getElem?_zipWith, List.getElem?_tail]
  by_cases h : i < n
  · rw [List.getElem?_eq_getElem (by simp; omega), List.getElem?_eq_getElem (by simp; omega), List.getElem?_eq_getElem (by simp; omega)]
    simp
  · rw [List.getElem?_eq_none (l := (List.range n).map _) (by simp; omega), List.getElem?_eq_none (i := i + 1) (by simp; omega)]
    cases ((List.range (n + 1)).map fun i : Nat => f (i : Int))[i]? <;> rfl
theorem vals_congr {f g : Int → Int} {n : Nat} (h : ∀ i : Nat, i < n → f i = g i) : vals f n = vals g n := List.map_congr_left fun i hi => h i (List.mem_range.mp hi)
def fac : Nat → Nat
  | 0 => 1
  | k + 1 => fac k * (k + 1)
theorem fac_pos : ∀ k, 0 < fac k
  | 0 => Nat.one_pos
  | k + 1 => Nat.mul_pos (fac_pos k) (Nat.succ_pos k)
theorem mulIx_get : ∀ (k : Nat) (ds : List Int) (i : Nat), (mulIx k ds)[i]? = (ds[i]?).map fun d => ((k : Int) + i) * d
  | _, [], i => rfl
  | k, d :: ds, 0 => by simp [mulIx]
  | k, d :: ds, i + 1 => by
    rw [mulIx, List.getElem?_cons_succ, List.getElem?_cons_succ, mulIx_get]
    cases ds[i]? with
    | none => rfl
    | some y => simp only [Option.map_some]; push_cast; grind
/-- the differences of such a sum are its numbers times 1 * 2 * .. -/
theorem firsts_nwt : ∀ (n : Nat) (ds : List Int) (i : Nat), ds.length = n → (firsts n (vals (nwt 0 ds) n))[i]? = (ds[i]?).map fun d => (fac i : Int) * d
  | 0, ds, i, h => by
    rw [List.length_eq_zero_iff.mp h]
    rfl
  | n + 1, [], i, h => by simp at h
  | n + 1, d :: ds, i, h => by
    have e0 : vals (nwt 0 (d :: ds)) (n + 1) = d :: (List.range n).map (fun i : Nat => nwt 0 (d :: ds) ((i + 1 : Nat) : Int)) := by
      unfold vals
      rw [range_cons_map]
      congr 1
      show d * fall ((0 : Nat) : Int) 0 + nwt 1 ds ((0 : Nat) : Int) = d
      have := nwt_zero 0 ds
      simp only [fall]
      have e : ((0 : Nat) : Int) = 0 := rfl
      rw [e, this]
      omega
    rw [firsts, dfs_vals]
    have e1 : vals (fun x => nwt 0 (d :: ds) (x + 1) - nwt 0 (d :: ds) x) n = vals (nwt 0 (mulIx 1 ds)) n := vals_congr fun i _ => by
      have := nwt_diff (i : Int) 0 ds
      simp only [Nat.zero_add] at this
      rw [← this]
      show d * fall (i + 1 : Int) 0 + nwt 1 ds (i + 1) - (d * fall (i : Int) 0 + nwt 1 ds i) = _
      simp only [fall]
      omega
    rw [e1]
    cases i with
    | zero =>
      rw [e0]
      simp [fac]
    | succ i =>
      rw [List.getElem?_cons_succ, List.getElem?_cons_succ, firsts_nwt n _ i (by rw [mulIx_len]; simpa using h), mulIx_get]
      cases ds[i]? with
      | none => rfl
      | some y =>
        simp only [Option.map_some, fac]
        push_cast
        grind
/-- every row is such a sum -/
theorem row_nwt : ∀ (n : Nat) (row : List Int) (k : Nat), row.length = n → ∃ ds : List Int, ds.length = n ∧ ∀ x, ev row x * fall x k = nwt k ds x
  | 0, row, k, h => ⟨[], rfl, fun x => by rw [List.length_eq_zero_iff.mp h]; simp [ev, nwt]⟩
  | n + 1, row, k, h => by
    obtain ⟨ds, h1, h2⟩ := row_nwt n (dvq k row).1 (k + 1) (by rw [dvq_len]; omega)
    refine ⟨(dvq k row).2 :: ds, by simp [h1], fun x => ?_⟩
    rw [nwt, ← h2 x, dvq_ev k x row, fall]
    grind
theorem row_nwt0 (row : List Int) : ∃ ds : List Int, ds.length = row.length ∧ ∀ x, ev row x = nwt 0 ds x := by
  obtain ⟨ds, h1, h2⟩ := row_nwt row.length row 0 rfl
  refine ⟨ds, h1, fun x => ?_⟩
  have := h2 x
  simpa [fall] using this
def Whole (row : List Int) : Prop := ∀ (i : Nat) (d : Int), (firsts row.length row)[i]? = some d → d % (fac i : Int) = 0
theorem whole_poly (row : List Int) : Whole (vals (ev row) row.length) := by
  obtain ⟨ds, h1, h2⟩ := row_nwt0 row
  intro i d hd
  rw [vals_len] at hd
  have e : vals (ev row) row.length = vals (nwt 0 ds) row.length := vals_congr fun i _ => h2 i
  rw [e, firsts_nwt _ ds i h1] at hd
  obtain ⟨y, _, rfl⟩ := Option.map_eq_some_iff.mp hd
  simp
/-- the numbers of a row of answers -/
theorem newton (ans ds : List Int) (hl : ds.length = ans.length) (h : ∀ i : Nat, (firsts ans.length ans)[i]? = (ds[i]?).map fun d => (fac i : Int) * d) : vals (nwt 0 ds) ans.length = ans := by
  refine firsts_inj ans.length _ _ (vals_len _ _) rfl ?_
  apply List.ext_getElem?
  intro i
  rw [firsts_nwt _ ds i hl, h]
inductive Rw : PyData → List Int → Prop
  | l (xs : List Int) : Rw (.list (xs.map .int)) xs
  | t (xs : List Int) : Rw (.tuple (xs.map .int)) xs
theorem entry_ok {d : PyData} {xs : List Int} (h : Rw d xs) (i : Nat) : r_entry [d, .int i] = some (.int (xs.getD i 0)) := by
  refine runM_of ?_
  unfold m_entry
  cases h with
  | l =>
    simp [N_entry]
    split
    · rename_i hi
      simp [List.getElem?_eq_getElem hi]
    · rename_i hi
      simp [List.getElem?_eq_none (Nat.le_of_not_lt hi)]
  | t =>
    simp [N_entry]
    split
    · rename_i hi
      simp [List.getElem?_eq_getElem hi]
    · rename_i hi
      simp [List.getElem?_eq_none (Nat.le_of_not_lt hi)]
theorem Rw.len {d : PyData} {xs : List Int} (h : Rw d xs) : vLen [d] = some (.int xs.length) := by
  cases h <;> simp
inductive Sm : PyData → List Int → List Int → Prop
  | l {a b : PyData} {ps ms : List Int} : Rw a ps → Rw b ms → Sm (.list [a, b]) ps ms
  | t {a b : PyData} {ps ms : List Int} : Rw a ps → Rw b ms → Sm (.tuple [a, b]) ps ms
theorem max_if (a b : Nat) : (if (b : Int) > (a : Int) then (b : Int) else (a : Int)) = ((max a b : Nat) : Int) := by
  split <;> omega
theorem coef_ok {d : PyData} {ps ms : List Int} (h : Sm d ps ms) (hp : ps.length ≤ 1000) (hm : ms.length ≤ 1000) : r_coefficients [d] = some (iL (coef ps ms)) := by
  have key : ∀ {a b : PyData} (x : PyData), Rw a ps → Rw b ms → compL (flN 3) [3] mYes (mBin vSub (mDef 2 r_entry (mCons (mVar 1) (mCons (mVar 3) mNil))) (mDef 2 r_entry (mCons (mVar 2) (mCons (mVar 3) mNil)))) [.v x, .v a, .v b, .no] (rangeD 0 (max ps.length ms.length)) = some ((coef ps ms).map .int) := fun x ha hb => by
    rw [rangeD_nats, comp_map (g := fun i : Nat => .int (ps.getD i 0 - ms.getD i 0)) fun i hi => by simp [entry_ok ha, entry_ok hb]]
    simp [coef]
  have fin : ∀ {a b : PyData} (x : PyData), Rw a ps → Rw b ms → x = .list [a, b] ∨ x = .tuple [a, b] → r_coefficients [x] = some (iL (coef ps ms)) := fun {a b} x ha hb hx => by
    refine runM_of ?_
    unfold m_coefficients iL
    have k := key x ha hb
    have hr : RB ((max ps.length ms.length : Nat) : Int) := rb_nat (by omega)
    have e2 : (vMax2 [.int ps.length, .int ms.length]) = some (.int ((max ps.length ms.length : Nat) : Int)) := by
      rw [vMax2_ii, max_if]
    have hl : (coef ps ms).length < 16000000 := by rw [coef_len]; omega
    rcases hx with rfl | rfl
    · simp [N_coefficients, ha.len, hb.len, -vMax2_ii, e2, hr, k, hl]
    · simp [N_coefficients, ha.len, hb.len, -vMax2_ii, e2, hr, k, hl]
  cases h with
  | l ha hb => exact fin _ ha hb (.inl rfl)
  | t ha hb => exact fin _ ha hb (.inr rfl)
theorem ev_snoc (x c : Int) : ∀ r : List Int, ev (r.reverse ++ []) x = ev r.reverse x := fun r => by rw [List.append_nil]
theorem sum_at_ok {d : PyData} {ps ms : List Int} (h : Sm d ps ms) (hp : ps.length ≤ 1000) (hm : ms.length ≤ 1000) (x : Int) (h0 : -1000000 < x) (h1 : x < 1000000) : r_sum_at [d, .int x] = some (.int (ev ps x - ev ms x)) := by
  refine runM_of ?_
  unfold m_sum_at
  have ec := coef_ok h hp hm
  unfold iL at ec
  have hc : ∀ t : Int, CM t x := fun t => cm_right (by omega) (by omega)
  simp [N_sum_at]
  refine wp_forI (is := (coef ps ms).reverse) (fun i n => ∃ y : Sl, n = [.v d, .v (.int x), .v (.int (ev ((coef ps ms).drop ((coef ps ms).length - i)) x)), y]) (by simp [ec]) ⟨.no, by simp [ev]⟩ ?_ ?_
  · rintro i t n hi ⟨y, rfl⟩
    obtain ⟨hi, ht⟩ := rev_get hi
    simp [hc]
    have e : (coef ps ms).drop ((coef ps ms).length - (i + 1)) = t :: (coef ps ms).drop ((coef ps ms).length - i) := by
      have hlt : (coef ps ms).length - (i + 1) < (coef ps ms).length := by omega
      rw [List.drop_eq_getElem_cons hlt]
      have e1 : (coef ps ms).length - (i + 1) + 1 = (coef ps ms).length - i := by omega
      have e2 : (coef ps ms).length - 1 - i = (coef ps ms).length - (i + 1) := by omega
      rw [e1]
      congr 1
      rw [e2, List.getElem?_eq_getElem hlt] at ht
      cases ht
      rfl
    rw [e, ev, Int.mul_comm, Int.add_comm]
  · rintro n ⟨y, rfl⟩
    simp
    rw [← ev_coef]
theorem short_take (row : List Int) (e : Nat) (he : e ≤ row.length) (hz : Zr (row.drop e)) (h : e = 0 ∨ row.getD (e - 1) 0 ≠ 0) : short row = row.take e := by
  have h1 : short row = short (row.take e) := by
    conv => lhs; rw [← List.take_append_drop e row]
    exact short_append_zero _ _ hz
  rw [h1]
  rcases h with rfl | h
  · simp [short]
  · rcases List.eq_nil_or_concat (row.take e) with h2 | ⟨ys, y, h2⟩
    · rw [h2]
      rfl
    · rw [List.concat_eq_append] at h2
      have hl : (row.take e).length = e := by rw [List.length_take]; omega
      have he0 : 0 < e := by
        rw [← hl, h2]
        simp
      have : row.getD (e - 1) 0 = y := by
        have h3 : (row.take e)[e - 1]? = some y := by
          rw [h2] at hl ⊢
          simp at hl
          rw [List.getElem?_append_right (by omega)]
          have : e - 1 - ys.length = 0 := by omega
          rw [this]
          rfl
        rw [List.getElem?_take] at h3
        rw [if_pos (by omega)] at h3
        rw [List.getD_eq_getElem?_getD, h3]
        rfl
      rw [this] at h
      rw [h2, short_snoc, if_neg h]
theorem shortened_ok (row : List Int) : r_shortened [iL row] = some (iL (short row)) := by
  refine runM_of ?_
  unfold m_shortened iL
  simp [N_shortened]
  refine wp_while (fun k n => n = [.v (.list (row.map .int)), .v (.int (k : Int))] ∧ k ≤ row.length ∧ Zr (row.drop k)) row.length ⟨by simp, Nat.le_refl _, by simp [Zr]⟩ ?_
  rintro k n ⟨rfl, hk, hz⟩
  by_cases h0 : 0 < k
  · have hlt : k - 1 < row.length := by omega
    have e : (k : Int) - 1 = ((k - 1 : Nat) : Int) := by omega
    have hi : atI (row.map PyData.int) ((k : Int) - 1) = some (.int (row.getD (k - 1) 0)) := by
      rw [e, atI_cast, List.getElem?_map, List.getElem?_eq_getElem hlt, List.getD_eq_getElem?_getD, List.getElem?_eq_getElem hlt]
      rfl
    by_cases hr : row.getD (k - 1) 0 = 0
    · have hr' := hr
      rw [List.getD_eq_getElem?_getD] at hr'
      refine ⟨true, by simp [hi, hr', h0], ?_⟩
      simp
      refine ⟨k - 1, by omega, by omega, by omega, ?_⟩
      intro x hx
      rw [List.drop_eq_getElem_cons hlt] at hx
      have e2 : k - 1 + 1 = k := by omega
      rw [e2] at hx
      rcases List.mem_cons.mp hx with rfl | hx
      · rw [List.getD_eq_getElem?_getD, List.getElem?_eq_getElem hlt] at hr
        simpa using hr
      · exact hz x hx
    · have hr' := hr
      rw [List.getD_eq_getElem?_getD] at hr'
      refine ⟨false, by simp [hi, hr', h0], ?_⟩
      simp
      rw [short_take row k hk hz (.inr hr), List.map_take]
  · refine ⟨false, by simp; omega, ?_⟩
    have : k = 0 := by omega
    subst this
    simp
    rw [short_take row 0 hk hz (.inl rfl)]
    rfl
theorem sum_same_ok {d e : PyData} {ps ms qs ns : List Int} (h : Sm d ps ms) (g : Sm e qs ns) (h1 : ps.length ≤ 1000) (h2 : ms.length ≤ 1000) (h3 : qs.length ≤ 1000) (h4 : ns.length ≤ 1000) : r_sum_same [d, e] = some (.bool (decide (short (coef ps ms) = short (coef qs ns)))) := by
  refine runM_of ?_
  unfold m_sum_same
  have a := coef_ok h h1 h2
  have b := coef_ok g h3 h4
  simp [N_sum_same, a, b, shortened_ok]
  unfold iL
  simp
def psv (x : Int) : Int := if x > 0 then x else 0
def ngv (x : Int) : Int := if -x > 0 then -x else 0
def iT (xs : List Int) : PyData := .tuple (xs.map .int)
theorem parted_ok (row : List Int) (h : row.length ≤ 1000) : r_parted [iL row] = some (.tuple [iT (row.map psv), iT (row.map ngv)]) := by
  refine runM_of ?_
  unfold m_parted iL iT
  have k1 : ∀ y : Sl, ∀ z : Sl, compL (flN 3) [3] mYes (mCall vMax2 (mCons (mC (.int 0)) (mCons (mVar 3) mNil))) [.v (.list (row.map .int)), y, z, .no] (row.map .int) = some ((row.map psv).map .int) := fun y z => by
    rw [comp_map (g := fun x : Int => .int (psv x)) fun i hi => by simp [psv]]
    simp
  have k2 : ∀ y : Sl, ∀ z : Sl, compL (flN 3) [3] mYes (mCall vMax2 (mCons (mC (.int 0)) (mCons (mUn vNeg (mVar 3)) mNil))) [.v (.list (row.map .int)), y, z, .no] (row.map .int) = some ((row.map ngv).map .int) := fun y z => by
    rw [comp_map (g := fun x : Int => .int (ngv x)) fun i hi => by simp [ngv]]
    simp
  have hl : row.length < 16000000 := by omega
  simp [N_parted, -List.map_map, k1, k2, hl]
def p2 (p : Int × Int) : PyData := .tuple [.int p.1, .int p.2]
theorem zip_ints : ∀ xs ys : List Int, zipD (xs.map .int) (ys.map .int) = (xs.zip ys).map p2
  | [], _ => by simp [zipD]
  | _ :: _, [] => by simp [zipD]
  | x :: xs, y :: ys => by simp [zipD, zip_ints xs ys, p2]
theorem times_less_ok (row : List Int) (r : Int) (h : row.length ≤ 1000) (h0 : -1000000 < r) (h1 : r < 1000000) : r_times_less [iL row, .int r] = some (iL (tml row r)) := by
  refine runM_of ?_
  unfold m_times_less iL
  have hc : ∀ t : Int, CM r t := fun t => cm_left (by omega) (by omega)
  have k1 : ∀ y z a b : Sl, compL (flN 4) [4] mYes (mBin vMul (mVar 1) (mVar 4)) [.v (.list (row.map .int)), .v (.int r), y, z, .no, a, b] (row.map .int) = some (row.map fun x => PyData.int (r * x)) := fun y z a b =>
    VE.comp_map (emb := PyData.int) (g := fun x : Int => PyData.int (r * x)) fun i hi => by simp [hc]
  have e3 : (row.map fun x => PyData.int (r * x)) ++ [PyData.int 0] = (row.map (r * ·) ++ [0]).map PyData.int := by simp
  have k2 : ∀ y z a : Sl, compL (flTup (flCons (flN 5) (flCons (flN 6) flNil)) 2) [5, 6] mYes (mBin vSub (mVar 5) (mVar 6)) [.v (.list (row.map .int)), .v (.int r), y, z, a, .no, .no] (zipD (PyData.int 0 :: row.map .int) ((row.map fun x => PyData.int (r * x)) ++ [PyData.int 0])) = some ((tml row r).map .int) := fun y z a => by
    rw [e3, show PyData.int 0 :: row.map PyData.int = (0 :: row).map PyData.int from rfl, zip_ints]
    refine (comp_filterG (emb := p2) (as := fun x : Int × Int => [(5, PyData.int x.1), (6, PyData.int x.2)]) (p := fun _ => true) (g := fun x => PyData.int (x.1 - x.2)) (fun x => rfl) (fun x => rfl) (fun x _ => rfl) (fun x _ _ => by simp)).trans ?_
    rw [List.filter_eq_self.mpr fun _ _ => rfl]
    unfold tml
    rw [← List.map_uncurry_zip_eq_zipWith, List.map_map]
    rfl
  have hl : row.length < 16000000 := by omega
  have s1 : 1 + row.length ≤ sizeLine := sz_of (by omega)
  have s1' : row.length + 1 ≤ sizeLine := sz_of (by omega)
  have hl2 : (tml row r).length < 16000000 := by rw [tml_len]; omega
  simp [N_times_less, k1, s1, s1', hl, k2, hl2]
/-- the product of x, x - 1, .. -/
def fool : Nat → List Int
  | 0 => [1]
  | n + 1 => tml (fool n) n
theorem fool_len (n : Nat) : (fool n).length = n + 1 := by
  induction n with
  | zero => rfl
  | succ n ih => rw [fool, tml_len, ih]
theorem ev_fool (n : Nat) (x : Int) : ev (fool n) x = fall x n := by
  induction n with
  | zero => simp [fool, ev, fall]
  | succ n ih =>
    rw [fool, ev_tml, ih, fall]
    grind
theorem fooling_ok (n : Nat) (h : n ≤ 900) : r_fooling_sum [.int (n : Int)] = some (.tuple [iT ((fool n).map psv), iT ((fool n).map ngv)]) := by
  refine runM_of ?_
  unfold m_fooling_sum
  have hr : RB (n : Int) := rb_nat (by omega)
  simp [N_fooling_sum]
  refine wp_forN (lo := 0) (k := n) (fun i m => ∃ y : Sl, m = [.v (.int (n : Int)), .v (iL (fool i)), y]) (by simp [hr]) ⟨.no, by simp [fool, iL]⟩ ?_ ?_
  · rintro i m hi ⟨y, rfl⟩
    have hl := fool_len i
    simp [times_less_ok (fool i) i (by omega) (by omega) (by omega)]
    rfl
  · rintro m ⟨y, rfl⟩
    have hl := fool_len n
    simp [parted_ok (fool n) (by omega)]
theorem cutD_1 (row : List Int) : cutD (row.map PyData.int) (some 1) none = row.tail.map .int := by
  have := cutD_from (xs := row.map PyData.int) (a := 1)
  rw [show ((1 : Nat) : Int) = 1 from rfl] at this
  rw [this, List.drop_one, List.map_tail]
theorem dfs_zip (row : List Int) : (row.zip row.tail).map (fun p => PyData.int (p.2 - p.1)) = (dfs row).map .int := by
  unfold dfs
  rw [← List.map_uncurry_zip_eq_zipWith, List.map_map]
  rfl
theorem differences_ok (a : List Int) (h : a.length ≤ 1000) : r_differences [iL a] = some (iL (firsts a.length a)) := by
  refine runM_of ?_
  unfold m_differences iL
  simp [N_differences]
  refine wp_while (fun k n => ∃ (fs r : List Int) (y z : Sl), n = [.v (.list (a.map .int)), .o (fs.map .int), .v (.list (r.map .int)), y, z] ∧ r.length = k ∧ k ≤ 1000 ∧ fs.length + k ≤ 1000 ∧ fs ++ firsts k r = firsts a.length a) a.length ⟨[], a, .no, .no, by simp, rfl, h, by simpa using h, rfl⟩ ?_
  rintro k n ⟨fs, r, y, z, rfl, hr, hk, hf, e⟩
  cases r with
  | nil =>
    refine ⟨false, by simp, ?_⟩
    simp at hr
    subst hr
    simp
    rw [← e, firsts, List.append_nil]
  | cons x r =>
    refine ⟨true, by simp, ?_⟩
    have e1 : cutD (PyData.int x :: r.map PyData.int) (some 1) none = r.map PyData.int := by
      have := cutD_1 (x :: r)
      simpa using this
    have k2 : ∀ n0 : En, n0.length = 5 → compL (flTup (flCons (flN 3) (flCons (flN 4) flNil)) 2) [3, 4] mYes (mBin vSub (mVar 4) (mVar 3)) ((n0.set 4 .no).set 3 .no) (zipD (PyData.int x :: r.map PyData.int) (r.map PyData.int)) = some ((dfs (x :: r)).map .int) := fun n0 hn => by
      rw [show PyData.int x :: r.map PyData.int = (x :: r).map PyData.int from rfl, zip_ints, ← dfs_zip]
      match n0, hn with
      | [a0, a1, a2, a3, a4], _ =>
        refine (comp_filterG (emb := p2) (as := fun x : Int × Int => [(3, PyData.int x.1), (4, PyData.int x.2)]) (p := fun _ => true) (g := fun x => PyData.int (x.2 - x.1)) (fun x => rfl) (fun x => rfl) (fun x _ => rfl) (fun x _ _ => by simp)).trans ?_
        rw [List.filter_eq_self.mpr fun _ _ => rfl]
        rfl
    simp only [List.length_cons] at hr
    have hl : fs.length < 16000000 := by omega
    have hl2 : (dfs (x :: r)).length < 16000000 := by rw [dfs_len, List.length_cons]; omega
    have k3 := k2 [.v (.list (a.map .int)), .no, .v (.list (.int x :: r.map .int)), y, z] rfl
    simp only [List.set_cons_succ, List.set_cons_zero] at k3
    simp [e1, hl, k3, hl2]
    refine ⟨k - 1, by omega, fs ++ [x], dfs (x :: r), ⟨by simp, rfl⟩, by rw [dfs_len, List.length_cons]; omega, by omega, by rw [List.length_append]; simp; omega, ?_⟩
    rw [← e, ← hr, firsts]
    simp
/-! ### the sum of a row of answers -/
def addT (tot : List Int) (f : Int) (prod : List Int) : List Int := (List.range tot.length).map fun i => tot.getD i 0 + f * prod.getD i 0
theorem addT_len (tot : List Int) (f : Int) (prod : List Int) : (addT tot f prod).length = tot.length := by simp [addT]
theorem ev_gadd (x f : Int) : ∀ (n : Nat) (ps ms : List Int), ps.length ≤ n → ms.length ≤ n → ev ((List.range n).map fun i => ps.getD i 0 + f * ms.getD i 0) x = ev ps x + f * ev ms x
  | 0, ps, ms, h1, h2 => by
    have e1 : ps = [] := List.length_eq_zero_iff.mp (by omega)
    have e2 : ms = [] := List.length_eq_zero_iff.mp (by omega)
    subst e1 e2
    simp [ev]
  | n + 1, ps, ms, h1, h2 => by
    rw [range_cons_map, ev]
    have ih := ev_gadd x f n ps.tail ms.tail (by rw [List.length_tail]; omega) (by rw [List.length_tail]; omega)
    have e : (fun i => ps.getD (i + 1) 0 + f * ms.getD (i + 1) 0) = fun i => ps.tail.getD i 0 + f * ms.tail.getD i 0 := by
      funext i
      cases ps <;> cases ms <;> simp
    rw [e, ih]
    cases ps <;> cases ms <;> simp [ev] <;> grind
theorem ev_addT (x f : Int) (tot prod : List Int) (h : prod.length ≤ tot.length) : ev (addT tot f prod) x = ev tot x + f * ev prod x := ev_gadd x f _ tot prod (Nat.le_refl _) h
/-- the first i entries are done -/
def addI (tot : List Int) (f : Int) (prod : List Int) (k : Nat) : List Int := (List.range tot.length).map fun i => tot.getD i 0 + if i < k then f * prod.getD i 0 else 0
theorem addI_zero (tot : List Int) (f : Int) (prod : List Int) : addI tot f prod 0 = tot := by
  unfold addI
  apply List.ext_getElem?
  intro i
  by_cases h : i < tot.length
  · simp [h]
  · rw [List.getElem?_eq_none (by simp; omega), List.getElem?_eq_none (by omega)]
theorem addI_all (tot : List Int) (f : Int) (prod : List Int) : addI tot f prod prod.length = addT tot f prod := by
  unfold addI addT
  refine List.map_congr_left fun i _ => ?_
  split
  · rfl
  · rename_i h
    rw [show prod.getD i 0 = 0 by rw [List.getD_eq_getElem?_getD, List.getElem?_eq_none (by omega)]; rfl]
    simp
theorem addI_len (tot : List Int) (f : Int) (prod : List Int) (k : Nat) : (addI tot f prod k).length = tot.length := by simp [addI]
theorem addI_step (tot : List Int) (f : Int) (prod : List Int) (k : Nat) (h : k < tot.length) : (addI tot f prod k).set k (tot.getD k 0 + f * prod.getD k 0) = addI tot f prod (k + 1) := by
  unfold addI
  apply List.ext_getElem?
  intro i
  rw [List.getElem?_set]
  by_cases hi : i < tot.length
  · by_cases hk : k = i
    · subst hk
      simp [hi]
    · simp [hk, hi]
      by_cases h2 : i < k
      · rw [if_pos h2, if_pos (by omega)]
      · rw [if_neg h2, if_neg (by omega)]
  · have h1 : ((List.range tot.length).map fun i => tot.getD i 0 + if i < k then f * prod.getD i 0 else 0)[i]? = none := List.getElem?_eq_none (by simp; omega)
    have h2 : ((List.range tot.length).map fun i => tot.getD i 0 + if i < k + 1 then f * prod.getD i 0 else 0)[i]? = none := List.getElem?_eq_none (by simp; omega)
    rw [h1, h2, if_neg (by omega)]
theorem addI_get (tot : List Int) (f : Int) (prod : List Int) (k : Nat) (h : k < tot.length) : (addI tot f prod k)[k]? = some (tot.getD k 0) := by
  unfold addI
  simp [h]
def addK : Nat → List Int → List Int → List Int
  | _, tot, [] => tot
  | k, tot, d :: ds => addK (k + 1) (addT tot d (fool k)) ds
theorem addK_len : ∀ (k : Nat) (tot ds : List Int), (addK k tot ds).length = tot.length
  | _, _, [] => rfl
  | k, tot, d :: ds => by rw [addK, addK_len, addT_len]
theorem ev_addK (x : Int) : ∀ (k : Nat) (tot ds : List Int), k + ds.length ≤ tot.length → ev (addK k tot ds) x = ev tot x + nwt k ds x
  | _, tot, [], _ => by simp [addK, nwt]
  | k, tot, d :: ds, h => by
    rw [List.length_cons] at h
    rw [addK, ev_addK x (k + 1) _ ds (by rw [addT_len]; omega), ev_addT x d tot (fool k) (by rw [fool_len]; omega), ev_fool, nwt]
    omega
theorem fac_le : ∀ k, k ≤ 12 → fac k ≤ 479001600 := by decide
theorem cmW {i j : Nat} (h1 : i < 18446744073709551616) (h2 : j < 18446744073709551616) : CMulW (i : Int) (j : Int) := by
  refine wide_mul (a := 64) (b := 64) ?_ ?_ (by decide) (by decide) (by decide)
  · have : (2 : Nat) ^ 64 = 18446744073709551616 := by decide
    omega
  · have : (2 : Nat) ^ 64 = 18446744073709551616 := by decide
    omega
/-- sums of the sizes of the coefficients -/
theorem fool_small : ∀ k, k ≤ 12 → ∀ i, ((fool k).getD i 0).natAbs ≤ 6227020800 := by
  have h : ∀ k, k ≤ 12 → ∀ x ∈ fool k, x.natAbs ≤ 6227020800 := by decide +kernel
  intro k hk i
  rw [List.getD_eq_getElem?_getD]
  cases hi : (fool k)[i]? with
  | none => simp
  | some y => exact h k hk y (List.mem_of_getElem? hi)
theorem enum_ints {xs : List Int} {i : Nat} {d : PyData} (h : (enumD (xs.map .int))[i]? = some d) : ∃ x, xs[i]? = some x ∧ d = .tuple [.int (i : Int), .int x] := by
  unfold enumD at h
  rw [List.getElem?_mapIdx, List.getElem?_map] at h
  cases hx : xs[i]? with
  | none =>
    rw [hx] at h
    cases h
  | some x =>
    rw [hx] at h
    cases h
    exact ⟨x, rfl, rfl⟩
theorem addK_snoc : ∀ (k : Nat) (tot ds : List Int) (d : Int), addK k tot (ds ++ [d]) = addT (addK k tot ds) d (fool (k + ds.length))
  | _, _, [], _ => rfl
  | k, tot, c :: ds, d => by
    rw [List.cons_append, addK, addK_snoc, addK, List.length_cons]
    rw [show k + 1 + ds.length = k + (ds.length + 1) by omega]
/-- the numbers of the sum -/
def dvs (a : List Int) : List Int := (List.range a.length).map fun i => (firsts a.length a).getD i 0 / (fac i : Int)
theorem dvs_len (a : List Int) : (dvs a).length = a.length := by simp [dvs]
theorem dvs_take (a : List Int) (i : Nat) (h : i < a.length) : (dvs a).take (i + 1) = (dvs a).take i ++ [(firsts a.length a).getD i 0 / (fac i : Int)] := by
  rw [List.take_add_one]
  congr 1
  simp [dvs, h]
def soa (a : List Int) : List Int := addK 0 (List.replicate a.length 0) (dvs a)
theorem soa_len (a : List Int) : (soa a).length = a.length := by rw [soa, addK_len, List.length_replicate]
theorem replicate_nulls (r : List Int) : (r.map fun _ => PyData.int 0) = (List.replicate r.length (0 : Int)).map .int := by
  simp [List.map_const']
theorem sum_of_answers_ok (a : List Int) (hn : a.length ≤ 12) : (Whole a → r_sum_of_answers [iL a] = some (.tuple [iT ((soa a).map psv), iT ((soa a).map ngv)])) ∧ (¬ Whole a → r_sum_of_answers [iL a] = some .none) := by
  have key : ∀ res : PyData, (Whole a → res = .tuple [iT ((soa a).map psv), iT ((soa a).map ngv)]) → (¬ Whole a → res = .none) → r_sum_of_answers [iL a] = some res := by
    intro res hw hnw
    refine runM_of ?_
    unfold m_sum_of_answers iL
    have k1 : ∀ b0 b1 b2 b3 b4 b5 b6 b7 b8 : Sl, compL (flN 7) [7] mYes (mC (.int 0)) [b0, b1, b2, b3, b4, b5, b6, .no, b7, b8] (a.map .int) = some ((List.replicate a.length (0 : Int)).map .int) := fun b0 b1 b2 b3 b4 b5 b6 b7 b8 => by
      rw [VE.comp_map (emb := PyData.int) (g := fun _ : Int => PyData.int 0) fun i hi => by simp, replicate_nulls]
    have hl : a.length < 16000000 := by omega
    have hd := differences_ok a (by omega)
    unfold iL at hd
    have hfl := firsts_len a.length a
    refine wp_mid (fun n => n = [.v (.list (a.map .int)), .o ((List.replicate a.length (0 : Int)).map .int), .no, .no, .no, .no, .no, .no, .no, .no]) (by simp [N_sum_of_answers, k1, hl]) ?_
    rintro n rfl
    refine wp_mid (fun n => n = [.v (.list (a.map .int)), .o ((List.replicate a.length (0 : Int)).map .int), .v (iL (fool 0)), .no, .no, .no, .no, .no, .no, .no]) (by simp [fool, iL]) ?_
    rintro n rfl
    refine wp_mid (fun n => n = [.v (.list (a.map .int)), .o ((List.replicate a.length (0 : Int)).map .int), .v (iL (fool 0)), .v (.int 1), .no, .no, .no, .no, .no, .no]) (by simp) ?_
    rintro n rfl
    refine wp_seq.mpr ?_
    refine wp_for (ds := enumD ((firsts a.length a).map .int)) (fun i n => ∃ b1 b2 b3 b4 b5 b6 : Sl, n = [.v (.list (a.map .int)), .o ((addK 0 (List.replicate a.length 0) ((dvs a).take i)).map .int), .v (iL (fool (i - 1))), .v (.int (fac (i - 1) : Nat)), b1, b2, b3, b4, b5, b6] ∧ ∀ (j : Nat) (d : Int), j < i → (firsts a.length a)[j]? = some d → d % (fac j : Int) = 0) (by simp [hd]) ⟨.no, .no, .no, .no, .no, .no, by simp [addK, fac], fun j d hj => by omega⟩ ?_ ?_
    · rintro i d n hi ⟨b1, b2, b3, b4, b5, b6, rfl, hdiv⟩
      obtain ⟨x, hx, rfl⟩ := enum_ints hi
      have hia : i < a.length := by
        have := (List.getElem?_eq_some_iff.mp hx).1
        omega
      refine ⟨[(4, .int (i : Int)), (5, .int x)], by simp, ?_⟩
      have hfp := fac_pos i
      have hfle := fac_le i (by omega)
      -- the product and the share grow
      refine wp_mid (fun n => ∃ b3 b4 b5 b6 : Sl, n = [.v (.list (a.map .int)), .o ((addK 0 (List.replicate a.length 0) ((dvs a).take i)).map .int), .v (iL (fool i)), .v (.int (fac i : Nat)), .v (.int (i : Int)), .v (.int x), b3, b4, b5, b6]) ?_ ?_
      · cases i with
        | zero => simp
        | succ i =>
          have hf1 := fac_le i (by omega)
          have hc : CMulW ((fac i : Nat) : Int) ((i : Int) + 1) := by
            have := cmW (i := fac i) (j := i + 1) (by omega) (by omega)
            simpa using this
          have e1 : (i : Int) + 1 - 1 = (i : Int) := by omega
          have hp : (0 : Int) < (i : Int) + 1 := by omega
          have htl := times_less_ok (fool i) i (by rw [fool_len]; omega) (by omega) (by omega)
          unfold iL at htl
          simp [e1, hp, hc, htl, fool, fac, iL]
      rintro n ⟨b3, b4, b5, b6, rfl⟩
      by_cases hm : x % (fac i : Int) = 0
      · have hdb : DB ((fac i : Nat) : Int) := db_of (by omega) (by omega)
        have hp : (0 : Int) < (fac i : Nat) := by omega
        refine wp_mid (fun n => n = [.v (.list (a.map .int)), .o ((addK 0 (List.replicate a.length 0) ((dvs a).take i)).map .int), .v (iL (fool i)), .v (.int (fac i : Nat)), .v (.int (i : Int)), .v (.int x), b3, b4, b5, b6]) (by simp [hfp, hm]) ?_
        rintro n rfl
        refine wp_mid (fun n => n = [.v (.list (a.map .int)), .o ((addK 0 (List.replicate a.length 0) ((dvs a).take i)).map .int), .v (iL (fool i)), .v (.int (fac i : Nat)), .v (.int (i : Int)), .v (.int x), .v (.int (x / (fac i : Nat))), b4, b5, b6]) (by simp [hdb]) ?_
        rintro n rfl
        have hgd : (firsts a.length a).getD i 0 = x := by
          rw [List.getD_eq_getElem?_getD, hx]
          rfl
        have hlt : (addK 0 (List.replicate a.length 0) ((dvs a).take i)).length = a.length := by rw [addK_len, List.length_replicate]
        refine wp_for (ds := enumD ((fool i).map .int)) (fun k n => ∃ b4 b5 b6 : Sl, n = [.v (.list (a.map .int)), .o ((addI (addK 0 (List.replicate a.length 0) ((dvs a).take i)) (x / (fac i : Nat)) (fool i) k).map .int), .v (iL (fool i)), .v (.int (fac i : Nat)), .v (.int (i : Int)), .v (.int x), .v (.int (x / (fac i : Nat))), b4, b5, b6]) (by simp [iL]) ⟨b4, b5, b6, by simp [addI_zero]⟩ ?_ ?_
        · rintro k d n hk ⟨c4, c5, c6, rfl⟩
          obtain ⟨y, hy, rfl⟩ := enum_ints hk
          have hkl : k < i + 1 := by
            have := (List.getElem?_eq_some_iff.mp hy).1
            rwa [fool_len] at this
          refine ⟨[(8, .int (k : Int)), (9, .int y)], by simp, ?_⟩
          have hyd : (fool i).getD k 0 = y := by
            rw [List.getD_eq_getElem?_getD, hy]
            rfl
          have hsm := fool_small i (by omega) k
          rw [hyd] at hsm
          have hc : CM (x / (fac i : Nat)) y := cm_right (by omega) (by omega)
          have hkt : k < (addK 0 (List.replicate a.length 0) ((dvs a).take i)).length := by omega
          have hget := addI_get _ (x / (fac i : Nat)) (fool i) k hkt
          have hix := ixN_nat (n := (addI (addK 0 (List.replicate a.length 0) ((dvs a).take i)) (x / (fac i : Nat)) (fool i) k).length) (i := k) (by rw [addI_len]; exact hkt)
          simp [hix, hget, hc]
          rw [← addI_step _ _ _ k hkt, hyd, List.map_set]
          simp
        · rintro n ⟨c4, c5, c6, rfl⟩
          simp only [lp_nx]
          refine ⟨.v (.int (i : Int)), .v (.int x), .v (.int (x / (fac i : Nat))), c4, c5, c6, ?_, ?_⟩
          rotate_left
          · intro j d hj hjd
            by_cases h2 : j = i
            · subst h2
              rw [hx] at hjd
              cases hjd
              exact hm
            · exact hdiv j d (by omega) hjd
          · rw [dvs_take a i hia, addK_snoc, hgd]
            have e0 : ((dvs a).take i).length = i := by rw [List.length_take, dvs_len]; omega
            have e1 : (enumD ((fool i).map PyData.int)).length = (fool i).length := by simp [enumD]
            rw [e0, e1, addI_all]
            simp
      · have hp : (0 : Int) < (fac i : Nat) := by omega
        have hres := hnw fun hW => hm (hW i x hx)
        simp [hfp, hm, hres]
    · rintro n ⟨b1, b2, b3, b4, b5, b6, rfl, hdiv⟩
      have el : (enumD ((firsts a.length a).map PyData.int)).length = a.length := by simp [enumD, hfl]
      rw [el] at hdiv ⊢
      have hW : Whole a := fun j d hjd => hdiv j d (by
        have := (List.getElem?_eq_some_iff.mp hjd).1
        omega) hjd
      have e2 : (dvs a).take a.length = dvs a := List.take_of_length_le (by rw [dvs_len]; exact Nat.le_refl _)
      rw [e2]
      have hp := parted_ok (soa a) (by rw [soa_len]; omega)
      have e3 : (addK 0 (List.replicate a.length 0) (dvs a)).map PyData.int = (soa a).map .int := rfl
      rw [e3, hw hW]
      unfold iL at hp
      simp [hp]
  refine ⟨fun h => key _ (fun _ => rfl) fun g => absurd h g, fun h => key _ (fun g => absurd g h) fun _ => rfl⟩
theorem ev_app (x c : Int) : ∀ l : List Int, ev (l ++ [c]) x = ev l x + c * x ^ l.length
  | [] => by simp [ev]
  | a :: l => by
    rw [List.cons_append, ev, ev, ev_app x c l, List.length_cons, Int.pow_succ]
    grind
theorem pow_small {x : Int} (h0 : 0 ≤ x) (h1 : x ≤ 20) : ∀ k : Nat, k ≤ 12 → 0 ≤ x ^ k ∧ x ^ k ≤ 4096000000000000 := by
  intro k hk
  have key : ∀ k : Nat, 0 ≤ x ^ k ∧ x ^ k ≤ (20 : Int) ^ k := by
    intro k
    induction k with
    | zero => simp
    | succ k ih =>
      rw [Int.pow_succ, Int.pow_succ]
      exact ⟨Int.mul_nonneg ih.1 h0, Int.mul_le_mul ih.2 h1 h0 (Int.le_trans ih.1 ih.2)⟩
  refine ⟨(key k).1, Int.le_trans (key k).2 ?_⟩
  have : (20 : Int) ^ k ≤ 20 ^ 12 := by
    obtain ⟨d, hd⟩ := Nat.exists_eq_add_of_le hk
    rw [hd, Int.pow_add]
    have a : (1 : Int) ≤ 20 ^ d := Int.pow_pos (by decide)
    have b : (0 : Int) ≤ 20 ^ k := Int.le_of_lt (Int.pow_pos (by decide))
    have := Int.mul_le_mul_of_nonneg_left a b
    rwa [Int.mul_one] at this
  exact Int.le_trans this (by decide)
theorem row_at_ok (row : List Int) (x : Int) (h0 : 0 ≤ x) (h1 : x ≤ 20) (hl : row.length ≤ 12) : r__law_row_at [iL row, .int x] = some (.int (ev row x)) := by
  refine runM_of ?_
  unfold m__law_row_at iL
  simp [N__law_row_at]
  refine wp_forI (is := row) (fun i n => ∃ y : Sl, n = [.v (.list (row.map .int)), .v (.int x), .v (.int (ev (row.take i) x)), .v (.int (x ^ i)), y]) (by simp) ⟨.no, by simp [ev]⟩ ?_ ?_
  · rintro i c n hi ⟨y, rfl⟩
    have hil := (List.getElem?_eq_some_iff.mp hi).1
    obtain ⟨p0, p1⟩ := pow_small h0 h1 i (by omega)
    have c1 : CM c (x ^ i) := cm_right (by omega) (by omega)
    have c2 : CM (x ^ i) x := cm_right (by omega) (by omega)
    have e : row.take (i + 1) = row.take i ++ [c] := by
      rw [List.take_add_one, hi]
      rfl
    have e2 : (row.take i).length = i := by rw [List.length_take]; omega
    simp [c1, c2, e, ev_app, e2, Int.pow_succ]
  · rintro n ⟨y, rfl⟩
    simp
theorem whole_ok (v : Int) : r__law_whole [.int v] = some (.bool (decide (0 ≤ v))) := by
  refine runM_of ?_
  unfold m__law_whole
  simp [N__law_whole]
theorem whole_sign_ok (v : Int) : r__law_whole_sign [.int v] = some (.bool true) := by
  refine runM_of ?_
  unfold m__law_whole_sign
  simp [N__law_whole_sign]
theorem Rw.at {d : PyData} {xs : List Int} (h : Rw d xs) (i : Nat) (hi : i < xs.length) : vIx d (.int (i : Int)) = some (.int (xs.getD i 0)) := by
  cases h <;> simp [List.getD_eq_getElem?_getD, List.getElem?_eq_getElem hi]
theorem take_gd (x : Int) (row : List Int) (i : Nat) : ev (row.take (i + 1)) x = ev (row.take i) x + row.getD i 0 * x ^ i := by
  by_cases h : i < row.length
  · have e : row.take (i + 1) = row.take i ++ [row.getD i 0] := by
      rw [List.take_add_one, List.getElem?_eq_getElem h, List.getD_eq_getElem?_getD, List.getElem?_eq_getElem h]
      rfl
    rw [e, ev_app, List.length_take, Nat.min_eq_left (by omega)]
  · rw [List.take_of_length_le (by omega), List.take_of_length_le (by omega), List.getD_eq_getElem?_getD, List.getElem?_eq_none (by omega)]
    simp
theorem law_sum_at_ok {d : PyData} {ps ms : List Int} (h : Sm d ps ms) (x : Int) (h0 : 0 ≤ x) (h1 : x ≤ 20) (hp : ps.length ≤ 12) (hm : ms.length ≤ 12) : r__law_sum_at [d, .int x] = some (.int (ev ps x - ev ms x)) := by
  obtain ⟨a, b, ha, hb, e0, e1⟩ : ∃ a b, Rw a ps ∧ Rw b ms ∧ vIx d (.int 0) = some a ∧ vIx d (.int 1) = some b := by
    cases h with
    | l ha hb => exact ⟨_, _, ha, hb, rfl, rfl⟩
    | t ha hb => exact ⟨_, _, ha, hb, rfl, rfl⟩
  refine runM_of ?_
  unfold m__law_sum_at
  simp [N__law_sum_at]
  refine wp_forN (lo := 0) (k := 12) (fun i n => ∃ y : Sl, n = [.v d, .v (.int x), .v (.int (ev (ps.take i) x - ev (ms.take i) x)), .v (.int (x ^ i)), y]) (by simp) ⟨.no, by simp [ev]⟩ ?_ ?_
  · rintro i n hi ⟨y, rfl⟩
    obtain ⟨p0, p1⟩ := pow_small h0 h1 i (by omega)
    have c1 : ∀ c, CM c (x ^ i) := fun c => cm_right (by omega) (by omega)
    have c2 : CM (x ^ i) x := cm_right (by omega) (by omega)
    have z : ∀ {row : List Int}, ¬ i < row.length → row.getD i 0 = 0 := fun {row} h => by
      rw [List.getD_eq_getElem?_getD, List.getElem?_eq_none (by omega)]
      rfl
    refine wp_mid (fun n => n = [.v d, .v (.int x), .v (.int (ev (ps.take (i + 1)) x - ev (ms.take i) x)), .v (.int (x ^ i)), .v (.int (i : Int))]) ?_ ?_
    · by_cases hi1 : i < ps.length
      · have := ha.at i hi1
        simp [e0, ha.len, hi1, this, c1, take_gd]
        grind
      · have := z hi1
        rw [List.getD_eq_getElem?_getD] at this
        simp [e0, ha.len, hi1, take_gd, this]
    rintro n rfl
    refine wp_mid (fun n => n = [.v d, .v (.int x), .v (.int (ev (ps.take (i + 1)) x - ev (ms.take (i + 1)) x)), .v (.int (x ^ i)), .v (.int (i : Int))]) ?_ ?_
    · by_cases hi1 : i < ms.length
      · have := hb.at i hi1
        simp [e1, hb.len, hi1, this, c1, take_gd]
        omega
      · have := z hi1
        rw [List.getD_eq_getElem?_getD] at this
        simp [e1, hb.len, hi1, take_gd, this]
    rintro n rfl
    simp [c2, Int.pow_succ]
  · rintro n ⟨y, rfl⟩
    rw [List.take_of_length_le hp, List.take_of_length_le hm]
    simp
def dfsn : Nat → List Int → List Int
  | 0, a => a
  | k + 1, a => dfs (dfsn k a)
theorem dfsn_len (a : List Int) : ∀ k, (dfsn k a).length = a.length - k
  | 0 => rfl
  | k + 1 => by rw [dfsn, dfs_len, dfsn_len a k]; omega
theorem dfsn_succ (a : List Int) : ∀ k, dfsn (k + 1) a = dfsn k (dfs a)
  | 0 => rfl
  | k + 1 => by rw [dfsn, dfsn_succ a k]; rfl
theorem firsts_dfsn : ∀ (n i : Nat) (a : List Int), i < n → (firsts n a)[i]? = some ((dfsn i a).headD 0)
  | 0, _, _, h => by omega
  | n + 1, 0, a, _ => rfl
  | n + 1, i + 1, a, h => by
    rw [firsts, List.getElem?_cons_succ, firsts_dfsn n i (dfs a) (by omega), dfsn_succ]
theorem dfs_range (row : List Int) : (List.range (row.length - 1)).map (fun k => row.getD (k + 1) 0 - row.getD k 0) = dfs row := by
  unfold dfs
  apply List.ext_getElem?
  intro i
  rw [List.getElem?_zipWith, List.getElem?_tail, List.getElem?_map]
  by_cases h : i < row.length - 1
  · rw [List.getElem?_range h, List.getElem?_eq_getElem (l := row) (i := i) (by omega), List.getElem?_eq_getElem (l := row) (i := i + 1) (by omega)]
    simp [List.getD_eq_getElem?_getD, List.getElem?_eq_getElem (l := row) (i := i) (by omega), List.getElem?_eq_getElem (l := row) (i := i + 1) (by omega)]
  · rw [List.getElem?_eq_none (l := List.range _) (by simp; omega), List.getElem?_eq_none (l := row) (i := i + 1) (by omega)]
    cases row[i]? <;> rfl
theorem are_whole_ok (a : List Int) (hn : a.length ≤ 12) : (Whole a → r__law_are_whole [iL a] = some (.bool true)) ∧ (¬ Whole a → r__law_are_whole [iL a] = some (.bool false)) := by
  have key : ∀ res : Bool, (Whole a → res = true) → (¬ Whole a → res = false) → r__law_are_whole [iL a] = some (.bool res) := by
    intro res hw hnw
    refine runM_of ?_
    unfold m__law_are_whole iL
    have hr : RB ((a.length : Nat) : Int) := rb_nat (by omega)
    simp [N__law_are_whole]
    refine wp_forN (lo := 0) (k := a.length) (fun i n => ∃ y z : Sl, n = [.v (.list (a.map .int)), .v (iL (dfsn i a)), .v (.int (fac (i - 1) : Nat)), y, z] ∧ ∀ (j : Nat) (d : Int), j < i → (firsts a.length a)[j]? = some d → d % (fac j : Int) = 0) (by simp [hr]) ⟨.no, .no, by simp [dfsn, iL, fac], fun j d hj => by omega⟩ ?_ ?_
    · rintro i n hi ⟨y, z, rfl, hdiv⟩
      have hfp := fac_pos i
      have hfle := fac_le i (by omega)
      have hx := firsts_dfsn a.length i a hi
      generalize hr2 : dfsn i a = row at *
      have hrl : row.length = a.length - i := by rw [← hr2, dfsn_len]
      cases row with
      | nil =>
        simp at hrl
        omega
      | cons x row =>
        simp only [List.headD_cons] at hx
        rw [List.length_cons] at hrl
        refine wp_mid (fun n => n = [.v (.list (a.map .int)), .v (iL (x :: row)), .v (.int (fac i : Nat)), .v (.int (i : Int)), z]) ?_ ?_
        · cases i with
          | zero => simp
          | succ i =>
            have hc : CM ((fac i : Nat) : Int) ((i : Int) + 1) := cm_right (by omega) (by omega)
            have hp : (0 : Int) < (i : Int) + 1 := by omega
            simp [hp, hc, fac]
        rintro n rfl
        by_cases hm : x % (fac i : Int) = 0
        · have k1 : compL (flN 4) [4] mYes (mBin vSub (mBin vIx (mVar 1) (mBin vAdd (mVar 4) (mC (.int 1)))) (mBin vIx (mVar 1) (mVar 4))) [.v (.list (a.map .int)), .v (.list (.int x :: row.map .int)), .v (.int (fac i : Nat)), .v (.int (i : Int)), .no] (rangeD 0 row.length) = some ((dfs (x :: row)).map .int) := by
            rw [rangeD_nats, VE.comp_map (emb := fun k : Nat => PyData.int (k : Int)) (g := fun k : Nat => PyData.int ((x :: row).getD (k + 1) 0 - (x :: row).getD k 0)) fun k hk => by
              have hk := List.mem_range.mp hk
              have e1 : vIx (.list (.int x :: row.map .int)) (.int ((k : Int) + 1)) = some (.int ((x :: row).getD (k + 1) 0)) := by
                have := (Rw.l (x :: row)).at (k + 1) (by simp; omega)
                simpa using this
              have e2 : vIx (.list (.int x :: row.map .int)) (.int (k : Int)) = some (.int ((x :: row).getD k 0)) := by
                have := (Rw.l (x :: row)).at k (by simp; omega)
                simpa using this
              simp [-vIx_l, e1, e2]]
            have := dfs_range (x :: row)
            rw [← this]
            simp
          have hl2 : (dfs (x :: row)).length < 16000000 := by rw [dfs_len, List.length_cons]; omega
          have hr3 : RB ((row.length : Nat) : Int) := rb_nat (by omega)
          simp [iL, hfp, hm, hr3, k1, hl2]
          refine ⟨?_, ?_⟩
          · rw [← hr2]
            rfl
          · intro j d hj hjd
            by_cases h2 : j = i
            · subst h2
              rw [hx] at hjd
              cases hjd
              exact hm
            · exact hdiv j d (by omega) hjd
        · have hres := hnw fun hW => hm (hW i x hx)
          simp [iL, hfp, hm, hres]
    · rintro n ⟨y, z, rfl, hdiv⟩
      have hW : Whole a := fun j d hjd => hdiv j d (by
        have := (List.getElem?_eq_some_iff.mp hjd).1
        rwa [firsts_len] at this) hjd
      simp [hw hW]
  exact ⟨fun h => key _ (fun _ => rfl) fun g => absurd h g, fun h => key _ (fun g => absurd g h) fun _ => rfl⟩
theorem psv_ngv (x : Int) : psv x - ngv x = x ∧ 0 ≤ psv x ∧ 0 ≤ ngv x ∧ (if ngv x < psv x then ngv x else psv x) = 0 := by
  unfold psv ngv
  split <;> split <;> (refine ⟨?_, ?_, ?_, ?_⟩ <;> first | omega | (split <;> omega))
theorem ev_zeros (x : Int) (n : Nat) : ev (List.replicate n 0) x = 0 := by
  induction n with
  | zero => rfl
  | succ n ih => rw [List.replicate_succ, ev, ih]; simp
theorem soa_ev (a : List Int) (h : Whole a) : vals (ev (soa a)) a.length = a := by
  have e : vals (ev (soa a)) a.length = vals (nwt 0 (dvs a)) a.length := vals_congr fun i _ => by
    rw [soa, ev_addK _ 0 _ _ (by rw [dvs_len, List.length_replicate]; omega), ev_zeros, Int.zero_add]
  rw [e]
  refine newton a (dvs a) (dvs_len a) fun i => ?_
  by_cases hi : i < a.length
  · have h1 := firsts_dfsn a.length i a hi
    have h2 := h i _ h1
    have h3 : (dvs a)[i]? = some ((dfsn i a).headD 0 / (fac i : Int)) := by
      unfold dvs
      rw [List.getElem?_map, List.getElem?_range hi, Option.map_some, List.getD_eq_getElem?_getD, h1]
      rfl
    rw [h1, h3, Option.map_some, Int.mul_ediv_cancel' (Int.dvd_of_emod_eq_zero h2)]
  · rw [List.getElem?_eq_none (by rw [firsts_len]; omega), List.getElem?_eq_none (by rw [dvs_len]; omega)]
    rfl
theorem map_gd (f : Int → Int) (row : List Int) (k : Nat) (h : k < row.length) : (row.map f)[k]? = some (f (row.getD k 0)) := by
  rw [List.getElem?_map, List.getElem?_eq_getElem h, List.getD_eq_getElem?_getD, List.getElem?_eq_getElem h]
  rfl
theorem range_gd (row : List Int) : (List.range row.length).map (fun k => row.getD k 0) = row := by
  apply List.ext_getElem?
  intro i
  by_cases h : i < row.length
  · simp [h]
  · rw [List.getElem?_eq_none (by simp; omega), List.getElem?_eq_none (by omega)]
theorem iT_at (row : List Int) (f : Int → Int) (k : Nat) (h : k < row.length) : vIx (iT (row.map f)) (.int (k : Int)) = some (.int (f (row.getD k 0))) := by
  unfold iT
  rw [vIx_t, atI_cast, List.getElem?_map, map_gd f row k h]
  rfl
theorem answered_ok (a : List Int) (hn : a.length ≤ 12) : r__law_answered [iL a, .int (a.length : Nat)] = some (.bool true) := by
  refine runM_of ?_
  unfold m__law_answered
  have hr : RB ((a.length : Nat) : Int) := rb_nat (by omega)
  by_cases hW : Whole a
  · have hs := (sum_of_answers_ok a hn).1 hW
    have hw := (are_whole_ok a hn).1 hW
    have hl := soa_len a
    unfold iL at hs hw
    refine wp_mid (fun n => n = [.v (.list (a.map .int)), .v (.int (a.length : Nat)), .v (.list (a.map .int)), .no, .no, .no, .no]) (by simp [N__law_answered, iL]) ?_
    rintro n rfl
    refine wp_mid (fun n => n = [.v (.list (a.map .int)), .v (.int (a.length : Nat)), .v (.list (a.map .int)), .v (.tuple [iT ((soa a).map psv), iT ((soa a).map ngv)]), .no, .no, .no]) (by simp [hs]) ?_
    rintro n rfl
    refine wp_mid (fun n => n = [.v (.list (a.map .int)), .v (.int (a.length : Nat)), .v (.list (a.map .int)), .v (.tuple [iT ((soa a).map psv), iT ((soa a).map ngv)]), .no, .no, .no]) (by simp [nei_ints]) ?_
    rintro n rfl
    refine wp_mid (fun n => n = [.v (.list (a.map .int)), .v (.int (a.length : Nat)), .v (.list (a.map .int)), .v (.tuple [iT ((soa a).map psv), iT ((soa a).map ngv)]), .no, .no, .no]) (by simp [hw]) ?_
    rintro n rfl
    refine wp_mid (fun n => n = [.v (.list (a.map .int)), .v (.int (a.length : Nat)), .v (.list (a.map .int)), .v (.tuple [iT ((soa a).map psv), iT ((soa a).map ngv)]), .no, .no, .no]) (by simp) ?_
    rintro n rfl
    refine wp_mid (fun n => ∃ y, n = [.v (.list (a.map .int)), .v (.int (a.length : Nat)), .v (.list (a.map .int)), .v (.tuple [iT ((soa a).map psv), iT ((soa a).map ngv)]), y, .no, .no]) ?_ ?_
    · refine wp_forN (lo := 0) (k := 2) (fun i n => ∃ y, n = [.v (.list (a.map .int)), .v (.int (a.length : Nat)), .v (.list (a.map .int)), .v (.tuple [iT ((soa a).map psv), iT ((soa a).map ngv)]), y, .no, .no]) (by simp) ⟨_, rfl⟩ ?_ ?_
      · rintro i n hi ⟨y, rfl⟩
        match i, hi with
        | 0, _ => simp [iT, hl]
        | 1, _ => simp [iT, hl]
      · rintro n ⟨y, rfl⟩
        exact ⟨_, rfl, y, rfl⟩
    rintro n ⟨y, rfl⟩
    refine wp_mid (fun n => ∃ y, n = [.v (.list (a.map .int)), .v (.int (a.length : Nat)), .v (.list (a.map .int)), .v (.tuple [iT ((soa a).map psv), iT ((soa a).map ngv)]), y, .no, .no]) ?_ ?_
    · refine wp_forN (lo := 0) (k := a.length) (fun i n => ∃ y, n = [.v (.list (a.map .int)), .v (.int (a.length : Nat)), .v (.list (a.map .int)), .v (.tuple [iT ((soa a).map psv), iT ((soa a).map ngv)]), y, .no, .no]) (by simp [hr]) ⟨_, rfl⟩ ?_ ?_
      · rintro i n hi ⟨y, rfl⟩
        have e1 := iT_at (soa a) psv i (by omega)
        have e2 := iT_at (soa a) ngv i (by omega)
        obtain ⟨q1, q2, q3, q4⟩ := psv_ngv ((soa a).getD i 0)
        generalize (soa a).getD i 0 = x at *
        simp [-vIx_t, -vIx_l, e1, e2, whole_ok, q2, q3]
        simp [e1, e2, whole_ok, q2, q3, q4]
        done
      · rintro n ⟨y, rfl⟩
        exact ⟨_, rfl, y, rfl⟩
    rintro n ⟨y, rfl⟩
    have k1 : compL (flN 4) [4] mYes (mBin vSub (mBin vIx (mBin vIx (mVar 3) (mC (.int 0))) (mVar 4)) (mBin vIx (mBin vIx (mVar 3) (mC (.int 1))) (mVar 4))) [.v (.list (a.map .int)), .v (.int (a.length : Nat)), .v (.list (a.map .int)), .v (.tuple [iT ((soa a).map psv), iT ((soa a).map ngv)]), .no, .no, .no] (rangeD 0 a.length) = some ((soa a).map .int) := by
      rw [rangeD_nats, VE.comp_map (emb := fun k : Nat => PyData.int (k : Int)) (g := fun k : Nat => PyData.int ((soa a).getD k 0)) fun k hk => by
        have hk := List.mem_range.mp hk
        have e1 := iT_at (soa a) psv k (by omega)
        have e2 := iT_at (soa a) ngv k (by omega)
        obtain ⟨q1, q2, q3, q4⟩ := psv_ngv ((soa a).getD k 0)
        generalize (soa a).getD k 0 = x at *
        simp [e1, e2, q1]]
      have := range_gd (soa a)
      rw [hl] at this
      conv => rhs; rw [← this]
      simp
    have hl2 : (soa a).length < 16000000 := by omega
    refine wp_mid (fun n => n = [.v (.list (a.map .int)), .v (.int (a.length : Nat)), .v (.list (a.map .int)), .v (.tuple [iT ((soa a).map psv), iT ((soa a).map ngv)]), y, .v (iL (soa a)), .no]) (by simp [hr, k1, hl2, iL]) ?_
    rintro n rfl
    have k2 : ∀ y : Sl, compL (flN 6) [6] mYes (mDef 2 r__law_row_at (mCons (mVar 5) (mCons (mVar 6) mNil))) [.v (.list (a.map .int)), .v (.int (a.length : Nat)), .v (.list (a.map .int)), .v (.tuple [iT ((soa a).map psv), iT ((soa a).map ngv)]), y, .v (iL (soa a)), .no] (rangeD 0 a.length) = some (a.map .int) := fun y => by
      rw [rangeD_nats, VE.comp_map (emb := fun k : Nat => PyData.int (k : Int)) (g := fun k : Nat => PyData.int (ev (soa a) (k : Int))) fun k hk => by
        have hk := List.mem_range.mp hk
        simp [row_at_ok (soa a) k (by omega) (by omega) (by omega)]]
      have := soa_ev a hW
      conv => rhs; rw [← this]
      simp [vals]
    have hl3 : a.length < 16000000 := by omega
    simp [hr, k2, hl3]
  · have hs := (sum_of_answers_ok a hn).2 hW
    have hw := (are_whole_ok a hn).2 hW
    unfold iL at hs hw
    simp [N__law_answered, iL, hs, nei_ints, hw]
/-! ### the rows that are drawn -/
theorem zl {sz : List Nat} {n : Nat} (h : ∀ s ∈ sz, 0 < s ∧ s < n) (hn : n ≤ 1152921504606846976) : ∀ s ∈ sz, 0 < s ∧ s < 1152921504606846976 := fun s hs => by
  have := h s hs
  omega
theorem rep_nats (m k : Nat) : repD [PyData.int (m : Int)] k = nL (List.replicate k m) := by
  unfold nL
  induction k with
  | zero => rfl
  | succ k ih =>
    rw [List.replicate_succ, List.map_cons, ← ih]
    unfold repD
    rw [List.replicate_succ, List.flatten_cons]
    rfl
def iS (row : List Nat) : List Int := row.map fun k : Nat => (k : Int)
theorem nL_iS (row : List Nat) : nL row = (iS row).map .int := by
  unfold nL iS
  rw [List.map_map]
  rfl
theorem map_gd' (row : List Int) (k : Nat) (h : k < row.length) : (row.map PyData.int)[k]? = some (.int (row.getD k 0)) := by
  rw [List.getElem?_map, List.getElem?_eq_getElem h, List.getD_eq_getElem?_getD, List.getElem?_eq_getElem h]
  rfl
theorem lengths_ok (ns : List Int) : r__law_lengths [iL ns] = some (.bool true) := by
  refine runM_of ?_
  unfold m__law_lengths
  obtain ⟨c4, e4⟩ := cell_ok ns 4 (by decide) (by decide)
  obtain ⟨c5, e5⟩ := cell_ok ns 5 (by decide) (by decide)
  obtain ⟨row, d0, n0, b0⟩ := digits_nat c4 [9, 4, 5, 9, 6, 8] (by decide) (by decide)
  have d0' : r__law_digits [.int c4, .list [.int 9, .int 4, .int 5, .int 9, .int 6, .int 8]] = some (.list (nL row)) := d0
  match row, n0 with
  | [s0, s1, s2, s3, s4, s5], _ =>
  have q0 : s0 < 9 := b0 0 _ _ rfl rfl
  have q1 : s1 < 4 := b0 1 _ _ rfl rfl
  have q2 : s2 < 5 := b0 2 _ _ rfl rfl
  have q3 : s3 < 9 := b0 3 _ _ rfl rfl
  have q4 : s4 < 6 := b0 4 _ _ rfl rfl
  clear b0 d0
  obtain ⟨most, hm, hm1, hm2⟩ : ∃ m : Nat, ([PyData.int 41, .int 4, .int 1000000000, .int 13])[s1]? = some (.int (m : Int)) ∧ 0 < m ∧ m ≤ 1000000000 := by
    match s1, q1 with
    | 0, _ => exact ⟨41, rfl, by decide, by decide⟩
    | 1, _ => exact ⟨4, rfl, by decide, by decide⟩
    | 2, _ => exact ⟨1000000000, rfl, by decide, by decide⟩
    | 3, _ => exact ⟨13, rfl, by decide, by decide⟩
  obtain ⟨parts, d1, n1, b1⟩ := digits_nat c5 (List.replicate 9 (2 * most + 1)) (fun s hs => by
    have := (List.mem_replicate.mp hs).2
    omega) (by simp)
  rw [← rep_nats, show ((2 * most + 1 : Nat) : Int) = 2 * (most : Int) + 1 by omega] at d1
  unfold iL at e4 e5 ⊢
  generalize PyData.list (ns.map .int) = sc at *
  rw [List.length_replicate] at n1
  let RW := PyData.list (nL [s0, s1, s2, s3, s4, s5])
  have hpow : vPow (.int 10) (.int 9) = some (.int 1000000000) := by
    rw [vPow_ii, if_pos ⟨by decide, by decide, by decide⟩]
    rfl
  have hcm : ∀ t : Int, CM 2 t := fun t => cm_left (by decide) (by decide)
  let count := 1 + s0
  have hc : count ≤ 9 := by show 1 + s0 ≤ 9; omega
  have hrc : RB (count : Int) := rb_nat (by omega)
  let prow : List Int := (List.range count).map fun k => ((parts.getD k 0 : Nat) : Int) - most
  have hpl : prow.length = count := by simp [prow]
  let ans : List Int := vals (ev prow) count
  have hal : ans.length = count := vals_len _ _
  refine wp_mid (fun n => n = [.v sc, .v RW, .no, .no, .no, .no, .no, .no, .no, .no, .no]) (by simp [N__law_lengths, e4, d0', RW]) ?_
  rintro n rfl
  refine wp_mid (fun n => n = [.v sc, .v RW, .v (.int (count : Nat)), .no, .no, .no, .no, .no, .no, .no, .no]) (by simp [RW, nL, count]) ?_
  rintro n rfl
  refine wp_mid (fun n => n = [.v sc, .v RW, .v (.int (count : Nat)), .v (.int (most : Nat)), .no, .no, .no, .no, .no, .no, .no]) (by simp [RW, nL, hpow, hm]) ?_
  rintro n rfl
  refine wp_mid (fun n => n = [.v sc, .v RW, .v (.int (count : Nat)), .v (.int (most : Nat)), .v (.list (nL parts)), .no, .no, .no, .no, .no, .no]) (by
    simp [hcm, e5, d1]) ?_
  rintro n rfl
  have k1 : compL (flN 9) [9] mYes (mBin vSub (mBin vIx (mVar 4) (mVar 9)) (mVar 3)) [.v sc, .v RW, .v (.int (count : Nat)), .v (.int (most : Nat)), .v (.list (nL parts)), .no, .no, .no, .no, .no, .no] (rangeD 0 count) = some (prow.map .int) := by
    rw [rangeD_nats, VE.comp_map (emb := fun k : Nat => PyData.int (k : Int)) (g := fun k : Nat => PyData.int (((parts.getD k 0 : Nat) : Int) - most)) fun k hk => by
      have hk := List.mem_range.mp hk
      have e1 : (nL parts)[k]? = some (.int ((parts.getD k 0 : Nat) : Int)) := by
        unfold nL
        rw [List.getElem?_map, List.getElem?_eq_getElem (by omega), List.getD_eq_getElem?_getD, List.getElem?_eq_getElem (by omega)]
        rfl
      simp [e1]]
    simp [prow]
  have hl1 : prow.length < 16000000 := by omega
  refine wp_mid (fun n => n = [.v sc, .v RW, .v (.int (count : Nat)), .v (.int (most : Nat)), .v (.list (nL parts)), .v (iL prow), .no, .no, .no, .no, .no]) (by simp [hrc, k1, hl1, iL]) ?_
  rintro n rfl
  have k2 : compL (flN 10) [10] mYes (mDef 2 r__law_row_at (mCons (mVar 5) (mCons (mVar 10) mNil))) [.v sc, .v RW, .v (.int (count : Nat)), .v (.int (most : Nat)), .v (.list (nL parts)), .v (iL prow), .no, .no, .no, .no, .no] (rangeD 0 count) = some (ans.map .int) := by
    rw [rangeD_nats, VE.comp_map (emb := fun k : Nat => PyData.int (k : Int)) (g := fun k : Nat => PyData.int (ev prow (k : Int))) fun k hk => by
      have hk := List.mem_range.mp hk
      simp [row_at_ok prow k (by omega) (by omega) (by omega)]]
    simp [ans, vals]
  have hl2 : ans.length < 16000000 := by omega
  refine wp_mid (fun n => n = [.v sc, .v RW, .v (.int (count : Nat)), .v (.int (most : Nat)), .v (.list (nL parts)), .v (iL prow), .o (ans.map .int), .no, .no, .no, .no]) (by simp [hrc, k2, hl2]) ?_
  rintro n rfl
  have hW : Whole ans := by
    have := whole_poly prow
    rwa [hpl] at this
  have a1 := (are_whole_ok ans (by omega)).1 hW
  have a2 := answered_ok ans (by omega)
  rw [hal] at a2
  unfold iL at a1 a2
  refine wp_mid (fun n => n = [.v sc, .v RW, .v (.int (count : Nat)), .v (.int (most : Nat)), .v (.list (nL parts)), .v (iL prow), .o (ans.map .int), .no, .no, .no, .no]) (by simp [a1, a2]) ?_
  rintro n rfl
  have hat : s3 % count < count := Nat.mod_lt _ (by show 0 < 1 + s0; omega)
  have hcp : (0 : Int) < (count : Int) := by show (0 : Int) < ((1 + s0 : Nat) : Int); omega
  refine wp_mid (fun n => n = [.v sc, .v RW, .v (.int (count : Nat)), .v (.int (most : Nat)), .v (.list (nL parts)), .v (iL prow), .o (ans.map .int), .v (.int ((s3 % count : Nat) : Int)), .no, .no, .no]) (by
    have hcp2 : 0 < count := by omega
    simp [RW, nL, hcp2]) ?_
  rintro n rfl
  -- the answers after the changes: any row of this length is right
  generalize hA : s3 % count = at0 at hat ⊢
  have fin : ∀ (xs : List Int) (b8 b9 b10 : Sl), xs.length = count → Wp (mRet [6] (mDef 2 r__law_answered (mCons (mVar 6) (mCons (mVar 2) mNil)))) [.v sc, .v RW, .v (.int (count : Nat)), .v (.int (most : Nat)), .v (.list (nL parts)), .v (iL prow), .o (xs.map .int), .v (.int (at0 : Int)), b8, b9, b10] (fun o => match o with
    | .rt e => e = .bool true
    | .rl xs => PyData.list xs = .bool true
    | .nx _ => PyData.none = .bool true
    | _ => False) := fun xs b8 b9 b10 hx => by
    have a2 := answered_ok xs (by omega)
    rw [hx] at a2
    unfold iL at a2
    simp [a2]
  have hix := ixN_nat (n := count) (i := at0) hat
  refine wp_mid (fun n => ∃ xs : List Int, xs.length = count ∧ n = [.v sc, .v RW, .v (.int (count : Nat)), .v (.int (most : Nat)), .v (.list (nL parts)), .v (iL prow), .o (xs.map .int), .v (.int (at0 : Int)), .no, .no, .no]) ?_ ?_
  · by_cases h1 : s2 = 1
    · have hg : (ans.map PyData.int)[at0]? = some (.int (ans.getD at0 0)) := map_gd' ans _ (by omega)
      have hix2 := hix
      rw [← hal] at hix2
      subst h1
      simp [RW, nL, hg, hix2, -List.getElem?_map]
      exact ⟨ans.set at0 (ans.getD at0 0 + 1 + s4), by simp [hal], by simp⟩
    · have h1' : ¬ (s2 : Int) = 1 := by omega
      simp [RW, nL, h1']
      exact ⟨ans, hal, rfl⟩
  rintro n ⟨xs, hx, rfl⟩
  refine wp_mid (fun n => ∃ (xs : List Int) (b8 b9 b10 : Sl), xs.length = count ∧ n = [.v sc, .v RW, .v (.int (count : Nat)), .v (.int (most : Nat)), .v (.list (nL parts)), .v (iL prow), .o (xs.map .int), .v (.int (at0 : Int)), b8, b9, b10]) ?_ ?_
  · by_cases h1 : s2 = 2
    · have hg : (xs.map PyData.int)[at0]? = some (.int (xs.getD at0 0)) := map_gd' xs _ (by omega)
      have hix2 := hix
      rw [← hx] at hix2
      subst h1
      refine (wp_ifS).mpr ⟨true, by simp [RW, nL], ?_⟩
      rw [if_pos rfl]
      refine wp_mid (fun n => n = [.v sc, .v RW, .v (.int (count : Nat)), .v (.int (most : Nat)), .v (.list (nL parts)), .v (iL prow), .o (xs.map .int), .v (.int (at0 : Int)), .v (.int 1), .no, .no]) (by simp) ?_
      rintro n rfl
      refine wp_mid (fun n => ∃ b9 : Sl, n = [.v sc, .v RW, .v (.int (count : Nat)), .v (.int (most : Nat)), .v (.list (nL parts)), .v (iL prow), .o (xs.map .int), .v (.int (at0 : Int)), .v (.int (fac count : Nat)), b9, .no]) ?_ ?_
      · refine wp_forN (lo := 0) (k := count) (fun i n => ∃ b9 : Sl, n = [.v sc, .v RW, .v (.int (count : Nat)), .v (.int (most : Nat)), .v (.list (nL parts)), .v (iL prow), .o (xs.map .int), .v (.int (at0 : Int)), .v (.int (fac i : Nat)), b9, .no]) (by simp [hrc]) ⟨.no, by simp [fac]⟩ ?_ ?_
        · rintro i n hi ⟨b9, rfl⟩
          have hfle := fac_le i (by omega)
          have hcm2 : CM ((fac i : Nat) : Int) ((i : Int) + 1) := cm_right (by omega) (by omega)
          simp [hcm2, fac]
        · rintro n ⟨b9, rfl⟩
          exact ⟨_, rfl, b9, rfl⟩
      rintro n ⟨b9, rfl⟩
      have hcm2 : CM ((fac count : Nat) : Int) ((s4 : Int) + 1) := cm_right (by omega) (by omega)
      simp [RW, nL, hg, hix2, hcm2, -List.getElem?_map]
      exact ⟨xs.set at0 (xs.getD at0 0 + (fac count : Nat) * ((s4 : Int) + 1)), by simp [hx], by simp⟩
    · have h1' : ¬ (s2 : Int) = 2 := by omega
      simp [RW, nL, h1']
      exact ⟨xs, hx, rfl⟩
  clear hx xs
  rintro n ⟨xs, b8, b9, b10, hx, rfl⟩
  refine wp_mid (fun n => ∃ (xs : List Int) (b8 b9 b10 : Sl), xs.length = count ∧ n = [.v sc, .v RW, .v (.int (count : Nat)), .v (.int (most : Nat)), .v (.list (nL parts)), .v (iL prow), .o (xs.map .int), .v (.int (at0 : Int)), b8, b9, b10]) ?_ ?_
  · by_cases h1 : 2 < s2 ∧ most < 100
    · have h2 : (2 : Int) < (s2 : Int) := by omega
      have h3 : (most : Int) < 100 := by omega
      let row2 : List Int := (List.range count).map fun k => prow.getD k 0 % 9 - 3
      have k3 : ∀ c8 c10 : Sl, compL (flN 9) [9] mYes (mBin vSub (mBin vMod (mCall vInt (mCons (mBin vIx (mVar 5) (mVar 9)) mNil)) (mC (.int 9))) (mC (.int 3))) [.v sc, .v RW, .v (.int (count : Nat)), .v (.int (most : Nat)), .v (.list (nL parts)), .v (iL prow), .no, .v (.int (at0 : Int)), c8, .no, c10] (rangeD 0 count) = some (row2.map .int) := fun c8 c10 => by
        rw [rangeD_nats, VE.comp_map (emb := fun k : Nat => PyData.int (k : Int)) (g := fun k : Nat => PyData.int (prow.getD k 0 % 9 - 3)) fun k hk => by
          have hk := List.mem_range.mp hk
          have e1 := (Rw.l prow).at k (by omega)
          simp only [vIx_l] at e1
          simp [iL, -atI_cast, e1]]
        simp [row2]
      have hr2 : row2.length < 16000000 := by simp [row2]; omega
      refine (wp_ifS).mpr ⟨true, by simp [RW, nL, h2, h3], ?_⟩
      rw [if_pos rfl]
      simp [hrc, k3, hr2]
      exact ⟨row2, by simp [row2], rfl⟩
    · refine (wp_ifS).mpr ⟨false, ?_, ?_⟩
      · by_cases h2 : 2 < s2
        · have h3 : ¬ (most : Int) < 100 := by omega
          have h2' : (2 : Int) < (s2 : Int) := by omega
          simp [RW, nL, h2', h3]
        · have h2' : ¬ (2 : Int) < (s2 : Int) := by omega
          simp [RW, nL, h2']
      rw [if_neg (by simp)]
      simp
      exact ⟨xs, hx, rfl⟩
  rintro n ⟨xs, b8, b9, b10, hx, rfl⟩
  exact fin xs b8 b9 b10 hx
theorem min_if (a b : Nat) : (if (b : Int) < (a : Int) then (b : Int) else (a : Int)) = ((min a b : Nat) : Int) := by
  split <;> omega
theorem repD_zeros (k : Nat) : repD [PyData.int 0] k = (List.replicate k (0 : Int)).map .int := by
  have := rep_nats 0 k
  rw [nL_iS] at this
  rw [show PyData.int ((0 : Nat) : Int) = PyData.int 0 from rfl] at this
  rw [this]
  simp [iS]
theorem mRep_n {ms : MA} {m : M} {n : En} {xs : List PyData} {k : Nat} (h1 : ms n = some xs) (h2 : m n = some (.int (k : Int))) (h3 : xs.length * k ≤ 1000000) (h4 : k ≤ 1000000) : mRep ms m n = some (repD xs k) := by
  rw [mRep_ap, h1, Option.bind_some, h2, Option.bind_some, asI_i, Option.bind_some]
  rw [if_pos ⟨Int.le_trans (by decide) (Int.natCast_nonneg k), Int.lt_of_le_of_lt (Int.ofNat_le.mpr h4) (by decide), by rw [Int.toNat_natCast]; omega⟩, Int.toNat_natCast]
theorem twin_ok (w0 w1 w2 w3 w4 w5 : Nat) (q0 : w0 < 5) (q1 : w1 < 6) (q2 : w2 < 6) (q3 : w3 < 6) (q4 : w4 < 6) (q5 : w5 < 6) (plus minus : List Int) (hp : plus.length ≤ 5) (hm : minus.length ≤ 5) :
    ∃ l r : List Int, r__law_twin [.list (nL [w0, w1, w2, w3, w4, w5]), iL plus, iL minus] = some (.list [iL l, iL r]) ∧ l.length ≤ 12 ∧ r.length ≤ 12 := by
  suffices h : ∃ d, r__law_twin [.list (nL [w0, w1, w2, w3, w4, w5]), iL plus, iL minus] = some d ∧ ∃ l r : List Int, d = .list [iL l, iL r] ∧ l.length ≤ 12 ∧ r.length ≤ 12 by
    obtain ⟨d, h, l, r, rfl, h1⟩ := h
    exact ⟨l, r, h, h1⟩
  refine runM_ex ?_
  unfold m__law_twin
  have hs2 : 2 ≤ sizeLine := sz_of (by decide)
  have hr : RB ((min plus.length minus.length : Nat) : Int) := rb_nat (by omega)
  refine wp_mid (fun n => n = [.v (.list (nL [w0, w1, w2, w3, w4, w5])), .v (iL plus), .v (iL minus), .o (plus.map .int), .no, .no]) (by simp [N__law_twin, iL]) ?_
  rintro n rfl
  refine wp_mid (fun n => n = [.v (.list (nL [w0, w1, w2, w3, w4, w5])), .v (iL plus), .v (iL minus), .o (plus.map .int), .o (minus.map .int), .no]) (by simp [iL]) ?_
  rintro n rfl
  have fin : ∀ (l r : List Int) (y : Sl), l.length ≤ 12 → r.length ≤ 12 → Wp (mRet [3, 4] (mL (mLst (mCons (mVar 3) (mCons (mVar 4) mNil))))) [.v (.list (nL [w0, w1, w2, w3, w4, w5])), .v (iL plus), .v (iL minus), .o (l.map .int), .o (r.map .int), y] (fun o => match o with
    | .rt e => ∃ l r : List Int, e = .list [iL l, iL r] ∧ l.length ≤ 12 ∧ r.length ≤ 12
    | .rl xs => ∃ l r : List Int, PyData.list xs = .list [iL l, iL r] ∧ l.length ≤ 12 ∧ r.length ≤ 12
    | .nx _ => ∃ l r : List Int, PyData.none = .list [iL l, iL r] ∧ l.length ≤ 12 ∧ r.length ≤ 12
    | _ => False) := fun l r y h1 h2 => by
    simp
    exact ⟨l, r, ⟨rfl, rfl⟩, h1, h2⟩
  refine wp_mid (fun n => ∃ (l r : List Int) (y : Sl), l.length ≤ 5 ∧ r.length ≤ 5 ∧ n = [.v (.list (nL [w0, w1, w2, w3, w4, w5])), .v (iL plus), .v (iL minus), .o (l.map .int), .o (r.map .int), y]) ?_ ?_
  · by_cases h0 : w0 = 0
    · subst h0
      refine (wp_ifS).mpr ⟨true, by simp [nL], ?_⟩
      rw [if_pos rfl]
      refine wp_forN (lo := 0) (k := min plus.length minus.length) (fun i n => ∃ (l r : List Int) (y : Sl), l.length = plus.length ∧ r.length = minus.length ∧ n = [.v (.list (nL [0, w1, w2, w3, w4, w5])), .v (iL plus), .v (iL minus), .o (l.map .int), .o (r.map .int), y]) ?_ ⟨plus, minus, .no, rfl, rfl, rfl⟩ ?_ ?_
      · simp [-vMin2_ii, show vMin2 [.int plus.length, .int minus.length] = some (.int ((min plus.length minus.length : Nat) : Int)) by rw [vMin2_ii, min_if]]
        exact hr
      · rintro i n hi ⟨l, r, y, hl, hr2, rfl⟩
        have i1 := ixN_nat (n := l.length) (i := i) (by omega)
        have i2 := ixN_nat (n := r.length) (i := i) (by omega)
        have g1 := map_gd' l i (by omega)
        have g2 := map_gd' r i (by omega)
        obtain ⟨w, hw⟩ : ∃ w : Nat, vIx (.list (nL [0, w1, w2, w3, w4, w5])) (.int (1 + (i : Int))) = some (.int (w : Int)) := by
          match i, hi with
          | 0, _ => exact ⟨w1, rfl⟩
          | 1, _ => exact ⟨w2, rfl⟩
          | 2, _ => exact ⟨w3, rfl⟩
          | 3, _ => exact ⟨w4, rfl⟩
          | 4, _ => exact ⟨w5, rfl⟩
          | i + 5, h => omega
        refine wp_mid (fun n => n = [.v (.list (nL [0, w1, w2, w3, w4, w5])), .v (iL plus), .v (iL minus), .o ((l.set i (l.getD i 0 + w)).map .int), .o (r.map .int), .v (.int (i : Int))]) (by simp [-vIx_l, hw]; simp [g1, i1, -List.getElem?_map]) ?_
        rintro n rfl
        simp [-vIx_l, hw]
        simp [g2, i2, -List.getElem?_map]
        exact ⟨l.set i (l.getD i 0 + w), by simp [hl], r.set i (r.getD i 0 + w), by simp [hr2], by simp, by simp⟩
      · rintro n ⟨l, r, y, hl, hr2, rfl⟩
        exact ⟨_, rfl, l, r, y, by omega, by omega, rfl⟩
    · have h0' : ¬ (w0 : Int) = 0 := by omega
      refine (wp_ifS).mpr ⟨false, by simp [nL]; omega, ?_⟩
      rw [if_neg (by simp)]
      simp
      exact ⟨plus, hp, minus, hm, rfl, rfl⟩
  rintro n ⟨l, r, y, hl, hr2, rfl⟩
  refine wp_mid (fun n => ∃ (l r : List Int) (y : Sl), l.length ≤ 5 + (if w0 = 1 then 6 else 0) ∧ r.length ≤ 5 + (if w0 = 1 then 6 else 0) ∧ n = [.v (.list (nL [w0, w1, w2, w3, w4, w5])), .v (iL plus), .v (iL minus), .o (l.map .int), .o (r.map .int), y]) ?_ ?_
  · by_cases h0 : w0 = 1
    · subst h0
      refine (wp_ifS).mpr ⟨true, by simp [nL], ?_⟩
      rw [if_pos rfl]
      have z1 : l.length + w1 ≤ sizeLine := sz_of (by omega)
      have z2 : r.length + (1 + w2) ≤ sizeLine := sz_of (by omega)
      have m1 : ∀ b y : Sl, mRep (mLst (mCons (mC (.int 0)) mNil)) (mBin vIx (mVar 0) (mC (.int 1))) [.v (.list (nL [1, w1, w2, w3, w4, w5])), .v (iL plus), .v (iL minus), .o (l.map .int), b, y] = some ((List.replicate w1 (0 : Int)).map .int) := fun b y => by
        rw [mRep_n (xs := [.int 0]) (k := w1) (by simp) (by simp [nL]) (by simp; omega) (by omega), repD_zeros]
      have m2 : ∀ b y : Sl, mRep (mLst (mCons (mC (.int 0)) mNil)) (mBin vAdd (mC (.int 1)) (mBin vIx (mVar 0) (mC (.int 2)))) [.v (.list (nL [1, w1, w2, w3, w4, w5])), .v (iL plus), .v (iL minus), b, .o (r.map .int), y] = some ((List.replicate (1 + w2) (0 : Int)).map .int) := fun b y => by
        rw [mRep_n (xs := [.int 0]) (k := 1 + w2) (by simp) (by simp [nL]) (by simp; omega) (by omega), repD_zeros]
      refine wp_mid (fun n => n = [.v (.list (nL [1, w1, w2, w3, w4, w5])), .v (iL plus), .v (iL minus), .o ((l ++ List.replicate w1 0).map .int), .o (r.map .int), y]) ?_ ?_
      · simp [-mRep_ap, m1, z1]
        done
      rintro n rfl
      simp [-mRep_ap, m2, z2]
      exact ⟨l ++ List.replicate w1 0, by simp; omega, r ++ List.replicate (1 + w2) 0, by simp; omega, by simp, by simp⟩
    · have h0' : ¬ (w0 : Int) = 1 := by omega
      refine (wp_ifS).mpr ⟨false, by simp [nL]; omega, ?_⟩
      rw [if_neg (by simp)]
      simp
      exact ⟨l, by omega, r, by omega, rfl, rfl⟩
  clear hl hr2 l r y
  rintro n ⟨l, r, y, hl, hr2, rfl⟩
  refine wp_mid (fun n => ∃ (l r : List Int) (y : Sl), l.length ≤ 12 ∧ r.length ≤ 12 ∧ n = [.v (.list (nL [w0, w1, w2, w3, w4, w5])), .v (iL plus), .v (iL minus), .o (l.map .int), .o (r.map .int), y]) ?_ ?_
  · by_cases h0 : w0 = 2
    · subst h0
      refine (wp_ifS).mpr ⟨true, by simp [nL], ?_⟩
      rw [if_pos rfl]
      rw [if_neg (by omega)] at hl hr2
      have z1 : l.length + 1 ≤ sizeLine := sz_of (by omega)
      simp [nL, z1]
      exact ⟨l ++ [(w1 : Int) + 1], by simp; omega, r, by omega, by simp, rfl⟩
    · have h0' : ¬ (w0 : Int) = 2 := by omega
      refine (wp_ifS).mpr ⟨false, by simp [nL]; omega, ?_⟩
      rw [if_neg (by simp)]
      simp
      refine ⟨l, ?_, r, ?_, rfl, rfl⟩
      · split at hl <;> omega
      · split at hr2 <;> omega
  clear hl hr2 l r y
  rintro n ⟨l, r, y, hl, hr2, rfl⟩
  refine wp_mid (fun n => ∃ (l r : List Int) (y : Sl), l.length ≤ 12 ∧ r.length ≤ 12 ∧ n = [.v (.list (nL [w0, w1, w2, w3, w4, w5])), .v (iL plus), .v (iL minus), .o (l.map .int), .o (r.map .int), y]) ?_ ?_
  · by_cases h0 : w0 = 3 ∧ 0 < l.length
    · obtain ⟨h0, h1⟩ := h0
      subst h0
      refine (wp_ifS).mpr ⟨true, by simp [nL, h1], ?_⟩
      rw [if_pos rfl]
      have hix := ixN_nat (n := l.length) (i := w1 % l.length) (Nat.mod_lt _ h1)
      rw [Int.natCast_emod] at hix
      simp [nL, h1, hix]
      exact ⟨l.set (w1 % l.length) w2, by simp; omega, r, by omega, by simp, rfl⟩
    · refine (wp_ifS).mpr ⟨false, ?_, ?_⟩
      · by_cases h1 : w0 = 3
        · have h2 : ¬ 0 < l.length := fun h => h0 ⟨h1, h⟩
          simp [nL, h1, h2]
        · have h1' : ¬ (w0 : Int) = 3 := by omega
          simp [nL, h1']
      rw [if_neg (by simp)]
      simp
      exact ⟨l, hl, r, hr2, rfl, rfl⟩
  clear hl hr2 l r y
  rintro n ⟨l, r, y, hl, hr2, rfl⟩
  refine wp_mid (fun n => ∃ (l r : List Int) (y : Sl), l.length ≤ 12 ∧ r.length ≤ 12 ∧ n = [.v (.list (nL [w0, w1, w2, w3, w4, w5])), .v (iL plus), .v (iL minus), .o (l.map .int), .o (r.map .int), y]) ?_ ?_
  · by_cases h0 : w0 = 4
    · subst h0
      refine (wp_ifS).mpr ⟨true, by simp [nL], ?_⟩
      rw [if_pos rfl]
      have c1 : ∀ ds : List PyData, cutD ds (some 1) (some 4) = (ds.drop 1).take 3 := fun ds => cutD_nn (a := 1) (b := 4)
      have c2 : ∀ ds : List PyData, cutD ds (some 4) (some 6) = (ds.drop 4).take 2 := fun ds => cutD_nn (a := 4) (b := 6)
      simp [nL, c1, c2]
      exact ⟨[w1, w2, w3], by simp, [w4, w5], by simp, by simp, by simp⟩
    · have h0' : ¬ (w0 : Int) = 4 := by omega
      refine (wp_ifS).mpr ⟨false, by simp [nL]; omega, ?_⟩
      rw [if_neg (by simp)]
      simp
      exact ⟨l, hl, r, hr2, rfl, rfl⟩
  clear hl hr2 l r y
  rintro n ⟨l, r, y, hl, hr2, rfl⟩
  exact fin l r y hl hr2
@[simp] theorem vIsNot_bb {a b : Bool} : vIsNot (.bool a) (.bool b) = some (.bool (!decide (a = b))) := rfl
theorem ev_parted (x : Int) : ∀ row : List Int, ev (row.map psv) x - ev (row.map ngv) x = ev row x
  | [] => by simp [ev]
  | c :: row => by
    have ih := ev_parted x row
    obtain ⟨q1, _⟩ := psv_ngv c
    simp only [List.map_cons, ev]
    rw [← ih]
    have : psv c = c + ngv c := by omega
    rw [this]
    grind
theorem fall_self (n : Nat) : ∀ k : Nat, k ≤ n → fall (n : Int) k ≠ 0
  | 0, _ => by simp [fall]
  | k + 1, h => by
    rw [fall]
    exact Int.mul_ne_zero (fall_self n k (by omega)) (by omega)
theorem mx4 {a b c d : Nat} : mx2 (mx2 (mx2 (a : Int) b) c) d = ((max (max (max a b) c) d : Nat) : Int) := by
  unfold mx2
  split <;> split <;> split <;> omega
theorem Sm.two {ps ms : List Int} : Sm (.list [iL ps, iL ms]) ps ms := .l (.l _) (.l _)
theorem Sm.lt {ps ms : List Int} : Sm (.tuple [iL ps, iT ms]) ps ms := .t (.l _) (.t _)
theorem Sm.ll {ps ms : List Int} : Sm (.tuple [iL ps, iL ms]) ps ms := .t (.l _) (.l _)
theorem Sm.tt {ps ms : List Int} : Sm (.tuple [iT ps, iT ms]) ps ms := .t (.t _) (.t _)
theorem law_true (ns : List Int) (h : ns.length ≤ 63) : r_law [.list (ns.map .int)] = some (.bool true) := by
  refine runM_of ?_
  unfold m_law
  obtain ⟨c0, e0⟩ := cell_ok ns 0 (by decide) (by decide)
  obtain ⟨c1, e1⟩ := cell_ok ns 1 (by decide) (by decide)
  obtain ⟨c2, e2⟩ := cell_ok ns 2 (by decide) (by decide)
  obtain ⟨c3, e3⟩ := cell_ok ns 3 (by decide) (by decide)
  have elen := lengths_ok ns
  obtain ⟨row, d0, n0, b0⟩ := digits_nat c0 [6, 6, 11, 4] (by decide) (by decide)
  have d0' : r__law_digits [.int c0, .list [.int 6, .int 6, .int 11, .int 4]] = some (.list (nL row)) := d0
  match row, n0 with
  | [s0, s1, s2, s3], _ =>
  have q0 : s0 < 6 := b0 0 _ _ rfl rfl
  have q1 : s1 < 6 := b0 1 _ _ rfl rfl
  have q2 : s2 < 11 := b0 2 _ _ rfl rfl
  have q3 : s3 < 4 := b0 3 _ _ rfl rfl
  clear b0 d0
  obtain ⟨most, hm, hm1, hm2⟩ : ∃ m : Nat, ([PyData.int 7, .int 3, .int 1000000001, .int 40])[s3]? = some (.int (m : Int)) ∧ 0 < m ∧ m ≤ 1000000001 := by
    match s3, q3 with
    | 0, _ => exact ⟨7, rfl, by decide, by decide⟩
    | 1, _ => exact ⟨3, rfl, by decide, by decide⟩
    | 2, _ => exact ⟨1000000001, rfl, by decide, by decide⟩
    | 3, _ => exact ⟨40, rfl, by decide, by decide⟩
  obtain ⟨pr, d1, n1, _⟩ := digits_nat c1 (List.replicate 5 most) (fun s hs => by
    have := (List.mem_replicate.mp hs).2
    omega) (by simp)
  obtain ⟨mr, d2, n2, _⟩ := digits_nat c2 (List.replicate 5 most) (fun s hs => by
    have := (List.mem_replicate.mp hs).2
    omega) (by simp)
  rw [← rep_nats] at d1 d2
  rw [List.length_replicate] at n1 n2
  obtain ⟨tr, d3, n3, b3⟩ := digits_nat c3 [5, 6, 6, 6, 6, 6] (by decide) (by decide)
  have d3' : r__law_digits [.int c3, .list (.int 5 :: repD [.int 6] 5)] = some (.list (nL tr)) := d3
  match tr, n3 with
  | [w0, w1, w2, w3, w4, w5], _ =>
  have t0 : w0 < 5 := b3 0 _ _ rfl rfl
  have t1 : w1 < 6 := b3 1 _ _ rfl rfl
  have t2 : w2 < 6 := b3 2 _ _ rfl rfl
  have t3 : w3 < 6 := b3 3 _ _ rfl rfl
  have t4 : w4 < 6 := b3 4 _ _ rfl rfl
  have t5 : w5 < 6 := b3 5 _ _ rfl rfl
  clear b3 d3
  unfold iL at e0 e1 e2 e3 elen
  generalize PyData.list (ns.map .int) = sc at *
  let RW := PyData.list (nL [s0, s1, s2, s3])
  have hpow : vPow (.int 10) (.int 9) = some (.int 1000000000) := by
    rw [vPow_ii, if_pos ⟨by decide, by decide, by decide⟩]
    rfl
  let praw : List Int := iS (pr.take s0)
  let minus : List Int := iS (mr.take s1)
  let plus : List Int := praw.map (· % (most : Int))
  have hpl : plus.length ≤ 5 := by simp [plus, praw, iS]; omega
  have hml : minus.length ≤ 5 := by simp [minus, iS]; omega
  obtain ⟨l, r, etw, hl, hr⟩ := twin_ok w0 w1 w2 w3 w4 w5 t0 t1 t2 t3 t4 t5 plus minus hpl hml
  unfold iL at etw
  have l1 : 1 + (repD [PyData.int 6] 5).length ≤ sizeLine := sz_of (by decide)
  refine wp_mid (fun n => n = [.v sc, .v RW, .no, .no, .no, .no, .no, .no, .no, .no, .no, .no, .no, .no, .no, .no, .no]) (by simp [N_law, e0, d0', RW]) ?_
  rintro n rfl
  refine wp_mid (fun n => n = [.v sc, .v RW, .v (.int (most : Nat)), .no, .no, .no, .no, .no, .no, .no, .no, .no, .no, .no, .no, .no, .no]) (by simp [RW, nL, hpow, hm]) ?_
  rintro n rfl
  refine wp_mid (fun n => n = [.v sc, .v RW, .v (.int (most : Nat)), .v (iL praw), .no, .no, .no, .no, .no, .no, .no, .no, .no, .no, .no, .no, .no]) (by
    simp [RW, nL, e1, d1]
    simp [praw, iL, iS, nL]
    rfl) ?_
  rintro n rfl
  refine wp_mid (fun n => n = [.v sc, .v RW, .v (.int (most : Nat)), .v (iL praw), .v (iL minus), .no, .no, .no, .no, .no, .no, .no, .no, .no, .no, .no, .no]) (by
    simp [RW, nL, e2, d2]
    simp [minus, iL, iS, nL]
    rfl) ?_
  rintro n rfl
  have hm0 : (0 : Int) < (most : Int) := by omega
  have k1 : ∀ b4 : Sl, compL (flN 16) [16] mYes (mBin vMod (mCall vInt (mCons (mVar 16) mNil)) (mVar 2)) [.v sc, .v RW, .v (.int (most : Nat)), .v (iL praw), b4, .no, .no, .no, .no, .no, .no, .no, .no, .no, .no, .no, .no] (praw.map .int) = some (plus.map .int) := fun b4 => by
    rw [VE.comp_map (emb := PyData.int) (g := fun x : Int => PyData.int (x % (most : Int))) fun i hi => by simp [hm1]]
    simp [plus]
  have hl1 : plus.length < 16000000 := by omega
  refine wp_mid (fun n => n = [.v sc, .v RW, .v (.int (most : Nat)), .v (iL plus), .v (iL minus), .no, .no, .no, .no, .no, .no, .no, .no, .no, .no, .no, .no]) (by
    have k1' := k1 (.v (iL minus))
    unfold iL at k1'
    simp [iL, k1', hl1]) ?_
  rintro n rfl
  refine wp_mid (fun n => n = [.v sc, .v RW, .v (.int (most : Nat)), .v (iL plus), .v (iL minus), .v (.list [iL l, iL r]), .no, .no, .no, .no, .no, .no, .no, .no, .no, .no, .no]) (by
    simp [iL, e3, l1, d3', etw]) ?_
  rintro n rfl
  let L := max (max (max plus.length minus.length) l.length) r.length
  have hL : L ≤ 12 := by show max (max (max plus.length minus.length) l.length) r.length ≤ 12; omega
  refine wp_mid (fun n => n = [.v sc, .v RW, .v (.int (most : Nat)), .v (iL plus), .v (iL minus), .v (.list [iL l, iL r]), .v (.int (L : Nat)), .no, .no, .no, .no, .no, .no, .no, .no, .no, .no]) (by
    simp [iL, mx4, L]) ?_
  rintro n rfl
  refine wp_mid (fun n => n = [.v sc, .v RW, .v (.int (most : Nat)), .v (iL plus), .v (iL minus), .v (.list [iL l, iL r]), .v (.int (L : Nat)), .v (.bool true), .no, .no, .no, .no, .no, .no, .no, .no, .no]) (by
    simp) ?_
  rintro n rfl
  let f1 : Nat → Int := fun x => ev plus x - ev minus x
  let f2 : Nat → Int := fun x => ev l x - ev r x
  have hrL : RB ((L : Nat) + 3 : Int) := rb_of (by omega) (by omega)
  refine wp_mid (fun n => ∃ b8 b12 b13 : Sl, n = [.v sc, .v RW, .v (.int (most : Nat)), .v (iL plus), .v (iL minus), .v (.list [iL l, iL r]), .v (.int (L : Nat)), .v (.bool (decide (∀ j : Nat, j < L → f1 j = f2 j))), b8, .no, .no, .no, b12, b13, .no, .no, .no]) ?_ ?_
  · refine wp_forN (lo := 0) (k := L + 3) (fun i n => ∃ b8 b12 b13 : Sl, n = [.v sc, .v RW, .v (.int (most : Nat)), .v (iL plus), .v (iL minus), .v (.list [iL l, iL r]), .v (.int (L : Nat)), .v (.bool (decide (∀ j : Nat, j < i → j < L → f1 j = f2 j))), b8, .no, .no, .no, b12, b13, .no, .no, .no]) ?_ ⟨.no, .no, .no, by simp⟩ ?_ ?_
    · simp [hrL]
      rfl
    · rintro i n hi ⟨b8, b12, b13, rfl⟩
      have g1 := sum_at_ok (Sm.lt (ps := plus) (ms := minus)) (by omega) (by omega) (i : Int) (by omega) (by omega)
      have g2 := sum_at_ok (Sm.two (ps := l) (ms := r)) (by omega) (by omega) (i : Int) (by omega) (by omega)
      have g3 := law_sum_at_ok (Sm.two (ps := plus) (ms := minus)) (i : Int) (by omega) (by omega) (by omega) (by omega)
      have g4 := law_sum_at_ok (Sm.two (ps := l) (ms := r)) (i : Int) (by omega) (by omega) (by omega) (by omega)
      have hs2 : 2 ≤ sizeLine := sz_of (by decide)
      refine wp_mid (fun n => n = [.v sc, .v RW, .v (.int (most : Nat)), .v (iL plus), .v (iL minus), .v (.list [iL l, iL r]), .v (.int (L : Nat)), .v (.bool (decide (∀ j : Nat, j < i → j < L → f1 j = f2 j))), .v (.int (i : Int)), .no, .no, .no, .v (.int (f1 i)), b13, .no, .no, .no]) (by
        unfold iL iT at g1
        simp [iL, g1, f1]) ?_
      rintro n rfl
      refine wp_mid (fun n => n = [.v sc, .v RW, .v (.int (most : Nat)), .v (iL plus), .v (iL minus), .v (.list [iL l, iL r]), .v (.int (L : Nat)), .v (.bool (decide (∀ j : Nat, j < i → j < L → f1 j = f2 j))), .v (.int (i : Int)), .no, .no, .no, .v (.int (f1 i)), .v (.int (f2 i)), .no, .no, .no]) (by simp [g2, f2]) ?_
      rintro n rfl
      refine wp_mid (fun n => n = [.v sc, .v RW, .v (.int (most : Nat)), .v (iL plus), .v (iL minus), .v (.list [iL l, iL r]), .v (.int (L : Nat)), .v (.bool (decide (∀ j : Nat, j < i → j < L → f1 j = f2 j))), .v (.int (i : Int)), .no, .no, .no, .v (.int (f1 i)), .v (.int (f2 i)), .no, .no, .no]) (by simp [whole_sign_ok]) ?_
      rintro n rfl
      refine wp_mid (fun n => n = [.v sc, .v RW, .v (.int (most : Nat)), .v (iL plus), .v (iL minus), .v (.list [iL l, iL r]), .v (.int (L : Nat)), .v (.bool (decide (∀ j : Nat, j < i → j < L → f1 j = f2 j))), .v (.int (i : Int)), .no, .no, .no, .v (.int (f1 i)), .v (.int (f2 i)), .no, .no, .no]) (by simp [hs2, g3, g4, f1, f2]) ?_
      rintro n rfl
      by_cases hd : i < L ∧ f1 i ≠ f2 i
      · have hlt : (i : Int) < (L : Int) := by omega
        refine (wp_ifS).mpr ⟨true, by simp [hlt, hd.2, hd.1], ?_⟩
        rw [if_pos rfl]
        simp
        exact ⟨i, by omega, hd.1, hd.2⟩
      · refine (wp_ifS).mpr ⟨false, ?_, ?_⟩
        · by_cases h1 : i < L
          · have h2 : f1 i = f2 i := Classical.byContradiction fun z => hd ⟨h1, z⟩
            simp [h1, h2]
          · simp [h1]
        rw [if_neg (by simp)]
        simp
        constructor
        · intro hh j hj hjL
          by_cases hji : j = i
          · subst hji
            exact Classical.byContradiction fun z => hd ⟨hjL, z⟩
          · exact hh j (by omega) hjL
        · intro hh j hj hjL
          exact hh j (by omega) hjL
    · rintro n ⟨b8, b12, b13, rfl⟩
      refine ⟨_, rfl, b8, b12, b13, ?_⟩
      have : (∀ j : Nat, j < L + 3 → j < L → f1 j = f2 j) ↔ (∀ j : Nat, j < L → f1 j = f2 j) := ⟨fun h j hj => h j (by omega) hj, fun h j _ hj => h j hj⟩
      simp only [this]
  rintro n ⟨b8, b12, b13, rfl⟩
  have hsame := sum_same_ok (Sm.ll (ps := plus) (ms := minus)) (Sm.tt (ps := l) (ms := r)) (by omega) (by omega) (by omega) (by omega)
  have hiff : (short (coef plus minus) = short (coef l r)) ↔ (∀ j : Nat, j < L → f1 j = f2 j) := by
    rw [short_iff _ _ L (by rw [coef_len]; show _ ≤ max (max (max plus.length minus.length) l.length) r.length; omega) (by rw [coef_len]; show _ ≤ max (max (max plus.length minus.length) l.length) r.length; omega)]
    simp only [ev_coef, f1, f2]
  simp only [hiff] at hsame
  have hs2 : 2 ≤ sizeLine := sz_of (by decide)
  have his : ∀ b : Bool, r__law_is [.bool b, .bool b] = some (.bool true) := fun b => law_is_ok (n := 1) (.bool b .nil) (by omega)
  refine wp_mid (fun n => n = [.v sc, .v RW, .v (.int (most : Nat)), .v (iL plus), .v (iL minus), .v (.list [iL l, iL r]), .v (.int (L : Nat)), .v (.bool (decide (∀ j : Nat, j < L → f1 j = f2 j))), b8, .no, .no, .no, b12, b13, .no, .no, .no]) (by
    unfold iL iT at hsame
    simp only [iL]
    simp [-decide_eq_true_eq, hs2, hsame, his]) ?_
  rintro n rfl
  generalize hAl : (PyData.bool (decide (∀ j : Nat, j < L → f1 j = f2 j))) = AL
  clear hsame hiff hAl
  refine wp_mid (fun n => n = [.v sc, .v RW, .v (.int (most : Nat)), .v (iL plus), .v (iL minus), .v (.list [iL l, iL r]), .v (.int (L : Nat)), .v AL, b8, .v (.int (s2 : Nat)), .no, .no, b12, b13, .no, .no, .no]) (by simp [RW, nL]) ?_
  rintro n rfl
  let P := (fool s2).map psv
  let M := (fool s2).map ngv
  have hP : P.length = s2 + 1 := by simp [P, fool_len]
  have hM : M.length = s2 + 1 := by simp [M, fool_len]
  have hfool := fooling_ok s2 (by omega)
  refine wp_mid (fun n => n = [.v sc, .v RW, .v (.int (most : Nat)), .v (iL plus), .v (iL minus), .v (.list [iL l, iL r]), .v (.int (L : Nat)), .v AL, b8, .v (.int (s2 : Nat)), .v (.tuple [iT P, iT M]), .no, b12, b13, .no, .no, .no]) (by simp [hfool, P, M]) ?_
  rintro n rfl
  refine wp_mid (fun n => n = [.v sc, .v RW, .v (.int (most : Nat)), .v (iL plus), .v (iL minus), .v (.list [iL l, iL r]), .v (.int (L : Nat)), .v AL, b8, .v (.int (s2 : Nat)), .v (.tuple [iT P, iT M]), .no, b12, b13, .no, .no, .no]) (by simp [iT, hP, hM]) ?_
  rintro n rfl
  have hr1 : RB ((s2 : Nat) + 1 : Int) := rb_of (by omega) (by omega)
  have hr3 : RB ((s2 : Nat) + 3 : Int) := rb_of (by omega) (by omega)
  have hr0 : RB ((s2 : Nat) : Int) := rb_of (by omega) (by omega)
  refine wp_mid (fun n => ∃ b11 : Sl, n = [.v sc, .v RW, .v (.int (most : Nat)), .v (iL plus), .v (iL minus), .v (.list [iL l, iL r]), .v (.int (L : Nat)), .v AL, b8, .v (.int (s2 : Nat)), .v (.tuple [iT P, iT M]), b11, b12, b13, .no, .no, .no]) ?_ ?_
  · refine wp_forN (lo := 0) (k := s2 + 1) (fun i n => ∃ b11 : Sl, n = [.v sc, .v RW, .v (.int (most : Nat)), .v (iL plus), .v (iL minus), .v (.list [iL l, iL r]), .v (.int (L : Nat)), .v AL, b8, .v (.int (s2 : Nat)), .v (.tuple [iT P, iT M]), b11, b12, b13, .no, .no, .no]) (by simp [hr1]) ⟨.no, rfl⟩ ?_ ?_
    · rintro i n hi ⟨b11, rfl⟩
      have g1 := iT_at (fool s2) psv i (by rw [fool_len]; omega)
      have g2 := iT_at (fool s2) ngv i (by rw [fool_len]; omega)
      obtain ⟨p1, p2, p3, p4⟩ := psv_ngv ((fool s2).getD i 0)
      generalize (fool s2).getD i 0 = x at *
      simp [P, M, g1, g2, whole_ok, p2, p3, p4]
    · rintro n ⟨b11, rfl⟩
      exact ⟨_, rfl, b11, rfl⟩
  rintro n ⟨b11, rfl⟩
  refine wp_mid (fun n => ∃ b8 b14 b15 : Sl, n = [.v sc, .v RW, .v (.int (most : Nat)), .v (iL plus), .v (iL minus), .v (.list [iL l, iL r]), .v (.int (L : Nat)), .v AL, b8, .v (.int (s2 : Nat)), .v (.tuple [iT P, iT M]), b11, b12, b13, b14, b15, .no]) ?_ ?_
  · refine wp_forN (lo := 0) (k := s2 + 3) (fun i n => ∃ b8 b14 b15 : Sl, n = [.v sc, .v RW, .v (.int (most : Nat)), .v (iL plus), .v (iL minus), .v (.list [iL l, iL r]), .v (.int (L : Nat)), .v AL, b8, .v (.int (s2 : Nat)), .v (.tuple [iT P, iT M]), b11, b12, b13, b14, b15, .no]) (by simp [hr3]; rfl) ⟨b8, .no, .no, rfl⟩ ?_ ?_
    · rintro i n hi ⟨c8, b14, b15, rfl⟩
      refine wp_mid (fun n => n = [.v sc, .v RW, .v (.int (most : Nat)), .v (iL plus), .v (iL minus), .v (.list [iL l, iL r]), .v (.int (L : Nat)), .v AL, .v (.int (i : Int)), .v (.int (s2 : Nat)), .v (.tuple [iT P, iT M]), b11, b12, b13, .v (.int 1), b15, .no]) (by simp) ?_
      rintro n rfl
      refine wp_mid (fun n => ∃ b15 : Sl, n = [.v sc, .v RW, .v (.int (most : Nat)), .v (iL plus), .v (iL minus), .v (.list [iL l, iL r]), .v (.int (L : Nat)), .v AL, .v (.int (i : Int)), .v (.int (s2 : Nat)), .v (.tuple [iT P, iT M]), b11, b12, b13, .v (.int (fall (i : Int) s2)), b15, .no]) ?_ ?_
      · refine wp_forN (lo := 0) (k := s2) (fun k n => ∃ b15 : Sl, n = [.v sc, .v RW, .v (.int (most : Nat)), .v (iL plus), .v (iL minus), .v (.list [iL l, iL r]), .v (.int (L : Nat)), .v AL, .v (.int (i : Int)), .v (.int (s2 : Nat)), .v (.tuple [iT P, iT M]), b11, b12, b13, .v (.int (fall (i : Int) k)), b15, .no]) (by simp [hr0]) ⟨b15, rfl⟩ ?_ ?_
        · rintro k n hk ⟨c15, rfl⟩
          have hc : CM (fall (i : Int) k) ((i : Int) - k) := cm_right (by omega) (by omega)
          simp [hc, fall]
        · rintro n ⟨c15, rfl⟩
          exact ⟨_, rfl, c15, rfl⟩
      rintro n ⟨c15, rfl⟩
      have g1 := sum_at_ok (Sm.tt (ps := P) (ms := M)) (by omega) (by omega) (i : Int) (by omega) (by omega)
      have g2 := law_sum_at_ok (Sm.tt (ps := P) (ms := M)) (i : Int) (by omega) (by omega) (by omega) (by omega)
      have g3 : ev P i - ev M i = fall (i : Int) s2 := by
        rw [ev_parted, ev_fool]
      rw [g3] at g1 g2
      simp [g1, g2]
    · rintro n ⟨c8, b14, b15, rfl⟩
      exact ⟨_, rfl, c8, b14, b15, rfl⟩
  rintro n ⟨c8, b14, b15, rfl⟩
  have hnil := sum_same_ok (Sm.tt (ps := P) (ms := M)) (Sm.tt (ps := []) (ms := [])) (by omega) (by omega) (by simp) (by simp)
  have hne : ¬ (short (coef P M) = short (coef [] [])) := fun hz => by
    have := (short_iff _ _ (s2 + 1) (by rw [coef_len]; omega) (by simp [coef]) |>.mp hz) s2 (by omega)
    rw [ev_coef, ev_parted, ev_fool] at this
    exact fall_self s2 s2 (Nat.le_refl _) this
  rw [decide_eq_false hne] at hnil
  have hself := sum_same_ok (Sm.tt (ps := P) (ms := M)) (Sm.tt (ps := P) (ms := M)) (by omega) (by omega) (by omega) (by omega)
  rw [decide_eq_true rfl] at hself
  refine wp_mid (fun n => n = [.v sc, .v RW, .v (.int (most : Nat)), .v (iL plus), .v (iL minus), .v (.list [iL l, iL r]), .v (.int (L : Nat)), .v AL, c8, .v (.int (s2 : Nat)), .v (.tuple [iT P, iT M]), b11, b12, b13, b14, b15, .no]) (by
    have e0 : iT ([] : List Int) = .tuple [] := rfl
    rw [e0] at hnil
    simp [hnil, hself, hfool, P, M]
    done) ?_
  rintro n rfl
  simp [elen]
end LW
set_option Elab.async false
set_option linter.all false
set_option maxRecDepth 100000
set_option maxHeartbeats 4000000
namespace LW
open PySem PySem.Spec L2 VE
/-! ### the text -/
abbrev R0 : PySem.Program := PySem.Challenge.pw_onlylength_k77_sums_whole
def top (i : Nat) : Stmt := PySem.Challenge.pw_onlylength_k77_sums_whole.main.body.getD i (.Pass ⟨0, 0, 0, 0⟩)
abbrev s__law_cell : Stmt := top 13
abbrev s__law_digits : Stmt := top 14
abbrev s__law_is : Stmt := top 15
abbrev s__law_are_whole : Stmt := top 20
abbrev s__law_row_at : Stmt := top 19
abbrev s__law_whole : Stmt := top 12
abbrev s_differences : Stmt := top 9
abbrev s_parted : Stmt := top 6
abbrev s_times_less : Stmt := top 7
abbrev s_sum_of_answers : Stmt := top 10
abbrev s__law_answered : Stmt := top 21
abbrev s__law_lengths : Stmt := top 22
abbrev s__law_sum_at : Stmt := top 16
abbrev s__law_twin : Stmt := top 17
abbrev s__law_whole_sign : Stmt := top 18
abbrev s_fooling_sum : Stmt := top 8
abbrev s_entry : Stmt := top 1
abbrev s_coefficients : Stmt := top 2
abbrev s_sum_at : Stmt := top 3
abbrev s_shortened : Stmt := top 4
abbrev s_sum_same : Stmt := top 5
abbrev s_law : Stmt := top 23
/-! ### the derivations -/
structure Glob (P : Program) (w : World) (K : PySem.W.Frag) (mg : Str → Option Value) : Prop where
  g_bool : mg "bool" = none
  g_enumerate : mg "enumerate" = none
  g_int : mg "int" = none
  g_isinstance : mg "isinstance" = none
  g_len : mg "len" = none
  g_list : mg "list" = none
  g_max : mg "max" = none
  g_min : mg "min" = none
  g_range : mg "range" = none
  g_reversed : mg "reversed" = none
  g_str : mg "str" = none
  g_tuple : mg "tuple" = none
  g_zip : mg "zip" = none
  triv : True
section
variable {P : Program} {w : World} {K : PySem.W.Frag} {mg : Str → Option Value} {base : Heap}
theorem sc__law_cell : FnScope N__law_cell ["script", "k"] (defScope s__law_cell) := ⟨rfl, rfl, rfl, by decide +kernel, rfl, by decide +kernel, by decide +kernel⟩
theorem ok__law_cell {f : Addr} {fd : FuncData} (T : Glob P w K mg)  (F : FnP K "_law_cell" s__law_cell f fd) (hm : mg "_law_cell" = some (.ref f)) (hb : L2.Binds K fd ["script", "k"] []) : Def P w K mg base "_law_cell" 1 2 r__law_cell := def_okD (ps := ["script", "k"]) (body := m__law_cell) F sc__law_cell hm hb fun cdv A outer s H E hr =>
    (psv_cons (psv_if [] (pb_cmp od_lt (pv_var 1) (pv_cb cd_len T.g_len (pl_cons (pv_var 0) pl_nil)) (nomark _)) (psv_one (psv_ret [] (pv_ix (pv_var 0) (pv_var 1)))) psv_nil)
      (psv_cons (psv_set [] 2 sc__law_cell.nd pv_int)
      (psv_cons (psv_for [] (piv_seq (pv_var 0)) (pt_name 3 sc__law_cell.nd) (psv_one (psv_set [] 2 sc__law_cell.nd (pv_bin od_mod (pv_cty cd_int T.g_int (pl_cons (pv_bin od_add (pv_bin od_mul (pv_var 2) pv_int) (pv_bin od_mod (pv_cty cd_int T.g_int (pl_cons (pv_var 3) pl_nil)) pv_int)) pl_nil)) pv_int))))
      (psv_one (psv_ret [] (pv_bin od_mod (pv_cty cd_int T.g_int (pl_cons (pv_bin od_mul (pv_bin od_mul (pv_bin od_add (pv_var 2) pv_int) (pv_bin od_add (pv_var 1) pv_int)) pv_int) pl_nil)) pv_int))))))
theorem sc__law_digits : FnScope N__law_digits ["cell", "sizes"] (defScope s__law_digits) := ⟨rfl, rfl, rfl, by decide +kernel, rfl, by decide +kernel, by decide +kernel⟩
theorem ok__law_digits {f : Addr} {fd : FuncData} (T : Glob P w K mg)  (F : FnP K "_law_digits" s__law_digits f fd) (hm : mg "_law_digits" = some (.ref f)) (hb : L2.Binds K fd ["cell", "sizes"] []) : Def P w K mg base "_law_digits" 1 2 r__law_digits := def_okD (ps := ["cell", "sizes"]) (body := m__law_digits) F sc__law_digits hm hb fun cdv A outer s H E hr =>
    (psv_cons (psv_setO [] 2 sc__law_digits.nd (pf_lst pl_nil))
      (psv_cons (psv_set [] 3 sc__law_digits.nd (pv_cty cd_int T.g_int (pl_cons (pv_var 0) pl_nil)))
      (psv_cons (psv_if [] (pb_cmp od_ge (pv_var 3) (pv_bin od_pow pv_int pv_int) (nomark _)) (psv_cons (psv_set [] 3 sc__law_digits.nd (pv_bin od_sub (pv_var 3) (pv_bin od_pow pv_int pv_int)))
      (psv_cons (psv_for [] (piv_seq (pv_var 1)) (pt_name 6 sc__law_digits.nd) (psv_cons (psv_app [] 2 (pv_bin od_mod (pv_cty cd_int T.g_int (pl_cons (pv_var 3) pl_nil)) (pv_var 6)))
      (psv_one (psv_set [] 3 sc__law_digits.nd (pv_bin od_div (pv_cty cd_int T.g_int (pl_cons (pv_var 3) pl_nil)) (pv_var 6))))))
      (psv_one (psv_retO 2)))) psv_nil)
      (psv_cons (psv_set [] 4 sc__law_digits.nd (pv_bin od_mod (pv_cty cd_int T.g_int (pl_cons (pv_var 3) pl_nil)) pv_int))
      (psv_cons (psv_forR [] (pir_range1 T.g_range (pl_cons (pv_cb cd_len T.g_len (pl_cons (pv_var 1) pl_nil)) pl_nil)) (pt_name 5 sc__law_digits.nd) (psv_cons (psv_set [] 4 sc__law_digits.nd (pv_bin od_mod (pv_cty cd_int T.g_int (pl_cons (pv_bin od_add (pv_bin od_add (pv_bin od_mul (pv_var 4) pv_int) (pv_bin od_mul pv_int (pv_var 5))) pv_int) pl_nil)) pv_int))
      (psv_cons (psv_set [] 7 sc__law_digits.nd (pv_bin od_mod (pv_cty cd_int T.g_int (pl_cons (pv_bin od_mul (pv_var 4) (pv_bin od_add (pv_bin od_div (pv_var 4) pv_int) pv_int)) pl_nil)) pv_int))
      (psv_one (psv_app [] 2 (pv_bin od_mod (pv_bin od_div (pv_var 7) pv_int) (pv_ix (pv_var 1) (pv_var 5))))))))
      (psv_one (psv_retO 2)))))))
theorem sc__law_is : FnScope N__law_is ["shown", "due"] (defScope s__law_is) := ⟨rfl, rfl, rfl, by decide +kernel, rfl, by decide +kernel, by decide +kernel⟩
theorem ok__law_is {f : Addr} {fd : FuncData} (T : Glob P w K mg)  (F : FnP K "_law_is" s__law_is f fd) (hm : mg "_law_is" = some (.ref f)) (hb : L2.Binds K fd ["shown", "due"] []) : Def P w K mg base "_law_is" 1 2 r__law_is := def_okD (ps := ["shown", "due"]) (body := m__law_is) F sc__law_is hm hb fun cdv A outer s H E hr =>
    (psv_cons (psv_setO [] 2 sc__law_is.nd (pf_lst (pl_cons (pv_of_pf (pf_lst (pl_cons (pv_var 0) (pl_cons (pv_var 1) pl_nil)))) pl_nil)))
      (psv_cons (psv_forR [] (pir_range1 T.g_range (pl_cons pv_int pl_nil)) (pt_name 3 sc__law_is.nd) (psv_cons (psv_if [2] (pb_cmp (od_eq hr.units) (pv_cb cd_len T.g_len (pl_cons (pv_var 2) pl_nil)) pv_int (nomark _)) (psv_one (psv_ret [] pv_bl)) psv_nil)
      (psv_cons (psv_popAsg 2 4 sc__law_is.nd)
      (psv_one (psv_if [] (pb_truth (pv_isi "tuple" (pv_ix (pv_var 4) pv_int) T.g_isinstance T.g_tuple)) (psv_cons (psv_if [] (pb_w (pbw_or (pb_not (pb_truth (pv_isi "tuple" (pv_ix (pv_var 4) pv_int) T.g_isinstance T.g_tuple))) (pbw_or1 (pb_cmp (od_ne hr.units) (pv_cb cd_len T.g_len (pl_cons (pv_ix (pv_var 4) pv_int) pl_nil)) (pv_cb cd_len T.g_len (pl_cons (pv_ix (pv_var 4) pv_int) pl_nil)) (nomark _))))) (psv_one (psv_ret [] pv_bl)) psv_nil)
      (psv_one (psv_forR [] (pir_range1 T.g_range (pl_cons (pv_cb cd_len T.g_len (pl_cons (pv_ix (pv_var 4) pv_int) pl_nil)) pl_nil)) (pt_name 5 sc__law_is.nd) (psv_one (psv_app [] 2 (pv_of_pf (pf_lst (pl_cons (pv_ix (pv_ix (pv_var 4) pv_int) (pv_var 5)) (pl_cons (pv_ix (pv_ix (pv_var 4) pv_int) (pv_var 5)) pl_nil))))))))) (psv_one (psv_if [] (pb_cmp od_is (pv_ix (pv_var 4) pv_int) pv_non (nomark _)) (psv_one (psv_if [] (pb_cmp od_isNot (pv_ix (pv_var 4) pv_int) pv_non (nomark _)) (psv_one (psv_ret [] pv_bl)) psv_nil)) (psv_one (psv_if [] (pb_truth (pv_isi "str" (pv_ix (pv_var 4) pv_int) T.g_isinstance T.g_str)) (psv_one (psv_if [] (pb_w (pbw_or (pb_not (pb_truth (pv_isi "str" (pv_ix (pv_var 4) pv_int) T.g_isinstance T.g_str))) (pbw_or1 (pb_cmp (od_ne hr.units) (pv_ix (pv_var 4) pv_int) (pv_ix (pv_var 4) pv_int) (nomark _))))) (psv_one (psv_ret [] pv_bl)) psv_nil)) (psv_one (psv_if [] (pb_w (pbw_or (pb_not (pb_truth (pv_isi "int" (pv_ix (pv_var 4) pv_int) T.g_isinstance T.g_int))) (pbw_or (pb_cmp (od_ne hr.units) (pv_isi "bool" (pv_ix (pv_var 4) pv_int) T.g_isinstance T.g_bool) (pv_isi "bool" (pv_ix (pv_var 4) pv_int) T.g_isinstance T.g_bool) (nomark _)) (pbw_or1 (pb_cmp (od_ne hr.units) (pv_ix (pv_var 4) pv_int) (pv_ix (pv_var 4) pv_int) (nomark _)))))) (psv_one (psv_ret [] pv_bl)) psv_nil)))))))))))
      (psv_one (psv_ret [] pv_bl))))
theorem sc__law_are_whole : FnScope N__law_are_whole ["answers"] (defScope s__law_are_whole) := ⟨rfl, rfl, rfl, by decide +kernel, rfl, by decide +kernel, by decide +kernel⟩
theorem ok__law_are_whole {f : Addr} {fd : FuncData} (T : Glob P w K mg)  (F : FnP K "_law_are_whole" s__law_are_whole f fd) (hm : mg "_law_are_whole" = some (.ref f)) (hb : L2.Binds K fd ["answers"] []) : Def P w K mg base "_law_are_whole" 1 1 r__law_are_whole := def_okD (ps := ["answers"]) (body := m__law_are_whole) F sc__law_are_whole hm hb fun cdv A outer s H E hr =>
    (psv_cons (psv_set [] 1 sc__law_are_whole.nd (pv_of_pf (pf_cty cf_list T.g_list (pl_cons (pv_var 0) pl_nil))))
      (psv_cons (psv_set [] 2 sc__law_are_whole.nd pv_int)
      (psv_cons (psv_forR [] (pir_range1 T.g_range (pl_cons (pv_cb cd_len T.g_len (pl_cons (pv_var 0) pl_nil)) pl_nil)) (pt_name 3 sc__law_are_whole.nd) (psv_cons (psv_if [] (pb_cmp od_gt (pv_var 3) pv_int (nomark _)) (psv_one (psv_set [] 2 sc__law_are_whole.nd (pv_bin od_mul (pv_var 2) (pv_var 3)))) psv_nil)
      (psv_cons (psv_if [] (pb_cmp (od_ne hr.units) (pv_bin od_mod (pv_cty cd_int T.g_int (pl_cons (pv_ix (pv_var 1) pv_int) pl_nil)) (pv_var 2)) pv_int (nomark _)) (psv_one (psv_ret [] pv_bl)) psv_nil)
      (psv_one (psv_set [] 1 sc__law_are_whole.nd (pv_of_pf (pf_lc (x := "k") 4 sc__law_are_whole.nd (piv_of_pir (pir_range1 T.g_range (pl_cons (pv_bin od_sub (pv_cb cd_len T.g_len (pl_cons (pv_var 1) pl_nil)) pv_int) pl_nil))) (show blkC N__law_are_whole (defScope s__law_are_whole) _ [("k", 4)] = true by decide +kernel) (fun _ _ _ _ _ => pg_name (i := 4) sc__law_are_whole.nd rfl (Or.inl rfl)) (fun _ _ _ _ _ => ptv_nil) (fun _ _ _ _ _ => (pv_bin od_sub (pv_ix (pv_var 1) (pv_bin od_add (pv_var 4) pv_int)) (pv_ix (pv_var 1) (pv_var 4)))))))))))
      (psv_one (psv_ret [] pv_bl)))))
theorem sc__law_row_at : FnScope N__law_row_at ["row", "place"] (defScope s__law_row_at) := ⟨rfl, rfl, rfl, by decide +kernel, rfl, by decide +kernel, by decide +kernel⟩
theorem ok__law_row_at {f : Addr} {fd : FuncData} (T : Glob P w K mg)  (F : FnP K "_law_row_at" s__law_row_at f fd) (hm : mg "_law_row_at" = some (.ref f)) (hb : L2.Binds K fd ["row", "place"] []) : Def P w K mg base "_law_row_at" 1 2 r__law_row_at := def_okD (ps := ["row", "place"]) (body := m__law_row_at) F sc__law_row_at hm hb fun cdv A outer s H E hr =>
    (psv_cons (psv_set [] 2 sc__law_row_at.nd pv_int)
      (psv_cons (psv_set [] 3 sc__law_row_at.nd pv_int)
      (psv_cons (psv_for [] (piv_seq (pv_var 0)) (pt_name 4 sc__law_row_at.nd) (psv_cons (psv_set [] 2 sc__law_row_at.nd (pv_bin od_add (pv_var 2) (pv_bin od_mul (pv_var 4) (pv_var 3))))
      (psv_one (psv_set [] 3 sc__law_row_at.nd (pv_bin od_mul (pv_var 3) (pv_var 1))))))
      (psv_one (psv_ret [] (pv_var 2))))))
theorem sc__law_whole : FnScope N__law_whole ["value"] (defScope s__law_whole) := ⟨rfl, rfl, rfl, by decide +kernel, rfl, by decide +kernel, by decide +kernel⟩
theorem ok__law_whole {f : Addr} {fd : FuncData} (T : Glob P w K mg)  (F : FnP K "_law_whole" s__law_whole f fd) (hm : mg "_law_whole" = some (.ref f)) (hb : L2.Binds K fd ["value"] []) : Def P w K mg base "_law_whole" 1 1 r__law_whole := def_okD (ps := ["value"]) (body := m__law_whole) F sc__law_whole hm hb fun cdv A outer s H E hr =>
    (psv_one (psv_ret [] (pv_and (pv_isi "int" (pv_var 0) T.g_isinstance T.g_int) (pv_and (pv_not (pv_isi "bool" (pv_var 0) T.g_isinstance T.g_bool)) (pv_one (pv_cmp od_ge (pv_var 0) pv_int (nomark _)))))))
theorem sc_differences : FnScope N_differences ["answers"] (defScope s_differences) := ⟨rfl, rfl, rfl, by decide +kernel, rfl, by decide +kernel, by decide +kernel⟩
theorem ok_differences {f : Addr} {fd : FuncData} (T : Glob P w K mg)  (F : FnP K "differences" s_differences f fd) (hm : mg "differences" = some (.ref f)) (hb : L2.Binds K fd ["answers"] []) : Def P w K mg base "differences" 1 1 r_differences := def_okD (ps := ["answers"]) (body := m_differences) F sc_differences hm hb fun cdv A outer s H E hr =>
    (psv_cons (psv_setO [] 1 sc_differences.nd (pf_lst pl_nil))
      (psv_cons (psv_set [] 2 sc_differences.nd (pv_of_pf (pf_cty cf_list T.g_list (pl_cons (pv_var 0) pl_nil))))
      (psv_cons (psv_while [] (pb_truth (pv_var 2)) (psv_cons (psv_app [] 1 (pv_ix (pv_var 2) pv_int))
      (psv_one (psv_lcG  [] 2 [("left", 3), ("right", 4)] (gBoth K 2 (gCons (gName 3) (gCons (gName 4) gNil))) (tgd_tup (tgds_cons (tgd_name 3) (tgds_cons (tgd_name 4) tgds_nil))) sc_differences.nd (piv_zip (pv_var 2) (pv_slice (pv_var 2) (pov_some pv_int) pov_none) T.g_zip) (show blkC N_differences (defScope s_differences) _ [("left", 3), ("right", 4)] = true by decide +kernel) (fun _ _ _ _ _ => pg_both rfl (pgs_cons (pg_name (i := 3) sc_differences.nd rfl (Or.inl rfl)) (pgs_cons (pg_name (i := 4) sc_differences.nd rfl (Or.inl rfl)) pgs_nil))) (fun _ _ _ _ _ => ptv_nil) (fun _ _ _ _ _ => (pv_bin od_sub (pv_var 4) (pv_var 3))) (sw_true rfl rfl rfl (by decide +kernel))))))
      (psv_one (psv_retO 1)))))
theorem sc_parted : FnScope N_parted ["row"] (defScope s_parted) := ⟨rfl, rfl, rfl, by decide +kernel, rfl, by decide +kernel, by decide +kernel⟩
theorem ok_parted {f : Addr} {fd : FuncData} (T : Glob P w K mg)  (F : FnP K "parted" s_parted f fd) (hm : mg "parted" = some (.ref f)) (hb : L2.Binds K fd ["row"] []) : Def P w K mg base "parted" 1 1 r_parted := def_okD (ps := ["row"]) (body := m_parted) F sc_parted hm hb fun cdv A outer s H E hr =>
    (psv_cons (psv_set [] 1 sc_parted.nd (pv_cty cd_tuple T.g_tuple (pl_cons (pv_of_pf (pf_lc (x := "part") 3 sc_parted.nd (piv_seq (pv_var 0)) (show blkC N_parted (defScope s_parted) _ [("part", 3)] = true by decide +kernel) (fun _ _ _ _ _ => pg_name (i := 3) sc_parted.nd rfl (Or.inl rfl)) (fun _ _ _ _ _ => ptv_nil) (fun _ _ _ _ _ => (pv_cb cd_max2 T.g_max (pl_cons pv_int (pl_cons (pv_var 3) pl_nil)))))) pl_nil)))
      (psv_cons (psv_set [] 2 sc_parted.nd (pv_cty cd_tuple T.g_tuple (pl_cons (pv_of_pf (pf_lc (x := "part") 3 sc_parted.nd (piv_seq (pv_var 0)) (show blkC N_parted (defScope s_parted) _ [("part", 3)] = true by decide +kernel) (fun _ _ _ _ _ => pg_name (i := 3) sc_parted.nd rfl (Or.inl rfl)) (fun _ _ _ _ _ => ptv_nil) (fun _ _ _ _ _ => (pv_cb cd_max2 T.g_max (pl_cons pv_int (pl_cons (pv_neg (pv_var 3)) pl_nil)))))) pl_nil)))
      (psv_one (psv_ret [] (pv_tup (pl_cons (pv_var 1) (pl_cons (pv_var 2) pl_nil)))))))
theorem sc_times_less : FnScope N_times_less ["row", "root"] (defScope s_times_less) := ⟨rfl, rfl, rfl, by decide +kernel, rfl, by decide +kernel, by decide +kernel⟩
theorem ok_times_less {f : Addr} {fd : FuncData} (T : Glob P w K mg)  (F : FnP K "times_less" s_times_less f fd) (hm : mg "times_less" = some (.ref f)) (hb : L2.Binds K fd ["row", "root"] []) : Def P w K mg base "times_less" 1 2 r_times_less := def_okD (ps := ["row", "root"]) (body := m_times_less) F sc_times_less hm hb fun cdv A outer s H E hr =>
    (psv_cons (psv_set [] 2 sc_times_less.nd (pv_bin od_add (pv_of_pf (pf_lst (pl_cons pv_int pl_nil))) (pv_var 0)))
      (psv_cons (psv_set [] 3 sc_times_less.nd (pv_bin od_add (pv_of_pf (pf_lc (x := "part") 4 sc_times_less.nd (piv_seq (pv_var 0)) (show blkC N_times_less (defScope s_times_less) _ [("part", 4)] = true by decide +kernel) (fun _ _ _ _ _ => pg_name (i := 4) sc_times_less.nd rfl (Or.inl rfl)) (fun _ _ _ _ _ => ptv_nil) (fun _ _ _ _ _ => (pv_bin od_mul (pv_var 1) (pv_var 4))))) (pv_of_pf (pf_lst (pl_cons pv_int pl_nil)))))
      (psv_one (psv_ret [] (pv_of_pf (pf_lcG  [("high", 5), ("low", 6)] (gBoth K 2 (gCons (gName 5) (gCons (gName 6) gNil))) (tgd_tup (tgds_cons (tgd_name 5) (tgds_cons (tgd_name 6) tgds_nil))) sc_times_less.nd (piv_zip (pv_var 2) (pv_var 3) T.g_zip) (show blkC N_times_less (defScope s_times_less) _ [("high", 5), ("low", 6)] = true by decide +kernel) (fun _ _ _ _ _ => pg_both rfl (pgs_cons (pg_name (i := 5) sc_times_less.nd rfl (Or.inl rfl)) (pgs_cons (pg_name (i := 6) sc_times_less.nd rfl (Or.inl rfl)) pgs_nil))) (fun _ _ _ _ _ => ptv_nil) (fun _ _ _ _ _ => (pv_bin od_sub (pv_var 5) (pv_var 6)))))))))
theorem sc_sum_of_answers : FnScope N_sum_of_answers ["answers"] (defScope s_sum_of_answers) := ⟨rfl, rfl, rfl, by decide +kernel, rfl, by decide +kernel, by decide +kernel⟩
theorem ok_sum_of_answers {f : Addr} {fd : FuncData} (T : Glob P w K mg) (D_differences : Def P w K mg base "differences" 1 1 r_differences) (D_parted : Def P w K mg base "parted" 1 1 r_parted) (D_times_less : Def P w K mg base "times_less" 1 2 r_times_less) (F : FnP K "sum_of_answers" s_sum_of_answers f fd) (hm : mg "sum_of_answers" = some (.ref f)) (hb : L2.Binds K fd ["answers"] []) : Def P w K mg base "sum_of_answers" 2 1 r_sum_of_answers := def_okD (ps := ["answers"]) (body := m_sum_of_answers) F sc_sum_of_answers hm hb fun cdv A outer s H E hr =>
    (psv_cons (psv_lcO (x := "_") [] 1 7 sc_sum_of_answers.nd (piv_seq (pv_var 0)) (show blkC N_sum_of_answers (defScope s_sum_of_answers) _ [("_", 7)] = true by decide +kernel) (fun _ _ _ _ _ => pg_name (i := 7) sc_sum_of_answers.nd rfl (Or.inl rfl)) (fun _ _ _ _ _ => ptv_nil) (fun _ _ _ _ _ => pv_int) (sw_true rfl rfl rfl (by decide +kernel)))
      (psv_cons (psv_set [] 2 sc_sum_of_answers.nd (pv_of_pf (pf_lst (pl_cons pv_int pl_nil))))
      (psv_cons (psv_set [] 3 sc_sum_of_answers.nd pv_int)
      (psv_cons (psv_for [] (piv_enum (pv_call D_differences hr (pl_cons (pv_var 0) pl_nil)) T.g_enumerate) (pt_tup 2 (pts_cons1 (pt_name 4 sc_sum_of_answers.nd) (pts_cons1 (pt_name 5 sc_sum_of_answers.nd) pts_nil1))) (psv_cons (psv_if [] (pb_cmp od_gt (pv_var 4) pv_int (nomark _)) (psv_cons (psv_set [] 2 sc_sum_of_answers.nd (pv_call D_times_less hr (pl_cons (pv_var 2) (pl_cons (pv_bin od_sub (pv_var 4) pv_int) pl_nil))))
      (psv_one (psv_aug od_imul [] 3 sc_sum_of_answers.nd (pv_var 4)))) psv_nil)
      (psv_cons (psv_if [] (pb_cmp (od_ne hr.units) (pv_bin od_mod (pv_var 5) (pv_var 3)) pv_int (nomark _)) (psv_one (psv_ret [] pv_non)) psv_nil)
      (psv_cons (psv_set [] 6 sc_sum_of_answers.nd (pv_bin od_div (pv_var 5) (pv_var 3)))
      (psv_one (psv_for [] (piv_enum (pv_var 2) T.g_enumerate) (pt_tup 2 (pts_cons1 (pt_name 8 sc_sum_of_answers.nd) (pts_cons1 (pt_name 9 sc_sum_of_answers.nd) pts_nil1))) (psv_one (psv_augP ip_add [] 1 (pv_bin od_mul (pv_var 6) (pv_var 9)) (pv_var 8)))))))))
      (psv_one (psv_ret [1] (pv_call D_parted hr (pl_cons (pv_var 1) pl_nil))))))))
theorem sc__law_answered : FnScope N__law_answered ["answers", "count"] (defScope s__law_answered) := ⟨rfl, rfl, rfl, by decide +kernel, rfl, by decide +kernel, by decide +kernel⟩
theorem ok__law_answered {f : Addr} {fd : FuncData} (T : Glob P w K mg) (D__law_are_whole : Def P w K mg base "_law_are_whole" 1 1 r__law_are_whole) (D__law_row_at : Def P w K mg base "_law_row_at" 1 2 r__law_row_at) (D__law_whole : Def P w K mg base "_law_whole" 1 1 r__law_whole) (D_sum_of_answers : Def P w K mg base "sum_of_answers" 2 1 r_sum_of_answers) (F : FnP K "_law_answered" s__law_answered f fd) (hm : mg "_law_answered" = some (.ref f)) (hb : L2.Binds K fd ["answers", "count"] []) : Def P w K mg base "_law_answered" 3 2 r__law_answered := def_okD (ps := ["answers", "count"]) (body := m__law_answered) F sc__law_answered hm hb fun cdv A outer s H E hr =>
    (psv_cons (psv_set [] 2 sc__law_answered.nd (pv_of_pf (pf_cty cf_list T.g_list (pl_cons (pv_var 0) pl_nil))))
      (psv_cons (psv_set [] 3 sc__law_answered.nd (pv_call D_sum_of_answers hr (pl_cons (pv_var 2) pl_nil)))
      (psv_cons (psv_if [] (pb_cmp (od_ne hr.units) (pv_var 2) (pv_of_pf (pf_cty cf_list T.g_list (pl_cons (pv_var 0) pl_nil))) (nomark _)) (psv_one (psv_ret [] pv_bl)) psv_nil)
      (psv_cons (psv_if [] (pb_not (pb_truth (pv_call D__law_are_whole hr (pl_cons (pv_var 0) pl_nil)))) (psv_one (psv_ret [] (pv_cmp od_is (pv_var 3) pv_non (nomark _)))) psv_nil)
      (psv_cons (psv_if [] (pb_w (pbw_or (pb_not (pb_truth (pv_isi "tuple" (pv_var 3) T.g_isinstance T.g_tuple))) (pbw_or1 (pb_cmp (od_ne hr.units) (pv_cb cd_len T.g_len (pl_cons (pv_var 3) pl_nil)) pv_int (nomark _))))) (psv_one (psv_ret [] pv_bl)) psv_nil)
      (psv_cons (psv_forR [] (pir_range1 T.g_range (pl_cons pv_int pl_nil)) (pt_name 4 sc__law_answered.nd) (psv_one (psv_if [] (pb_w (pbw_or (pb_not (pb_truth (pv_isi "tuple" (pv_ix (pv_var 3) (pv_var 4)) T.g_isinstance T.g_tuple))) (pbw_or1 (pb_cmp (od_ne hr.units) (pv_cb cd_len T.g_len (pl_cons (pv_ix (pv_var 3) (pv_var 4)) pl_nil)) (pv_var 1) (nomark _))))) (psv_one (psv_ret [] pv_bl)) psv_nil)))
      (psv_cons (psv_forR [] (pir_range1 T.g_range (pl_cons (pv_var 1) pl_nil)) (pt_name 4 sc__law_answered.nd) (psv_one (psv_if [] (pb_w (pbw_or (pb_not (pb_truth (pv_call D__law_whole hr (pl_cons (pv_ix (pv_ix (pv_var 3) pv_int) (pv_var 4)) pl_nil)))) (pbw_or (pb_not (pb_truth (pv_call D__law_whole hr (pl_cons (pv_ix (pv_ix (pv_var 3) pv_int) (pv_var 4)) pl_nil)))) (pbw_or1 (pb_cmp (od_ne hr.units) (pv_cb cd_min2 T.g_min (pl_cons (pv_ix (pv_ix (pv_var 3) pv_int) (pv_var 4)) (pl_cons (pv_ix (pv_ix (pv_var 3) pv_int) (pv_var 4)) pl_nil))) pv_int (nomark _)))))) (psv_one (psv_ret [] pv_bl)) psv_nil)))
      (psv_cons (psv_set [] 5 sc__law_answered.nd (pv_of_pf (pf_lc (x := "k") 4 sc__law_answered.nd (piv_of_pir (pir_range1 T.g_range (pl_cons (pv_var 1) pl_nil))) (show blkC N__law_answered (defScope s__law_answered) _ [("k", 4)] = true by decide +kernel) (fun _ _ _ _ _ => pg_name (i := 4) sc__law_answered.nd rfl (Or.inl rfl)) (fun _ _ _ _ _ => ptv_nil) (fun _ _ _ _ _ => (pv_bin od_sub (pv_ix (pv_ix (pv_var 3) pv_int) (pv_var 4)) (pv_ix (pv_ix (pv_var 3) pv_int) (pv_var 4)))))))
      (psv_one (psv_ret [] (pv_cmp (od_eq hr.units) (pv_of_pf (pf_lc (x := "place") 6 sc__law_answered.nd (piv_of_pir (pir_range1 T.g_range (pl_cons (pv_var 1) pl_nil))) (show blkC N__law_answered (defScope s__law_answered) _ [("place", 6)] = true by decide +kernel) (fun _ _ _ _ _ => pg_name (i := 6) sc__law_answered.nd rfl (Or.inl rfl)) (fun _ _ _ _ _ => ptv_nil) (fun _ _ _ _ _ => (pv_call D__law_row_at hr (pl_cons (pv_var 5) (pl_cons (pv_var 6) pl_nil)))))) (pv_var 0) (nomark _))))))))))))
theorem sc__law_lengths : FnScope N__law_lengths ["script"] (defScope s__law_lengths) := ⟨rfl, rfl, rfl, by decide +kernel, rfl, by decide +kernel, by decide +kernel⟩
theorem ok__law_lengths {f : Addr} {fd : FuncData} (T : Glob P w K mg) (D__law_answered : Def P w K mg base "_law_answered" 3 2 r__law_answered) (D__law_are_whole : Def P w K mg base "_law_are_whole" 1 1 r__law_are_whole) (D__law_cell : Def P w K mg base "_law_cell" 1 2 r__law_cell) (D__law_digits : Def P w K mg base "_law_digits" 1 2 r__law_digits) (D__law_row_at : Def P w K mg base "_law_row_at" 1 2 r__law_row_at) (F : FnP K "_law_lengths" s__law_lengths f fd) (hm : mg "_law_lengths" = some (.ref f)) (hb : L2.Binds K fd ["script"] []) : Def P w K mg base "_law_lengths" 4 1 r__law_lengths := def_okD (ps := ["script"]) (body := m__law_lengths) F sc__law_lengths hm hb fun cdv A outer s H E hr =>
    (psv_cons (psv_set [] 1 sc__law_lengths.nd (pv_call D__law_digits hr (pl_cons (pv_call D__law_cell hr (pl_cons (pv_var 0) (pl_cons pv_int pl_nil))) (pl_cons (pv_of_pf (pf_lst (pl_cons pv_int (pl_cons pv_int (pl_cons pv_int (pl_cons pv_int (pl_cons pv_int (pl_cons pv_int pl_nil)))))))) pl_nil))))
      (psv_cons (psv_set [] 2 sc__law_lengths.nd (pv_bin od_add pv_int (pv_ix (pv_var 1) pv_int)))
      (psv_cons (psv_set [] 3 sc__law_lengths.nd (pv_ix (pv_of_pf (pf_lst (pl_cons pv_int (pl_cons pv_int (pl_cons (pv_bin od_pow pv_int pv_int) (pl_cons pv_int pl_nil)))))) (pv_ix (pv_var 1) pv_int)))
      (psv_cons (psv_set [] 4 sc__law_lengths.nd (pv_call D__law_digits hr (pl_cons (pv_call D__law_cell hr (pl_cons (pv_var 0) (pl_cons pv_int pl_nil))) (pl_cons (pv_of_pf (pf_rep (pf_lst (pl_cons (pv_bin od_add (pv_bin od_mul pv_int (pv_var 3)) pv_int) pl_nil)) pv_int)) pl_nil))))
      (psv_cons (psv_set [] 5 sc__law_lengths.nd (pv_of_pf (pf_lc (x := "k") 9 sc__law_lengths.nd (piv_of_pir (pir_range1 T.g_range (pl_cons (pv_var 2) pl_nil))) (show blkC N__law_lengths (defScope s__law_lengths) _ [("k", 9)] = true by decide +kernel) (fun _ _ _ _ _ => pg_name (i := 9) sc__law_lengths.nd rfl (Or.inl rfl)) (fun _ _ _ _ _ => ptv_nil) (fun _ _ _ _ _ => (pv_bin od_sub (pv_ix (pv_var 4) (pv_var 9)) (pv_var 3))))))
      (psv_cons (psv_lcO (x := "place") [] 6 10 sc__law_lengths.nd (piv_of_pir (pir_range1 T.g_range (pl_cons (pv_var 2) pl_nil))) (show blkC N__law_lengths (defScope s__law_lengths) _ [("place", 10)] = true by decide +kernel) (fun _ _ _ _ _ => pg_name (i := 10) sc__law_lengths.nd rfl (Or.inl rfl)) (fun _ _ _ _ _ => ptv_nil) (fun _ _ _ _ _ => (pv_call D__law_row_at hr (pl_cons (pv_var 5) (pl_cons (pv_var 10) pl_nil)))) (sw_true rfl rfl rfl (by decide +kernel)))
      (psv_cons (psv_if [6] (pb_w (pbw_or (pb_not (pb_truth (pv_call D__law_are_whole hr (pl_cons (pv_var 6) pl_nil)))) (pbw_or1 (pb_not (pb_truth (pv_call D__law_answered hr (pl_cons (pv_var 6) (pl_cons (pv_var 2) pl_nil)))))))) (psv_one (psv_ret [] pv_bl)) psv_nil)
      (psv_cons (psv_set [] 7 sc__law_lengths.nd (pv_bin od_mod (pv_cty cd_int T.g_int (pl_cons (pv_ix (pv_var 1) pv_int) pl_nil)) (pv_var 2)))
      (psv_cons (psv_if [] (pb_cmp (od_eq hr.units) (pv_ix (pv_var 1) pv_int) pv_int (nomark _)) (psv_one (psv_put [6] 6 (pv_bin od_add (pv_bin od_add (pv_ix (pv_var 6) (pv_var 7)) pv_int) (pv_ix (pv_var 1) pv_int)) (pv_var 7))) psv_nil)
      (psv_cons (psv_if [] (pb_cmp (od_eq hr.units) (pv_ix (pv_var 1) pv_int) pv_int (nomark _)) (psv_cons (psv_set [] 8 sc__law_lengths.nd pv_int)
      (psv_cons (psv_forR [] (pir_range1 T.g_range (pl_cons (pv_var 2) pl_nil)) (pt_name 9 sc__law_lengths.nd) (psv_one (psv_set [] 8 sc__law_lengths.nd (pv_bin od_mul (pv_var 8) (pv_bin od_add (pv_var 9) pv_int)))))
      (psv_one (psv_put [6] 6 (pv_bin od_add (pv_ix (pv_var 6) (pv_var 7)) (pv_bin od_mul (pv_var 8) (pv_bin od_add (pv_ix (pv_var 1) pv_int) pv_int))) (pv_var 7))))) psv_nil)
      (psv_cons (psv_if [] (pb_w (pbw_and (pb_cmp od_gt (pv_ix (pv_var 1) pv_int) pv_int (nomark _)) (pbw_and1 (pb_cmp od_lt (pv_var 3) pv_int (nomark _))))) (psv_one (psv_lcO (x := "k") [] 6 9 sc__law_lengths.nd (piv_of_pir (pir_range1 T.g_range (pl_cons (pv_var 2) pl_nil))) (show blkC N__law_lengths (defScope s__law_lengths) _ [("k", 9)] = true by decide +kernel) (fun _ _ _ _ _ => pg_name (i := 9) sc__law_lengths.nd rfl (Or.inl rfl)) (fun _ _ _ _ _ => ptv_nil) (fun _ _ _ _ _ => (pv_bin od_sub (pv_bin od_mod (pv_cty cd_int T.g_int (pl_cons (pv_ix (pv_var 5) (pv_var 9)) pl_nil)) pv_int) pv_int)) (sw_true rfl rfl rfl (by decide +kernel)))) psv_nil)
      (psv_one (psv_ret [6] (pv_call D__law_answered hr (pl_cons (pv_var 6) (pl_cons (pv_var 2) pl_nil))))))))))))))))
theorem sc__law_sum_at : FnScope N__law_sum_at ["sums", "place"] (defScope s__law_sum_at) := ⟨rfl, rfl, rfl, by decide +kernel, rfl, by decide +kernel, by decide +kernel⟩
theorem ok__law_sum_at {f : Addr} {fd : FuncData} (T : Glob P w K mg)  (F : FnP K "_law_sum_at" s__law_sum_at f fd) (hm : mg "_law_sum_at" = some (.ref f)) (hb : L2.Binds K fd ["sums", "place"] []) : Def P w K mg base "_law_sum_at" 1 2 r__law_sum_at := def_okD (ps := ["sums", "place"]) (body := m__law_sum_at) F sc__law_sum_at hm hb fun cdv A outer s H E hr =>
    (psv_cons (psv_set [] 2 sc__law_sum_at.nd pv_int)
      (psv_cons (psv_set [] 3 sc__law_sum_at.nd pv_int)
      (psv_cons (psv_forR [] (pir_range1 T.g_range (pl_cons pv_int pl_nil)) (pt_name 4 sc__law_sum_at.nd) (psv_cons (psv_if [] (pb_cmp od_lt (pv_var 4) (pv_cb cd_len T.g_len (pl_cons (pv_ix (pv_var 0) pv_int) pl_nil)) (nomark _)) (psv_one (psv_set [] 2 sc__law_sum_at.nd (pv_bin od_add (pv_var 2) (pv_bin od_mul (pv_ix (pv_ix (pv_var 0) pv_int) (pv_var 4)) (pv_var 3))))) psv_nil)
      (psv_cons (psv_if [] (pb_cmp od_lt (pv_var 4) (pv_cb cd_len T.g_len (pl_cons (pv_ix (pv_var 0) pv_int) pl_nil)) (nomark _)) (psv_one (psv_set [] 2 sc__law_sum_at.nd (pv_bin od_sub (pv_var 2) (pv_bin od_mul (pv_ix (pv_ix (pv_var 0) pv_int) (pv_var 4)) (pv_var 3))))) psv_nil)
      (psv_one (psv_set [] 3 sc__law_sum_at.nd (pv_bin od_mul (pv_var 3) (pv_var 1)))))))
      (psv_one (psv_ret [] (pv_var 2))))))
theorem sc__law_twin : FnScope N__law_twin ["row", "plus", "minus"] (defScope s__law_twin) := ⟨rfl, rfl, rfl, by decide +kernel, rfl, by decide +kernel, by decide +kernel⟩
theorem ok__law_twin {f : Addr} {fd : FuncData} (T : Glob P w K mg)  (F : FnP K "_law_twin" s__law_twin f fd) (hm : mg "_law_twin" = some (.ref f)) (hb : L2.Binds K fd ["row", "plus", "minus"] []) : Def P w K mg base "_law_twin" 1 3 r__law_twin := def_okD (ps := ["row", "plus", "minus"]) (body := m__law_twin) F sc__law_twin hm hb fun cdv A outer s H E hr =>
    (psv_cons (psv_setO [] 3 sc__law_twin.nd (pf_cty cf_list T.g_list (pl_cons (pv_var 1) pl_nil)))
      (psv_cons (psv_setO [] 4 sc__law_twin.nd (pf_cty cf_list T.g_list (pl_cons (pv_var 2) pl_nil)))
      (psv_cons (psv_if [] (pb_cmp (od_eq hr.units) (pv_ix (pv_var 0) pv_int) pv_int (nomark _)) (psv_one (psv_forR [3, 4] (pir_range1 T.g_range (pl_cons (pv_cb cd_min2 T.g_min (pl_cons (pv_cb cd_len T.g_len (pl_cons (pv_var 3) pl_nil)) (pl_cons (pv_cb cd_len T.g_len (pl_cons (pv_var 4) pl_nil)) pl_nil))) pl_nil)) (pt_name 5 sc__law_twin.nd) (psv_cons (psv_put [3] 3 (pv_bin od_add (pv_ix (pv_var 3) (pv_var 5)) (pv_ix (pv_var 0) (pv_bin od_add pv_int (pv_var 5)))) (pv_var 5))
      (psv_one (psv_put [4] 4 (pv_bin od_add (pv_ix (pv_var 4) (pv_var 5)) (pv_ix (pv_var 0) (pv_bin od_add pv_int (pv_var 5)))) (pv_var 5)))))) psv_nil)
      (psv_cons (psv_if [] (pb_cmp (od_eq hr.units) (pv_ix (pv_var 0) pv_int) pv_int (nomark _)) (psv_cons (psv_setO [3] 3 sc__law_twin.nd (pf_cat (pv_var 3) (pv_of_pf (pf_rep (pf_lst (pl_cons pv_int pl_nil)) (pv_ix (pv_var 0) pv_int)))))
      (psv_one (psv_setO [4] 4 sc__law_twin.nd (pf_cat (pv_var 4) (pv_of_pf (pf_rep (pf_lst (pl_cons pv_int pl_nil)) (pv_bin od_add pv_int (pv_ix (pv_var 0) pv_int)))))))) psv_nil)
      (psv_cons (psv_if [] (pb_cmp (od_eq hr.units) (pv_ix (pv_var 0) pv_int) pv_int (nomark _)) (psv_one (psv_setO [3] 3 sc__law_twin.nd (pf_cat (pv_var 3) (pv_of_pf (pf_lst (pl_cons (pv_bin od_add (pv_ix (pv_var 0) pv_int) pv_int) pl_nil)))))) psv_nil)
      (psv_cons (psv_if [3] (pb_w (pbw_and (pb_cmp (od_eq hr.units) (pv_ix (pv_var 0) pv_int) pv_int (nomark _)) (pbw_and1 (pb_cmp od_gt (pv_cb cd_len T.g_len (pl_cons (pv_var 3) pl_nil)) pv_int (nomark _))))) (psv_one (psv_put [3] 3 (pv_ix (pv_var 0) pv_int) (pv_bin od_mod (pv_cty cd_int T.g_int (pl_cons (pv_ix (pv_var 0) pv_int) pl_nil)) (pv_cb cd_len T.g_len (pl_cons (pv_var 3) pl_nil))))) psv_nil)
      (psv_cons (psv_if [] (pb_cmp (od_eq hr.units) (pv_ix (pv_var 0) pv_int) pv_int (nomark _)) (psv_cons (psv_setO [] 3 sc__law_twin.nd (pf_cty cf_list T.g_list (pl_cons (pv_slice (pv_var 0) (pov_some pv_int) (pov_some pv_int)) pl_nil)))
      (psv_one (psv_setO [] 4 sc__law_twin.nd (pf_cty cf_list T.g_list (pl_cons (pv_slice (pv_var 0) (pov_some pv_int) (pov_some pv_int)) pl_nil))))) psv_nil)
      (psv_one (psv_ret [3, 4] (pv_of_pf (pf_lst (pl_cons (pv_var 3) (pl_cons (pv_var 4) pl_nil)))))))))))))
theorem sc__law_whole_sign : FnScope N__law_whole_sign ["value"] (defScope s__law_whole_sign) := ⟨rfl, rfl, rfl, by decide +kernel, rfl, by decide +kernel, by decide +kernel⟩
theorem ok__law_whole_sign {f : Addr} {fd : FuncData} (T : Glob P w K mg)  (F : FnP K "_law_whole_sign" s__law_whole_sign f fd) (hm : mg "_law_whole_sign" = some (.ref f)) (hb : L2.Binds K fd ["value"] []) : Def P w K mg base "_law_whole_sign" 1 1 r__law_whole_sign := def_okD (ps := ["value"]) (body := m__law_whole_sign) F sc__law_whole_sign hm hb fun cdv A outer s H E hr =>
    (psv_one (psv_ret [] (pv_and (pv_isi "int" (pv_var 0) T.g_isinstance T.g_int) (pv_one (pv_not (pv_isi "bool" (pv_var 0) T.g_isinstance T.g_bool))))))
theorem sc_fooling_sum : FnScope N_fooling_sum ["count"] (defScope s_fooling_sum) := ⟨rfl, rfl, rfl, by decide +kernel, rfl, by decide +kernel, by decide +kernel⟩
theorem ok_fooling_sum {f : Addr} {fd : FuncData} (T : Glob P w K mg) (D_parted : Def P w K mg base "parted" 1 1 r_parted) (D_times_less : Def P w K mg base "times_less" 1 2 r_times_less) (F : FnP K "fooling_sum" s_fooling_sum f fd) (hm : mg "fooling_sum" = some (.ref f)) (hb : L2.Binds K fd ["count"] []) : Def P w K mg base "fooling_sum" 2 1 r_fooling_sum := def_okD (ps := ["count"]) (body := m_fooling_sum) F sc_fooling_sum hm hb fun cdv A outer s H E hr =>
    (psv_cons (psv_set [] 1 sc_fooling_sum.nd (pv_of_pf (pf_lst (pl_cons pv_int pl_nil))))
      (psv_cons (psv_forR [] (pir_range1 T.g_range (pl_cons (pv_var 0) pl_nil)) (pt_name 2 sc_fooling_sum.nd) (psv_one (psv_set [] 1 sc_fooling_sum.nd (pv_call D_times_less hr (pl_cons (pv_var 1) (pl_cons (pv_var 2) pl_nil))))))
      (psv_one (psv_ret [] (pv_call D_parted hr (pl_cons (pv_var 1) pl_nil))))))
theorem sc_entry : FnScope N_entry ["row", "index"] (defScope s_entry) := ⟨rfl, rfl, rfl, by decide +kernel, rfl, by decide +kernel, by decide +kernel⟩
theorem ok_entry {f : Addr} {fd : FuncData} (T : Glob P w K mg)  (F : FnP K "entry" s_entry f fd) (hm : mg "entry" = some (.ref f)) (hb : L2.Binds K fd ["row", "index"] []) : Def P w K mg base "entry" 1 2 r_entry := def_okD (ps := ["row", "index"]) (body := m_entry) F sc_entry hm hb fun cdv A outer s H E hr =>
    (psv_cons (psv_if [] (pb_cmp od_lt (pv_var 1) (pv_cb cd_len T.g_len (pl_cons (pv_var 0) pl_nil)) (nomark _)) (psv_one (psv_ret [] (pv_ix (pv_var 0) (pv_var 1)))) psv_nil)
      (psv_one (psv_ret [] pv_int)))
theorem sc_coefficients : FnScope N_coefficients ["sums"] (defScope s_coefficients) := ⟨rfl, rfl, rfl, by decide +kernel, rfl, by decide +kernel, by decide +kernel⟩
theorem ok_coefficients {f : Addr} {fd : FuncData} (T : Glob P w K mg) (D_entry : Def P w K mg base "entry" 1 2 r_entry) (F : FnP K "coefficients" s_coefficients f fd) (hm : mg "coefficients" = some (.ref f)) (hb : L2.Binds K fd ["sums"] []) : Def P w K mg base "coefficients" 2 1 r_coefficients := def_okD (ps := ["sums"]) (body := m_coefficients) F sc_coefficients hm hb fun cdv A outer s H E hr =>
    (psv_cons (psv_asgT [] (pv_var 0) (pt_tup 2 (pts_cons1 (pt_name 1 sc_coefficients.nd) (pts_cons1 (pt_name 2 sc_coefficients.nd) pts_nil1))))
      (psv_one (psv_ret [] (pv_of_pf (pf_lc (x := "index") 3 sc_coefficients.nd (piv_of_pir (pir_range1 T.g_range (pl_cons (pv_cb cd_max2 T.g_max (pl_cons (pv_cb cd_len T.g_len (pl_cons (pv_var 1) pl_nil)) (pl_cons (pv_cb cd_len T.g_len (pl_cons (pv_var 2) pl_nil)) pl_nil))) pl_nil))) (show blkC N_coefficients (defScope s_coefficients) _ [("index", 3)] = true by decide +kernel) (fun _ _ _ _ _ => pg_name (i := 3) sc_coefficients.nd rfl (Or.inl rfl)) (fun _ _ _ _ _ => ptv_nil) (fun _ _ _ _ _ => (pv_bin od_sub (pv_call D_entry hr (pl_cons (pv_var 1) (pl_cons (pv_var 3) pl_nil))) (pv_call D_entry hr (pl_cons (pv_var 2) (pl_cons (pv_var 3) pl_nil))))))))))
theorem sc_sum_at : FnScope N_sum_at ["sums", "place"] (defScope s_sum_at) := ⟨rfl, rfl, rfl, by decide +kernel, rfl, by decide +kernel, by decide +kernel⟩
theorem ok_sum_at {f : Addr} {fd : FuncData} (T : Glob P w K mg) (D_coefficients : Def P w K mg base "coefficients" 2 1 r_coefficients) (F : FnP K "sum_at" s_sum_at f fd) (hm : mg "sum_at" = some (.ref f)) (hb : L2.Binds K fd ["sums", "place"] []) : Def P w K mg base "sum_at" 3 2 r_sum_at := def_okD (ps := ["sums", "place"]) (body := m_sum_at) F sc_sum_at hm hb fun cdv A outer s H E hr =>
    (psv_cons (psv_set [] 2 sc_sum_at.nd pv_int)
      (psv_cons (psv_for [] (piv_rev (pv_call D_coefficients hr (pl_cons (pv_var 0) pl_nil)) T.g_reversed) (pt_name 3 sc_sum_at.nd) (psv_one (psv_set [] 2 sc_sum_at.nd (pv_bin od_add (pv_bin od_mul (pv_var 2) (pv_var 1)) (pv_var 3)))))
      (psv_one (psv_ret [] (pv_var 2)))))
theorem sc_shortened : FnScope N_shortened ["row"] (defScope s_shortened) := ⟨rfl, rfl, rfl, by decide +kernel, rfl, by decide +kernel, by decide +kernel⟩
theorem ok_shortened {f : Addr} {fd : FuncData} (T : Glob P w K mg)  (F : FnP K "shortened" s_shortened f fd) (hm : mg "shortened" = some (.ref f)) (hb : L2.Binds K fd ["row"] []) : Def P w K mg base "shortened" 1 1 r_shortened := def_okD (ps := ["row"]) (body := m_shortened) F sc_shortened hm hb fun cdv A outer s H E hr =>
    (psv_cons (psv_set [] 1 sc_shortened.nd (pv_cb cd_len T.g_len (pl_cons (pv_var 0) pl_nil)))
      (psv_cons (psv_while [] (pb_w (pbw_and (pb_cmp od_gt (pv_var 1) pv_int (nomark _)) (pbw_and1 (pb_cmp (od_eq hr.units) (pv_ix (pv_var 0) (pv_bin od_sub (pv_var 1) pv_int)) pv_int (nomark _))))) (psv_one (psv_aug od_isub [] 1 sc_shortened.nd pv_int)))
      (psv_one (psv_ret [] (pv_slice (pv_var 0) pov_none (pov_some (pv_var 1)))))))
theorem sc_sum_same : FnScope N_sum_same ["one", "two"] (defScope s_sum_same) := ⟨rfl, rfl, rfl, by decide +kernel, rfl, by decide +kernel, by decide +kernel⟩
theorem ok_sum_same {f : Addr} {fd : FuncData} (T : Glob P w K mg) (D_coefficients : Def P w K mg base "coefficients" 2 1 r_coefficients) (D_shortened : Def P w K mg base "shortened" 1 1 r_shortened) (F : FnP K "sum_same" s_sum_same f fd) (hm : mg "sum_same" = some (.ref f)) (hb : L2.Binds K fd ["one", "two"] []) : Def P w K mg base "sum_same" 3 2 r_sum_same := def_okD (ps := ["one", "two"]) (body := m_sum_same) F sc_sum_same hm hb fun cdv A outer s H E hr =>
    (psv_one (psv_ret [] (pv_cmp (od_eq hr.units) (pv_call D_shortened hr (pl_cons (pv_call D_coefficients hr (pl_cons (pv_var 0) pl_nil)) pl_nil)) (pv_call D_shortened hr (pl_cons (pv_call D_coefficients hr (pl_cons (pv_var 1) pl_nil)) pl_nil)) (nomark _))))
theorem sc_law : FnScope N_law ["script"] (defScope s_law) := ⟨rfl, rfl, rfl, by decide +kernel, rfl, by decide +kernel, by decide +kernel⟩
theorem ok_law {f : Addr} {fd : FuncData} (T : Glob P w K mg) (D__law_cell : Def P w K mg base "_law_cell" 1 2 r__law_cell) (D__law_digits : Def P w K mg base "_law_digits" 1 2 r__law_digits) (D__law_is : Def P w K mg base "_law_is" 1 2 r__law_is) (D__law_lengths : Def P w K mg base "_law_lengths" 4 1 r__law_lengths) (D__law_sum_at : Def P w K mg base "_law_sum_at" 1 2 r__law_sum_at) (D__law_twin : Def P w K mg base "_law_twin" 1 3 r__law_twin) (D__law_whole : Def P w K mg base "_law_whole" 1 1 r__law_whole) (D__law_whole_sign : Def P w K mg base "_law_whole_sign" 1 1 r__law_whole_sign) (D_fooling_sum : Def P w K mg base "fooling_sum" 2 1 r_fooling_sum) (D_sum_at : Def P w K mg base "sum_at" 3 2 r_sum_at) (D_sum_same : Def P w K mg base "sum_same" 3 2 r_sum_same) (F : FnP K "law" s_law f fd) : FnOk P w K mg base CX0 5 f fd ["script"] (spM K 1 r_law) := fn_okD (ps := ["script"]) (body := m_law) F sc_law fun cdv A outer s H E hr =>
    (psv_cons (psv_set [] 1 sc_law.nd (pv_call D__law_digits hr (pl_cons (pv_call D__law_cell hr (pl_cons (pv_var 0) (pl_cons pv_int pl_nil))) (pl_cons (pv_of_pf (pf_lst (pl_cons pv_int (pl_cons pv_int (pl_cons pv_int (pl_cons pv_int pl_nil)))))) pl_nil))))
      (psv_cons (psv_set [] 2 sc_law.nd (pv_ix (pv_of_pf (pf_lst (pl_cons pv_int (pl_cons pv_int (pl_cons (pv_bin od_add (pv_bin od_pow pv_int pv_int) pv_int) (pl_cons pv_int pl_nil)))))) (pv_ix (pv_var 1) pv_int)))
      (psv_cons (psv_set [] 3 sc_law.nd (pv_slice (pv_call D__law_digits hr (pl_cons (pv_call D__law_cell hr (pl_cons (pv_var 0) (pl_cons pv_int pl_nil))) (pl_cons (pv_of_pf (pf_rep (pf_lst (pl_cons (pv_var 2) pl_nil)) pv_int)) pl_nil))) pov_none (pov_some (pv_ix (pv_var 1) pv_int))))
      (psv_cons (psv_set [] 4 sc_law.nd (pv_slice (pv_call D__law_digits hr (pl_cons (pv_call D__law_cell hr (pl_cons (pv_var 0) (pl_cons pv_int pl_nil))) (pl_cons (pv_of_pf (pf_rep (pf_lst (pl_cons (pv_var 2) pl_nil)) pv_int)) pl_nil))) pov_none (pov_some (pv_ix (pv_var 1) pv_int))))
      (psv_cons (psv_lc (x := "value") [] 3 16 sc_law.nd (piv_seq (pv_var 3)) (show blkC N_law (defScope s_law) _ [("value", 16)] = true by decide +kernel) (fun _ _ _ _ _ => pg_name (i := 16) sc_law.nd rfl (Or.inl rfl)) (fun _ _ _ _ _ => ptv_nil) (fun _ _ _ _ _ => (pv_bin od_mod (pv_cty cd_int T.g_int (pl_cons (pv_var 16) pl_nil)) (pv_var 2))) (sw_true rfl rfl rfl (by decide +kernel)))
      (psv_cons (psv_set [] 5 sc_law.nd (pv_call D__law_twin hr (pl_cons (pv_call D__law_digits hr (pl_cons (pv_call D__law_cell hr (pl_cons (pv_var 0) (pl_cons pv_int pl_nil))) (pl_cons (pv_bin od_add (pv_of_pf (pf_lst (pl_cons pv_int pl_nil))) (pv_of_pf (pf_rep (pf_lst (pl_cons pv_int pl_nil)) pv_int))) pl_nil))) (pl_cons (pv_var 3) (pl_cons (pv_var 4) pl_nil)))))
      (psv_cons (psv_set [] 6 sc_law.nd (pv_cb cd_max4 T.g_max (pl_cons (pv_cb cd_len T.g_len (pl_cons (pv_var 3) pl_nil)) (pl_cons (pv_cb cd_len T.g_len (pl_cons (pv_var 4) pl_nil)) (pl_cons (pv_cb cd_len T.g_len (pl_cons (pv_ix (pv_var 5) pv_int) pl_nil)) (pl_cons (pv_cb cd_len T.g_len (pl_cons (pv_ix (pv_var 5) pv_int) pl_nil)) pl_nil))))))
      (psv_cons (psv_set [] 7 sc_law.nd pv_bl)
      (psv_cons (psv_forR [] (pir_range1 T.g_range (pl_cons (pv_bin od_add (pv_var 6) pv_int) pl_nil)) (pt_name 8 sc_law.nd) (psv_cons (psv_set [] 12 sc_law.nd (pv_call D_sum_at hr (pl_cons (pv_tup (pl_cons (pv_of_pf (pf_cty cf_list T.g_list (pl_cons (pv_var 3) pl_nil))) (pl_cons (pv_cty cd_tuple T.g_tuple (pl_cons (pv_var 4) pl_nil)) pl_nil))) (pl_cons (pv_var 8) pl_nil))))
      (psv_cons (psv_set [] 13 sc_law.nd (pv_call D_sum_at hr (pl_cons (pv_var 5) (pl_cons (pv_var 8) pl_nil))))
      (psv_cons (psv_if [] (pb_w (pbw_or (pb_not (pb_truth (pv_call D__law_whole_sign hr (pl_cons (pv_var 12) pl_nil)))) (pbw_or1 (pb_not (pb_truth (pv_call D__law_whole_sign hr (pl_cons (pv_var 13) pl_nil))))))) (psv_one (psv_ret [] pv_bl)) psv_nil)
      (psv_cons (psv_if [] (pb_w (pbw_or (pb_cmp (od_ne hr.units) (pv_var 12) (pv_call D__law_sum_at hr (pl_cons (pv_of_pf (pf_lst (pl_cons (pv_var 3) (pl_cons (pv_var 4) pl_nil)))) (pl_cons (pv_var 8) pl_nil))) (nomark _)) (pbw_or1 (pb_cmp (od_ne hr.units) (pv_var 13) (pv_call D__law_sum_at hr (pl_cons (pv_var 5) (pl_cons (pv_var 8) pl_nil))) (nomark _))))) (psv_one (psv_ret [] pv_bl)) psv_nil)
      (psv_one (psv_if [] (pb_w (pbw_and (pb_cmp od_lt (pv_var 8) (pv_var 6) (nomark _)) (pbw_and1 (pb_cmp (od_ne hr.units) (pv_var 12) (pv_var 13) (nomark _))))) (psv_one (psv_set [] 7 sc_law.nd pv_bl)) psv_nil)))))))
      (psv_cons (psv_if [] (pb_not (pb_truth (pv_call D__law_is hr (pl_cons (pv_call D_sum_same hr (pl_cons (pv_tup (pl_cons (pv_var 3) (pl_cons (pv_var 4) pl_nil))) (pl_cons (pv_tup (pl_cons (pv_cty cd_tuple T.g_tuple (pl_cons (pv_ix (pv_var 5) pv_int) pl_nil)) (pl_cons (pv_cty cd_tuple T.g_tuple (pl_cons (pv_ix (pv_var 5) pv_int) pl_nil)) pl_nil))) pl_nil))) (pl_cons (pv_var 7) pl_nil))))) (psv_one (psv_ret [] pv_bl)) psv_nil)
      (psv_cons (psv_set [] 9 sc_law.nd (pv_ix (pv_var 1) pv_int))
      (psv_cons (psv_set [] 10 sc_law.nd (pv_call D_fooling_sum hr (pl_cons (pv_var 9) pl_nil)))
      (psv_cons (psv_if [] (pb_w (pbw_or (pb_not (pb_truth (pv_isi "tuple" (pv_var 10) T.g_isinstance T.g_tuple))) (pbw_or (pb_cmp (od_ne hr.units) (pv_cb cd_len T.g_len (pl_cons (pv_var 10) pl_nil)) pv_int (nomark _)) (pbw_or (pb_cmp (od_ne hr.units) (pv_cb cd_len T.g_len (pl_cons (pv_ix (pv_var 10) pv_int) pl_nil)) (pv_bin od_add (pv_var 9) pv_int) (nomark _)) (pbw_or1 (pb_cmp (od_ne hr.units) (pv_cb cd_len T.g_len (pl_cons (pv_ix (pv_var 10) pv_int) pl_nil)) (pv_bin od_add (pv_var 9) pv_int) (nomark _))))))) (psv_one (psv_ret [] pv_bl)) psv_nil)
      (psv_cons (psv_forR [] (pir_range1 T.g_range (pl_cons (pv_bin od_add (pv_var 9) pv_int) pl_nil)) (pt_name 11 sc_law.nd) (psv_one (psv_if [] (pb_w (pbw_or (pb_not (pb_truth (pv_call D__law_whole hr (pl_cons (pv_ix (pv_ix (pv_var 10) pv_int) (pv_var 11)) pl_nil)))) (pbw_or (pb_not (pb_truth (pv_call D__law_whole hr (pl_cons (pv_ix (pv_ix (pv_var 10) pv_int) (pv_var 11)) pl_nil)))) (pbw_or1 (pb_cmp (od_ne hr.units) (pv_cb cd_min2 T.g_min (pl_cons (pv_ix (pv_ix (pv_var 10) pv_int) (pv_var 11)) (pl_cons (pv_ix (pv_ix (pv_var 10) pv_int) (pv_var 11)) pl_nil))) pv_int (nomark _)))))) (psv_one (psv_ret [] pv_bl)) psv_nil)))
      (psv_cons (psv_forR [] (pir_range1 T.g_range (pl_cons (pv_bin od_add (pv_var 9) pv_int) pl_nil)) (pt_name 8 sc_law.nd) (psv_cons (psv_set [] 14 sc_law.nd pv_int)
      (psv_cons (psv_forR [] (pir_range1 T.g_range (pl_cons (pv_var 9) pl_nil)) (pt_name 15 sc_law.nd) (psv_one (psv_set [] 14 sc_law.nd (pv_bin od_mul (pv_var 14) (pv_bin od_sub (pv_var 8) (pv_var 15))))))
      (psv_one (psv_if [] (pb_w (pbw_or (pb_cmp (od_ne hr.units) (pv_call D__law_sum_at hr (pl_cons (pv_var 10) (pl_cons (pv_var 8) pl_nil))) (pv_var 14) (nomark _)) (pbw_or1 (pb_cmp (od_ne hr.units) (pv_call D_sum_at hr (pl_cons (pv_var 10) (pl_cons (pv_var 8) pl_nil))) (pv_var 14) (nomark _))))) (psv_one (psv_ret [] pv_bl)) psv_nil)))))
      (psv_cons (psv_if [] (pb_w (pbw_or (pb_cmp od_isNot (pv_call D_sum_same hr (pl_cons (pv_var 10) (pl_cons (pv_tup (pl_cons (pv_tup pl_nil) (pl_cons (pv_tup pl_nil) pl_nil))) pl_nil))) pv_bl (nomark _)) (pbw_or1 (pb_cmp od_isNot (pv_call D_sum_same hr (pl_cons (pv_var 10) (pl_cons (pv_call D_fooling_sum hr (pl_cons (pv_var 9) pl_nil)) pl_nil))) pv_bl (nomark _))))) (psv_one (psv_ret [] pv_bl)) psv_nil)
      (psv_one (psv_ret [] (pv_call D__law_lengths hr (pl_cons (pv_var 0) pl_nil))))))))))))))))))))
end
end LW
set_option Elab.async false
set_option linter.all false
set_option maxRecDepth 100000
set_option maxHeartbeats 4000000
set_option maxHeartbeats 0
namespace LW
open PySem PySem.Spec PyProof.Rows L2 VE
/-! ### the head -/
def fns : List He.DefD := [⟨("_law_cell", none), "_law_cell", "_law_cell", defArgs s__law_cell, defBody s__law_cell, defScope s__law_cell, [], []⟩,
  ⟨("_law_digits", none), "_law_digits", "_law_digits", defArgs s__law_digits, defBody s__law_digits, defScope s__law_digits, [], []⟩,
  ⟨("_law_is", none), "_law_is", "_law_is", defArgs s__law_is, defBody s__law_is, defScope s__law_is, [], []⟩,
  ⟨("_law_are_whole", none), "_law_are_whole", "_law_are_whole", defArgs s__law_are_whole, defBody s__law_are_whole, defScope s__law_are_whole, [], []⟩,
  ⟨("_law_row_at", none), "_law_row_at", "_law_row_at", defArgs s__law_row_at, defBody s__law_row_at, defScope s__law_row_at, [], []⟩,
  ⟨("_law_whole", none), "_law_whole", "_law_whole", defArgs s__law_whole, defBody s__law_whole, defScope s__law_whole, [], []⟩,
  ⟨("differences", none), "differences", "differences", defArgs s_differences, defBody s_differences, defScope s_differences, [], []⟩,
  ⟨("parted", none), "parted", "parted", defArgs s_parted, defBody s_parted, defScope s_parted, [], []⟩,
  ⟨("times_less", none), "times_less", "times_less", defArgs s_times_less, defBody s_times_less, defScope s_times_less, [], []⟩,
  ⟨("sum_of_answers", none), "sum_of_answers", "sum_of_answers", defArgs s_sum_of_answers, defBody s_sum_of_answers, defScope s_sum_of_answers, [], []⟩,
  ⟨("_law_answered", none), "_law_answered", "_law_answered", defArgs s__law_answered, defBody s__law_answered, defScope s__law_answered, [], []⟩,
  ⟨("_law_lengths", none), "_law_lengths", "_law_lengths", defArgs s__law_lengths, defBody s__law_lengths, defScope s__law_lengths, [], []⟩,
  ⟨("_law_sum_at", none), "_law_sum_at", "_law_sum_at", defArgs s__law_sum_at, defBody s__law_sum_at, defScope s__law_sum_at, [], []⟩,
  ⟨("_law_twin", none), "_law_twin", "_law_twin", defArgs s__law_twin, defBody s__law_twin, defScope s__law_twin, [], []⟩,
  ⟨("_law_whole_sign", none), "_law_whole_sign", "_law_whole_sign", defArgs s__law_whole_sign, defBody s__law_whole_sign, defScope s__law_whole_sign, [], []⟩,
  ⟨("fooling_sum", none), "fooling_sum", "fooling_sum", defArgs s_fooling_sum, defBody s_fooling_sum, defScope s_fooling_sum, [], []⟩,
  ⟨("entry", none), "entry", "entry", defArgs s_entry, defBody s_entry, defScope s_entry, [], []⟩,
  ⟨("coefficients", none), "coefficients", "coefficients", defArgs s_coefficients, defBody s_coefficients, defScope s_coefficients, [], []⟩,
  ⟨("sum_at", none), "sum_at", "sum_at", defArgs s_sum_at, defBody s_sum_at, defScope s_sum_at, [], []⟩,
  ⟨("shortened", none), "shortened", "shortened", defArgs s_shortened, defBody s_shortened, defScope s_shortened, [], []⟩,
  ⟨("sum_same", none), "sum_same", "sum_same", defArgs s_sum_same, defBody s_sum_same, defScope s_sum_same, [], []⟩,
  ⟨("law", none), "law", "law", defArgs s_law, defBody s_law, defScope s_law, [], []⟩]
def fas : List He.Fa := [.glo "_law_cell", .glo "_law_digits", .glo "_law_is", .glo "_law_are_whole", .glo "_law_row_at", .glo "_law_whole", .glo "differences", .glo "parted", .glo "times_less", .glo "sum_of_answers", .glo "_law_answered", .glo "_law_lengths", .glo "_law_sum_at", .glo "_law_twin", .glo "_law_whole_sign", .glo "fooling_sum", .glo "entry", .glo "coefficients", .glo "sum_at", .glo "shortened", .glo "sum_same", .glo "law", .free "bool", .free "enumerate", .free "int", .free "isinstance", .free "len", .free "list", .free "max", .free "min", .free "range", .free "reversed", .free "str", .free "tuple", .free "zip"]
abbrev R : PySem.W.OpenRow := PySem.W.OpenLaw.row PySem.Challenge.rw_onlylength_k77_sums_whole
abbrev hk : PySem.W.Hook := He.hookD 4 fas fns
def ob (s : PySem.W.SharedT) : He.AlD := He.obsDG 4 fas fns (HandSHeadRun.getT s)
theorem ob_eq (s : PySem.W.SharedT) : ob s = hk.obs s.abs := He.obsDG_eq (HandSHeadRun.getT_eq s)
def names0 : List Str := ["entry", "coefficients", "sum_at", "shortened", "sum_same", "parted", "times_less", "fooling_sum", "differences", "sum_of_answers", "_law_whole", "_law_cell", "_law_digits", "_law_is", "_law_sum_at", "_law_twin", "_law_whole_sign", "_law_row_at", "_law_are_whole", "_law_answered", "_law_lengths"]
abbrev names : List Str := names0
theorem run (w : World) : HandSHeadRun.RunEq R (PySem.W.view R.prog [23]) hk ob 1840 names w := by
  intro os
  kernel_rfl
theorem facts {P : Program} {w : World} {K : PySem.W.Frag} {h : Heap} {mg : Str → Option Value} {f : Addr} (ht : P.given.tree = none) (X : K.In h) (G : h.Ns mainGlobals mg) (hfa : mg ("law" : Str) = some (.ref f)) (cc : He.SaysD fas fns K) :
    ∃ fd : FuncData, (∀ (s : Shared) (v : Value), BindsTo s fd ⟨[v], []⟩ [("script", v)]) ∧ ∀ base : Heap, K.In base → base.Ns mainGlobals mg → FnOk P w K mg base CX0 5 f fd ["script"] (spM K 1 r_law) := by
  have c : He.SaysD fas fns K := cc
  have T : Glob P w K mg := ⟨He.free_ok X G (c.fact 22 (f := .free "bool") rfl), He.free_ok X G (c.fact 23 (f := .free "enumerate") rfl), He.free_ok X G (c.fact 24 (f := .free "int") rfl), He.free_ok X G (c.fact 25 (f := .free "isinstance") rfl), He.free_ok X G (c.fact 26 (f := .free "len") rfl), He.free_ok X G (c.fact 27 (f := .free "list") rfl), He.free_ok X G (c.fact 28 (f := .free "max") rfl), He.free_ok X G (c.fact 29 (f := .free "min") rfl), He.free_ok X G (c.fact 30 (f := .free "range") rfl), He.free_ok X G (c.fact 31 (f := .free "reversed") rfl), He.free_ok X G (c.fact 32 (f := .free "str") rfl), He.free_ok X G (c.fact 33 (f := .free "tuple") rfl), He.free_ok X G (c.fact 34 (f := .free "zip") rfl), trivial⟩
  obtain ⟨fd__law_cell, F__law_cell⟩ := c.def_ 0 (d := ⟨("_law_cell", none), "_law_cell", "_law_cell", defArgs s__law_cell, defBody s__law_cell, defScope s__law_cell, [], []⟩) rfl
  obtain ⟨fd__law_digits, F__law_digits⟩ := c.def_ 1 (d := ⟨("_law_digits", none), "_law_digits", "_law_digits", defArgs s__law_digits, defBody s__law_digits, defScope s__law_digits, [], []⟩) rfl
  obtain ⟨fd__law_is, F__law_is⟩ := c.def_ 2 (d := ⟨("_law_is", none), "_law_is", "_law_is", defArgs s__law_is, defBody s__law_is, defScope s__law_is, [], []⟩) rfl
  obtain ⟨fd__law_are_whole, F__law_are_whole⟩ := c.def_ 3 (d := ⟨("_law_are_whole", none), "_law_are_whole", "_law_are_whole", defArgs s__law_are_whole, defBody s__law_are_whole, defScope s__law_are_whole, [], []⟩) rfl
  obtain ⟨fd__law_row_at, F__law_row_at⟩ := c.def_ 4 (d := ⟨("_law_row_at", none), "_law_row_at", "_law_row_at", defArgs s__law_row_at, defBody s__law_row_at, defScope s__law_row_at, [], []⟩) rfl
  obtain ⟨fd__law_whole, F__law_whole⟩ := c.def_ 5 (d := ⟨("_law_whole", none), "_law_whole", "_law_whole", defArgs s__law_whole, defBody s__law_whole, defScope s__law_whole, [], []⟩) rfl
  obtain ⟨fd_differences, F_differences⟩ := c.def_ 6 (d := ⟨("differences", none), "differences", "differences", defArgs s_differences, defBody s_differences, defScope s_differences, [], []⟩) rfl
  obtain ⟨fd_parted, F_parted⟩ := c.def_ 7 (d := ⟨("parted", none), "parted", "parted", defArgs s_parted, defBody s_parted, defScope s_parted, [], []⟩) rfl
  obtain ⟨fd_times_less, F_times_less⟩ := c.def_ 8 (d := ⟨("times_less", none), "times_less", "times_less", defArgs s_times_less, defBody s_times_less, defScope s_times_less, [], []⟩) rfl
  obtain ⟨fd_sum_of_answers, F_sum_of_answers⟩ := c.def_ 9 (d := ⟨("sum_of_answers", none), "sum_of_answers", "sum_of_answers", defArgs s_sum_of_answers, defBody s_sum_of_answers, defScope s_sum_of_answers, [], []⟩) rfl
  obtain ⟨fd__law_answered, F__law_answered⟩ := c.def_ 10 (d := ⟨("_law_answered", none), "_law_answered", "_law_answered", defArgs s__law_answered, defBody s__law_answered, defScope s__law_answered, [], []⟩) rfl
  obtain ⟨fd__law_lengths, F__law_lengths⟩ := c.def_ 11 (d := ⟨("_law_lengths", none), "_law_lengths", "_law_lengths", defArgs s__law_lengths, defBody s__law_lengths, defScope s__law_lengths, [], []⟩) rfl
  obtain ⟨fd__law_sum_at, F__law_sum_at⟩ := c.def_ 12 (d := ⟨("_law_sum_at", none), "_law_sum_at", "_law_sum_at", defArgs s__law_sum_at, defBody s__law_sum_at, defScope s__law_sum_at, [], []⟩) rfl
  obtain ⟨fd__law_twin, F__law_twin⟩ := c.def_ 13 (d := ⟨("_law_twin", none), "_law_twin", "_law_twin", defArgs s__law_twin, defBody s__law_twin, defScope s__law_twin, [], []⟩) rfl
  obtain ⟨fd__law_whole_sign, F__law_whole_sign⟩ := c.def_ 14 (d := ⟨("_law_whole_sign", none), "_law_whole_sign", "_law_whole_sign", defArgs s__law_whole_sign, defBody s__law_whole_sign, defScope s__law_whole_sign, [], []⟩) rfl
  obtain ⟨fd_fooling_sum, F_fooling_sum⟩ := c.def_ 15 (d := ⟨("fooling_sum", none), "fooling_sum", "fooling_sum", defArgs s_fooling_sum, defBody s_fooling_sum, defScope s_fooling_sum, [], []⟩) rfl
  obtain ⟨fd_entry, F_entry⟩ := c.def_ 16 (d := ⟨("entry", none), "entry", "entry", defArgs s_entry, defBody s_entry, defScope s_entry, [], []⟩) rfl
  obtain ⟨fd_coefficients, F_coefficients⟩ := c.def_ 17 (d := ⟨("coefficients", none), "coefficients", "coefficients", defArgs s_coefficients, defBody s_coefficients, defScope s_coefficients, [], []⟩) rfl
  obtain ⟨fd_sum_at, F_sum_at⟩ := c.def_ 18 (d := ⟨("sum_at", none), "sum_at", "sum_at", defArgs s_sum_at, defBody s_sum_at, defScope s_sum_at, [], []⟩) rfl
  obtain ⟨fd_shortened, F_shortened⟩ := c.def_ 19 (d := ⟨("shortened", none), "shortened", "shortened", defArgs s_shortened, defBody s_shortened, defScope s_shortened, [], []⟩) rfl
  obtain ⟨fd_sum_same, F_sum_same⟩ := c.def_ 20 (d := ⟨("sum_same", none), "sum_same", "sum_same", defArgs s_sum_same, defBody s_sum_same, defScope s_sum_same, [], []⟩) rfl
  obtain ⟨fd_law, F_law⟩ := c.def_ 21 (d := ⟨("law", none), "law", "law", defArgs s_law, defBody s_law, defScope s_law, [], []⟩) rfl
  have e := hfa.symm.trans (He.glo_ok X G (c.fact 21 (f := .glo "law") rfl))
  cases e
  have b := FunD.bindsA (ps := ["script"]) F_law fun _ _ _ _ _ _ us hl => match us, hl with | [_], _ => rfl
  refine ⟨fd_law, fun s v => b s [v] rfl, fun base _ _ => ?_⟩
  have D__law_cell : Def P w K mg base "_law_cell" 1 2 r__law_cell := ok__law_cell T  F__law_cell (He.glo_ok X G (c.fact 0 (f := .glo "_law_cell") rfl)) (FunD.bindsN F__law_cell fun _ _ _ _ _ _ us hl => match us, hl with | [_, _], _ => rfl)
  have D__law_digits : Def P w K mg base "_law_digits" 1 2 r__law_digits := ok__law_digits T  F__law_digits (He.glo_ok X G (c.fact 1 (f := .glo "_law_digits") rfl)) (FunD.bindsN F__law_digits fun _ _ _ _ _ _ us hl => match us, hl with | [_, _], _ => rfl)
  have D__law_is : Def P w K mg base "_law_is" 1 2 r__law_is := ok__law_is T  F__law_is (He.glo_ok X G (c.fact 2 (f := .glo "_law_is") rfl)) (FunD.bindsN F__law_is fun _ _ _ _ _ _ us hl => match us, hl with | [_, _], _ => rfl)
  have D__law_are_whole : Def P w K mg base "_law_are_whole" 1 1 r__law_are_whole := ok__law_are_whole T  F__law_are_whole (He.glo_ok X G (c.fact 3 (f := .glo "_law_are_whole") rfl)) (FunD.bindsN F__law_are_whole fun _ _ _ _ _ _ us hl => match us, hl with | [_], _ => rfl)
  have D__law_row_at : Def P w K mg base "_law_row_at" 1 2 r__law_row_at := ok__law_row_at T  F__law_row_at (He.glo_ok X G (c.fact 4 (f := .glo "_law_row_at") rfl)) (FunD.bindsN F__law_row_at fun _ _ _ _ _ _ us hl => match us, hl with | [_, _], _ => rfl)
  have D__law_whole : Def P w K mg base "_law_whole" 1 1 r__law_whole := ok__law_whole T  F__law_whole (He.glo_ok X G (c.fact 5 (f := .glo "_law_whole") rfl)) (FunD.bindsN F__law_whole fun _ _ _ _ _ _ us hl => match us, hl with | [_], _ => rfl)
  have D_differences : Def P w K mg base "differences" 1 1 r_differences := ok_differences T  F_differences (He.glo_ok X G (c.fact 6 (f := .glo "differences") rfl)) (FunD.bindsN F_differences fun _ _ _ _ _ _ us hl => match us, hl with | [_], _ => rfl)
  have D_parted : Def P w K mg base "parted" 1 1 r_parted := ok_parted T  F_parted (He.glo_ok X G (c.fact 7 (f := .glo "parted") rfl)) (FunD.bindsN F_parted fun _ _ _ _ _ _ us hl => match us, hl with | [_], _ => rfl)
  have D_times_less : Def P w K mg base "times_less" 1 2 r_times_less := ok_times_less T  F_times_less (He.glo_ok X G (c.fact 8 (f := .glo "times_less") rfl)) (FunD.bindsN F_times_less fun _ _ _ _ _ _ us hl => match us, hl with | [_, _], _ => rfl)
  have D_sum_of_answers : Def P w K mg base "sum_of_answers" 2 1 r_sum_of_answers := ok_sum_of_answers T D_differences D_parted D_times_less F_sum_of_answers (He.glo_ok X G (c.fact 9 (f := .glo "sum_of_answers") rfl)) (FunD.bindsN F_sum_of_answers fun _ _ _ _ _ _ us hl => match us, hl with | [_], _ => rfl)
  have D__law_answered : Def P w K mg base "_law_answered" 3 2 r__law_answered := ok__law_answered T D__law_are_whole D__law_row_at D__law_whole D_sum_of_answers F__law_answered (He.glo_ok X G (c.fact 10 (f := .glo "_law_answered") rfl)) (FunD.bindsN F__law_answered fun _ _ _ _ _ _ us hl => match us, hl with | [_, _], _ => rfl)
  have D__law_lengths : Def P w K mg base "_law_lengths" 4 1 r__law_lengths := ok__law_lengths T D__law_answered D__law_are_whole D__law_cell D__law_digits D__law_row_at F__law_lengths (He.glo_ok X G (c.fact 11 (f := .glo "_law_lengths") rfl)) (FunD.bindsN F__law_lengths fun _ _ _ _ _ _ us hl => match us, hl with | [_], _ => rfl)
  have D__law_sum_at : Def P w K mg base "_law_sum_at" 1 2 r__law_sum_at := ok__law_sum_at T  F__law_sum_at (He.glo_ok X G (c.fact 12 (f := .glo "_law_sum_at") rfl)) (FunD.bindsN F__law_sum_at fun _ _ _ _ _ _ us hl => match us, hl with | [_, _], _ => rfl)
  have D__law_twin : Def P w K mg base "_law_twin" 1 3 r__law_twin := ok__law_twin T  F__law_twin (He.glo_ok X G (c.fact 13 (f := .glo "_law_twin") rfl)) (FunD.bindsN F__law_twin fun _ _ _ _ _ _ us hl => match us, hl with | [_, _, _], _ => rfl)
  have D__law_whole_sign : Def P w K mg base "_law_whole_sign" 1 1 r__law_whole_sign := ok__law_whole_sign T  F__law_whole_sign (He.glo_ok X G (c.fact 14 (f := .glo "_law_whole_sign") rfl)) (FunD.bindsN F__law_whole_sign fun _ _ _ _ _ _ us hl => match us, hl with | [_], _ => rfl)
  have D_fooling_sum : Def P w K mg base "fooling_sum" 2 1 r_fooling_sum := ok_fooling_sum T D_parted D_times_less F_fooling_sum (He.glo_ok X G (c.fact 15 (f := .glo "fooling_sum") rfl)) (FunD.bindsN F_fooling_sum fun _ _ _ _ _ _ us hl => match us, hl with | [_], _ => rfl)
  have D_entry : Def P w K mg base "entry" 1 2 r_entry := ok_entry T  F_entry (He.glo_ok X G (c.fact 16 (f := .glo "entry") rfl)) (FunD.bindsN F_entry fun _ _ _ _ _ _ us hl => match us, hl with | [_, _], _ => rfl)
  have D_coefficients : Def P w K mg base "coefficients" 2 1 r_coefficients := ok_coefficients T D_entry F_coefficients (He.glo_ok X G (c.fact 17 (f := .glo "coefficients") rfl)) (FunD.bindsN F_coefficients fun _ _ _ _ _ _ us hl => match us, hl with | [_], _ => rfl)
  have D_sum_at : Def P w K mg base "sum_at" 3 2 r_sum_at := ok_sum_at T D_coefficients F_sum_at (He.glo_ok X G (c.fact 18 (f := .glo "sum_at") rfl)) (FunD.bindsN F_sum_at fun _ _ _ _ _ _ us hl => match us, hl with | [_, _], _ => rfl)
  have D_shortened : Def P w K mg base "shortened" 1 1 r_shortened := ok_shortened T  F_shortened (He.glo_ok X G (c.fact 19 (f := .glo "shortened") rfl)) (FunD.bindsN F_shortened fun _ _ _ _ _ _ us hl => match us, hl with | [_], _ => rfl)
  have D_sum_same : Def P w K mg base "sum_same" 3 2 r_sum_same := ok_sum_same T D_coefficients D_shortened F_sum_same (He.glo_ok X G (c.fact 20 (f := .glo "sum_same") rfl)) (FunD.bindsN F_sum_same fun _ _ _ _ _ _ us hl => match us, hl with | [_, _], _ => rfl)
  exact ok_law T D__law_cell D__law_digits D__law_is D__law_lengths D__law_sum_at D__law_twin D__law_whole D__law_whole_sign D_fooling_sum D_sum_at D_sum_same F_law
end LW
open PySem PySem.W PySem.Calls PyProof.Rows
theorem PySem.Challenge.cw_onlylength_k77_sums_whole_holds : PySem.Challenge.rw_onlylength_k77_sums_whole.Holds := by
  w_on; o_law
  refine HandSHeadRun.head_any (r := OpenLaw.row PySem.Challenge.rw_onlylength_k77_sums_whole) (q := view (OpenLaw.row PySem.Challenge.rw_onlylength_k77_sums_whole).prog [23]) (H := LW.hk) (ob := LW.ob) (M := 1840) (loose := LW.names) (d := HandSHeadRun.topDef (OpenLaw.row PySem.Challenge.rw_onlylength_k77_sums_whole).prog 23) (kwd := []) LW.ob_eq
    (by kernel_rfl) (fun s => by kernel_rfl) LW.run (by kernel_rfl) (by kernel_rfl) (by kernel_rfl) (by rfl) (by first | assumption | decide +kernel) (by decide +kernel) ⟨rfl, rfl, rfl, rfl, rfl, by decide +kernel⟩ ?hw ?hc
  case hw => w_witness2
  case hc =>
    refine L2.walk_ofE (l := PySem.Challenge.rw_onlylength_k77_sums_whole) (n := 63) (k := 5) (x := "script") (CX := L2.CX0) rfl (by decide) (by kernel_rfl) ⟨rfl, by decide, by decide⟩ ?F (fun _ _ _ _ z => z)
    intro w mg fa h Y G hmg0
    obtain ⟨K, KX, c⟩ := Y
    have hmg : mg ("law" : PySem.Str) = some (.ref fa) := by
      have e : (HandSHeadRun.topDef (OpenLaw.row PySem.Challenge.rw_onlylength_k77_sums_whole).prog 23).name = ("law" : PySem.Str) := by kernel_rfl
      rw [← e]
      exact hmg0
    obtain ⟨fd, hb, hF⟩ := LW.facts (P := (PySem.Challenge.rw_onlylength_k77_sums_whole).prog) (w := w) (by kernel_rfl) KX G hmg c
    exact ⟨K, fd, VE.spM K 1 LW.r_law, KX, hb, fun H a ns hl _ hS => ⟨H, [.list (ns.map .int)], .bool true, Evl.Ex.refl H, .cons (.lst hS (VE.dpa_ints ns)) .nil, rfl, LW.law_true ns hl, fun v H' G' _ dd => VE.dp_bool dd⟩, hF⟩
