import PyProof.Rows.All
import Wide.All
import OpenK.AllK
import Wide.FinOn
import KE.KStateDown
import KE.KRevSl
import Lean
import HandS.ForMost
import HandS.ForExc
import HandS.IsInst
import HandS.Defaults
import HandS.Evl
import HandS.Wide
import HandS.More
import HandS.Style
import HandS.Small
import HandS.ExcCtx
import HandS.Head0
import HandS.Head1
import HandS.Head2
import HandS.HeadEnd
import HandS.HeadHook1
import HandS.HeadHook2
import HandS.HotCalls
import HandS.ExcIs
import PyProof.SumWalkG
import PyProof.Walks
import HandS.ExcValue
import HandS.Lambda
import HandS.HeadHook4
import HandS.HeadWalk
import HandS.Codes
import HandS.TupSets
import HandS.Conv
import HandS.WordsDict
import PySem.Challenge.RW_floorrun_k81_courses_refused
set_option Elab.async false
set_option linter.all false
set_option maxRecDepth 100000
set_option maxHeartbeats 4000000

/-! B: readings over base heaps. A base b holds what is known; the true heap H is any extension (Ex b H). -/
namespace B
open PySem L2 Evl
abbrev XB := Value → Hp → Prop
abbrev SK := L2.St → Hp → Prop
def Ce (te : TE) (σ : L2.St) (b : Hp) (k : VK) : Prop := ∀ H, Ex b H → ∀ Q : VK, (∀ v b' H', k v b' → Ex b' H' → Q v H') → te σ H Q
def Ct (tt : TT) (σ : L2.St) (b : Hp) (k : Bool → Hp → Prop) : Prop := ∀ H, Ex b H → ∀ Q : Bool → Hp → Prop, (∀ v b' H', k v b' → Ex b' H' → Q v H') → tt σ H Q
def Ca (ta : TA) (σ : L2.St) (b : Hp) (k : List V → Hp → Prop) : Prop := ∀ H, Ex b H → ∀ Q : List V → Hp → Prop, (∀ v b' H', k v b' → Ex b' H' → Q v H') → ta σ H Q
def Co (to : TO) (σ : L2.St) (b : Hp) (k : Option Int → Hp → Prop) : Prop := ∀ H, Ex b H → ∀ Q : Option Int → Hp → Prop, (∀ v b' H', k v b' → Ex b' H' → Q v H') → to σ H Q
def Cr (r : R2) (x y : V) (b : Hp) (k : VK) : Prop := ∀ H, Ex b H → ∀ Q : VK, (∀ v b' H', k v b' → Ex b' H' → Q v H') → r x y H Q
def Cu (r : V → Hp → VK → Prop) (x : V) (b : Hp) (k : VK) : Prop := ∀ H, Ex b H → ∀ Q : VK, (∀ v b' H', k v b' → Ex b' H' → Q v H') → r x H Q
def Cc (r : List V → Hp → VK → Prop) (vs : List V) (b : Hp) (k : VK) : Prop := ∀ H, Ex b H → ∀ Q : VK, (∀ v b' H', k v b' → Ex b' H' → Q v H') → r vs H Q
def Cm (r : V → List V → Hp → VK → Prop) (x : V) (vs : List V) (b : Hp) (k : VK) : Prop := ∀ H, Ex b H → ∀ Q : VK, (∀ v b' H', k v b' → Ex b' H' → Q v H') → r x vs H Q
def Cl (r : V → Option Int → Option Int → Hp → VK → Prop) (x : V) (lo hi : Option Int) (b : Hp) (k : VK) : Prop := ∀ H, Ex b H → ∀ Q : VK, (∀ v b' H', k v b' → Ex b' H' → Q v H') → r x lo hi H Q
def Cg (g : TG) (v : V) (σ : L2.St) (b : Hp) (k : SK) : Prop := ∀ H, Ex b H → ∀ Q : SK, (∀ σ' b' H', k σ' b' → Ex b' H' → Q σ' H') → g v σ H Q
def Cgs (g : TGs) (vs : List V) (σ : L2.St) (b : Hp) (k : SK) : Prop := ∀ H, Ex b H → ∀ Q : SK, (∀ σ' b' H', k σ' b' → Ex b' H' → Q σ' H') → g vs σ H Q
structure DLe (D D' : Ends) : Prop where
  nx : ∀ σ b H, D.nx σ b → Ex b H → D'.nx σ H
  rt : ∀ v b H, D.rt v b → Ex b H → D'.rt v H
  bk : ∀ σ b H, D.bk σ b → Ex b H → D'.bk σ H
  ct : ∀ σ b H, D.ct σ b → Ex b H → D'.ct σ H
def Cs (t : TS) (D : Ends) (σ : L2.St) (b : Hp) : Prop := ∀ H, Ex b H → ∀ D', DLe D D' → t D' σ H
abbrev Sb := List V → Hp → VK → XB → Prop
/-- a promise over bases as a promise over heaps -/
def up (sb : Sb) : Sp := fun vs H Q E => ∃ b k ke, Ex b H ∧ sb vs b k ke ∧ (∀ v b' H', k v b' → Ex b' H' → Q v H') ∧ ∀ c b' H', ke c b' → Ex b' H' → E c none H'
def K0 : XB := fun _ _ => False
/-- pure: a value, the base stays -/
def Pe (te : TE) (σ : L2.St) (b : Hp) (v : V) : Prop := ∀ H, Ex b H → ∀ Q : VK, (∀ H', Ex b H' → Q v H') → te σ H Q
def Pt (tt : TT) (σ : L2.St) (b : Hp) (v : Bool) : Prop := ∀ H, Ex b H → ∀ Q : Bool → Hp → Prop, (∀ H', Ex b H' → Q v H') → tt σ H Q
def Pa (ta : TA) (σ : L2.St) (b : Hp) (v : List V) : Prop := ∀ H, Ex b H → ∀ Q : List V → Hp → Prop, (∀ H', Ex b H' → Q v H') → ta σ H Q
def Po (to : TO) (σ : L2.St) (b : Hp) (v : Option Int) : Prop := ∀ H, Ex b H → ∀ Q : Option Int → Hp → Prop, (∀ H', Ex b H' → Q v H') → to σ H Q
def Pr (r : R2) (x y : V) (b : Hp) (z : V) : Prop := ∀ H, Ex b H → ∀ Q : VK, (∀ H', Ex b H' → Q z H') → r x y H Q
def Pu (r : V → Hp → VK → Prop) (x : V) (b : Hp) (z : V) : Prop := ∀ H, Ex b H → ∀ Q : VK, (∀ H', Ex b H' → Q z H') → r x H Q
def Pc (r : List V → Hp → VK → Prop) (vs : List V) (b : Hp) (z : V) : Prop := ∀ H, Ex b H → ∀ Q : VK, (∀ H', Ex b H' → Q z H') → r vs H Q
def Pm (r : V → List V → Hp → VK → Prop) (x : V) (vs : List V) (b : Hp) (z : V) : Prop := ∀ H, Ex b H → ∀ Q : VK, (∀ H', Ex b H' → Q z H') → r x vs H Q
def Pl (r : V → Option Int → Option Int → Hp → VK → Prop) (x : V) (lo hi : Option Int) (b : Hp) (z : V) : Prop := ∀ H, Ex b H → ∀ Q : VK, (∀ H', Ex b H' → Q z H') → r x lo hi H Q
/-- pure up to a new object o, whose address is handed out -/
def Pn (te : TE) (σ : L2.St) (b : Hp) (o : HO) : Prop := ∀ H, Ex b H → ∀ Q : VK, (∀ p H', b p = none → Ex (upd b p o) H' → Q (.ref p) H') → te σ H Q
def Ps (sb : Sb) (vs : List V) (b : Hp) (z : V) : Prop := ∀ k : VK, k z b → sb vs b k K0
def Psn (sb : Sb) (vs : List V) (b : Hp) (o : HO) : Prop := ∀ k : VK, (∀ p, b p = none → k (.ref p) (upd b p o)) → sb vs b k K0

section
variable {K : PySem.W.Frag} {σ : L2.St} {b b' H : Hp} {ta tb te tx : TE} {t u : TT} {x y z v : V} {r : R2} {k : VK} {D : Ends}
/-! ### bases -/
theorem ex_upd {b H : Hp} {p : Addr} {o : HO} (e : Ex b H) : Ex (upd b p o) (upd H p o) := fun a q h => by
  by_cases ha : a = p
  · rw [ha, upd_same] at h
    rw [ha, upd_same]
    exact h
  · rw [upd_ne ha] at h
    rw [upd_ne ha]
    exact e a q h
theorem ex_none {b H : Hp} {p : Addr} (e : Ex b H) (h : H p = none) : b p = none := fresh_back e h
theorem Pe.mono (e : Ex b b') (h : Pe te σ b v) : Ce te σ b' (fun w b2 => w = v ∧ b2 = b) := fun H a Q q => h H (e.trans a) Q fun H' a' => q v b H' ⟨rfl, rfl⟩ a'
theorem Pe.c (h : Pe te σ b v) (hk : k v b) : Ce te σ b k := fun H a Q q => h H a Q fun H' a' => q v b H' hk a'
theorem Pn.c {o : HO} (h : Pn te σ b o) (hk : ∀ p, b p = none → k (.ref p) (upd b p o)) : Ce te σ b k := fun H a Q q => h H a Q fun p H' hp a' => q (.ref p) (upd b p o) H' (hk p hp) a'
theorem Ce.pe (h : Ce te σ b (fun w b2 => w = v ∧ b2 = b)) : Pe te σ b v := fun H a Q q => h H a Q fun w b2 H' hw e => by
  rw [hw.1]
  exact q H' (hw.2 ▸ e)
theorem Ce.mono {k' : VK} (h : Ce te σ b k) (hk : ∀ v b', k v b' → k' v b') : Ce te σ b k' := fun H a Q q => h H a Q fun v b2 H' hv e => q v b2 H' (hk v b2 hv) e
theorem Pt.c {c : Bool} {kt : Bool → Hp → Prop} (h : Pt t σ b c) (hk : kt c b) : Ct t σ b kt := fun H a Q q => h H a Q fun H' a' => q c b H' hk a'
theorem Pa.c {ts : TA} {vs : List V} {ka : List V → Hp → Prop} (h : Pa ts σ b vs) (hk : ka vs b) : Ca ts σ b ka := fun H a Q q => h H a Q fun H' a' => q vs b H' hk a'
/-! ### values -/
theorem v_var {i : Nat} (h : σ[i]? = some (some v)) : Pe (tVar i) σ b v := fun H a _ q => ⟨v, h, q H a⟩
theorem v_c : Pe (tC v) σ b v := fun H a _ q => q H a
theorem v_op (ha : Pe ta σ b x) (hb : Pe tb σ b y) (hr : Pr r x y b z) : Pe (tOp r ta tb) σ b z := fun H a Q q => ha H a _ fun H1 a1 => hb H1 a1 _ fun H2 a2 => hr H2 a2 Q q
theorem v_un {r : V → Hp → VK → Prop} (ha : Pe ta σ b x) (hr : Pu r x b z) : Pe (tUn r ta) σ b z := fun H a Q q => ha H a _ fun H1 a1 => hr H1 a1 Q q
theorem v_is {w : V} (h : Pe te σ b v) (e : v = w) : Pe te σ b w := e ▸ h
theorem c_op (ha : Ce ta σ b fun x b1 => Ce tb σ b1 fun y b2 => Cr r x y b2 k) : Ce (tOp r ta tb) σ b k := fun H a Q q => ha H a _ fun x b1 H1 h1 a1 => h1 H1 a1 _ fun y b2 H2 h2 a2 => h2 H2 a2 Q q
theorem c_opP (ha : Pe ta σ b x) (hb : Pe tb σ b y) (hr : Cr r x y b k) : Ce (tOp r ta tb) σ b k := fun H a Q q => ha H a _ fun H1 a1 => hb H1 a1 _ fun H2 a2 => hr H2 a2 Q q
theorem c_var {i : Nat} (h : σ[i]? = some (some v)) (hk : k v b) : Ce (tVar i) σ b k := (v_var h).c hk
theorem c_c (hk : k v b) : Ce (tC v) σ b k := v_c.c hk
/-! ### unions of operators -/
theorem opR_or {X : Cx} {f : Value → Value → Sem Value} {r1 r2 : R2} (h1 : OpR X f r1) (h2 : OpR X f r2) : OpR X f (fun x y H Q => r1 x y H Q ∨ r2 x y H Q) := fun pins s σ H x y v u Q I rx ry h => by
  rcases h with h | h
  · exact h1 pins s σ H x y v u Q I rx ry h
  · exact h2 pins s σ H x y v u Q I rx ry h
theorem pr_l {r1 r2 : R2} (h : Pr r1 x y b z) : Pr (fun x y H Q => r1 x y H Q ∨ r2 x y H Q) x y b z := fun H a Q q => .inl (h H a Q q)
theorem pr_r {r1 r2 : R2} (h : Pr r2 x y b z) : Pr (fun x y H Q => r1 x y H Q ∨ r2 x y H Q) x y b z := fun H a Q q => .inr (h H a Q q)
theorem cr_l {r1 r2 : R2} (h : Cr r1 x y b k) : Cr (fun x y H Q => r1 x y H Q ∨ r2 x y H Q) x y b k := fun H a Q q => .inl (h H a Q q)
theorem cr_r {r1 r2 : R2} (h : Cr r2 x y b k) : Cr (fun x y H Q => r1 x y H Q ∨ r2 x y H Q) x y b k := fun H a Q q => .inr (h H a Q q)
/-! ### tests -/
theorem t_test {c : Bool} (h : Pe te σ b (.bl c)) : Pt (tTest te) σ b c := fun H a _ q => h H a _ fun H1 a1 => ⟨c, rfl, q H1 a1⟩
theorem t_B {c : Bool} (h : Pe te σ b (.bl c)) : Pt (tB te) σ b c := fun H a _ q => h H a _ fun H1 a1 => ⟨c, rfl, q H1 a1⟩
theorem t_and {c d : Bool} (h1 : Pt t σ b c) (h2 : c = true → Pt u σ b d) : Pt (tAnd t u) σ b (c && d) := fun H a Q q => h1 H a _ fun H1 a1 => by
  cases c with
  | true =>
    show u σ H1 Q
    exact h2 rfl H1 a1 Q q
  | false =>
    show Q false H1
    exact q H1 a1
theorem t_or {c d : Bool} (h1 : Pt t σ b c) (h2 : c = false → Pt u σ b d) : Pt (tOr t u) σ b (c || d) := fun H a Q q => h1 H a _ fun H1 a1 => by
  cases c with
  | true =>
    show Q true H1
    exact q H1 a1
  | false =>
    show u σ H1 Q
    exact h2 rfl H1 a1 Q q
theorem t_not {c : Bool} (h1 : Pt t σ b c) : Pt (tNot t) σ b (!c) := fun H a _ q => h1 H a _ fun H1 a1 => q H1 a1
theorem t_is {c d : Bool} (h : Pt t σ b c) (e : c = d) : Pt t σ b d := e ▸ h
theorem v_andV {c d : Bool} (h1 : Pe ta σ b (.bl c)) (h2 : c = true → Pe tb σ b (.bl d)) : Pe (tAndV ta tb) σ b (.bl (c && d)) := fun H a Q q => h1 H a _ fun H1 a1 => ⟨c, rfl, by
  cases c with
  | true =>
    show tb σ H1 Q
    exact h2 rfl H1 a1 Q q
  | false =>
    show Q (.bl false) H1
    exact q H1 a1⟩
theorem v_orV {c d : Bool} (h1 : Pe ta σ b (.bl c)) (h2 : c = false → Pe tb σ b (.bl d)) : Pe (tOrV ta tb) σ b (.bl (c || d)) := fun H a Q q => h1 H a _ fun H1 a1 => ⟨c, rfl, by
  cases c with
  | true =>
    show Q (.bl true) H1
    exact q H1 a1
  | false =>
    show tb σ H1 Q
    exact h2 rfl H1 a1 Q q⟩
theorem v_notV {c : Bool} (h1 : Pe ta σ b (.bl c)) : Pe (tNotV ta) σ b (.bl (!c)) := fun H a _ q => h1 H a _ fun H1 a1 => ⟨c, rfl, q H1 a1⟩
theorem v_if {c : Bool} (h : Pt t σ b c) (h1 : c = true → Pe ta σ b x) (h2 : c = false → Pe tb σ b y) : Pe (tIf t ta tb) σ b (if c = true then x else y) := fun H a Q q => h H a _ fun H1 a1 => by
  cases c with
  | true =>
    show ta σ H1 Q
    exact h1 rfl H1 a1 Q q
  | false =>
    show tb σ H1 Q
    exact h2 rfl H1 a1 Q q
theorem c_if {kt : VK} {c : Bool} (h : Pt t σ b c) (h1 : c = true → Ce ta σ b k) (h2 : c = false → Ce tb σ b k) : Ce (tIf t ta tb) σ b k := fun H a Q q => h H a _ fun H1 a1 => by
  cases c with
  | true =>
    show ta σ H1 Q
    exact h1 rfl H1 a1 Q q
  | false =>
    show tb σ H1 Q
    exact h2 rfl H1 a1 Q q
theorem ct_test {kt : Bool → Hp → Prop} (h : Ce te σ b fun v b1 => ∃ c, v = .bl c ∧ kt c b1) : Ct (tTest te) σ b kt := fun H a _ q => h H a _ fun v b1 H1 ⟨c, e, hc⟩ a1 => ⟨c, e, q c b1 H1 hc a1⟩
theorem ct_B {kt : Bool → Hp → Prop} (h : Ce te σ b fun v b1 => ∃ c, v = .bl c ∧ kt c b1) : Ct (tB te) σ b kt := fun H a _ q => h H a _ fun v b1 H1 ⟨c, e, hc⟩ a1 => ⟨c, e, q c b1 H1 hc a1⟩
theorem ct_not {kt : Bool → Hp → Prop} (h : Ct t σ b fun c b1 => kt (!c) b1) : Ct (tNot t) σ b kt := fun H a _ q => h H a _ fun c b1 H1 hc a1 => q _ b1 H1 hc a1
theorem ct_and {kt : Bool → Hp → Prop} (h : Ct t σ b fun c b1 => if c = true then Ct u σ b1 kt else kt false b1) : Ct (tAnd t u) σ b kt := fun H a Q q => h H a _ fun c b1 H1 hc a1 => by
  cases c with
  | true => exact (show Ct u σ b1 kt from hc) H1 a1 Q q
  | false => exact q false b1 H1 hc a1
theorem ct_or {kt : Bool → Hp → Prop} (h : Ct t σ b fun c b1 => if c = true then kt true b1 else Ct u σ b1 kt) : Ct (tOr t u) σ b kt := fun H a Q q => h H a _ fun c b1 H1 hc a1 => by
  cases c with
  | true => exact q true b1 H1 hc a1
  | false => exact (show Ct u σ b1 kt from hc) H1 a1 Q q
theorem c_andV (h : Ce ta σ b fun v b1 => ∃ c, v = .bl c ∧ if c = true then Ce tb σ b1 k else k (.bl false) b1) : Ce (tAndV ta tb) σ b k := fun H a Q q => h H a _ fun v b1 H1 ⟨c, e, hc⟩ a1 => ⟨c, e, by
  cases c with
  | true => exact (show Ce tb σ b1 k from hc) H1 a1 Q q
  | false => exact q _ b1 H1 hc a1⟩
theorem c_orV (h : Ce ta σ b fun v b1 => ∃ c, v = .bl c ∧ if c = true then k (.bl true) b1 else Ce tb σ b1 k) : Ce (tOrV ta tb) σ b k := fun H a Q q => h H a _ fun v b1 H1 ⟨c, e, hc⟩ a1 => ⟨c, e, by
  cases c with
  | true => exact q _ b1 H1 hc a1
  | false => exact (show Ce tb σ b1 k from hc) H1 a1 Q q⟩
theorem c_notV (h : Ce ta σ b fun v b1 => ∃ c, v = .bl c ∧ k (.bl (!c)) b1) : Ce (tNotV ta) σ b k := fun H a Q q => h H a _ fun v b1 H1 ⟨c, e, hc⟩ a1 => ⟨c, e, q _ b1 H1 hc a1⟩
theorem v_chain {r r' : R2} {ta tb tc : TE} {x y w : V} {c d : Bool} (ha : Pe ta σ b x) (hb : Pe tb σ b y) (h1 : Pr r x y b (.bl c)) (hc : c = true → Pe tc σ b w) (h2 : c = true → Pr r' y w b (.bl d)) : Pe (tChain r r' ta tb tc) σ b (.bl (c && d)) :=
  fun H a Q q => ha H a _ fun H1 a1 => hb H1 a1 _ fun H2 a2 => h1 H2 a2 _ fun H3 a3 => ⟨c, rfl, by
    cases c with
    | true => exact hc rfl H3 a3 _ fun H4 a4 => h2 rfl H4 a4 Q q
    | false => exact q H3 a3⟩
/-! ### operators by values -/
theorem r_I0 {g : Int → Int → V} {i j : Int} : Pr (rI0 g) (.int i) (.int j) b (g i j) := fun H a _ q => ⟨i, j, rfl, rfl, q H a⟩
theorem r_I {C : Int → Int → Prop} {g : Int → Int → V} {i j : Int} (hc : C i j) : Pr (rI C g) (.int i) (.int j) b (g i j) := fun H a _ q => ⟨i, j, rfl, rfl, hc, q H a⟩
theorem u_neg {i : Int} : Pu (rU fun i => .int (-i)) (.int i) b (.int (-i)) := fun H a _ q => ⟨i, rfl, q H a⟩
theorem r_eq (h : scal x y = true) : Pr rEq x y b (.bl (decide (x = y))) := fun H a _ q => ⟨h, q H a⟩
theorem r_ne (h : scal x y = true) : Pr rNe x y b (.bl (!decide (x = y))) := fun H a _ q => ⟨h, q H a⟩
theorem r_ixL {p : Addr} {xs : List V} {i : Int} (h : SqL K b p xs) (ha : atI xs i = some v) : Pr (rIxL K) (.ref p) (.int i) b v := fun H a _ q => ⟨p, xs, i, v, rfl, rfl, ex_l a h, ha, q H a⟩
theorem r_ixT {p : Addr} {xs : List V} {i : Int} (h : SqT K b p xs) (ha : atI xs i = some v) : Pr (rIxT K) (.ref p) (.int i) b v := fun H a _ q => ⟨p, xs, i, v, rfl, rfl, ex_t a h, ha, q H a⟩
theorem r_ixS {w : Str} {i : Int} {c : Nat} (h : w.length ≤ 100000) (ha : atI w.cps.toList i = some c) : Pr rIxS (.str w) (.int i) b (.str ⟨#[c]⟩) := fun H a _ q => ⟨w, i, c, rfl, rfl, sz_of h, ha, q H a⟩
theorem r_iL {p : Addr} {xs : List V} {i : Int} (h : SqL K b p xs) (ha : atI xs i = some v) : Pr (rIx K) (.ref p) (.int i) b v := fun H a Q q => .inl (r_ixL h ha H a Q q)
theorem r_iT {p : Addr} {xs : List V} {i : Int} (h : SqT K b p xs) (ha : atI xs i = some v) : Pr (rIx K) (.ref p) (.int i) b v := fun H a Q q => .inr (.inl (r_ixT h ha H a Q q))
theorem r_iS {w : Str} {i : Int} {c : Nat} (h : w.length ≤ 100000) (ha : atI w.cps.toList i = some c) : Pr (rIx K) (.str w) (.int i) b (.str ⟨#[c]⟩) := fun H a Q q => .inr (.inr (r_ixS h ha H a Q q))
/-! ### arguments -/
theorem a_nil : Pa tNil σ b [] := fun H a _ q => q H a
theorem a_cons {tr : TA} {vs : List V} (h : Pe ta σ b x) (hr : Pa tr σ b vs) : Pa (tCons ta tr) σ b (x :: vs) := fun H a _ q => h H a _ fun H1 a1 => hr H1 a1 _ fun H2 a2 => q H2 a2
theorem ca_nil {ka : List V → Hp → Prop} (h : ka [] b) : Ca tNil σ b ka := a_nil.c h
theorem ca_cons {tr : TA} {ka : List V → Hp → Prop} (h : Ce ta σ b fun x b1 => Ca tr σ b1 fun vs b2 => ka (x :: vs) b2) : Ca (tCons ta tr) σ b ka := fun H a Q q => h H a _ fun x b1 H1 h1 a1 => h1 H1 a1 _ fun vs b2 H2 h2 a2 => q _ b2 H2 h2 a2
theorem ca_consP {tr : TA} {ka : List V → Hp → Prop} (h : Pe ta σ b x) (hr : Ca tr σ b fun vs b2 => ka (x :: vs) b2) : Ca (tCons ta tr) σ b ka := fun H a Q q => h H a _ fun H1 a1 => hr H1 a1 _ fun vs b2 H2 h2 a2 => q _ b2 H2 h2 a2
/-! ### new objects -/
theorem n_tup {ts : TA} {vs : List V} (h : Pa ts σ b vs) (hl : vs.length ≤ 100000) : Pn (tTup ts) σ b (.tup vs) := fun H a _ q => h H a _ fun H1 a1 => ⟨sz_of hl, fun p hp => q p _ (ex_none a1 hp) (ex_upd a1)⟩
theorem n_lst {ts : TA} {vs : List V} (h : Pa ts σ b vs) (hl : vs.length ≤ 100000) : Pn (tLst ts) σ b (.lst vs) := fun H a _ q => h H a _ fun H1 a1 => ⟨sz_of hl, fun p hp => q p _ (ex_none a1 hp) (ex_upd a1)⟩
theorem c_tup {ts : TA} (h : Ca ts σ b fun vs b1 => vs.length ≤ 100000 ∧ ∀ p, b1 p = none → k (.ref p) (upd b1 p (.tup vs))) : Ce (tTup ts) σ b k := fun H a Q q => h H a _ fun vs b1 H1 h1 a1 => ⟨sz_of h1.1, fun p hp => q _ _ _ (h1.2 p (ex_none a1 hp)) (ex_upd a1)⟩
theorem c_lst {ts : TA} (h : Ca ts σ b fun vs b1 => vs.length ≤ 100000 ∧ ∀ p, b1 p = none → k (.ref p) (upd b1 p (.lst vs))) : Ce (tLst ts) σ b k := fun H a Q q => h H a _ fun vs b1 H1 h1 a1 => ⟨sz_of h1.1, fun p hp => q _ _ _ (h1.2 p (ex_none a1 hp)) (ex_upd a1)⟩
/-! ### built-ins by values -/
theorem v_cb {r : List V → Hp → VK → Prop} {ts : TA} {vs : List V} (h : Pa ts σ b vs) (hr : Pc r vs b z) : Pe (tCB r ts) σ b z := fun H a Q q => h H a _ fun H1 a1 => hr H1 a1 Q q
theorem c_cb {r : List V → Hp → VK → Prop} {ts : TA} (h : Ca ts σ b fun vs b1 => Cc r vs b1 k) : Ce (tCB r ts) σ b k := fun H a Q q => h H a _ fun vs b1 H1 h1 a1 => h1 H1 a1 Q q
theorem Pc.c {r : List V → Hp → VK → Prop} {vs : List V} (h : Pc r vs b z) (hk : k z b) : Cc r vs b k := fun H a Q q => h H a Q fun H1 a1 => q z b H1 hk a1
theorem Pr.c (h : Pr r x y b z) (hk : k z b) : Cr r x y b k := fun H a Q q => h H a Q fun H1 a1 => q z b H1 hk a1
/-! ### fields -/
theorem v_fld {f : Str} {a C dx : Addr} {fs : List (Str × V)} (h : Pe ta σ b (.ref a)) (ha : b a = some (.ins C dx fs)) (c : Cls K C) (n : NoAttr K C f) (hf : fs.lookup f = some v) : Pe (tFld K ta f) σ b v := fun H e _ q =>
  h H e _ fun H1 e1 => ⟨a, C, dx, fs, v, rfl, e1 a _ ha, c, n, hf, q H1 e1⟩
/-! ### calls of defs -/
theorem v_call {sb : Sb} {vs : List V} {E : XK} {ts : TA} (h : Pa ts σ b vs) (hs : Ps sb vs b z) : Pe (tCall (up sb) [] E ts) σ b z := fun H a Q q => h H a _ fun H1 a1 => by
  rw [List.append_nil]
  exact ⟨b, fun w b2 => w = z ∧ b2 = b, K0, a1, hs _ ⟨rfl, rfl⟩, fun w b2 H2 hw a2 => by rw [hw.1]; exact q H2 (hw.2 ▸ a2), fun _ _ _ hf => hf.elim⟩
theorem n_call {sb : Sb} {vs : List V} {E : XK} {ts : TA} {o : HO} (h : Pa ts σ b vs) (hs : Psn sb vs b o) : Pn (tCall (up sb) [] E ts) σ b o := fun H a Q q => h H a _ fun H1 a1 => by
  rw [List.append_nil]
  exact ⟨b, fun w b2 => ∃ p, b p = none ∧ w = .ref p ∧ b2 = upd b p o, K0, a1, hs _ (fun p hp => ⟨p, hp, rfl, rfl⟩), fun w b2 H2 ⟨p, hp, e1, e2⟩ a2 => by rw [e1]; exact q p H2 hp (e2 ▸ a2), fun _ _ _ hf => hf.elim⟩
theorem c_call {sb : Sb} {E : XK} {ts : TA} {ke : XB} (hE : ∀ c b' H', ke c b' → Ex b' H' → E c none H') (h : Ca ts σ b fun vs b1 => sb vs b1 k ke) : Ce (tCall (up sb) [] E ts) σ b k := fun H a Q q => h H a _ fun vs b1 H1 h1 a1 => by
  rw [List.append_nil]
  exact ⟨b1, k, ke, a1, h1, q, hE⟩
theorem c_call0 {sb : Sb} {E : XK} {ts : TA} (h : Ca ts σ b fun vs b1 => sb vs b1 k K0) : Ce (tCall (up sb) [] E ts) σ b k := c_call (ke := K0) (fun _ _ _ hf => hf.elim) h
/-! ### methods -/
theorem v_meth {sb : Sb} {vs : List V} {E : XK} {ts : TA} {C a dx : Addr} {m : Str} {fs : List (Str × V)} (h : Pe ta σ b (.ref a)) (ha : b a = some (.ins C dx fs)) (hl : fs.lookup m = none) (hv : Pa ts σ b vs) (hs : Ps sb (.ref a :: vs) b z) : Pe (tMeth C m (up sb) [] E ta ts) σ b z := fun H e Q q =>
  h H e _ fun H1 e1 => ⟨a, dx, fs, rfl, e1 a _ ha, hl, hv H1 e1 _ fun H2 e2 => by
    rw [List.append_nil]
    exact ⟨b, fun w b2 => w = z ∧ b2 = b, K0, e2, hs _ ⟨rfl, rfl⟩, fun w b2 H2 hw a2 => by rw [hw.1]; exact q H2 (hw.2 ▸ a2), fun _ _ _ hf => hf.elim⟩⟩
theorem n_meth {sb : Sb} {vs : List V} {E : XK} {ts : TA} {C a dx : Addr} {m : Str} {fs : List (Str × V)} {o : HO} (h : Pe ta σ b (.ref a)) (ha : b a = some (.ins C dx fs)) (hl : fs.lookup m = none) (hv : Pa ts σ b vs) (hs : Psn sb (.ref a :: vs) b o) : Pn (tMeth C m (up sb) [] E ta ts) σ b o := fun H e Q q =>
  h H e _ fun H1 e1 => ⟨a, dx, fs, rfl, e1 a _ ha, hl, hv H1 e1 _ fun H2 e2 => by
    rw [List.append_nil]
    exact ⟨b, fun w b2 => ∃ p, b p = none ∧ w = .ref p ∧ b2 = upd b p o, K0, e2, hs _ (fun p hp => ⟨p, hp, rfl, rfl⟩), fun w b2 H2 ⟨p, hp, e1, e2⟩ a2 => by rw [e1]; exact q p H2 hp (e2 ▸ a2), fun _ _ _ hf => hf.elim⟩⟩
theorem c_meth {sb : Sb} {E : XK} {ts : TA} {C a dx : Addr} {m : Str} {fs : List (Str × V)} {ke : XB} (hE : ∀ c b' H', ke c b' → Ex b' H' → E c none H') (h : Pe ta σ b (.ref a)) (ha : b a = some (.ins C dx fs)) (hl : fs.lookup m = none) (hv : Ca ts σ b fun vs b1 => sb (.ref a :: vs) b1 k ke) : Ce (tMeth C m (up sb) [] E ta ts) σ b k := fun H e Q q =>
  h H e _ fun H1 e1 => ⟨a, dx, fs, rfl, e1 a _ ha, hl, hv H1 e1 _ fun vs b2 H2 h2 e2 => by
    rw [List.append_nil]
    exact ⟨b2, k, ke, e2, h2, q, hE⟩⟩
theorem c_meth0 {sb : Sb} {E : XK} {ts : TA} {C a dx : Addr} {m : Str} {fs : List (Str × V)} (h : Pe ta σ b (.ref a)) (ha : b a = some (.ins C dx fs)) (hl : fs.lookup m = none) (hv : Ca ts σ b fun vs b1 => sb (.ref a :: vs) b1 k K0) : Ce (tMeth C m (up sb) [] E ta ts) σ b k :=
  c_meth (ke := K0) (fun _ _ _ hf => hf.elim) h ha hl hv
theorem c_make {sb : Sb} {E : XK} {ts : TA} {C : Addr} {ke : XB} (hE : ∀ c b' H', ke c b' → Ex b' H' → E c none H')
    (h : Ca ts σ b fun vs b1 => ∀ x dx, b1 x = none → b1 dx = none → dx ≠ x → sb (.ref x :: vs) (upd (upd b1 dx (.own x)) x (.ins C dx [])) (fun v b2 => v = .non ∧ k (.ref x) b2) ke) : Ce (tMake C (up sb) [] E ts) σ b k := fun H a Q q => h H a _ fun vs b1 H1 h1 a1 x dx hx hdx hne => by
  rw [List.append_nil]
  exact ⟨_, _, ke, ex_upd (ex_upd a1), h1 x dx (ex_none a1 hx) (ex_none a1 hdx) hne, fun v b2 H2 hv a2 => ⟨hv.1, q _ b2 H2 hv.2 a2⟩, hE⟩
theorem c_make0 {sb : Sb} {E : XK} {ts : TA} {C : Addr}
    (h : Ca ts σ b fun vs b1 => ∀ x dx, b1 x = none → b1 dx = none → dx ≠ x → sb (.ref x :: vs) (upd (upd b1 dx (.own x)) x (.ins C dx [])) (fun v b2 => v = .non ∧ k (.ref x) b2) K0) : Ce (tMake C (up sb) [] E ts) σ b k := c_make (ke := K0) (fun _ _ _ hf => hf.elim) h
end
end B

namespace B
open PySem L2 Evl
section
variable {K : PySem.W.Frag} {σ : L2.St} {b b' H : Hp} {ta tb te tx : TE} {t u : TT} {x y z v : V} {r : R2} {k : VK} {D : Ends} {tu tw tz : TS} {g : TG} {ks : SK}
theorem DLe.refl' (D : Ends) (h1 : ∀ σ b H, D.nx σ b → Ex b H → D.nx σ H) (h2 : ∀ v b H, D.rt v b → Ex b H → D.rt v H) (h3 : ∀ σ b H, D.bk σ b → Ex b H → D.bk σ H) (h4 : ∀ σ b H, D.ct σ b → Ex b H → D.ct σ H) : DLe D D := ⟨h1, h2, h3, h4⟩
theorem Cs.mono (e : Ex b b') (h : Cs tu D σ b) : Cs tu D σ b' := fun H a D' l => h H (e.trans a) D' l
/-! ### targets -/
theorem g_name {i : Nat} (h : ks (σ.set i (some v)) b) : Cg (gName i) v σ b ks := fun H a _ q => q _ b H h a
theorem gs_nil (h : ks σ b) : Cgs gNil [] σ b ks := fun H a _ q => ⟨rfl, q _ b H h a⟩
theorem gs_cons {gs : TGs} {vs : List V} (h : Cg g v σ b fun σ1 b1 => Cgs gs vs σ1 b1 ks) : Cgs (gCons g gs) (v :: vs) σ b ks := fun H a Q q => ⟨v, vs, rfl, h H a _ fun σ1 b1 H1 h1 a1 => h1 H1 a1 Q q⟩
theorem gs_name {i : Nat} {gs : TGs} {vs : List V} (h : Cgs gs vs (σ.set i (some v)) b ks) : Cgs (gCons (gName i) gs) (v :: vs) σ b ks := gs_cons (g_name h)
theorem g_tup {p : Addr} {n : Nat} {gs : TGs} {vs : List V} (hp : SqT K b p vs) (hn : vs.length = n) (h : Cgs gs vs σ b ks) : Cg (gTup K n gs) (.ref p) σ b ks := fun H a Q q => ⟨p, vs, rfl, ex_t a hp, hn, h H a Q q⟩
theorem g_subL {l : Addr} {xs : List V} {i : Int} {j : Nat} (ho : Pe ta σ b (.ref l)) (hi : Pe tb σ b (.int i)) (hl : b l = some (.lst xs)) (hj : ixN xs.length i = some j) (h : ks σ (upd b l (.lst (xs.set j v)))) : Cg (gSub ta tb rSetL) v σ b ks := fun H a Q q =>
  ho H a _ fun H1 a1 => hi H1 a1 _ fun H2 a2 => ⟨l, xs, i, j, rfl, rfl, a2 l _ hl, hj, q _ _ _ h (ex_upd a2)⟩
/-! ### statements -/
theorem s_next (h : D.nx σ b) : Cs tNext D σ b := fun H a D' l => l.nx σ b H h a
theorem s_seq (h : Cs tu { D with nx := fun σ' b' => Cs tz D σ' b' } σ b) : Cs (tSeq tu tz) D σ b := fun H a D' l => h H a { D' with nx := tz D' } ⟨fun σ1 b1 H1 h1 a1 => h1 H1 a1 D' l, l.rt, l.bk, l.ct⟩
theorem s_cut (Mid : SK) (h : Cs tu { D with nx := Mid } σ b) (hz : ∀ σ' b', Mid σ' b' → Cs tz D σ' b') : Cs (tSeq tu tz) D σ b := fun H a D' l => h H a { D' with nx := tz D' } ⟨fun σ1 b1 H1 h1 a1 => hz σ1 b1 h1 H1 a1 D' l, l.rt, l.bk, l.ct⟩
theorem s_ret (h : Ce te σ b D.rt) : Cs (tRet te) D σ b := fun H a D' l => h H a _ fun v b1 H1 h1 a1 => l.rt v b1 H1 h1 a1
theorem s_retV (h : Pe te σ b v) (hk : D.rt v b) : Cs (tRet te) D σ b := s_ret (h.c hk)
theorem s_retN (h : D.rt .non b) : Cs tRetN D σ b := fun H a D' l => l.rt _ b H h a
theorem s_drop (h : Ce te σ b fun _ b1 => D.nx σ b1) : Cs (tDrop te) D σ b := fun H a D' l => h H a _ fun v b1 H1 h1 a1 => l.nx σ b1 H1 h1 a1
theorem q_drop (h : Ce te σ b fun _ b1 => Cs tz D σ b1) : Cs (tSeq (tDrop te) tz) D σ b := s_seq (s_drop h)
theorem s_asg (h : Ce te σ b fun v b1 => Cg g v σ b1 D.nx) : Cs (tAsg te g) D σ b := fun H a D' l => h H a _ fun v b1 H1 h1 a1 => h1 H1 a1 _ fun σ2 b2 H2 h2 a2 => l.nx σ2 b2 H2 h2 a2
theorem q_asg (h : Ce te σ b fun v b1 => Cg g v σ b1 fun σ' b' => Cs tz D σ' b') : Cs (tSeq (tAsg te g) tz) D σ b := s_seq (s_asg h)
theorem q_asgC {i : Nat} (h : Ce te σ b fun v b1 => Cs tz D (σ.set i (some v)) b1) : Cs (tSeq (tAsg te (gName i)) tz) D σ b := q_asg (Ce.mono h fun _ _ h => g_name h)
theorem s_asgC {i : Nat} (h : Ce te σ b fun v b1 => D.nx (σ.set i (some v)) b1) : Cs (tAsg te (gName i)) D σ b := s_asg (Ce.mono h fun _ _ h => g_name h)
theorem q_asgV {i : Nat} (h : Pe te σ b v) (hk : Cs tz D (σ.set i (some v)) b) : Cs (tSeq (tAsg te (gName i)) tz) D σ b := q_asgC (h.c hk)
theorem s_asgV {i : Nat} (h : Pe te σ b v) (hk : D.nx (σ.set i (some v)) b) : Cs (tAsg te (gName i)) D σ b := s_asgC (h.c hk)
theorem q_asgN {i : Nat} {o : HO} (h : Pn te σ b o) (hk : ∀ p, b p = none → Cs tz D (σ.set i (some (.ref p))) (upd b p o)) : Cs (tSeq (tAsg te (gName i)) tz) D σ b := q_asgC (h.c hk)
/-- a, b = f(..): a new tuple, taken apart and forgotten -/
theorem q_asgT {n : Nat} {gs : TGs} {vs : List V} (h : Pn te σ b (.tup vs)) (hn : vs.length = n) (hk : Cgs gs vs σ b fun σ' b' => Cs tz D σ' b') : Cs (tSeq (tAsg te (gTup K n gs)) tz) D σ b := fun H a D' l =>
  h H a _ fun p H1 hp a1 => ⟨p, vs, rfl, st_of (a1 p _ upd_same), hn, hk H1 (fun c o hc => a1 c o (by rw [upd_ne (ne_of_none hc hp)]; exact hc)) _ fun σ2 b2 H2 h2 a2 => h2 H2 a2 D' l⟩
theorem s_asgT {n : Nat} {gs : TGs} {vs : List V} (h : Pn te σ b (.tup vs)) (hn : vs.length = n) (hk : Cgs gs vs σ b D.nx) : Cs (tAsg te (gTup K n gs)) D σ b := fun H a D' l =>
  h H a _ fun p H1 hp a1 => ⟨p, vs, rfl, st_of (a1 p _ upd_same), hn, hk H1 (fun c o hc => a1 c o (by rw [upd_ne (ne_of_none hc hp)]; exact hc)) _ fun σ2 b2 H2 h2 a2 => l.nx σ2 b2 H2 h2 a2⟩
theorem s_par {i j : Nat} {ts : TA} {v w : V} (h : Pa ts σ b [v, w]) (hk : D.nx ((σ.set i (some v)).set j (some w)) b) : Cs (tPar i j ts) D σ b := fun H a D' l => h H a _ fun H1 a1 => ⟨v, w, rfl, l.nx _ b H1 hk a1⟩
theorem q_par {i j : Nat} {ts : TA} {v w : V} (h : Pa ts σ b [v, w]) (hk : Cs tz D ((σ.set i (some v)).set j (some w)) b) : Cs (tSeq (tPar i j ts) tz) D σ b := s_seq (s_par h hk)
theorem s_if {c : Bool} (h : Pt t σ b c) (h1 : c = true → Cs tu D σ b) (h2 : c = false → Cs tw D σ b) : Cs (tIfS t tu tw) D σ b := fun H a D' l => h H a _ fun H1 a1 => by
  cases c with
  | true =>
    show tu D' σ H1
    exact h1 rfl H1 a1 D' l
  | false =>
    show tw D' σ H1
    exact h2 rfl H1 a1 D' l
theorem s_ifC (h : Ct t σ b fun c b1 => if c = true then Cs tu D σ b1 else Cs tw D σ b1) : Cs (tIfS t tu tw) D σ b := fun H a D' l => h H a _ fun c b1 H1 h1 a1 => by
  cases c with
  | true =>
    show tu D' σ H1
    exact (show Cs tu D σ b1 from h1) H1 a1 D' l
  | false =>
    show tw D' σ H1
    exact (show Cs tw D σ b1 from h1) H1 a1 D' l
theorem q_if {c : Bool} (h : Pt t σ b c) (h1 : c = true → Cs tu { D with nx := fun σ' b' => Cs tz D σ' b' } σ b) (h2 : c = false → Cs tw { D with nx := fun σ' b' => Cs tz D σ' b' } σ b) : Cs (tSeq (tIfS t tu tw) tz) D σ b := s_seq (s_if h h1 h2)
theorem q_when {c : Bool} (h : Pt t σ b c) (h1 : c = true → Cs tu { D with nx := fun σ' b' => Cs tz D σ' b' } σ b) (h2 : c = false → Cs tz D σ b) : Cs (tSeq (tIfS t tu tNext) tz) D σ b := s_seq (s_if h h1 fun e => s_next (h2 e))
theorem s_when {c : Bool} (h : Pt t σ b c) (h1 : c = true → Cs tu D σ b) (h2 : c = false → D.nx σ b) : Cs (tIfS t tu tNext) D σ b := s_if h h1 fun e => s_next (h2 e)
theorem s_brk (h : D.bk σ b) : Cs tBreak D σ b := fun H a D' l => l.bk σ b H h a
theorem s_cont (h : D.ct σ b) : Cs tCont D σ b := fun H a D' l => l.ct σ b H h a
theorem s_never (h : False) : Cs tu D σ b := h.elim
/-- o.f = e -/
theorem s_fld {f : Str} {a C dx : Addr} {fs : List (Str × V)} (hv : Ce te σ b fun y b1 => Ce ta σ b1 fun x b2 => ∃ a C dx fs, x = .ref a ∧ b2 a = some (.ins C dx fs) ∧ Cls K C ∧ NoAttr K C f ∧ fs.length < 1000 ∧ D.nx σ (upd b2 a (.ins C dx (putF f y fs)))) : Cs (sFld K ta te f) D σ b := fun H e D' l =>
  hv H e _ fun y b1 H1 h1 e1 => h1 H1 e1 _ fun x b2 H2 ⟨a, C, dx, fs, ex, ha, hc, hn, hl, hk⟩ e2 => ⟨a, C, dx, fs, ex, e2 a _ ha, hc, hn, hl, l.nx _ _ _ hk (ex_upd e2)⟩
theorem s_fldV {f : Str} {a C dx : Addr} {fs : List (Str × V)} (hv : Pe te σ b v) (ho : Pe ta σ b (.ref a)) (ha : b a = some (.ins C dx fs)) (c : Cls K C) (n : NoAttr K C f) (hl : fs.length < 1000) (hk : D.nx σ (upd b a (.ins C dx (putF f v fs)))) : Cs (sFld K ta te f) D σ b := fun H e D' l =>
  hv H e _ fun H1 e1 => ho H1 e1 _ fun H2 e2 => ⟨a, C, dx, fs, rfl, e2 a _ ha, c, n, hl, l.nx _ _ _ hk (ex_upd e2)⟩
theorem q_fldV {f : Str} {a C dx : Addr} {fs : List (Str × V)} (hv : Pe te σ b v) (ho : Pe ta σ b (.ref a)) (ha : b a = some (.ins C dx fs)) (c : Cls K C) (n : NoAttr K C f) (hl : fs.length < 1000) (hk : Cs tz D σ (upd b a (.ins C dx (putF f v fs)))) : Cs (tSeq (sFld K ta te f) tz) D σ b :=
  s_seq (s_fldV hv ho ha c n hl hk)
/-- .. a new object stored -/
theorem q_fldN {f : Str} {a C dx : Addr} {fs : List (Str × V)} {o : HO} (hv : Pn te σ b o) (ho : ∀ p, b p = none → Pe ta σ (upd b p o) (.ref a)) (ha : b a = some (.ins C dx fs)) (c : Cls K C) (n : NoAttr K C f) (hl : fs.length < 1000) (hk : ∀ p, b p = none → Cs tz D σ (upd (upd b p o) a (.ins C dx (putF f (.ref p) fs)))) : Cs (tSeq (sFld K ta te f) tz) D σ b := fun H e D' l =>
  hv H e _ fun p H1 hp e1 => ho p hp H1 e1 _ fun H2 e2 => ⟨a, C, dx, fs, rfl, e2 a _ (by rw [upd_ne (ne_of_none ha hp)]; exact ha), c, n, hl, hk p hp _ (ex_upd e2) D' l⟩
theorem s_fldN {f : Str} {a C dx : Addr} {fs : List (Str × V)} {o : HO} (hv : Pn te σ b o) (ho : ∀ p, b p = none → Pe ta σ (upd b p o) (.ref a)) (ha : b a = some (.ins C dx fs)) (c : Cls K C) (n : NoAttr K C f) (hl : fs.length < 1000) (hk : ∀ p, b p = none → D.nx σ (upd (upd b p o) a (.ins C dx (putF f (.ref p) fs)))) : Cs (sFld K ta te f) D σ b := fun H e D' l =>
  hv H e _ fun p H1 hp e1 => ho p hp H1 e1 _ fun H2 e2 => ⟨a, C, dx, fs, rfl, e2 a _ (by rw [upd_ne (ne_of_none ha hp)]; exact ha), c, n, hl, l.nx _ _ _ (hk p hp) (ex_upd e2)⟩
/-- xs.append(e) -/
theorem c_append {l : Addr} {xs : List V} (ho : Pe ta σ b (.ref l)) (hv : Pe te σ b v) (hl : b l = some (.lst xs)) (hz : xs.length < 100000) (hk : k .non (upd b l (.lst (xs ++ [v])))) : Ce (tBM K "list" rAppend ta (tCons te tNil)) σ b k := fun H e Q q =>
  ho H e _ fun H1 e1 => ⟨Or.inl ⟨rfl, xs, sq_of (e1 l _ hl)⟩, hv H1 e1 _ fun H2 e2 => ⟨l, xs, v, rfl, rfl, e2 l _ hl, sz_lt hz, q _ _ _ hk (ex_upd e2)⟩⟩
theorem c_appendN {l : Addr} {xs : List V} {o : HO} (ho : Pe ta σ b (.ref l)) (hv : Pn te σ b o) (hl : b l = some (.lst xs)) (hz : xs.length < 100000) (hk : ∀ p, b p = none → k .non (upd (upd b p o) l (.lst (xs ++ [.ref p])))) : Ce (tBM K "list" rAppend ta (tCons te tNil)) σ b k := fun H e Q q =>
  ho H e _ fun H1 e1 => ⟨Or.inl ⟨rfl, xs, sq_of (e1 l _ hl)⟩, hv H1 e1 _ fun p H2 hp e2 => ⟨l, xs, .ref p, rfl, rfl, e2 l _ (by rw [upd_ne (ne_of_none hl hp)]; exact hl), sz_lt hz, q _ _ _ (hk p hp) (ex_upd e2)⟩⟩
/-! ### loops -/
def lift (Pv : Nat → SK) : Nat → SK := fun i σ H => ∃ b, Ex b H ∧ Pv i σ b
theorem dle_loop {D D' : Ends} {P : SK} (l : DLe D D') : DLe { D with nx := P, ct := P, bk := D.nx } { D' with nx := fun σ H => ∃ b, Ex b H ∧ P σ b, ct := fun σ H => ∃ b, Ex b H ∧ P σ b, bk := D'.nx } :=
  ⟨fun σ b H h e => ⟨b, e, h⟩, l.rt, l.nx, fun σ b H h e => ⟨b, e, h⟩⟩
theorem s_range1 {ts : TA} {n : Int} (h : Pa ts σ b [.int n]) (hn : n < 2 ^ 62) (Pv : Nat → SK) (h0 : Pv 0 σ b)
    (hs : ∀ (i : Nat) σ' b', (i : Int) < n → Pv i σ' b' → Cg g (.int (i : Int)) σ' b' fun σ2 b2 => Cs tu { D with nx := Pv (i + 1), ct := Pv (i + 1), bk := D.nx } σ2 b2) (hd : ∀ σ' b', Pv n.toNat σ' b' → D.nx σ' b') (hm : -(2 ^ 62) ≤ n := by omega) : Cs (tFor (iRng1 ts) g tu) D σ b := fun H e D' l =>
  h H e _ fun H1 e1 => ⟨n, rfl, hm, hn, for_range (lo := 0) (n := n.toNat) (lift Pv) ⟨b, e1, h0⟩ (fun i σ' H' hi ⟨b', e', p⟩ => by
    have e0 : (0 : Int) + (i : Int) = (i : Int) := Int.zero_add _
    rw [e0]
    exact hs i σ' b' (by omega) p H' e' _ fun σ2 b2 H2 h2 e2 => h2 H2 e2 _ (dle_loop l)) fun σ' H' ⟨b', e', p⟩ => l.nx σ' b' H' (hd σ' b' p) e'⟩
theorem s_range2 {ts : TA} {lo n : Int} (h : Pa ts σ b [.int lo, .int n]) (hb : -(2 ^ 62) ≤ lo ∧ lo < 2 ^ 62 ∧ -(2 ^ 62) ≤ n ∧ n < 2 ^ 62) (Pv : Nat → SK) (h0 : Pv 0 σ b)
    (hs : ∀ (i : Nat) σ' b', lo + (i : Int) < n → Pv i σ' b' → Cg g (.int (lo + (i : Int))) σ' b' fun σ2 b2 => Cs tu { D with nx := Pv (i + 1), ct := Pv (i + 1), bk := D.nx } σ2 b2) (hd : ∀ σ' b', Pv (n - lo).toNat σ' b' → D.nx σ' b') : Cs (tFor (iRng2 ts) g tu) D σ b := fun H e D' l =>
  h H e _ fun H1 e1 => ⟨lo, n, rfl, hb, for_range (lo := lo) (n := (n - lo).toNat) (lift Pv) ⟨b, e1, h0⟩ (fun i σ' H' hi ⟨b', e', p⟩ =>
    hs i σ' b' (by omega) p H' e' _ fun σ2 b2 H2 h2 e2 => h2 H2 e2 _ (dle_loop l)) fun σ' H' ⟨b', e', p⟩ => l.nx σ' b' H' (hd σ' b' p) e'⟩
theorem s_list {a : Addr} {xs : List V} {tl : TE} (h : Pe tl σ b (.ref a)) (hx : SqL K b a xs) (Pv : Nat → SK) (h0 : Pv 0 σ b) (hl : ∀ i σ' b', i ≤ xs.length → Pv i σ' b' → SqL K b' a xs)
    (hs : ∀ i x σ' b', xs[i]? = some x → Pv i σ' b' → Cg g x σ' b' fun σ2 b2 => Cs tu { D with nx := Pv (i + 1), ct := Pv (i + 1), bk := D.nx } σ2 b2) (hd : ∀ σ' b', Pv xs.length σ' b' → D.nx σ' b') : Cs (tFor (iList K tl) g tu) D σ b := fun H e D' l =>
  h H e _ fun H1 e1 => ⟨a, rfl, ⟨xs, ex_l e1 hx⟩, for_list (lift Pv) ⟨b, e1, h0⟩ (fun i σ' H' hi ⟨b', e', p⟩ => ex_l e' (hl i σ' b' hi p)) (fun i x σ' H' hi ⟨b', e', p⟩ =>
    hs i x σ' b' hi p H' e' _ fun σ2 b2 H2 h2 e2 => h2 H2 e2 _ (dle_loop l)) fun σ' H' ⟨b', e', p⟩ => l.nx σ' b' H' (hd σ' b' p) e'⟩
theorem s_listN {xs : List V} {tl : TE} (h : Pn tl σ b (.lst xs)) (Pv : Addr → Nat → SK) (h0 : ∀ p, b p = none → Pv p 0 σ (upd b p (.lst xs))) (hl : ∀ p i σ' b', i ≤ xs.length → Pv p i σ' b' → SqL K b' p xs)
    (hs : ∀ p i x σ' b', b p = none → xs[i]? = some x → Pv p i σ' b' → Cg g x σ' b' fun σ2 b2 => Cs tu { D with nx := Pv p (i + 1), ct := Pv p (i + 1), bk := D.nx } σ2 b2) (hd : ∀ p σ' b', b p = none → Pv p xs.length σ' b' → D.nx σ' b') : Cs (tFor (iList K tl) g tu) D σ b := fun H e D' l =>
  h H e _ fun p H1 hp e1 => ⟨p, rfl, ⟨xs, sq_of (e1 p _ upd_same)⟩, for_list (lift (Pv p)) ⟨_, e1, h0 p hp⟩ (fun i σ' H' hi ⟨b', e', q⟩ => ex_l e' (hl p i σ' b' hi q)) (fun i x σ' H' hi ⟨b', e', q⟩ =>
    hs p i x σ' b' hp hi q H' e' _ fun σ2 b2 H2 h2 e2 => h2 H2 e2 _ (dle_loop l)) fun σ' H' ⟨b', e', q⟩ => l.nx σ' b' H' (hd p σ' b' hp q) e'⟩
theorem s_tup {a : Addr} {xs : List V} {tl : TE} (h : Pe tl σ b (.ref a)) (hx : SqT K b a xs) (Pv : Nat → SK) (h0 : Pv 0 σ b) (hl : ∀ i σ' b', i ≤ xs.length → Pv i σ' b' → SqT K b' a xs)
    (hs : ∀ i x σ' b', xs[i]? = some x → Pv i σ' b' → Cg g x σ' b' fun σ2 b2 => Cs tu { D with nx := Pv (i + 1), ct := Pv (i + 1), bk := D.nx } σ2 b2) (hd : ∀ σ' b', Pv xs.length σ' b' → D.nx σ' b') : Cs (tFor (iTup K tl) g tu) D σ b := fun H e D' l =>
  h H e _ fun H1 e1 => ⟨a, rfl, ⟨xs, ex_t e1 hx⟩, for_tup (lift Pv) ⟨b, e1, h0⟩ (fun i σ' H' hi ⟨b', e', p⟩ => ex_t e' (hl i σ' b' hi p)) (fun i x σ' H' hi ⟨b', e', p⟩ =>
    hs i x σ' b' hi p H' e' _ fun σ2 b2 H2 h2 e2 => h2 H2 e2 _ (dle_loop l)) fun σ' H' ⟨b', e', p⟩ => l.nx σ' b' H' (hd σ' b' p) e'⟩
/-- for i, x in enumerate(xs) -/
theorem s_enum {a : Addr} {xs : List V} {ts : TA} {gs : TGs} (h : Pa ts σ b [.ref a]) (hx : SqL K b a xs) (Pv : Nat → SK) (h0 : Pv 0 σ b) (hl : ∀ i σ' b', i ≤ xs.length → Pv i σ' b' → SqL K b' a xs)
    (hs : ∀ i x σ' b', xs[i]? = some x → Pv i σ' b' → Cgs gs [.int (i : Int), x] σ' b' fun σ2 b2 => Cs tu { D with nx := Pv (i + 1), ct := Pv (i + 1), bk := D.nx } σ2 b2) (hd : ∀ σ' b', Pv xs.length σ' b' → D.nx σ' b') : Cs (tFor (iEnum K ts) (gTup K 2 gs) tu) D σ b := fun H e D' l =>
  h H e _ fun H1 e1 => ⟨a, xs, rfl, ex_l e1 hx, fun i m σ' H' => m = xs.length - i ∧ i ≤ xs.length ∧ lift Pv i σ' H', ⟨xs.length, by simp, Nat.zero_le _, b, e1, h0⟩, fun i m σ' H' ⟨em, hi, b', e', p⟩ => by
    subst em
    have q := ex_l e' (hl i σ' b' hi p)
    by_cases hlt : i < xs.length
    · refine .inr ⟨⟨xs, xs[i], q, by simp [hlt]⟩, lift Pv (i + 1), fun σ2 H2 p2 => ⟨xs.length - (i + 1), by omega, rfl, hlt, p2⟩, fun w H2 y => ?_⟩
      obtain ⟨T, x, rfl, hT, rfl, hy⟩ := y
      refine ⟨T, [.int (i : Nat), x], rfl, st_of upd_same, rfl, hs i x σ' b' (hy xs q) p _ (e'.trans (Ex.new hT)) _ fun σ2 b2 H2 h2 e2 => h2 H2 e2 _ (dle_loop l)⟩
    · have ei : i = xs.length := by omega
      subst ei
      exact .inl ⟨⟨xs, q, Nat.le_refl _⟩, l.nx σ' b' H' (hd σ' b' p) e'⟩⟩
theorem s_while (W : Nat → SK) (m0 : Nat) (h0 : W m0 σ b)
    (hs : ∀ m σ' b', W m σ' b' → Ct t σ' b' fun c b1 => if c = true then Cs tu { D with nx := fun σ2 b2 => ∃ m', m' < m ∧ W m' σ2 b2, ct := fun σ2 b2 => ∃ m', m' < m ∧ W m' σ2 b2, bk := D.nx } σ' b1 else D.nx σ' b1) : Cs (tWhile t tu) D σ b := fun H e D' l =>
  ⟨fun m σ' H' => ∃ b', Ex b' H' ∧ W m σ' b', ⟨m0, b, e, h0⟩, fun m σ' H' ⟨b', e', w⟩ => hs m σ' b' w H' e' _ fun c b1 H1 h1 e1 => by
    cases c with
    | true => exact ⟨fun σ2 H2 => ∃ b2, Ex b2 H2 ∧ ∃ m', m' < m ∧ W m' σ2 b2, fun σ2 H2 ⟨b2, e2, m', lt, w2⟩ => ⟨m', lt, b2, e2, w2⟩, (show Cs tu _ σ' b1 from h1) H1 e1 _ (dle_loop l)⟩
    | false => exact l.nx σ' b1 H1 h1 e1⟩
/-! ### comprehensions -/
/-- over a list: the word speaks of the turn, what was made so far and the base (which holds the new list at Dl) -/
theorem c_lcL {a : Addr} {xs : List V} {tl : TE} {vs : List Nat} (h : Pe tl σ b (.ref a)) (hx : SqL K b a xs) (Pv : Addr → Nat → List V → Hp → Prop) (h0 : ∀ Dl, b Dl = none → Pv Dl 0 [] (upd b Dl (.lst [])))
    (hq : ∀ Dl i acc b', b Dl = none → Pv Dl i acc b' → b' Dl = some (.lst acc) ∧ SqL K b' a xs ∧ acc.length < 100000)
    (hs : ∀ Dl i x acc b', b Dl = none → xs[i]? = some x → Pv Dl i acc b' → Cg g x (wipe σ vs) b' fun σ2 b2 => wipe σ2 vs = wipe σ vs ∧ Ct t σ2 b2 fun c b3 => if c = true then Ce te σ2 b3 fun y b4 => b4 Dl = some (.lst acc) ∧ Pv Dl (i + 1) (acc ++ [y]) (upd b4 Dl (.lst (acc ++ [y]))) else Pv Dl (i + 1) acc b3)
    (hd : ∀ Dl acc b', b Dl = none → Pv Dl xs.length acc b' → k (.ref Dl) b') : Ce (tLc (iList K tl) g t te vs) σ b k := fun H e Q q =>
  h H e _ fun H1 e1 => ⟨a, rfl, ⟨xs, ex_l e1 hx⟩, fun Dl hD => lc_list (xs := xs) (fun i H' => ∃ acc b', Ex b' H' ∧ Pv Dl i acc b') ⟨[], _, ex_upd e1, h0 Dl (ex_none e1 hD)⟩ (fun i H' hi ⟨acc, b', e', p⟩ => ex_l e' (hq Dl i acc b' (ex_none e1 hD) p).2.1)
    (fun i x H' hi ⟨acc, b', e', p⟩ => hs Dl i x acc b' (ex_none e1 hD) hi p H' e' _ fun σ2 b2 H2 h2 e2 => ⟨h2.1, h2.2 H2 e2 _ fun c b3 H3 h3 e3 => by
      cases c with
      | true =>
        refine (show Ce te σ2 b3 _ from h3) H3 e3 _ fun y b4 H4 h4 e4 => ⟨acc, e4 Dl _ h4.1, sz_lt (hq Dl i acc b' (ex_none e1 hD) p).2.2, acc ++ [y], _, ex_upd e4, h4.2⟩
      | false => exact ⟨acc, b3, e3, h3⟩⟩)
    fun H' ⟨acc, b', e', p⟩ => q _ b' H' (hd Dl acc b' (ex_none e1 hD) p) e'⟩
theorem c_lcR {ts : TA} {n : Int} {vs : List Nat} (h : Pa ts σ b [.int n]) (hn : -(2 ^ 62) ≤ n ∧ n < 2 ^ 62) (Pv : Addr → Nat → List V → Hp → Prop) (h0 : ∀ Dl, b Dl = none → Pv Dl 0 [] (upd b Dl (.lst [])))
    (hq : ∀ Dl i acc b', b Dl = none → Pv Dl i acc b' → b' Dl = some (.lst acc) ∧ acc.length < 100000)
    (hs : ∀ Dl (i : Nat) acc b', b Dl = none → (i : Int) < n → Pv Dl i acc b' → Cg g (.int (i : Int)) (wipe σ vs) b' fun σ2 b2 => wipe σ2 vs = wipe σ vs ∧ Ct t σ2 b2 fun c b3 => if c = true then Ce te σ2 b3 fun y b4 => b4 Dl = some (.lst acc) ∧ Pv Dl (i + 1) (acc ++ [y]) (upd b4 Dl (.lst (acc ++ [y]))) else Pv Dl (i + 1) acc b3)
    (hd : ∀ Dl acc b', b Dl = none → Pv Dl n.toNat acc b' → k (.ref Dl) b') : Ce (tLc (iRng1 ts) g t te vs) σ b k := fun H e Q q =>
  h H e _ fun H1 e1 => ⟨n, rfl, hn.1, hn.2, fun Dl hD => lc_range (lo := 0) (n := n.toNat) (fun i H' => ∃ acc b', Ex b' H' ∧ Pv Dl i acc b') ⟨[], _, ex_upd e1, h0 Dl (ex_none e1 hD)⟩
    (fun i H' hi ⟨acc, b', e', p⟩ => by
      have e0 : (0 : Int) + (i : Int) = (i : Int) := Int.zero_add _
      rw [e0]
      exact hs Dl i acc b' (ex_none e1 hD) (by omega) p H' e' _ fun σ2 b2 H2 h2 e2 => ⟨h2.1, h2.2 H2 e2 _ fun c b3 H3 h3 e3 => by
        cases c with
        | true =>
          refine (show Ce te σ2 b3 _ from h3) H3 e3 _ fun y b4 H4 h4 e4 => ⟨acc, e4 Dl _ h4.1, sz_lt (hq Dl i acc b' (ex_none e1 hD) p).2, acc ++ [y], _, ex_upd e4, h4.2⟩
        | false => exact ⟨acc, b3, e3, h3⟩⟩)
    fun H' ⟨acc, b', e', p⟩ => q _ b' H' (hd Dl acc b' (ex_none e1 hD) p) e'⟩
theorem c_lcR2 {ts : TA} {lo n : Int} {vs : List Nat} (h : Pa ts σ b [.int lo, .int n]) (hn : -(2 ^ 62) ≤ lo ∧ lo < 2 ^ 62 ∧ -(2 ^ 62) ≤ n ∧ n < 2 ^ 62) (Pv : Addr → Nat → List V → Hp → Prop) (h0 : ∀ Dl, b Dl = none → Pv Dl 0 [] (upd b Dl (.lst [])))
    (hq : ∀ Dl i acc b', b Dl = none → Pv Dl i acc b' → b' Dl = some (.lst acc) ∧ acc.length < 100000)
    (hs : ∀ Dl (i : Nat) acc b', b Dl = none → lo + (i : Int) < n → Pv Dl i acc b' → Cg g (.int (lo + (i : Int))) (wipe σ vs) b' fun σ2 b2 => wipe σ2 vs = wipe σ vs ∧ Ct t σ2 b2 fun c b3 => if c = true then Ce te σ2 b3 fun y b4 => b4 Dl = some (.lst acc) ∧ Pv Dl (i + 1) (acc ++ [y]) (upd b4 Dl (.lst (acc ++ [y]))) else Pv Dl (i + 1) acc b3)
    (hd : ∀ Dl acc b', b Dl = none → Pv Dl (n - lo).toNat acc b' → k (.ref Dl) b') : Ce (tLc (iRng2 ts) g t te vs) σ b k := fun H e Q q =>
  h H e _ fun H1 e1 => ⟨lo, n, rfl, hn, fun Dl hD => lc_range (lo := lo) (n := (n - lo).toNat) (fun i H' => ∃ acc b', Ex b' H' ∧ Pv Dl i acc b') ⟨[], _, ex_upd e1, h0 Dl (ex_none e1 hD)⟩
    (fun i H' hi ⟨acc, b', e', p⟩ => hs Dl i acc b' (ex_none e1 hD) (by omega) p H' e' _ fun σ2 b2 H2 h2 e2 => ⟨h2.1, h2.2 H2 e2 _ fun c b3 H3 h3 e3 => by
        cases c with
        | true =>
          refine (show Ce te σ2 b3 _ from h3) H3 e3 _ fun y b4 H4 h4 e4 => ⟨acc, e4 Dl _ h4.1, sz_lt (hq Dl i acc b' (ex_none e1 hD) p).2, acc ++ [y], _, ex_upd e4, h4.2⟩
        | false => exact ⟨acc, b3, e3, h3⟩⟩)
    fun H' ⟨acc, b', e', p⟩ => q _ b' H' (hd Dl acc b' (ex_none e1 hD) p) e'⟩
theorem lc_str {w : Str} {g : TG} {tt : TT} {te : TE} {vs : List Nat} {σ : L2.St} {H1 : Hp} {D : Addr} {Qd : Hp → Prop} (Pv : Nat → Hp → Prop) (h0 : Pv 0 (upd H1 D (.lst [])))
    (hs : ∀ i c H, w.cps[i]? = some c → Pv i H → g (.str ⟨#[c]⟩) (wipe σ vs) H fun σ2 H2 => wipe σ2 vs = wipe σ vs ∧ tt σ2 H2 fun b H3 =>
      if b = true then te σ2 H3 fun y H4 => ∃ acc, H4 D = some (.lst acc) ∧ acc.length < sizeLine ∧ Pv (i + 1) (upd H4 D (.lst (acc ++ [y]))) else Pv (i + 1) H3) (hd : ∀ H, Pv w.cps.size H → Qd H) :
    ∃ W : Nat → Nat → Hp → Prop, (∃ m, W 0 m (upd H1 D (.lst []))) ∧ ∀ i m H, W i m H →
      ((Its w).stop i H ∧ Qd H) ∨ ((Its w).go i H ∧ ∃ Nx : Hp → Prop, (∀ H', Nx H' → ∃ m', m' < m ∧ W (i + 1) m' H') ∧ ∀ x H', (Its w).yld i H x H' → g x (wipe σ vs) H' fun σ2 H2 => wipe σ2 vs = wipe σ vs ∧ tt σ2 H2 fun b H3 =>
        if b = true then te σ2 H3 fun y H4 => ∃ acc, H4 D = some (.lst acc) ∧ acc.length < sizeLine ∧ Nx (upd H4 D (.lst (acc ++ [y]))) else Nx H3) := by
  refine ⟨fun i m H => m = w.cps.size - i ∧ i ≤ w.cps.size ∧ Pv i H, ⟨w.cps.size, by simp, Nat.zero_le _, h0⟩, ?_⟩
  rintro i m H ⟨rfl, hi, p⟩
  by_cases hlt : i < w.cps.size
  · refine .inr ⟨hlt, Pv (i + 1), fun H' p' => ⟨w.cps.size - (i + 1), by omega, rfl, hlt, p'⟩, fun x H' y => ?_⟩
    obtain ⟨rfl, c, hc, rfl⟩ := y
    exact hs i c _ hc p
  · have e : i = w.cps.size := by omega
    subst e
    exact .inl ⟨Nat.le_refl _, hd H p⟩
theorem c_lcS {w : Str} {tl : TE} {vs : List Nat} (h : Pe tl σ b (.str w)) (Pv : Addr → Nat → List V → Hp → Prop) (h0 : ∀ Dl, b Dl = none → Pv Dl 0 [] (upd b Dl (.lst [])))
    (hq : ∀ Dl i acc b', b Dl = none → Pv Dl i acc b' → b' Dl = some (.lst acc) ∧ acc.length < 100000)
    (hs : ∀ Dl i c acc b', b Dl = none → w.cps[i]? = some c → Pv Dl i acc b' → Cg g (.str ⟨#[c]⟩) (wipe σ vs) b' fun σ2 b2 => wipe σ2 vs = wipe σ vs ∧ Ct t σ2 b2 fun c b3 => if c = true then Ce te σ2 b3 fun y b4 => b4 Dl = some (.lst acc) ∧ Pv Dl (i + 1) (acc ++ [y]) (upd b4 Dl (.lst (acc ++ [y]))) else Pv Dl (i + 1) acc b3)
    (hd : ∀ Dl acc b', b Dl = none → Pv Dl w.cps.size acc b' → k (.ref Dl) b') : Ce (tLc (iStr tl) g t te vs) σ b k := fun H e Q q =>
  h H e _ fun H1 e1 => ⟨w, rfl, fun Dl hD => lc_str (w := w) (fun i H' => ∃ acc b', Ex b' H' ∧ Pv Dl i acc b') ⟨[], _, ex_upd e1, h0 Dl (ex_none e1 hD)⟩
    (fun i x H' hi ⟨acc, b', e', p⟩ => hs Dl i x acc b' (ex_none e1 hD) hi p H' e' _ fun σ2 b2 H2 h2 e2 => ⟨h2.1, h2.2 H2 e2 _ fun c b3 H3 h3 e3 => by
      cases c with
      | true =>
        refine (show Ce te σ2 b3 _ from h3) H3 e3 _ fun y b4 H4 h4 e4 => ⟨acc, e4 Dl _ h4.1, sz_lt (hq Dl i acc b' (ex_none e1 hD) p).2, acc ++ [y], _, ex_upd e4, h4.2⟩
      | false => exact ⟨acc, b3, e3, h3⟩⟩)
    fun H' ⟨acc, b', e', p⟩ => q _ b' H' (hd Dl acc b' (ex_none e1 hD) p) e'⟩
end
end B

namespace B
open PySem L2 Evl
/-! ### rules that the layer lacks -/
section
variable {X : Cx}
theorem op_sub_bb : OpR X (binaryOp .Sub) (fun x y H Q => ∃ p q, x = .bl p ∧ y = .bl q ∧ Q (.int (PyProof.Rows.b2i p - PyProof.Rows.b2i q)) H) := by
  intro pins s σ H x y v u Q I rx ry h
  obtain ⟨p, q, rfl, rfl, k⟩ := h
  cases rx
  cases ry
  exact PyProof.Rows.sub_bool ⟨.int _, H, I.tok _, ⟨_, rfl⟩, k⟩
theorem op_mul_str : OpR X (binaryOp .Mult) (fun x y H Q => ∃ i n, x = .str i ∧ y = .int n ∧ MulOk i n ∧ Q (.str (Txt.mul i n)) H) := by
  intro pins s σ H x y v u Q I rx ry h
  obtain ⟨i, n, rfl, rfl, hok, q⟩ := h
  obtain ⟨t, rfl⟩ := rx
  obtain ⟨t', rfl⟩ := ry
  exact SB.mul hok fun t' k => ⟨.str _, H, I.tok _, ⟨_, rfl⟩, q⟩
/-- list(text) -/
def sgs (z : Str) : List V := z.cps.toList.map fun c => V.str ⟨#[c]⟩
theorem call_list_txt (hc : X.calm = true) : CallR X (.type "list") (fun xs H Q => ∃ z, xs = [.str z] ∧ z.cps.size ≤ sizeLine ∧ ∀ l, H l = none → Q (.ref l) (upd H l (.lst (sgs z)))) := by
  intro pins s σ H xs us Q I r h
  obtain ⟨z, rfl, hz, q⟩ := h
  obtain ⟨u, rfl, rx⟩ := vals1 r
  obtain ⟨t, rfl⟩ := rx
  refine call_list_str (I.ok.hd hc) z t (hn := hz) fun h' tk acc' c' hk hS' hacc => ?_
  have rv : Vals (sgs z) acc'.toList := by
    have key : ∀ (cs : List Nat) (us : List Value), us.length = cs.length → (∀ (j : Nat) (v : Value), us[j]? = some v → ∃ c u, cs[j]? = some c ∧ v = Value.str ⟨#[c]⟩ u) → Vals (cs.map fun c => V.str ⟨#[c]⟩) us := by
      intro cs
      induction cs with
      | nil =>
        intro us hl _
        cases us with
        | nil => exact .nil
        | cons a r => simp at hl
      | cons c cs ih =>
        intro us hl hj
        cases us with
        | nil => simp at hl
        | cons a r =>
          obtain ⟨c', u, e1, e2⟩ := hj 0 a rfl
          have e3 : c = c' := Option.some.inj e1
          subst e3
          exact .cons ⟨u, e2⟩ (ih r (by simpa using hl) fun j v hv => by simpa using hj (j + 1) v (by simpa using hv))
    refine key _ _ (by simp [hacc.1]) fun j v hv => ?_
    obtain ⟨c, u, e1, e2⟩ := hacc.2 j v (by simpa using hv)
    exact ⟨c, u, by simpa using e1, e2⟩
  refine ⟨.ref s.heap.objs.size, _, I.laid (t' := tk) hk (Nat.le_refl _) (show ObjOk X.prog X.w _ h' _ (.lst (sgs z)) from ⟨by unfold sgs; simpa using hz, acc'.toList, c', rv, by simpa using hS'⟩), rfl, q _ (I.hok.fresh (Nat.le_refl _))⟩
/-- s[::-1] -/
def tRevS (te : TE) : TE := fun σ H Q => te σ H fun x H1 => ∃ z, x = .str z ∧ z.length ≤ sizeLine ∧ Q (.str (Txt.sliceBy z none none ((-1 : Int), (0 : Tok)))) H1
theorem slB_tok {z : Str} {t : Tok} : Txt.sliceBy z none none ((-1 : Int), t) = Txt.sliceBy z none none ((-1 : Int), (0 : Tok)) := rfl
theorem pe_revS {e : Expr} {te : TE} {k : Nat} {p1 p2 p3 pos : Pos} (he : PE X e te)
    (hs : ∀ (x : Str) (t : Tok) (a : Addr), subscripted (.Slice none none (some (.UnaryOp .USub (.Constant (.int 1) k p1) p2)) p3) false (.str x t) (.ref a) = operate [.ref a, .str x t] (getItem (.str x t) (.ref a)) := by intro _ _ _; with_unfolding_all rfl)
    (ht : ∀ (x : Str) (t : Tok) r, letTemporaryGo e (.str x t) r = pure () := by intro _ _ _; with_unfolding_all rfl) : PE X (.Subscript e (.Slice none none (some (.UnaryOp .USub (.Constant (.int 1) k p1) p2)) p3) pos) (tRevS te) := by
  refine ⟨fun pins s σ H Q I h => ?_⟩
  refine PyProof.Rows.Subscript_ (thn (he.run pins s σ H _ I h) fun v s1 ⟨x, H1, I1, r1, q1⟩ => ?_)
  obtain ⟨z, ex, hz, q⟩ := q1
  subst ex
  obtain ⟨t, rfl⟩ := r1
  have hst : PO X (some (.UnaryOp .USub (.Constant (.int 1) k p1) p2)) (tPart (tUn (rU fun i => .int (-i)) (tC (.int 1)))) := po_some (pe_un un_neg pe_int)
  refine wpAny_Slice (thn (po_none.run pins s1 σ H1 (fun o H2 => o = none ∧ H2 = H1) I1 ⟨rfl, rfl⟩) fun vl s2 ⟨l, H2, I2, pl, el, e2⟩ => ?_)
  subst el e2
  refine thn (po_none.run pins s2 σ H2 (fun o H3 => o = none ∧ H3 = H2) I2 ⟨rfl, rfl⟩) fun vu s3 ⟨u, H3, I3, pu, eu, e3⟩ => ?_
  subst eu e3
  refine thn (hst.run pins s3 σ H3 (fun o H4 => o = some (-1) ∧ H4 = H3) I3 ⟨1, rfl, -1, rfl, rfl, rfl⟩) fun vs s4 ⟨o, H4, I4, ps, eo, e4⟩ => ?_
  subst eo e4
  obtain ⟨l', rfl, el⟩ := IsPart.raw pl
  obtain ⟨u', rfl, eu⟩ := IsPart.raw pu
  obtain ⟨p', rfl, ep⟩ := IsPart.raw ps
  cases l' with
  | some q => cases el
  | none =>
    cases u' with
    | some q => cases eu
    | none =>
      cases p' with
      | none => cases ep
      | some q' =>
        obtain ⟨k', uk⟩ := q'
        have e5 : k' = (-1 : Int) := Option.some.inj ep
        subst e5
        have I5 : Inv X pins σ H4 { s4 with heap := s4.heap.push { cls := .type "slice", data := .fields #[.none, .none, .int (-1) uk] } } := I4.kept (t' := s4.toks) fun b ob q => Heap.get?_push_of_some _ q
        refine PyProof.Rows.tail_of_ItemOn ⟨"str", _, F.slot_str_getitem.lookup, typeIs_str _ _ _, wpAny_getItem_str_slice (l := none) (u := none) (st := some (-1, uk)) ⟨_, Heap.get?_push_size _ rfl, rfl, rfl⟩ rfl
          (post_val_or_str ⟨Nat.le_trans (Txt.sliceBy_le z _ _ (-1, uk) (by show (-1 : Int) ≠ 0; decide)) hz, fun t' c => ?_⟩)⟩ (hs z t _) (ht z t)
        exact ⟨.str _, H4, I5.tok _, ⟨_, rfl⟩, q⟩
/-- o.f as a target -/
def gFld (K : PySem.W.Frag) (to : TE) (f : Str) : TG := fun v σ H Q => to σ H fun x H1 => ∃ a C dx fs, x = .ref a ∧ H1 a = some (.ins C dx fs) ∧ Cls K C ∧ NoAttr K C f ∧ fs.length < 1000 ∧ Q σ (upd H1 a (.ins C dx (putF f v fs)))
theorem pg_fld {o : Expr} {f : Str} {to : TE} {pos : Pos} (ho : PE X o to) : PG X (.Attribute o f pos) (gFld X.K to f) := by
  refine ⟨fun pins s σ H v u Q I r h => ?_⟩
  rw [assign_Attribute]
  refine wpAny_bind (wpAny_holding (thn (ho.run pins s σ H _ I h) fun ov s1 ⟨x, H1, I1, rx, a, C, dx, fs, ex, ea, c, n, l, q⟩ => ?_))
  subst ex
  obtain rfl : ov = Value.ref a := rx
  refine wpAny_bind (wpAny_standAt (wpAny_bind (wpAny_holding (setattr_ok I1 ea c n l r fun s3 I3 => ?_))))
  exact wpAny_release ⟨σ, _, I3, q⟩
end
/-! ### unions -/
abbrev rStrAdd : R2 := fun x y H Q => ∃ i j, x = .str i ∧ y = .str j ∧ i.length + j.length ≤ sizeLine ∧ Q (.str (i ++ j)) H
abbrev rStrMul : R2 := fun x y H Q => ∃ i n, x = .str i ∧ y = .int n ∧ MulOk i n ∧ Q (.str (Txt.mul i n)) H
abbrev rBB : R2 := fun x y H Q => ∃ p q, x = .bl p ∧ y = .bl q ∧ Q (.int (PyProof.Rows.b2i p - PyProof.Rows.b2i q)) H
def rAddU (K : PySem.W.Frag) : R2 := fun x y H Q => rI0 (fun i j => .int (i + j)) x y H Q ∨ rStrAdd x y H Q ∨ rCat x y H Q ∨ rCatT K x y H Q
def rSubU : R2 := fun x y H Q => rI0 (fun i j => .int (i - j)) x y H Q ∨ rBB x y H Q
def rMulU : R2 := fun x y H Q => rI CMul (fun i j => .int (i * j)) x y H Q ∨ rI CMulW (fun i j => .int (i * j)) x y H Q ∨ rRep x y H Q ∨ rStrMul x y H Q
def rFdivU : R2 := fun x y H Q => rI CDiv (fun i j => .int (i / j)) x y H Q ∨ rI CDivW (fun i j => .int (i / j)) x y H Q
def rEqU (K : PySem.W.Frag) : R2 := fun x y H Q => rEq x y H Q ∨ rEqD K x y H Q
def rNeU (K : PySem.W.Frag) : R2 := fun x y H Q => rNe x y H Q ∨ rNeD K x y H Q
abbrev rSign : R2 := fun x y H Q => ∃ (c : Nat) (z : Str), x = .str ⟨#[c]⟩ ∧ y = .str z ∧ Q (.bl (decide (c ∈ z.cps.toList))) H
abbrev rNotSign : R2 := fun x y H Q => ∃ (c : Nat) (z : Str), x = .str ⟨#[c]⟩ ∧ y = .str z ∧ Q (.bl (!decide (c ∈ z.cps.toList))) H
def rInU (K : PySem.W.Frag) : R2 := fun x y H Q => rSign x y H Q ∨ rIn K false x y H Q
def rNotInU (K : PySem.W.Frag) : R2 := fun x y H Q => rNotSign x y H Q ∨ rIn K true x y H Q
abbrev rIsNone : R2 := fun x y H Q => y = .non ∧ Q (.bl (decide (x = .non))) H
abbrev rNotNone : R2 := fun x y H Q => y = .non ∧ Q (.bl (!decide (x = .non))) H
section
variable {X : Cx}
theorem op_addU : OpR X (binaryOp .Add) (rAddU X.K) := opR_or op_add (opR_or op_add_str (opR_or op_cat op_catT))
theorem op_subU : OpR X (binaryOp .Sub) rSubU := opR_or op_sub op_sub_bb
theorem op_mulU : OpR X (binaryOp .Mult) rMulU := opR_or op_mul (opR_or op_mulW (opR_or op_rep op_mul_str))
theorem op_fdivU : OpR X (binaryOp .FloorDiv) rFdivU := opR_or op_fdiv op_fdivW
theorem op_eqU (hu : X.A.units + 64 < cLine) : OpR X (compareOp .Eq) (rEqU X.K) := opR_or op_eq (op_eqD hu)
theorem op_neU (hu : X.A.units + 64 < cLine) : OpR X (compareOp .NotEq) (rNeU X.K) := opR_or op_ne (op_neD hu)
theorem op_inU : OpR X (compareOp .In) (rInU X.K) := opR_or op_in_sign op_in_seq
theorem op_notInU : OpR X (compareOp .NotIn) (rNotInU X.K) := opR_or op_notIn_sign op_notIn_seq
end
section
variable {K : PySem.W.Frag} {σ : L2.St} {b b' H : Hp} {ta tb te tx : TE} {t u : TT} {x y z v : V} {r : R2} {k : VK} {D : Ends} {tu tw tz : TS} {g : TG} {ks : SK}
theorem r_add {i j : Int} : Pr (rAddU K) (.int i) (.int j) b (.int (i + j)) := fun H a _ q => .inl ⟨i, j, rfl, rfl, q H a⟩
theorem r_addS {i j : Str} (h : i.length + j.length ≤ 100000) : Pr (rAddU K) (.str i) (.str j) b (.str (i ++ j)) := fun H a _ q => .inr (.inl ⟨i, j, rfl, rfl, sz_of h, q H a⟩)
theorem cr_cat {l m : Addr} {xs ys : List V} (h1 : b l = some (.lst xs)) (h2 : b m = some (.lst ys)) (hz : xs.length + ys.length ≤ 100000) (hk : ∀ p, b p = none → k (.ref p) (upd b p (.lst (xs ++ ys)))) : Cr (rAddU K) (.ref l) (.ref m) b k := fun H a Q q =>
  .inr (.inr (.inl ⟨l, m, xs, ys, rfl, rfl, a l _ h1, a m _ h2, sz_of hz, fun p hp => q _ _ _ (hk p (ex_none a hp)) (ex_upd a)⟩))
theorem r_sub {i j : Int} : Pr rSubU (.int i) (.int j) b (.int (i - j)) := fun H a _ q => .inl ⟨i, j, rfl, rfl, q H a⟩
theorem r_subB {i j : Bool} : Pr rSubU (.bl i) (.bl j) b (.int (PyProof.Rows.b2i i - PyProof.Rows.b2i j)) := fun H a _ q => .inr ⟨i, j, rfl, rfl, q H a⟩
theorem r_mul {i j : Int} (h : CMul i j) : Pr rMulU (.int i) (.int j) b (.int (i * j)) := fun H a _ q => .inl ⟨i, j, rfl, rfl, h, q H a⟩
theorem r_mulW {i j : Int} (h : CMulW i j) : Pr rMulU (.int i) (.int j) b (.int (i * j)) := fun H a _ q => .inr (.inl ⟨i, j, rfl, rfl, h, q H a⟩)
theorem r_mulS {i : Str} {n : Int} (h : MulOk i n) : Pr rMulU (.str i) (.int n) b (.str (Txt.mul i n)) := fun H a _ q => .inr (.inr (.inr ⟨i, n, rfl, rfl, h, q H a⟩))
theorem cr_rep {l : Addr} {xs : List V} {n : Int} (h1 : b l = some (.lst xs)) (h2 : -(2 ^ 63) ≤ n) (h3 : n < 2 ^ 63) (hz : xs.length * n.toNat ≤ 100000) (hk : ∀ p, b p = none → k (.ref p) (upd b p (.lst (List.replicate n.toNat xs).flatten))) : Cr rMulU (.ref l) (.int n) b k := fun H a Q q =>
  .inr (.inr (.inl ⟨l, n, xs, rfl, rfl, a l _ h1, h2, h3, sz_of hz, fun p hp => q _ _ _ (hk p (ex_none a hp)) (ex_upd a)⟩))
theorem r_fdiv {i j : Int} (h : 0 < j ∧ j < 1073741824) : Pr rFdivU (.int i) (.int j) b (.int (i / j)) := fun H a _ q => .inl ⟨i, j, rfl, rfl, h, q H a⟩
theorem r_fdivW {i j : Int} (h : CDivW i j) : Pr rFdivU (.int i) (.int j) b (.int (i / j)) := fun H a _ q => .inr ⟨i, j, rfl, rfl, h, q H a⟩
theorem r_mod {i j : Int} (h : 0 < j) : Pr (rI (fun _ j => 0 < j) fun i j => .int (i % j)) (.int i) (.int j) b (.int (i % j)) := r_I h
theorem r_eqS (h : scal x y = true) : Pr (rEqU K) x y b (.bl (decide (x = y))) := fun H a _ q => .inl ⟨h, q H a⟩
theorem r_neS (h : scal x y = true) : Pr (rNeU K) x y b (.bl (!decide (x = y))) := fun H a _ q => .inl ⟨h, q H a⟩
theorem r_eqI {i j : Int} : Pr (rEqU K) (.int i) (.int j) b (.bl (decide (i = j))) := fun H a _ q => .inl ⟨rfl, by
  have e : decide (V.int i = V.int j) = decide (i = j) := by simp
  rw [e]
  exact q H a⟩
theorem r_neI {i j : Int} : Pr (rNeU K) (.int i) (.int j) b (.bl (!decide (i = j))) := fun H a _ q => .inl ⟨rfl, by
  have e : decide (V.int i = V.int j) = decide (i = j) := by simp
  rw [e]
  exact q H a⟩
theorem r_eqT {i j : Str} : Pr (rEqU K) (.str i) (.str j) b (.bl (decide (i = j))) := fun H a _ q => .inl ⟨rfl, by
  have e : decide (V.str i = V.str j) = decide (i = j) := by simp
  rw [e]
  exact q H a⟩
theorem r_neT {i j : Str} : Pr (rNeU K) (.str i) (.str j) b (.bl (!decide (i = j))) := fun H a _ q => .inl ⟨rfl, by
  have e : decide (V.str i = V.str j) = decide (i = j) := by simp
  rw [e]
  exact q H a⟩
theorem r_eqB {i j : Bool} : Pr (rEqU K) (.bl i) (.bl j) b (.bl (decide (i = j))) := fun H a _ q => .inl ⟨rfl, by
  have e : decide (V.bl i = V.bl j) = decide (i = j) := by simp
  rw [e]
  exact q H a⟩
theorem r_neB {i j : Bool} : Pr (rNeU K) (.bl i) (.bl j) b (.bl (!decide (i = j))) := fun H a _ q => .inl ⟨rfl, by
  have e : decide (V.bl i = V.bl j) = decide (i = j) := by simp
  rw [e]
  exact q H a⟩
theorem r_lt {i j : Int} : Pr (rI0 fun i j => .bl (decide (i < j))) (.int i) (.int j) b (.bl (decide (i < j))) := r_I0
theorem r_le {i j : Int} : Pr (rI0 fun i j => .bl (decide (i ≤ j))) (.int i) (.int j) b (.bl (decide (i ≤ j))) := r_I0
theorem r_gt {i j : Int} : Pr (rI0 fun i j => .bl (decide (j < i))) (.int i) (.int j) b (.bl (decide (j < i))) := r_I0
theorem r_ge {i j : Int} : Pr (rI0 fun i j => .bl (decide (j ≤ i))) (.int i) (.int j) b (.bl (decide (j ≤ i))) := r_I0
theorem r_in {c : Nat} {w : Str} : Pr (rInU K) (.str ⟨#[c]⟩) (.str w) b (.bl (decide (c ∈ w.cps.toList))) := fun H a _ q => .inl ⟨c, w, rfl, rfl, q H a⟩
theorem r_notIn {c : Nat} {w : Str} : Pr (rNotInU K) (.str ⟨#[c]⟩) (.str w) b (.bl (!decide (c ∈ w.cps.toList))) := fun H a _ q => .inl ⟨c, w, rfl, rfl, q H a⟩
theorem r_inT {p : Addr} {xs : List V} (h : SqT K b p xs) (hx : flatV x = true) (hf : xs.all flatV = true) : Pr (rInU K) x (.ref p) b (.bl (inV x xs)) := fun H a _ q => .inr ⟨p, xs, rfl, .inr (ex_t a h), hx, hf, q H a⟩
theorem r_notInT {p : Addr} {xs : List V} (h : SqT K b p xs) (hx : flatV x = true) (hf : xs.all flatV = true) : Pr (rNotInU K) x (.ref p) b (.bl (!inV x xs)) := fun H a _ q => .inr ⟨p, xs, rfl, .inr (ex_t a h), hx, hf, q H a⟩
theorem r_isN : Pr rIsNone x .non b (.bl (decide (x = .non))) := fun H a _ q => ⟨rfl, q H a⟩
theorem r_notN : Pr rNotNone x .non b (.bl (!decide (x = .non))) := fun H a _ q => ⟨rfl, q H a⟩
/-- x in a tuple made on the way -/
theorem v_opN {o : HO} (ha : Pe ta σ b x) (hb : Pn tb σ b o) (hr : ∀ p b1, Ex b b1 → b1 p = some o → Pr r x (.ref p) b1 z) : Pe (tOp r ta tb) σ b z := fun H a Q q => ha H a _ fun H1 a1 => hb H1 a1 _ fun p H2 hp a2 =>
  hr p _ (Ex.new hp) upd_same H2 a2 Q fun H3 a3 => q H3 ((Ex.new hp).trans a3)
theorem v_opNN {o o' : HO} (ha : Pn ta σ b o) (hb : ∀ b1, Ex b b1 → Pn tb σ b1 o') (hr : ∀ p p' b1, Ex b b1 → b1 p = some o → b1 p' = some o' → Pr r (.ref p) (.ref p') b1 z) : Pe (tOp r ta tb) σ b z := fun H a Q q => ha H a _ fun p H1 hp a1 => hb _ (Ex.new hp) H1 a1 _ fun p' H2 hp' a2 =>
  hr p p' _ ((Ex.new hp).trans (Ex.new hp')) (by rw [upd_ne (ne_of_none upd_same hp')] <;> exact upd_same) upd_same H2 a2 Q fun H3 a3 => q H3 (((Ex.new hp).trans (Ex.new hp')).trans a3)
theorem v_opN1 {o : HO} (ha : Pn ta σ b o) (hb : ∀ b1, Ex b b1 → Pe tb σ b1 y) (hr : ∀ p b1, Ex b b1 → b1 p = some o → Pr r (.ref p) y b1 z) : Pe (tOp r ta tb) σ b z := fun H a Q q => ha H a _ fun p H1 hp a1 => hb _ (Ex.new hp) H1 a1 _ fun H2 a2 =>
  hr p _ (Ex.new hp) upd_same H2 a2 Q fun H3 a3 => q H3 ((Ex.new hp).trans a3)
/-! ### attribute targets -/
theorem g_fld {f : Str} {a C dx : Addr} {fs : List (Str × V)} (ho : Pe ta σ b (.ref a)) (ha : b a = some (.ins C dx fs)) (c : Cls K C) (n : NoAttr K C f) (hl : fs.length < 1000) (hk : ks σ (upd b a (.ins C dx (putF f v fs)))) : Cg (gFld K ta f) v σ b ks := fun H e Q q =>
  ho H e _ fun H1 e1 => ⟨a, C, dx, fs, rfl, e1 a _ ha, c, n, hl, q _ _ _ hk (ex_upd e1)⟩
/-! ### built-ins -/
abbrev rLenU (K : PySem.W.Frag) : List V → Hp → VK → Prop := fun xs H Q => ∃ x n, xs = [x] ∧ LenV K x H n ∧ Q (.int n) H
theorem p_lenS {w : Str} (h : w.length ≤ 100000) : Pc (rLenU K) [.str w] b (.int w.length) := fun H a _ q => ⟨_, w.length, rfl, ⟨sz_of h, rfl⟩, q H a⟩
theorem p_lenL {p : Addr} {xs : List V} (h : SqL K b p xs) : Pc (rLenU K) [.ref p] b (.int xs.length) := fun H a _ q => ⟨_, xs.length, rfl, .inl ⟨xs, ex_l a h, rfl⟩, q H a⟩
theorem p_lenT {p : Addr} {xs : List V} (h : SqT K b p xs) : Pc (rLenU K) [.ref p] b (.int xs.length) := fun H a _ q => ⟨_, xs.length, rfl, .inr ⟨xs, ex_t a h, rfl⟩, q H a⟩
abbrev rAbs : List V → Hp → VK → Prop := fun xs H Q => ∃ i, xs = [.int i] ∧ Q (.int (if i < 0 then -i else i)) H
theorem p_abs {i : Int} : Pc rAbs [.int i] b (.int (if i < 0 then -i else i)) := fun H a _ q => ⟨i, rfl, q H a⟩
abbrev rMax2 : List V → Hp → VK → Prop := fun xs H Q => ∃ i j, xs = [.int i, .int j] ∧ Q (.int (if j > i then j else i)) H
abbrev rMin2 : List V → Hp → VK → Prop := fun xs H Q => ∃ i j, xs = [.int i, .int j] ∧ Q (.int (if j < i then j else i)) H
theorem p_max2 {i j : Int} : Pc rMax2 [.int i, .int j] b (.int (if j > i then j else i)) := fun H a _ q => ⟨i, j, rfl, q H a⟩
theorem p_min2 {i j : Int} : Pc rMin2 [.int i, .int j] b (.int (if j < i then j else i)) := fun H a _ q => ⟨i, j, rfl, q H a⟩
abbrev rInt1 : List V → Hp → VK → Prop := fun xs H Q => (∃ i, xs = [.int i] ∧ Q (.int i) H) ∨ ∃ k, xs = [.bl k] ∧ Q (.int (if k then 1 else 0)) H
theorem p_intB {c : Bool} : Pc rInt1 [.bl c] b (.int (if c then 1 else 0)) := fun H a _ q => .inr ⟨c, rfl, q H a⟩
theorem v_allN {xs : List V} {bs : List Bool} (h : Pn te σ b (.lst xs)) (hb : xs = bs.map V.bl) : Pe (tCB (rAll K) (tCons te tNil)) σ b (.bl (bs.all id)) := fun H a Q q => h H a _ fun p H1 hp a1 => ⟨p, bs, rfl, by rw [← hb]; exact sq_of (a1 p _ upd_same), q H1 ((Ex.new hp).trans a1)⟩
theorem v_anyN {xs : List V} {bs : List Bool} (h : Pn te σ b (.lst xs)) (hb : xs = bs.map V.bl) : Pe (tCB (rAny K) (tCons te tNil)) σ b (.bl (bs.any id)) := fun H a Q q => h H a _ fun p H1 hp a1 => ⟨p, bs, rfl, by rw [← hb]; exact sq_of (a1 p _ upd_same), q H1 ((Ex.new hp).trans a1)⟩
abbrev rListU (K : PySem.W.Frag) : List V → Hp → VK → Prop := fun xs H Q => ∃ p ys, xs = [.ref p] ∧ (SqL K H p ys ∨ SqT K H p ys) ∧ ∀ l, H l = none → Q (.ref l) (upd H l (.lst ys))
theorem n_listL {ts : TA} {p : Addr} {xs : List V} (h : Pa ts σ b [.ref p]) (hx : SqL K b p xs) : Pn (tCB (rListU K) ts) σ b (.lst xs) := fun H a Q q => h H a _ fun H1 a1 => ⟨p, xs, rfl, .inl (ex_l a1 hx), fun l hl => q l _ (ex_none a1 hl) (ex_upd a1)⟩
/-! ### pure comprehensions: which items, what of them -/
theorem take_step {α β : Type} {xs : List α} {F : α → Bool} {G : α → β} {i : Nat} {x : α} (h : xs[i]? = some x) : ((xs.take (i + 1)).filter F).map G = ((xs.take i).filter F).map G ++ (if F x = true then [G x] else []) := by
  have e : xs.take (i + 1) = xs.take i ++ [x] := by
    rw [List.take_succ, h]
    rfl
  rw [e, List.filter_append, List.map_append]
  by_cases c : F x = true
  · rw [if_pos c, List.filter_cons, if_pos c] <;> rfl
  · rw [if_neg c, List.filter_cons, if_neg c] <;> rfl
theorem len_fm {α β : Type} (xs : List α) (F : α → Bool) (G : α → β) (i : Nat) : (((xs.take i).filter F).map G).length ≤ xs.length := by
  rw [List.length_map]
  exact Nat.le_trans (List.length_filter_le _ _) (by rw [List.length_take]; exact Nat.min_le_right _ _)
theorem len_lt {α : Type} {acc ys : List α} {n m : Nat} (e : acc = ys) (h : ys.length ≤ n) (h2 : n < m) : acc.length < m := by
  rw [e]
  exact Nat.lt_of_le_of_lt h h2
theorem lc_if {F : Bool} {y : V} {acc : List V} {b3 : Hp} {Dl : Addr} {W : List V → Hp → Prop} (h : F = true → Ce te σ b3 fun y b4 => b4 Dl = some (.lst acc) ∧ W (acc ++ [y]) (upd b4 Dl (.lst (acc ++ [y])))) (h2 : F = false → W acc b3) :
    if F = true then Ce te σ b3 fun y b4 => b4 Dl = some (.lst acc) ∧ W (acc ++ [y]) (upd b4 Dl (.lst (acc ++ [y]))) else W acc b3 := by
  cases F with
  | true => exact h rfl
  | false => exact h2 rfl
theorem n_lcL {a : Addr} {xs : List V} {tl : TE} {vs : List Nat} {j : Nat} (F : V → Bool) (G : V → V) (h : Pe tl σ b (.ref a)) (hx : SqL K b a xs) (hz : xs.length < 100000) (hw : ∀ x, wipe ((wipe σ vs).set j (some x)) vs = wipe σ vs)
    (ht : ∀ x b1, x ∈ xs → Ex b b1 → Pt t ((wipe σ vs).set j (some x)) b1 (F x)) (he : ∀ x b1, x ∈ xs → F x = true → Ex b b1 → Pe te ((wipe σ vs).set j (some x)) b1 (G x)) : Pn (tLc (iList K tl) (gName j) t te vs) σ b (.lst ((xs.filter F).map G)) := fun H e Q q =>
  c_lcL (k := fun w b2 => ∃ p, b p = none ∧ w = .ref p ∧ b2 = upd b p (.lst ((xs.filter F).map G))) h hx (fun Dl i acc b' => b' = upd b Dl (.lst acc) ∧ acc = ((xs.take i).filter F).map G) (fun Dl hD => ⟨rfl, rfl⟩)
    (fun Dl i acc b' hD ⟨e1, e2⟩ => ⟨by rw [e1]; exact upd_same, by rw [e1]; exact ex_l (Ex.new hD) hx, len_lt e2 (len_fm xs F G i) hz⟩)
    (fun Dl i x acc b' hD hi ⟨e1, e2⟩ => g_name ⟨hw x, (ht x b' (List.mem_of_getElem? hi) (by rw [e1]; exact Ex.new hD)).c (by
      have st := take_step (F := F) (G := G) hi
      cases hF : F x with
      | true =>
        rw [hF, if_pos rfl] at st
        refine (he x b' (List.mem_of_getElem? hi) hF (by rw [e1]; exact Ex.new hD)).c ⟨by rw [e1]; exact upd_same, by rw [e1, upd_upd], by rw [st, e2]⟩
      | false =>
        rw [hF, if_neg Bool.false_ne_true, List.append_nil] at st
        exact ⟨e1, by rw [st, e2]⟩)⟩)
    (fun Dl acc b' hD ⟨e1, e2⟩ => ⟨Dl, hD, rfl, by rw [e1, e2, List.take_length]⟩) H e Q fun w b2 H' ⟨p, hp, e1, e2⟩ a2 => by rw [e1]; exact q p H' hp (e2 ▸ a2)
theorem range_get {n i : Nat} (h : i < n) : (List.range n)[i]? = some i := by simp [h]
theorem n_lcR {ts : TA} {n : Int} {vs : List Nat} {j : Nat} (F : Nat → Bool) (G : Nat → V) (h : Pa ts σ b [.int n]) (hz : n < 100000) (hw : ∀ x, wipe ((wipe σ vs).set j (some x)) vs = wipe σ vs)
    (ht : ∀ (i : Nat) b1, (i : Int) < n → Ex b b1 → Pt t ((wipe σ vs).set j (some (.int i))) b1 (F i)) (he : ∀ (i : Nat) b1, (i : Int) < n → F i = true → Ex b b1 → Pe te ((wipe σ vs).set j (some (.int i))) b1 (G i)) (hm : -(2 ^ 62) ≤ n := by omega) : Pn (tLc (iRng1 ts) (gName j) t te vs) σ b (.lst (((List.range n.toNat).filter F).map G)) := fun H e Q q =>
  c_lcR (k := fun w b2 => ∃ p, b p = none ∧ w = .ref p ∧ b2 = upd b p (.lst (((List.range n.toNat).filter F).map G))) h ⟨hm, by omega⟩ (fun Dl i acc b' => b' = upd b Dl (.lst acc) ∧ acc = (((List.range n.toNat).take i).filter F).map G) (fun Dl hD => ⟨rfl, rfl⟩)
    (fun Dl i acc b' hD ⟨e1, e2⟩ => ⟨by rw [e1]; exact upd_same, len_lt e2 (len_fm _ F G i) (by rw [List.length_range]; omega)⟩)
    (fun Dl i acc b' hD hi ⟨e1, e2⟩ => g_name ⟨hw _, (ht i b' hi (by rw [e1]; exact Ex.new hD)).c (by
      have st := take_step (F := F) (G := G) (range_get (n := n.toNat) (i := i) (by omega))
      cases hF : F i with
      | true =>
        rw [hF, if_pos rfl] at st
        refine (he i b' hi hF (by rw [e1]; exact Ex.new hD)).c ⟨by rw [e1]; exact upd_same, by rw [e1, upd_upd], by rw [st, e2]⟩
      | false =>
        rw [hF, if_neg Bool.false_ne_true, List.append_nil] at st
        exact ⟨e1, by rw [st, e2]⟩)⟩)
    (fun Dl acc b' hD ⟨e1, e2⟩ => ⟨Dl, hD, rfl, by rw [e1, e2, List.take_of_length_le (by rw [List.length_range] <;> exact Nat.le_refl _)]⟩) H e Q fun w b2 H' ⟨p, hp, e1, e2⟩ a2 => by rw [e1]; exact q p H' hp (e2 ▸ a2)
theorem n_lcR2 {ts : TA} {lo n : Int} {vs : List Nat} {j : Nat} (F : Nat → Bool) (G : Nat → V) (h : Pa ts σ b [.int lo, .int n]) (hb : -(2 ^ 62) ≤ lo ∧ lo < 2 ^ 62 ∧ -(2 ^ 62) ≤ n ∧ n < 2 ^ 62) (hz : n - lo < 100000) (hw : ∀ x, wipe ((wipe σ vs).set j (some x)) vs = wipe σ vs)
    (ht : ∀ (i : Nat) b1, lo + (i : Int) < n → Ex b b1 → Pt t ((wipe σ vs).set j (some (.int (lo + i)))) b1 (F i)) (he : ∀ (i : Nat) b1, lo + (i : Int) < n → F i = true → Ex b b1 → Pe te ((wipe σ vs).set j (some (.int (lo + i)))) b1 (G i)) : Pn (tLc (iRng2 ts) (gName j) t te vs) σ b (.lst (((List.range (n - lo).toNat).filter F).map G)) := fun H e Q q =>
  c_lcR2 (k := fun w b2 => ∃ p, b p = none ∧ w = .ref p ∧ b2 = upd b p (.lst (((List.range (n - lo).toNat).filter F).map G))) h hb (fun Dl i acc b' => b' = upd b Dl (.lst acc) ∧ acc = (((List.range (n - lo).toNat).take i).filter F).map G) (fun Dl hD => ⟨rfl, rfl⟩)
    (fun Dl i acc b' hD ⟨e1, e2⟩ => ⟨by rw [e1]; exact upd_same, len_lt e2 (len_fm _ F G i) (by rw [List.length_range]; omega)⟩)
    (fun Dl i acc b' hD hi ⟨e1, e2⟩ => g_name ⟨hw _, (ht i b' hi (by rw [e1]; exact Ex.new hD)).c (by
      have st := take_step (F := F) (G := G) (range_get (n := (n - lo).toNat) (i := i) (by omega))
      cases hF : F i with
      | true =>
        rw [hF, if_pos rfl] at st
        refine (he i b' hi hF (by rw [e1]; exact Ex.new hD)).c ⟨by rw [e1]; exact upd_same, by rw [e1, upd_upd], by rw [st, e2]⟩
      | false =>
        rw [hF, if_neg Bool.false_ne_true, List.append_nil] at st
        exact ⟨e1, by rw [st, e2]⟩)⟩)
    (fun Dl acc b' hD ⟨e1, e2⟩ => ⟨Dl, hD, rfl, by rw [e1, e2, List.take_of_length_le (by rw [List.length_range] <;> exact Nat.le_refl _)]⟩) H e Q fun w b2 H' ⟨p, hp, e1, e2⟩ a2 => by rw [e1]; exact q p H' hp (e2 ▸ a2)
theorem n_lcS {w : Str} {tl : TE} {vs : List Nat} {j : Nat} (F : Nat → Bool) (G : Nat → V) (h : Pe tl σ b (.str w)) (hz : w.cps.size < 100000) (hw : ∀ x, wipe ((wipe σ vs).set j (some x)) vs = wipe σ vs)
    (ht : ∀ c b1, c ∈ w.cps.toList → Ex b b1 → Pt t ((wipe σ vs).set j (some (.str ⟨#[c]⟩))) b1 (F c)) (he : ∀ c b1, c ∈ w.cps.toList → F c = true → Ex b b1 → Pe te ((wipe σ vs).set j (some (.str ⟨#[c]⟩))) b1 (G c)) : Pn (tLc (iStr tl) (gName j) t te vs) σ b (.lst ((w.cps.toList.filter F).map G)) := fun H e Q q =>
  c_lcS (k := fun u b2 => ∃ p, b p = none ∧ u = .ref p ∧ b2 = upd b p (.lst ((w.cps.toList.filter F).map G))) h (fun Dl i acc b' => b' = upd b Dl (.lst acc) ∧ acc = ((w.cps.toList.take i).filter F).map G) (fun Dl hD => ⟨rfl, rfl⟩)
    (fun Dl i acc b' hD ⟨e1, e2⟩ => ⟨by rw [e1]; exact upd_same, len_lt e2 (len_fm _ F G i) (by simpa using hz)⟩)
    (fun Dl i c acc b' hD hi ⟨e1, e2⟩ => by
      have hi' : w.cps.toList[i]? = some c := by simpa using hi
      have hmem := List.mem_of_getElem? hi'
      exact g_name ⟨hw _, (ht c b' hmem (by rw [e1]; exact Ex.new hD)).c (by
        have st := take_step (F := F) (G := G) hi'
        cases hF : F c with
        | true =>
          rw [hF, if_pos rfl] at st
          refine (he c b' hmem hF (by rw [e1]; exact Ex.new hD)).c ⟨by rw [e1]; exact upd_same, by rw [e1, upd_upd], by rw [st, e2]⟩
        | false =>
          rw [hF, if_neg Bool.false_ne_true, List.append_nil] at st
          exact ⟨e1, by rw [st, e2]⟩)⟩)
    (fun Dl acc b' hD ⟨e1, e2⟩ => ⟨Dl, hD, rfl, by rw [e1, e2, List.take_of_length_le (by simp)]⟩) H e Q fun w b2 H' ⟨p, hp, e1, e2⟩ a2 => by rw [e1]; exact q p H' hp (e2 ▸ a2)
end
end B

namespace B
open PySem PySem.Spec PyProof.Rows L2 Evl
abbrev rModI : R2 := rI (fun _ j => 0 < j) fun i j => .int (i % j)
abbrev rPowI : R2 := rI CPow fun i j => .int (i ^ j.toNat)
abbrev rNegI : V → Hp → VK → Prop := rU fun i => .int (-i)
abbrev rLtI : R2 := rI0 fun i j => .bl (decide (i < j))
abbrev rLeI : R2 := rI0 fun i j => .bl (decide (i ≤ j))
abbrev rGtI : R2 := rI0 fun i j => .bl (decide (j < i))
abbrev rGeI : R2 := rI0 fun i j => .bl (decide (j ≤ i))
abbrev rJoin (K : PySem.W.Frag) : V → List V → Hp → VK → Prop := fun x xs H Q => ∃ a p, ∃ ys : List Str, x = .str a ∧ xs = [.ref p] ∧ (SqL K H p (ys.map V.str) ∨ SqT K H p (ys.map V.str)) ∧ (ys.map (·.length)).sum + ys.length * a.length ≤ 16777216 ∧ Q (.str (Txt.join a ys)) H
abbrev rSplit : V → List V → Hp → VK → Prop := fun x xs H Q => ∃ a b, x = .str a ∧ xs = [.str b] ∧ (b.length == 0) = false ∧ a.length + 2 ≤ sizeLine ∧ rNewStrs (Txt.split a b) H Q
abbrev rStrInt : List V → Hp → VK → Prop := fun xs H Q => ∃ i, xs = [.int i] ∧ i.natAbs.log2 < 1920 ∧ Q (.str (toString i)) H
abbrev rIntStr : List V → Hp → VK → Prop := fun xs H Q => ∃ a n, xs = [.str a] ∧ PySem.intText? a = some n ∧ a.length ≤ 640 ∧ Q (.int n) H
def tRaise (c : Value) (E : XK) : TS := fun _ _ H => E c none H
def rListA (K : PySem.W.Frag) : List V → Hp → VK → Prop := fun xs H Q => rListU K xs H Q ∨ ∃ z, xs = [.str z] ∧ z.cps.size ≤ sizeLine ∧ ∀ l, H l = none → Q (.ref l) (upd H l (.lst (sgs z)))
def rSlU (K : PySem.W.Frag) : V → Option Int → Option Int → Hp → VK → Prop := fun x lo hi H Q => rSlL K x lo hi H Q ∨ rSlT K x lo hi H Q ∨ rSlS x lo hi H Q
section
variable {X : Cx}
theorem callR_or {f : Value} {r1 r2 : List V → Hp → VK → Prop} (h1 : CallR X f r1) (h2 : CallR X f r2) : CallR X f (fun xs H Q => r1 xs H Q ∨ r2 xs H Q) := fun pins s σ H xs us Q I r h => by
  rcases h with h | h
  · exact h1 pins s σ H xs us Q I r h
  · exact h2 pins s σ H xs us Q I r h
theorem call_listU (hc : X.calm = true := by rfl) : CallR X (.type "list") (rListA X.K) := callR_or call_list_of (call_list_txt hc)
theorem slR_or {r1 r2 : V → Option Int → Option Int → Hp → VK → Prop} (h1 : SlR X r1) (h2 : SlR X r2) : SlR X (fun x lo hi H Q => r1 x lo hi H Q ∨ r2 x lo hi H Q) := fun pins s σ H x v vl vu lo hi sl Q I rx hs pl pu h => by
  rcases h with h | h
  · exact h1 pins s σ H x v vl vu lo hi sl Q I rx hs pl pu h
  · exact h2 pins s σ H x v vl vu lo hi sl Q I rx hs pl pu h
theorem sl_U : SlR X (rSlU X.K) := slR_or sl_list (slR_or sl_tup sl_str)
theorem hu64 {k : Nat} {A : Around} (hr : Room k A) : A.units + 64 < cLine := hr.units
theorem pe_ci {x : Str} {i : Int} {pos : Pos} (hg : Gl X x) (h : ∃ t, X.mg x = some (.int i t)) (hd : (x == ("__debug__" : Str)) = false := by decide) : PE X (.Name x pos) (tC (.int i)) := by
  obtain ⟨t, e⟩ := h
  exact pe_glob hg e ⟨t, rfl⟩ hd
theorem pe_cs {x z : Str} {pos : Pos} (hg : Gl X x) (h : ∃ t, X.mg x = some (.str z t)) (hd : (x == ("__debug__" : Str)) = false := by decide) : PE X (.Name x pos) (tC (.str z)) := by
  obtain ⟨t, e⟩ := h
  exact pe_glob hg e ⟨t, rfl⟩ hd
end
/-- the def at at_ keeps the promise sb, by at most level k -/
structure Fok (P : Program) (w : World) (K : PySem.W.Frag) (mg : Str → Option Value) (base : Heap) (k : Nat) (at_ : Str × Option Str) (ps : List Str) (sb : Sb) : Prop where
  ex : ∃ fd, FnOk P w K mg base (L2N.CX P w) k (He.fAd K at_) fd ps (up sb) ∧ Binds K fd ps []
  kp : PySem.W.keepIn K (.ref (He.fAd K at_)) = true
section
variable {P : Program} {w : World} {K : PySem.W.Frag} {mg : Str → Option Value} {base : Heap}
theorem fok_mk {x qual : Str} {params : Arguments} {body : List Stmt} {scope : Scope} {at_ : Str × Option Str} {fd : FuncData} {N ps : List Str} {k : Nat} {sb : Sb} (F : FunD K x qual params body scope [] [] (He.fAd K at_) fd) (S : FnScope N ps scope)
    (len : ∀ vs b k ke, sb vs b k ke → vs.length = ps.length)
    (hb : ∀ (kV doc pm : Value) (an : Option Addr) (cdv ct : Value) (us : List Value), us.length = ps.length → bindArgs (PySem.W.fnOf x qual params body scope .none kV doc pm an cdv ct) ⟨us, []⟩ = pure (ps.zip us))
    (h : ∀ (cdv : Value) (A : Around) (outer : List Env) (s : Shared) (H : Hp) (E : XK), Room k (A.deeper (envOfC qual scope s.heap.objs.size (He.fAd K at_) cdv)) →
      ∃ t, PSs (cxOf (L2N.CX P w) P w K mg base N qual scope (He.fAd K at_) cdv A outer s H E) body t ∧
        ∀ (vs : List V) (b : Hp) (k : VK) (ke : XB), sb vs b k ke → (∀ c b' H', ke c b' → Ex b' H' → E c none H') → Cs t { nx := fun _ b' => k .non b', rt := k } (start N vs) b) :
    Fok P w K mg base (k + 1) at_ ps sb := by
  refine ⟨⟨fd, FunD.ok F S (fun vs H Q E hs => ?_) (fun cdv A outer s H vs Q E hr hs => ?_), FunD.bindsN F hb⟩, F.kp⟩
  · obtain ⟨b, k, ke, _, hsb, _⟩ := hs
    exact len vs b k ke hsb
  · obtain ⟨t, hd, hp⟩ := h cdv A outer s H E hr
    obtain ⟨b, k, ke, hb, hsb, hq, he⟩ := hs
    refine ⟨t, hd, hp vs b k ke hsb he H hb _ ⟨fun σ b' H' q e => hq _ b' H' q e, fun v b' H' q e => hq _ b' H' q e, fun _ _ _ q _ => q, fun _ _ _ q _ => q⟩⟩
end
section
variable {P : Program} {w : World} {K : PySem.W.Frag} {mg : Str → Option Value} {base : Heap} {N : List Str} {qual : Str} {scope : Scope} {f : Addr} {cdv : Value} {A : Around} {outer : List Env} {s : Shared} {H : Hp} {E : XK}
theorem px : Passes (L2N.CX P w) (cxOf (L2N.CX P w) P w K mg base N qual scope f cdv A outer s H E) E := L2N.passes_call (X := cxOf (L2N.CX P w) P w K mg base N qual scope f cdv A outer s H E) (W := fun cls d _ H => E cls d H) (L2N.takes_of rfl rfl rfl rfl) (fun _ _ _ _ h => h)
/-- in a comprehension's block nothing may leave -/
theorem pxB {X : Cx} : Passes (L2N.CX X.prog X.w) X E0 := fun _ _ _ _ _ _ _ c => by
  obtain ⟨_, _, _, _, _, _, _, _, _, _, _, _, z⟩ := c
  exact z.elim
theorem pso : PassesOwn (model (cxOf (L2N.CX P w) P w K mg base N qual scope f cdv A outer s H E).prog (cxOf (L2N.CX P w) P w K mg base N qual scope f cdv A outer s H E).w) (cxOf (L2N.CX P w) P w K mg base N qual scope f cdv A outer s H E).A (cxOf (L2N.CX P w) P w K mg base N qual scope f cdv A outer s H E).env (cxOf (L2N.CX P w) P w K mg base N qual scope f cdv A outer s H E).xe := passes_of (X := cxOf (L2N.CX P w) P w K mg base N qual scope f cdv A outer s H E) rfl
theorem tko : L2N.Takes (cxOf (L2N.CX P w) P w K mg base N qual scope f cdv A outer s H E) (fun cls d _ H => E cls d H) := L2N.takes_of rfl rfl rfl rfl
end
section
variable {X : Cx} {j k : Nat} {ps : List Str} {sb : Sb} {E : XK} {x C m : Str} {p pos apos : Pos} {e o : Expr} {es : List Expr} {ta : TE} {t : TA}
theorem pe_fn (F : Fok X.prog X.w X.K X.mg X.base k (x, none) ps sb) (hr : Room j X.A) (hg : Gl X x) (hm : X.mg x = some (.ref (He.ga X.K x))) (hx : Passes (L2N.CX X.prog X.w) X E) (ha : PA X (e :: es) t) (hk : k ≤ j := by decide)
    (hdb : (x == ("__debug__" : Str)) = false := by decide) (he : starEach (e :: es) X.env = (false, eval e X.env) :: starEach es X.env := by rfl) (hpl : (backTo pos (starEach es X.env)).any (·.1) = false := by rfl) : PE X (.Call (.Name x p) (e :: es) [] pos) (tCall (up sb) [] E t) := by
  obtain ⟨fd, F1, b⟩ := F.ex
  exact pe_call F1 (hr.mono hk) hg hm F.kp b .nil hx ha hdb he hpl
theorem pe_fn0 (F : Fok X.prog X.w X.K X.mg X.base k (x, none) ps sb) (hr : Room j X.A) (hg : Gl X x) (hm : X.mg x = some (.ref (He.ga X.K x))) (hx : Passes (L2N.CX X.prog X.w) X E) (hk : k ≤ j := by decide)
    (hdb : (x == ("__debug__" : Str)) = false := by decide) : PE X (.Call (.Name x p) [] [] pos) (tCall (up sb) [] E tNil) := by
  obtain ⟨fd, F1, b⟩ := F.ex
  exact pe_call0 F1 (hr.mono hk) hg hm F.kp b .nil hx hdb
theorem pe_me {pl : Sem Bool} (F : Fok X.prog X.w X.K X.mg X.base k (C, some m) ps sb) (c : Cls X.K (He.ga X.K C)) (hm : Meth X.K (He.ga X.K C) m (He.ma X.K (He.ga X.K C) m)) (hr : Room j X.A) (hx : Passes (L2N.CX X.prog X.w) X E) (ho : PE X o ta) (ha : PA X (e :: es) t) (hk : k ≤ j := by decide)
    (hst : starEach (e :: es) X.env = (false, eval e X.env) :: starEach es X.env := by rfl) (hpl : (backTo pos (starEach es X.env)).any (·.1) = false := by rfl)
    (ht : eval (.Call (.Attribute o m apos) (e :: es) [] pos) X.env = (do
      let ov ← eval o X.env
      standAt apos.atName
      let (f, first) ← holding [ov] (getMethod ov m pl)
      callWith pos f first (backTo pos (starEach (e :: es) X.env)) (backToKw pos (keywordEach [] X.env))) := by rfl) : PE X (.Call (.Attribute o m apos) (e :: es) [] pos) (tMeth (He.ga X.K C) m (up sb) [] E ta t) := by
  obtain ⟨fd, F1, b⟩ := F.ex
  exact pe_meth ho c hm F1 (hr.mono hk) b .nil hx ha hst hpl ht
theorem pe_me0 {pl : Sem Bool} (F : Fok X.prog X.w X.K X.mg X.base k (C, some m) ps sb) (c : Cls X.K (He.ga X.K C)) (hm : Meth X.K (He.ga X.K C) m (He.ma X.K (He.ga X.K C) m)) (hr : Room j X.A) (hx : Passes (L2N.CX X.prog X.w) X E) (ho : PE X o ta) (hk : k ≤ j := by decide)
    (ht : eval (.Call (.Attribute o m apos) [] [] pos) X.env = (do
      let ov ← eval o X.env
      standAt apos.atName
      let (f, first) ← holding [ov] (getMethod ov m pl)
      callWith pos f first (backTo pos (starEach [] X.env)) (backToKw pos (keywordEach [] X.env))) := by rfl) : PE X (.Call (.Attribute o m apos) [] [] pos) (tMeth (He.ga X.K C) m (up sb) [] E ta tNil) := by
  obtain ⟨fd, F1, b⟩ := F.ex
  exact pe_meth0 ho c hm F1 (hr.mono hk) b .nil hx ht
theorem pe_mk (F : Fok X.prog X.w X.K X.mg X.base k (x, some "__init__") ps sb) (M : Mk X.K (He.ga X.K x) (He.ma X.K (He.ga X.K x) "__init__")) (hr : Room j X.A) (hg : Gl X x) (hm : X.mg x = some (.ref (He.ga X.K x))) (hx : Passes (L2N.CX X.prog X.w) X E) (ha : PA X (e :: es) t) (hk : k + 1 ≤ j := by decide)
    (hdb : (x == ("__debug__" : Str)) = false := by decide) (he : starEach (e :: es) X.env = (false, eval e X.env) :: starEach es X.env := by rfl) (hpl : (backTo pos (starEach es X.env)).any (·.1) = false := by rfl) : PE X (.Call (.Name x p) (e :: es) [] pos) (tMake (He.ga X.K x) (up sb) [] E t) := by
  obtain ⟨fd, F1, b⟩ := F.ex
  exact pe_make M F1 (hr.mono hk) hg hm b .nil hx ha hdb he hpl
end
section
variable {K : PySem.W.Frag} {σ : L2.St} {b b' H : Hp} {ta tb te tx : TE} {t u : TT} {x y z v : V} {r : R2} {k : VK} {D : Ends} {tu tw tz : TS} {g : TG} {ks : SK} {E : XK} {ke : XB}
theorem s_raise {c : Value} (hE : ∀ c b' H', ke c b' → Ex b' H' → E c none H') (h : ke c b) : Cs (tRaise c E) D σ b := fun H a D' l => hE c b H h a
theorem r_pow {i j : Int} (h : CPow i j) : Pr rPowI (.int i) (.int j) b (.int (i ^ j.toNat)) := r_I h
theorem n_listT {ts : TA} {w : Str} (h : Pa ts σ b [.str w]) (hz : w.cps.size ≤ 100000) : Pn (tCB (rListA K) ts) σ b (.lst (sgs w)) := fun H a Q q => h H a _ fun H1 a1 => .inr ⟨w, rfl, sz_of hz, fun l hl => q l _ (ex_none a1 hl) (ex_upd a1)⟩
theorem n_list {ts : TA} {p : Addr} {xs : List V} (h : Pa ts σ b [.ref p]) (hx : SqL K b p xs) : Pn (tCB (rListA K) ts) σ b (.lst xs) := fun H a Q q => h H a _ fun H1 a1 => .inl ⟨p, xs, rfl, .inl (ex_l a1 hx), fun l hl => q l _ (ex_none a1 hl) (ex_upd a1)⟩
theorem t_yes : Pt tYes σ b true := fun H a _ q => q H a
/-! slices -/
theorem o_none : Po tNoPart σ b none := fun H a _ q => q H a
theorem o_some {i : Int} (h : Pe te σ b (.int i)) : Po (tPart te) σ b (some i) := fun H a _ q => h H a _ fun H1 a1 => ⟨i, rfl, q H1 a1⟩
theorem n_slL {tl th : TO} {p : Addr} {xs : List V} {lo hi : Option Int} (h : Pe te σ b (.ref p)) (h1 : Po tl σ b lo) (h2 : Po th σ b hi) (hx : SqL K b p xs) : Pn (tSl (rSlU K) te tl th) σ b (.lst (cutV xs lo hi)) := fun H a Q q =>
  h H a _ fun H1 a1 => h1 H1 a1 _ fun H2 a2 => h2 H2 a2 _ fun H3 a3 => .inl ⟨p, xs, rfl, ex_l a3 hx, fun l hl => q l _ (ex_none a3 hl) (ex_upd a3)⟩
theorem n_slT {tl th : TO} {p : Addr} {xs : List V} {lo hi : Option Int} (h : Pe te σ b (.ref p)) (h1 : Po tl σ b lo) (h2 : Po th σ b hi) (hx : SqT K b p xs) (hw : ¬ (HT.sIx xs.length 0 lo = 0 ∧ HT.sIx xs.length xs.length hi = xs.length)) : Pn (tSl (rSlU K) te tl th) σ b (.tup (cutV xs lo hi)) := fun H a Q q =>
  h H a _ fun H1 a1 => h1 H1 a1 _ fun H2 a2 => h2 H2 a2 _ fun H3 a3 => .inr (.inl ⟨p, xs, rfl, ex_t a3 hx, hw, fun l hl => q l _ (ex_none a3 hl) (ex_upd a3)⟩)
theorem v_slS {tl th : TO} {w : Str} {lo hi : Option Int} (h : Pe te σ b (.str w)) (h1 : Po tl σ b lo) (h2 : Po th σ b hi) (hz : w.length ≤ 100000) : Pe (tSl (rSlU K) te tl th) σ b (.str (cutS w lo hi)) := fun H a Q q =>
  h H a _ fun H1 a1 => h1 H1 a1 _ fun H2 a2 => h2 H2 a2 _ fun H3 a3 => .inr (.inr ⟨w, rfl, sz_of hz, q H3 a3⟩)
end
end B

namespace B
open PySem PySem.Spec PyProof.Rows L2 Evl
section
variable {K : PySem.W.Frag} {σ : L2.St} {b b' H : Hp} {ta tb te tx : TE} {t u : TT} {x y z v : V} {r : R2} {k : VK} {D : Ends} {tu tw tz : TS} {g : TG} {ks : SK} {E : XK} {ke : XB}
/-! ### data at any depth -/
mutual
theorem dp_ex (e : Ex b H) : ∀ {v : V} {d : PyData}, Dp K b v d → Dp K H v d
  | _, _, .non => .non
  | _, _, .bl c => .bl c
  | _, _, .int i => .int i
  | _, _, .str s => .str s
  | _, _, .lst h1 h2 => .lst (ex_l e h1) (dpa_ex e h2)
  | _, _, .tup h1 h2 => .tup (ex_t e h1) (dpa_ex e h2)
theorem dpa_ex (e : Ex b H) : ∀ {vs : List V} {ds : List PyData}, DpAll K b vs ds → DpAll K H vs ds
  | _, _, .nil => .nil
  | _, _, .cons h1 h2 => .cons (dp_ex e h1) (dpa_ex e h2)
end
theorem r_eqD {d e : PyData} (h1 : Dp K b x d) (h2 : Dp K b y e) (s1 : SeqAt.shaped d = true) (s2 : SeqAt.shaped e = true) : Pr (rEqU K) x y b (.bl (PyData.eqv d e)) := fun H a Q q => .inr ⟨d, e, dp_ex a h1, dp_ex a h2, s1, s2, q H a⟩
theorem r_neD {d e : PyData} (h1 : Dp K b x d) (h2 : Dp K b y e) (s1 : SeqAt.shaped d = true) (s2 : SeqAt.shaped e = true) : Pr (rNeU K) x y b (.bl (!PyData.eqv d e)) := fun H a Q q => .inr ⟨d, e, dp_ex a h1, dp_ex a h2, s1, s2, q H a⟩
/-- a list of things that are each one datum -/
theorem dpa_map {α : Type} {f : α → V} {g : α → PyData} (h : ∀ a, Dp K b (f a) (g a)) : ∀ l : List α, DpAll K b (l.map f) (l.map g)
  | [] => .nil
  | a :: l => .cons (h a) (dpa_map h l)
theorem canLay_map {α : Type} {g : α → PyData} : ∀ l : List α, (∀ a ∈ l, (g a).canLay0 = true) → PyData.canLayAll0 (l.map g) = true
  | [], _ => rfl
  | a :: l, h => by
    show ((g a).canLay0 && PyData.canLayAll0 (l.map g)) = true
    rw [h a (List.mem_cons_self ..), canLay_map l fun c hc => h c (List.mem_cons_of_mem _ hc)]
    rfl
theorem depthAll_map {α : Type} {g : α → PyData} (n : Nat) (h : ∀ a, (g a).depth ≤ n) : ∀ l : List α, PyData.depthAll (l.map g) ≤ n
  | [] => Nat.zero_le _
  | a :: l => by
    show max (g a).depth (PyData.depthAll (l.map g)) ≤ n
    exact Nat.max_le.mpr ⟨h a, depthAll_map n h l⟩
theorem eqvAll_map {α : Type} [DecidableEq α] {g : α → PyData} (h : ∀ a b, PyData.eqv (g a) (g b) = decide (a = b)) : ∀ l m : List α, PyData.eqvAll (l.map g) (m.map g) = decide (l = m)
  | [], [] => by rfl
  | [], _ :: _ => by rfl
  | _ :: _, [] => by rfl
  | a :: l, c :: m => by
    show (PyData.eqv (g a) (g c) && PyData.eqvAll (l.map g) (m.map g)) = _
    rw [h, eqvAll_map h l m]
    by_cases e1 : a = c <;> by_cases e2 : l = m <;> simp [e1, e2]
def dStrs (l : List Str) : PyData := .list (l.map .str)
theorem dp_strs {p : Addr} {l : List Str} (h : SqL K b p (l.map V.str)) : Dp K b (.ref p) (dStrs l) := .lst h (dpa_map (fun a => .str a) l)
theorem sh_strs (l : List Str) (h : ∀ x ∈ l, PyData.strOk x = true) : SeqAt.shaped (dStrs l) = true := by
  unfold SeqAt.shaped dStrs
  have h1 : PyData.canLayAll0 (l.map .str) = true := canLay_map l h
  have h2 : PyData.depthAll (l.map .str) ≤ 0 := depthAll_map (g := PyData.str) 0 (fun _ => by simp [PyData.depth]) l
  show (PyData.canLayAll0 (l.map .str) && decide (PyData.depth (.list (l.map .str)) ≤ 64)) = true
  rw [h1]
  have h3 : PyData.depth (.list (l.map .str)) ≤ 64 := by
    simp only [PyData.depth]
    omega
  simp [h3]
theorem eqv_strs (l m : List Str) : PyData.eqv (dStrs l) (dStrs m) = decide (l = m) := by
  show PyData.eqvAll (l.map .str) (m.map .str) = _
  exact eqvAll_map (fun a b => by
    show (a == b) = decide (a = b)
    by_cases e : a = b <;> simp [e]) l m
def dInts (l : List Int) : PyData := .list (l.map .int)
theorem dp_ints {p : Addr} {l : List Int} (h : SqL K b p (l.map V.int)) : Dp K b (.ref p) (dInts l) := .lst h (dpa_map (fun a => .int a) l)
theorem sh_ints (l : List Int) : SeqAt.shaped (dInts l) = true := by
  unfold SeqAt.shaped dInts
  have h1 : PyData.canLayAll0 (l.map .int) = true := canLay_map l (fun _ _ => rfl)
  have h2 : PyData.depthAll (l.map .int) ≤ 0 := depthAll_map (g := PyData.int) 0 (fun _ => by simp [PyData.depth]) l
  show (PyData.canLayAll0 (l.map .int) && decide (PyData.depth (.list (l.map .int)) ≤ 64)) = true
  rw [h1]
  have h3 : PyData.depth (.list (l.map .int)) ≤ 64 := by
    simp only [PyData.depth]
    omega
  simp [h3]
theorem eqv_ints (l m : List Int) : PyData.eqv (dInts l) (dInts m) = decide (l = m) := by
  show PyData.eqvAll (l.map .int) (m.map .int) = _
  exact eqvAll_map (fun a b => by
    show (a == b) = decide (a = b)
    by_cases e : a = b <;> simp [e]) l m
/-- a pair of numbers -/
def dPr (i j : Int) : PyData := .tuple [.int i, .int j]
theorem dp_pr {p : Addr} {i j : Int} (h : SqT K b p [.int i, .int j]) : Dp K b (.ref p) (dPr i j) := .tup h (.cons (.int i) (.cons (.int j) .nil))
theorem sh_pr (i j : Int) : SeqAt.shaped (dPr i j) = true := by rfl
theorem eqv_pr (i j i' j' : Int) : PyData.eqv (dPr i j) (dPr i' j') = decide (i = i' ∧ j = j') := by
  show ((i == i') && ((j == j') && true)) = _
  by_cases e1 : i = i' <;> by_cases e2 : j = j' <;> simp [e1, e2]
/-! ### dict displays -/
theorem n_disp1 {te1 te2 : TE} {trs : List (TE × TE)} : True := trivial
/-- the pairs of a display, each value pure -/
def Pp (trs : List (TE × TE)) (σ : L2.St) (b : Hp) (ps : List (V × V)) : Prop := ∀ H, Ex b H → ∀ Q : List (V × V) → Hp → Prop, (∀ H', Ex b H' → Q ps H') → tPairs trs σ H Q
theorem pp_nil : Pp [] σ b [] := fun H a Q q => q H a
theorem pp_cons {trs : List (TE × TE)} {ps : List (V × V)} (h1 : Pe ta σ b x) (h2 : Pe tb σ b y) (h3 : Pp trs σ b ps) : Pp ((ta, tb) :: trs) σ b ((x, y) :: ps) := fun H a Q q => h1 H a _ fun H1 a1 => h2 H1 a1 _ fun H2 a2 => h3 H2 a2 _ fun H3 a3 => q H3 a3
theorem n_disp {trs : List (TE × TE)} {ps : List (V × V)} {kvs : List (Key × V)} (h : ∀ b1, Ex b b1 → Pp trs σ b1 ps) (hp : ps = kvs.map (fun kv => (kV kv.1, kv.2))) (hl : kvs.length ≤ 15) : Pn (tDisp trs) σ b (.dK (mergeK [] kvs)) := fun H a Q q p hp' =>
  h _ (Ex.new (ex_none a hp')) _ (ex_upd a) _ fun H2 a2 => ⟨a2 p _ upd_same, kvs, hp, hl, q p _ (ex_none a hp') (by
    have e := ex_upd (p := p) (o := .dK (mergeK [] kvs)) a2
    rw [upd_upd] at e
    exact e)⟩
theorem v_dgetN {kvs : List (Key × V)} {key : Key} (h : Pn ta σ b (.dK kvs)) (hy : ∀ b1, Ex b b1 → Pe tb σ b1 (kV key)) (hv : valV kvs key = some v) : Pe (tDGet ta tb) σ b v := fun H a Q q =>
  h H a _ fun p H1 hp a1 => hy _ (Ex.new hp) H1 a1 _ fun H2 a2 => ⟨p, v, rfl, hv ▸ DGet.k (k := key) (a2 p _ upd_same), q H2 ((Ex.new hp).trans a2)⟩
theorem v_dget {p : Addr} {kvs : List (Key × V)} {key : Key} (h : Pe ta σ b (.ref p)) (hy : Pe tb σ b (kV key)) (hp : b p = some (.dK kvs)) (hv : valV kvs key = some v) : Pe (tDGet ta tb) σ b v := fun H a Q q =>
  h H a _ fun H1 a1 => hy H1 a1 _ fun H2 a2 => ⟨p, v, rfl, hv ▸ DGet.k (k := key) (a2 p _ hp), q H2 a2⟩
theorem v_dget2 {p : Addr} {kvs : List (Key × V)} {key : Key} (h : Pe ta σ b (.ref p)) (hy : Pe tb σ b (kV key)) (hx : Pe tx σ b x) (hp : b p = some (.dK kvs)) : Pe (tDGet2 ta tb tx) σ b ((valV kvs key).getD x) := fun H a Q q =>
  h H a _ fun H1 a1 => ⟨p, rfl, .inl ⟨kvs, .inl (a1 p _ hp)⟩, hy H1 a1 _ fun H2 a2 => hx H2 a2 _ fun H3 a3 => ⟨_, DGet.k (k := key) (a3 p _ hp), q H3 a3⟩⟩
/-! ### join, reversed texts -/
theorem v_joinN {w : Str} {xs : List V} {ys : List Str} (h : Pe ta σ b (.str w)) (hl : ∀ b1, Ex b b1 → Pn tb σ b1 (.lst xs)) (hx : xs = ys.map V.str) (hz : (ys.map (·.length)).sum + ys.length * w.length ≤ 16777216) : Pe (tM1 (rJoin K) ta tb) σ b (.str (Txt.join w ys)) := fun H a Q q =>
  h H a _ fun H1 a1 => ⟨⟨w, rfl⟩, hl b (Ex.refl b) H1 a1 _ fun p H2 hp a2 => ⟨w, p, ys, rfl, rfl, .inl (sq_of (by rw [← hx]; exact a2 p _ upd_same)), hz, q H2 ((Ex.new hp).trans a2)⟩⟩
theorem rev_str (z : Str) : Txt.sliceBy z none none ((-1 : Int), (0 : Tok)) = ⟨z.cps.toList.reverse.toArray⟩ := by
  unfold Txt.sliceBy
  have hc : (((some ((-1 : Int), (0 : Tok))).map (·.1)).getD 1 == 1) = false := by decide
  rw [hc, Bool.false_and, if_neg Bool.false_ne_true]
  congr 2
  show (Builtin.Str.strSliceIndices none none (-1) z.length).filterMap (z.cps[·]?) = z.cps.toList.reverse
  unfold Builtin.Str.strSliceIndices
  show (sliceRange ((z.cps.size : Int) - 1) (-1) (-1)).filterMap (z.cps[·]?) = _
  rw [PySem.W.krv_sliceRange, PySem.W.krv_range, List.filterMap_reverse, PySem.W.krv_all]
theorem v_revS {w : Str} (h : Pe ta σ b (.str w)) (hz : w.length ≤ 100000) : Pe (tRevS ta) σ b (.str ⟨w.cps.toList.reverse.toArray⟩) := fun H a Q q => h H a _ fun H1 a1 => ⟨w, rfl, sz_of hz, by rw [rev_str]; exact q H1 a1⟩
end
end B

namespace B
open PySem PySem.Spec PyProof.Rows L2 Evl
section
variable {K : PySem.W.Frag} {σ : L2.St} {b b' H : Hp} {ta tb te tx : TE} {t u : TT} {x y z v : V} {r : R2} {k : VK} {D : Ends} {tu tw tz : TS} {g : TG} {ks : SK} {E : XK} {ke : XB}
/-! ### what is no longer wanted may be forgotten -/
theorem Ce.weak (h : Ce te σ b fun v b2 => ∃ b3, Ex b3 b2 ∧ k v b3) : Ce te σ b k := fun H a Q q => h H a Q fun v b2 H' ⟨b3, e, hk⟩ a' => q v b3 H' hk (e.trans a')
theorem s_retW (h : Ce te σ b fun v b2 => ∃ b3, Ex b3 b2 ∧ D.rt v b3) : Cs (tRet te) D σ b := s_ret (Ce.weak h)
def wk (D : Ends) : Ends := { nx := fun σ b => ∃ b3, Ex b3 b ∧ D.nx σ b3, rt := fun v b => ∃ b3, Ex b3 b ∧ D.rt v b3, bk := fun σ b => ∃ b3, Ex b3 b ∧ D.bk σ b3, ct := fun σ b => ∃ b3, Ex b3 b ∧ D.ct σ b3 }
theorem Cs.weak (h : Cs tu (wk D) σ b) : Cs tu D σ b := fun H a D' l => h H a D' ⟨fun σ b H ⟨b3, e, q⟩ a => l.nx σ b3 H q (e.trans a), fun σ b H ⟨b3, e, q⟩ a => l.rt σ b3 H q (e.trans a), fun σ b H ⟨b3, e, q⟩ a => l.bk σ b3 H q (e.trans a), fun σ b H ⟨b3, e, q⟩ a => l.ct σ b3 H q (e.trans a)⟩
/-- a statement's ends may be reached with more than is wanted -/
theorem s_weak (h : Cs tu { D with nx := fun σ b => ∃ b3, Ex b3 b ∧ D.nx σ b3 } σ b) : Cs tu D σ b := fun H a D' l => h H a D' ⟨fun σ b H ⟨b3, e, q⟩ a => l.nx σ b3 H q (e.trans a), l.rt, l.bk, l.ct⟩
theorem Ex.swap {p d : Addr} {o q : HO} (hd : b d = none) (hp : b p = none) (hne : p ≠ d) : Ex (upd b p o) (upd (upd b d q) p o) := fun c u h => by
  by_cases hc : c = p
  · rw [hc, upd_same] at h
    rw [hc, upd_same]
    exact h
  · rw [upd_ne hc] at h ⊢
    rw [upd_ne (ne_of_none h hd)]
    exact h
theorem Ex.under {b b' : Hp} {p : Addr} {o : HO} (e : Ex b b') : Ex (upd b p o) (upd b' p o) := ex_upd e
theorem upd_comm {p d : Addr} {o q : HO} (hne : p ≠ d) : upd (upd b p o) d q = upd (upd b d q) p o := by
  funext c
  unfold upd
  by_cases h1 : c = d
  · by_cases h2 : c = p
    · exact absurd (h2.symm.trans h1) hne
    · rw [if_pos h1, if_neg h2, if_pos h1]
  · by_cases h2 : c = p
    · rw [if_neg h1, if_pos h2, if_pos h2]
    · rw [if_neg h1, if_neg h2, if_neg h2, if_neg h1]
end
section
variable {P : Program} {w : World} {K : PySem.W.Frag} {mg : Str → Option Value} {base : Heap}
/-- as fok_mk, of one function object -/
theorem fn_mk {x qual : Str} {params : Arguments} {body : List Stmt} {scope : Scope} {at_ : Str × Option Str} {fd : FuncData} {N ps : List Str} {k : Nat} {sb : Sb} (F : FunD K x qual params body scope [] [] (He.fAd K at_) fd) (S : FnScope N ps scope)
    (len : ∀ vs b k ke, sb vs b k ke → vs.length = ps.length)
    (h : ∀ (cdv : Value) (A : Around) (outer : List Env) (s : Shared) (H : Hp) (E : XK), Room k (A.deeper (envOfC qual scope s.heap.objs.size (He.fAd K at_) cdv)) →
      ∃ t, PSs (cxOf (L2N.CX P w) P w K mg base N qual scope (He.fAd K at_) cdv A outer s H E) body t ∧
        ∀ (vs : List V) (b : Hp) (k : VK) (ke : XB), sb vs b k ke → (∀ c b' H', ke c b' → Ex b' H' → E c none H') → Cs t { nx := fun _ b' => k .non b', rt := k } (start N vs) b) :
    FnOk P w K mg base (L2N.CX P w) (k + 1) (He.fAd K at_) fd ps (up sb) := by
  refine FunD.ok F S (fun vs H Q E hs => ?_) (fun cdv A outer s H vs Q E hr hs => ?_)
  · obtain ⟨b, k, ke, _, hsb, _⟩ := hs
    exact len vs b k ke hsb
  · obtain ⟨t, hd, hp⟩ := h cdv A outer s H E hr
    obtain ⟨b, k, ke, hb, hsb, hq, he⟩ := hs
    refine ⟨t, hd, hp vs b k ke hsb he H hb _ ⟨fun σ b' H' q e => hq _ b' H' q e, fun v b' H' q e => hq _ b' H' q e, fun _ _ _ q _ => q, fun _ _ _ q _ => q⟩⟩
/-- no exception leaves: for the law itself -/
theorem fn_cx0 {k : Nat} {f : Addr} {fd : FuncData} {ps : List Str} {sb : Sb} (F : FnOk P w K mg base (L2N.CX P w) k f fd ps (up sb)) : FnOk P w K mg base CX0 k f fd ps (fun vs H Q _ => up sb vs H Q E0) := by
  refine ⟨fun vs H Q E h => F.len vs H Q E0 h, fun A outer s H args us vs Q E hr he hb hv hs => codeAny_mono (F.run A outer s H args us vs Q E0 hr he hb hv hs) fun r s' h => ?_⟩
  cases r with
  | error e =>
    obtain ⟨_, _, _, _, _, _, _, _, _, _, _, _, z⟩ := h
    exact z.elim
  | ok fl => cases fl <;> exact h
end
end B

/-! H1: lists walked while an exception is handled -/
namespace Hx
open PySem PySem.Spec PyProof.Rows L2 HotX
section
variable {prog : Program} {w : World} {A : Around} {E : Value → Shared → Prop} {s : Shared}
/-- the end of a list's iterator -/
theorem nextEnd {J l e1 : Addr} {n : Nat} {vs : Array Value} {Q : Option Value → Shared → Prop} (hot : HotAt A e1 s.heap) (ne : e1 ≠ J) (hJ : s.heap.IsListIter J l n) (hl : s.heap.IsList l vs) (hn : vs[n]? = none)
    (q : ∀ h', (∀ c u, c ≠ J → s.heap.get? c = some u → h'.get? c = some u) → Q none { s with heap := h' }) : wpAny (model prog w) A (pyNext (.ref J)) Q E s := by
  obtain ⟨u, hu, hcl, hda⟩ := id hJ
  obtain ⟨ul, hul, _, m, hdl⟩ := hl
  obtain ⟨hh, o1, w1, g1, d1, c1⟩ := hot
  unfold pyNext
  refine wpAny_bind (wpAny_attempt ?_)
  refine wpAny_callSpecial?_slot (name := Str.ofString "__next__") hJ.typeIs slot_listiter_next ?_
  refine wpAny_call_entry slot_listiter_next hJ.typeIs entry_listiter_next ?_ (args_listiter_next _)
  show wpAny _ _ (field (.ref J) 0 >>= _) _ _ s
  refine wpAny_bind (wpAny_field hu hda (x := .ref l) rfl ?_)
  show wpAny _ _ (if (Value.ref l == Value.none) = true then _ else _) _ _ s
  rw [if_neg (fun z : (Value.ref l == Value.none) = true => Bool.false_ne_true z)]
  show wpAny _ _ (field (.ref J) 1 >>= _) _ _ s
  refine wpAny_bind (wpAny_field hu hda (x := .int n 0) rfl ?_)
  show wpAny _ _ (seqItems? (.ref l) >>= _) _ _ s
  refine wpAny_bind (wpAny_seqItems hul hdl ?_)
  simp only [Int.toNat_natCast, hn]
  refine wpAny_bind (wpAny_rule ?_)
  refine wpAny_bind (wpAny_setField hu hda (by simp) ?_)
  show wpAny _ _ (newExc (.type "StopIteration") [] >>= _) _ _ _
  refine wpAny_bind ?_
  simp only [newExc, newTuple]
  refine wpAny_bind (wpAny_newObj_type ?_ (by size_fits))
  refine wpAny_bind (m := firstArgMember _ _) ?_
  refine wpAny_of_eq (a := Value.none) (by first | rfl | (simp only [firstArgMember]; rfl)) ?_
  refine wpAny_newObj_type ?_ (by size_fits)
  generalize hk : s.heap.update J (Obj.mapFields fun x => x.setIfInBounds 0 Value.none) = k0
  have old : ∀ c u', c ≠ J → s.heap.get? c = some u' → k0.get? c = some u' := fun c u' hc e => by
    rw [← hk, Heap.get?_update_other _ _ (fun z => hc z.symm)]
    exact e
  have g2 := old e1 o1 ne g1
  refine raiseNew_hot ⟨hh, o1, w1, Heap.get?_push_of_some _ (Heap.get?_push_of_some _ g2), d1, c1⟩ (Nat.ne_of_lt (Heap.lt_size (Heap.get?_push_of_some _ g2))) (Heap.get?_push_size _ rfl) rfl (by first | (simp; done) | (simp; omega)) ?_
  refine wpAny_bind (wpAny_isInstance (T := "StopIteration") (b := true) ⟨_, Heap.get?_update_self _ (Heap.get?_push_size _ rfl) rfl, rfl⟩ isSubtype_stop ?_)
  refine wpAny_pure (q _ fun c u' hc e => ?_)
  have e2 := old c u' hc e
  rw [Heap.get?_update_other _ _ (Nat.ne_of_gt (Heap.lt_size (Heap.get?_push_of_some _ e2)))]
  exact Heap.get?_push_of_some _ (Heap.get?_push_of_some _ e2)
theorem hot_keep {e1 : Addr} {h h' : Heap} (hot : HotAt A e1 h) (k : ∀ o, h.get? e1 = some o → h'.get? e1 = some o) : HotAt A e1 h' := by
  obtain ⟨hh, o, vs, g, d, c⟩ := hot
  exact ⟨hh, o, vs, k o g, d, c⟩
theorem hot_in1 {e1 : Addr} {h : Heap} (hot : HotAt A e1 h) : HotAt A.in1 e1 h := hot
/-- a list walked to its end, hot -/
theorem walksL (J l e1 : Addr) (n1 : l ≠ J) (n2 : e1 ≠ J) (vs : Array Value) :
    Walks prog w A J [J, l, e1] [J] vs.size (fun i v => vs[i]? = some v) (fun i h => h.IsListIter J l i ∧ h.IsList l vs ∧ HotAt A e1 h) := by
  refine ⟨fun c hc => List.mem_cons.mpr (.inl (List.mem_singleton.mp hc)), fun i h h' st k => ?_, fun i s Q E hi st q => ?_, fun s Q E st q => ?_, fun i s Q E st q => wpAny_pyIter_listiter st.1 q⟩
  · exact ⟨st.1.at fun o e => k J (by simp) o e, st.2.1.at fun o e => k l (by simp) o e, hot_keep st.2.2 fun o e => k e1 (by simp) o e⟩
  · refine wpAny_pyNext_list_item st.1 st.2.1 (x := vs[i]) (by simp [hi]) fun h' a c => ?_
    exact q _ h' s.toks (by simp [hi]) ⟨a, st.2.1.extBut c.extBut n1, hot_keep st.2.2 fun o e => c.extBut e1 o n2 e⟩ fun b o hb e => c.extBut b o (fun z => hb (List.mem_singleton.mpr z)) e
  · exact nextEnd st.2.2 n2 st.1 st.2.1 (by simp) fun h' k => q h' s.toks fun b o hb e => k b o (fun z => hb (List.mem_singleton.mpr z)) e
/-- iter(list), hot: the walk begins -/
theorem iterL {l e1 : Addr} {vs : Array Value} {Q : Value → Shared → Prop} (hot : HotAt A e1 s.heap) (hl : s.heap.IsList l vs)
    (q : ∀ (J : Addr) (s2 : Shared), J = s.heap.objs.size → s2 = { s with heap := s.heap.push { cls := .type "list_iterator", data := .fields #[.ref l, .int 0 0] } } → l ≠ J → e1 ≠ J → (s2.heap.IsListIter J l 0 ∧ s2.heap.IsList l vs ∧ HotAt A e1 s2.heap) → (∀ b ∈ [J, l, e1], b < s2.heap.objs.size) → Q (.ref J) s2) :
    wpAny (model prog w) A (pyIter (.ref l)) Q E s := by
  obtain ⟨hh, o1, w1, g1, d1, c1⟩ := id hot
  have hlt : l < s.heap.objs.size := by
    obtain ⟨_, e, _⟩ := hl
    exact Heap.lt_size e
  have het : e1 < s.heap.objs.size := Heap.lt_size g1
  refine wpAny_pyIter_list hl (q _ _ rfl rfl (Nat.ne_of_lt hlt) (Nat.ne_of_lt het) ⟨⟨_, Heap.get?_push_size _ rfl, rfl, rfl⟩, hl.push _, hot_keep hot fun o e => Heap.get?_push_of_some _ e⟩ fun b hb => ?_)
  show b < (s.heap.push _).objs.size
  rw [Heap.size_push]
  simp only [List.mem_cons, List.not_mem_nil, or_false] at hb
  rcases hb with z | z | z
  · rw [z]
    exact Nat.lt_succ_self _
  · rw [z]
    exact Nat.lt_succ_of_lt hlt
  · rw [z]
    exact Nat.lt_succ_of_lt het
theorem kept_old {l : Addr} {h' : Heap} (k : ∀ b o, b ∉ [s.heap.objs.size] → (s.heap.push { cls := .type "list_iterator", data := .fields #[.ref l, .int 0 0] }).get? b = some o → h'.get? b = some o) : ∀ b o, s.heap.get? b = some o → h'.get? b = some o := fun b o e =>
  k b o (fun z => Nat.ne_of_lt (Heap.lt_size e) (List.mem_singleton.mp z)) (Heap.get?_push_of_some _ e)
/-- sum(a list of ints), hot -/
theorem sumL {l e1 : Addr} {us : List Value} {ns : List Int} {Q : Value → Shared → Prop} (hot : HotAt A e1 s.heap) (hl : s.heap.IsList l us.toArray) (hi : IntsAre us ns)
    (q : ∀ h' tk t', (∀ b o, s.heap.get? b = some o → h'.get? b = some o) → Q (.int ns.sum t') { s with heap := h', toks := tk }) : wpAny (model prog w) A (call (.builtin "sum") [.ref l]) Q E s := by
  obtain ⟨xs, e⟩ := hi.allInts.items
  have hn : numsOf (intItems xs).toList = ns := by rw [← e]; exact hi.numsOf
  rw [nums_intItems] at hn
  rw [e] at hl
  refine call_sum_walkG (iterL (hot_in1 hot) hl fun J s2 eJ e2 n1 n2 st hf => ?_)
  subst e2
  refine ⟨J, _, _, _, _, _, numAt xs, rfl, walksL J l e1 n1 n2 (intItems xs), st, hf, (fun _ _ => intItems_at), fun h' tk t' k => ?_⟩
  subst eJ
  have z := q h' tk t' (kept_old k)
  have hs : (intItems xs).size = xs.size := by simp [intItems]
  rw [hs, preSum_eq, List.take_of_length_le (by simp), hn]
  exact z
end
end Hx

/-! H2: [int(y) for y in flags] while an exception is handled -/
namespace Hx
open PySem PySem.Spec PyProof.Rows L2 HotX L2H
abbrev oneZ (c : Bool) : V := V.int (if c then 1 else 0)
def tFlags (K : PySem.W.Frag) (te : TE) : TE := fun σ H Q => te σ H fun x H1 => ∃ (a : Addr) (bs : List Bool), x = .ref a ∧ SqL K H1 a (bs.map V.bl) ∧ ∀ p, H1 p = none → Q (.ref p) (upd H1 p (.lst (bs.map oneZ)))
theorem vals_get {xs : List V} {us : List Value} (r : Vals xs us) : ∀ {j : Nat} {u : Value}, us[j]? = some u → ∃ x, xs[j]? = some x ∧ RelV x u := by
  induction r with
  | nil => intro j u h; cases h
  | cons hx _ ih =>
    intro j u h
    cases j with
    | zero => exact ⟨_, rfl, by rw [← Option.some.inj h]; exact hx⟩
    | succ j => exact ih h
theorem vals_ones : ∀ {bs : List Bool} {vs ys : List Value}, Vals (bs.map V.bl) vs → Paired (fun v y => ∃ (c : Bool) (t : Tok), v = Value.bool c ∧ y = Value.int (if c then 1 else 0) t) vs ys → Vals (bs.map oneZ) ys
  | [], vs, ys, r, p => by
    cases r
    cases p
    exact .nil
  | b :: bs, vs, ys, r, p => by
    cases r with
    | cons h1 h2 =>
      cases p with
      | cons q1 q2 =>
        obtain ⟨c, t, e1, e2⟩ := q1
        have z : c = b := by
          have : Value.bool b = Value.bool c := (show _ = Value.bool b from h1).symm.trans e1
          injection this with this
          exact this.symm
        subst z
        exact .cons ⟨t, e2⟩ (vals_ones h2 q2)
section
variable {X : Cx}
theorem pe_flags {y : Str} {iter : Expr} {te : TE} {scope : Scope} {p1 p2 p3 p4 pos : Pos} (hc : HotC X) (hi : PE X iter te) (hm : X.mg "int" = none) (hfree : ∀ z ∈ scope.names, z.2 ≠ .free) (hcell : ∀ z ∈ scope.names, z.2 ≠ .cell) (hkind : scope.kind = .function)
    (hnames : ∀ z ∈ scope.names, z.2 = .local → scope.names.lookup z.1 = some .local) (hy : scope.names.lookup y = some .local) (hin : scope.names.lookup ("int" : Str) = some .globalImplicit) (hyd : (y == ("__debug__" : Str)) = false) (hs : ∀ x, foldedSetIterable iter X.env x = pure x := by intro _; rfl) :
    PE X (.ListComp (.Call (.Name "int" p1) [.Name y p2] [] p3) [⟨.Name y p4, iter, [], 0⟩] scope pos) (tFlags X.K te) := by
  refine ⟨fun pins s σ H Q I h => ?_⟩
  refine wpAny_ListComp_walk (fun _ => true) (fun v u => ∃ (c : Bool) (t : Tok), v = Value.bool c ∧ u = Value.int (if c then 1 else 0) t) hfree hcell hkind hnames hy (thn (hi.run pins s σ H _ I h) fun u s1 hu => ?_) hs
  obtain ⟨x, H1, I1, r1, a, bs, ex, hsq, q⟩ := hu
  subst ex
  obtain rfl : u = Value.ref a := r1
  obtain ⟨its, rv, hl, hz⟩ := I1.list hsq
  obtain ⟨e1, hot⟩ := hc.at I1
  refine iterL hot hl.isList fun J s2 eJ e2 n1 n2 st hf => ?_
  have k12 : ∀ b o, s1.heap.get? b = some o → s2.heap.get? b = some o := fun b o e => by
    rw [e2]
    exact Heap.get?_push_of_some _ e
  have nJ : ∀ b o, s1.heap.get? b = some o → b ∉ [J] := fun b o e z => by
    rw [eJ] at z
    exact Nat.ne_of_lt (Heap.lt_size e) (List.mem_singleton.mp z)
  have hlen : its.length = bs.length := by
    have := rv.length
    rw [List.length_map] at this
    exact this.symm
  refine ⟨J, _, _, _, _, _, rfl, walksL J a e1 n1 n2 its.toArray, ?_, st, hf, ⟨?_, ?_⟩, ?_⟩
  · rw [List.size_toArray, hlen]
    rw [List.length_map] at hz
    exact hz
  · intro C i v s3 m3 E' _ _ _ _ _
    exact wpAny_pure ⟨rfl, s3.heap, s3.toks, rfl, fun _ _ e => e⟩
  · intro C i v s3 m3 E' hP _ hn hv hk _
    obtain ⟨z, hz1, hz2⟩ := vals_get rv (u := v) (j := i) (by simpa using hP)
    obtain ⟨c, rfl⟩ : ∃ c, z = V.bl c := by
      rw [List.getElem?_map] at hz1
      cases e : bs[i]? with
      | none => rw [e] at hz1; cases hz1
      | some c => rw [e] at hz1; exact ⟨c, (Option.some.inj hz1).symm⟩
    obtain rfl : v = Value.bool c := hz2
    obtain ⟨mb, g1, g2⟩ := I1.mod.blt
    have kb : ∀ b o, X.base.get? b = some o → s3.heap.get? b = some o := fun b o e => hk b o (nJ b o (I1.bk b o e)) (k12 b o (I1.bk b o e))
    have gG : s3.heap.Ns (compEnv scope C X.env).globals X.mg := by
      show s3.heap.Ns X.env.globals X.mg
      rw [I1.ok.glob]
      exact I1.mod.glob.keeps kb
    have gB : s3.heap.Ns (compEnv scope C X.env).builtins mb := by
      show s3.heap.Ns X.env.builtins mb
      rw [I1.ok.blt]
      exact g1.keeps kb
    refine wpAny_Call_Name_kw (Calls.Name_function_global (env := compEnv scope C X.env) hkind hin (Calls.loadGlobal_builtin gG hm gB ((g2 "int" (by decide)).trans (show bootBuiltins "int" = some (.type "int") by decide +kernel)) ?_))
    refine PyProof.Rows.callWith_type1 ?_
    show wpAny _ _ (spliced ((false, eval (.Name y p2) (compEnv scope C X.env)) :: backTo p3 (starEach [] (compEnv scope C X.env)))) _ _ s3
    refine Calls.spliced_cons (wpAny_Name (wpAny_loadName_local hkind hy hn hv (Calls.spliced_nil ?_)) hyd)
    exact call_int_bool ⟨⟨c, _, rfl, rfl⟩, _, _, rfl, fun _ _ e => e⟩
  · intro D h' tk ys vs hD _ hpl hlv hPv hF hk
    have k : ∀ b o, s1.heap.get? b = some o → h'.get? b = some o := fun b o e => hk b o (nJ b o e) (k12 b o e)
    have hD1 : s1.heap.get? D = none := by
      cases e : s1.heap.get? D with
      | none => rfl
      | some o => rw [k12 D o e] at hD; cases hD
    have hvs : vs = its := by
      apply List.ext_getElem?
      intro j
      by_cases hj : j < vs.length
      · have := hPv j vs[j] (List.getElem?_eq_getElem hj)
        rw [List.getElem?_eq_getElem hj, ← this]
        simp
      · rw [List.getElem?_eq_none (by omega), List.getElem?_eq_none (by rw [hlv, List.size_toArray] at hj; omega)]
    have hfil : vs.filter (fun _ => true) = its := by
      rw [hvs]
      exact List.filter_eq_self.mpr fun _ _ => rfl
    rw [hfil] at hF
    have ro := vals_ones rv hF
    obtain ⟨n, en⟩ := hpl
    have hn := I1.hok.gone hD1
    have J2 := I1.laidN (t' := tk) (o := .lst (bs.map oneZ)) k hD1 hn (show ObjOk X.prog X.w _ h' D (.lst (bs.map oneZ)) from ⟨by rw [List.length_map] at hz ⊢; exact hz, ys.toList, n, ro, by simpa using en⟩)
    refine ⟨.ref D, _, ?_, rfl, q D hn⟩
    rw [e2]
    exact J2
end
end Hx

/-! H3: sum(..), isinstance(e, C), and the call of a def, while e is handled -/
namespace Hx
open PySem PySem.Spec PyProof.Rows L2 HotX L2H
section
variable {X : Cx}
theorem cr_sumX (hc : HotC X) : CallR X (.builtin "sum") (rSum X.K) := by
  intro pins s σ H vs us Q I r h
  obtain ⟨a, ns, ev, hs, q⟩ := h
  subst ev
  obtain ⟨its, rv, hl, _⟩ := I.list hs
  obtain ⟨e1, hot⟩ := hc.at I
  rw [Vals.ref1 r]
  exact sumL hot hl.isList rv.ints fun h' tk t' k => ⟨.int ns.sum, H, I.kept k, ⟨t', rfl⟩, q⟩
/-- isinstance(e, C), e pinned in the context -/
theorem call_isX {p : Addr × Obj} {D : Addr} (hp : p ∈ X.pn) (C : ExcC X.K D) (hz : Zc (.ref D) none p.2) (hf : ∃ vs, p.2.data = .fields vs) : CallR X (.builtin "isinstance") (rIsE X.K D p.1) := by
  intro pins s σ H xs us Q I r h
  obtain ⟨c, cv, b, ex, hcv, e, q⟩ := h
  subst ex
  cases r with
  | cons rx r2 =>
    cases r2 with
    | cons rt r3 =>
      cases r3
      cases rx
      have ec := hcv _ rt
      subst ec
      have hget := (I.pin p (List.mem_append_left _ hp)).1
      obtain ⟨vs, hv⟩ := hf
      obtain ⟨pa, oc, od, oda, osl⟩ := p
      obtain ⟨z1, z2⟩ := hz
      dsimp only at z1 z2 hv hget
      subst z1 z2 hv
      have IA : PySem.W.InstAt s.heap pa ⟨.ref D, none, .fields vs, osl⟩ D none := ⟨hget, rfl, rfl, trivial⟩
      exact PySem.W.kia_one (PySem.W.handS_kitx_exc C.hg C.hk C.hs C.hd C.ha C.hn C.ht C.hm) I.kIn IA e (fun z => nomatch z) fun tk => ⟨.bl b, H, I.kept (t' := tk) fun _ _ z => z, rfl, q⟩
end
/-- a def called where p is handled: its body is walked for this very p -/
theorem runH {CX : CXT} {P : Program} {w : World} {K : PySem.W.Frag} {mg : Str → Option Value} {base : Heap} {k : Nat} {f : Addr} {name qual : Str} {params : Arguments} {body : List Stmt} {scope : Scope} {dV kV doc pm cdv ct oc : Value} {an od : Option Addr}
    {osl : Array (Option Value)} {N ps : List Str} (lk : K.lookup f = some ⟨oc, od, .func (PySem.W.fnOf name qual params body scope dV kV doc pm an cdv ct), osl⟩) (hcd : PySem.W.codeIn K cdv qual = true) (S : FnScope N ps scope)
    {A : Around} {outer : List Env} {s : Shared} {H : Hp} {args : Args} {us : List Value} {vs : List V} {Q : VK} {E : XK} {p : Addr × Obj} (hr : RoomH (k + 1) A) (hpin : PinOk outer H s p) (e0 : Env0 P w K mg base A outer s H)
    (hb : BindsTo s (PySem.W.fnOf name qual params body scope dV kV doc pm an cdv ct) args (ps.zip us)) (r : Vals vs us) (hl : vs.length = ps.length)
    (hbody : RoomH k (A.deeper (envOfC qual scope s.heap.objs.size f cdv)) → ∃ t, PSs (cxH CX P w K mg base N qual scope f cdv A outer s H E p) body t ∧ t { nx := fun _ H' => Q .non H', rt := Q } (L2.start N vs) H) :
    codeAny (model P w) A (.call (.ref f) args) (CR CX outer P w H s Q E) s := by
  have KX : K.In s.heap := e0.mod.kin.keeps fun b o z => (e0.bs b o z).1
  have lim : s.heap.NoLimit := e0.mod.nolimit.keeps fun b o z => (e0.bs b o z).1
  have hkind : ∀ y ∈ ps.zip us, scope.names.lookup y.1 = some .local ∨ (scope.names.lookup y.1 = some .cell ∧ ((cellsFrom (s.heap.objs.size + 1) scope.names []).lookup y.1).isSome = true) := by
    rintro ⟨y, u⟩ hy
    rcases S.par y (List.of_mem_zip hy).1 with q | q
    · exact .inl q
    · exact .inr ⟨q, PySem.W.cellsFrom_some _ _ _ (.inl q)⟩
  refine codeAny_call_function hr.depth (KX _ _ lk) rfl S.co S.gen rfl (PySem.W.codeRec_of KX hcd) (hb _ _ _ _ (wpAny_newFunctionEnv_cells S.kind hkind fun env he s1 x => ?_))
  subst he
  obtain ⟨t, ht, hq⟩ := hbody (hr.deeper _)
  have I : Inv (cxH CX P w K mg base N qual scope f cdv A outer s H E p) [] (L2.start N vs) H s1 := inv_startH S hpin e0 hl r x
  refine ⟨lim.keeps x.toInCall.keep, codeAny_func (wpAny_mono (ht.run [] s1 (L2.start N vs) H _ I hq) (fun fl s2 hs => ?_) fun e s2 hs => hs)⟩
  cases fl with
  | ret u =>
    obtain ⟨v, σ2, H2, J, rv, z⟩ := hs
    exact ⟨v, H2, J.os, J.bare, J.base, J.hok, rv, z⟩
  | next =>
    obtain ⟨σ2, H2, J, z⟩ := hs
    exact ⟨.non, H2, J.os, J.bare, J.base, J.hok, rfl, z⟩
  | brk =>
    obtain ⟨_, _, _, z⟩ := hs
    exact z.elim
  | cont =>
    obtain ⟨_, _, _, z⟩ := hs
    exact z.elim
end Hx

/-! H4: a def called in an except suite; a lambda handed to a def, its exceptions' context known -/
namespace Hx
open PySem PySem.Spec PyProof.Rows L2 HotX L2H LamX
section
variable {Z : Cx}
/-- f(..) where p is handled; sp tells of the very p; nothing leaves f -/
theorem pe_callX {p : Addr × Obj} {k : Nat} {f : Addr} {x qual : Str} {params : Arguments} {body : List Stmt} {scope : Scope} {dV kV doc pm cdv ct oc : Value} {an od : Option Addr} {osl : Array (Option Value)} {N ps : List Str} {e : Expr} {es : List Expr} {ta : TA} {sp : List V → Hp → VK → Prop} {p1 pos : Pos}
    (lk : Z.K.lookup f = some ⟨oc, od, .func (PySem.W.fnOf x qual params body scope dV kV doc pm an cdv ct), osl⟩) (hcd : PySem.W.codeIn Z.K cdv qual = true) (S : FnScope N ps scope) (hp : p ∈ Z.pn) (hr : RoomH (k + 1) Z.A) (hg : Gl Z x) (hm : Z.mg x = some (.ref f)) (hk : PySem.W.keepIn Z.K (.ref f) = true)
    (hb : L2.Binds Z.K (PySem.W.fnOf x qual params body scope dV kV doc pm an cdv ct) ps []) (len : ∀ vs H Q, sp vs H Q → vs.length = ps.length)
    (hbody : ∀ (s : Shared) (H : Hp) (vs : List V) (Q : VK), sp vs H Q → RoomH k (Z.A.deeper (envOfC qual scope s.heap.objs.size f cdv)) → ∃ t, PSs (cxH CX0 Z.prog Z.w Z.K Z.mg Z.base N qual scope f cdv Z.A Z.stack s H E0 p) body t ∧ t { nx := fun _ H' => Q .non H', rt := Q } (L2.start N vs) H)
    (ha : PA Z (e :: es) ta) (hdb : (x == ("__debug__" : Str)) = false := by decide) (he : starEach (e :: es) Z.env = (false, eval e Z.env) :: starEach es Z.env := by rfl) (hpl : (backTo pos (starEach es Z.env)).any (·.1) = false := by rfl) :
    PE Z (.Call (.Name x p1) (e :: es) [] pos) (fun σ H Q => ta σ H fun vs H1 => sp vs H1 Q) := by
  refine ⟨fun pins s σ H Q I h => wpAny_Call_Name_kw (ld_glob I hg hm ?_ hdb)⟩
  refine PySem.W.callWith_K (h₀ := Z.base) I.ok.mod.kin hk (thn (ha.run pos pins s σ H _ I h) fun us s1 hu => ?_) he hpl
  obtain ⟨vs, H1, I1, r, q⟩ := hu
  refine ⟨I1.kIn, ?_⟩
  have hl := len vs H1 Q q
  have hlu : us.length = ps.length := r.length.symm.trans hl
  have bt := hb s1 us I1.kIn (by rw [List.append_nil]; exact hlu)
  rw [List.append_nil] at bt
  have P1 := I1.pin p (List.mem_append_left _ hp)
  have hpin : PinOk Z.stack H1 s1 p := ⟨P1.1, P1.2.1, fun z => (List.mem_cons.mp (I1.stkSub p.1 z)).elim P1.2.2.1 P1.2.2.2.1, P1.2.2.2.2⟩
  have rc := runH (CX := CX0) (Q := Q) (E := E0) lk hcd S hr hpin I1.env0 bt r hl (fun hr2 => hbody s1 H1 vs Q q hr2)
  refine wpAny_call (codeAny_mono rc fun res s2 hq => ?_)
  cases res with
  | error u => exact (show False from hq).elim
  | ok fl =>
    cases fl with
    | ret u => exact I1.after hq
    | next => exact False.elim hq
    | brk => exact False.elim hq
    | cont => exact False.elim hq
end
/-- the lambda's body: what leaves it has no context -/
def lamN (X : Cx) (A : Around) (outer : List Env) (s : Shared) (H : Hp) (E : XK) (scope : Scope) (f c' : Addr) : Cx :=
  (lamCx X A outer s H E scope f c').tr [] fun e s1 => wpAny (model X.prog X.w) (A.deeper (lamEnv X scope s.heap.objs.size f c')) (leaving (lamEnv X scope s.heap.objs.size f c') e) (fun _ s2 => L2N.CX X.prog X.w outer H s E e s2) (fun e2 s2 => L2N.CX X.prog X.w outer H s E e2 s2) s1
section
variable {X : Cx} {pins : List (Addr × Obj)} {σ : L2.St} {H : Hp} {s : Shared}
/-- a(), a the parameter of the def that got the lambda -/
theorem actN {CXg : CXT} {Eg : XK} {Ng : List Str} {qg : Str} {sg : Scope} {g f c' : Addr} {cdg pm ctv : Value} {params : Arguments} {body : Expr} {scope : Scope} {k i : Nat} {a : Str} {pn : List (Addr × Obj)} {xe : Value → Shared → Prop} {W : WX} {E : XK} {tb : TE} {p1 p2 : Pos}
    (I : Inv X pins σ H s) (L : LamS X.env.scope scope) (hf : s.heap.get? f = some (PySem.W.kla_obj "<lambda>" (X.env.qual ++ "<lambda>") params body scope (cloFrom X.env.cells scope.names []) pm c' ctv)) (hfn : H f = none) (hfr : f ∉ frs X.stack)
    (hbind : bindArgs (PySem.W.kla_fn "<lambda>" (X.env.qual ++ "<lambda>") params body scope (cloFrom X.env.cells scope.names []) pm (.ref c') ctv) ⟨[], []⟩ = pure [])
    (tk : L2N.Takes ((cxOf CXg X.prog X.w X.K X.mg X.base Ng qg sg g cdg X.A X.stack s H Eg).tr pn xe) W) (hW : ∀ cls d σ' H', E cls d H' → W cls d σ' H') (hr : Room (k + 1) (X.A.deeper (envOfC qg sg s.heap.objs.size g cdg)))
    (hbody : ∀ (A : Around) (outer : List Env) (s : Shared) (H : Hp), Room k (A.deeper (lamEnv X scope s.heap.objs.size f c')) → PE (lamN X A outer s H E scope f c') body tb)
    (hN : Ng[i]? = some a) (hv : Vis sg a) (hd : (a == ("__debug__" : Str)) = false := by decide) (hcd : (a == ("__classdict__" : Str)) = false := by decide) :
    PE ((cxOf CXg X.prog X.w X.K X.mg X.base Ng qg sg g cdg X.A X.stack s H Eg).tr pn xe) (.Call (.Name a p1) [] [] p2)
      (fun σZ HZ Q => σZ[i]? = some (some (.ref f)) ∧ HZ c' = some (CodeO c' (X.env.qual ++ "<lambda>")) ∧ tb σ HZ Q) := by
  refine ⟨fun pz sz σz Hz Q Iz h => ?_⟩
  obtain ⟨h1, h2, h3⟩ := h
  have ld := (pe_var (X := (cxOf CXg X.prog X.w X.K X.mg X.base Ng qg sg g cdg X.A X.stack s H Eg).tr pn xe) (pos := p1) (i := i) hN hv hd hcd).run pz sz σz Hz (fun v H1 => v = .ref f ∧ H1 = Hz) Iz ⟨.ref f, h1, rfl, rfl⟩
  refine wpAny_Call_Name_kw (thn ld fun u s1 hu => ?_)
  obtain ⟨v, H1, I1, r1, ev, eH⟩ := hu
  subst ev
  rw [eH] at I1
  obtain rfl : u = Value.ref f := r1
  have g1 : s1.heap.get? f = some (PySem.W.kla_obj "<lambda>" (X.env.qual ++ "<lambda>") params body scope (cloFrom X.env.cells scope.names []) pm c' ctv) := I1.base.keep f _ hf hfn hfr (fun z => nomatch (show f ∈ ([] : List Addr) from z))
  refine PySem.W.callWith_F0 ⟨_, _, _, _, g1⟩ ?_
  obtain ⟨⟨oc, vs, t, hoc, hdc, hvc⟩, _, _⟩ := I1.hok c' _ h2
  have rc : codeAny (model X.prog X.w) (X.A.deeper (envOfC qg sg s.heap.objs.size g cdg)) (.call (.ref f) ⟨[], []⟩) (CR (L2N.CX X.prog X.w) (envOfC qg sg s.heap.objs.size g cdg :: X.stack) X.prog X.w Hz s1 Q E) s1 := by
    refine PySem.W.kla_callFunE hr.depth g1 rfl L.co L.gen rfl ⟨c', oc, vs, t, rfl, hoc, hdc, hvc⟩ ?_
    rw [hbind]
    refine wpAny_pure (wpAny_newFunctionEnv (fun y hy => (L.own y hy).2) (fun y hy => absurd hy (by simp)) (fun h' ns sb => ⟨I1.nolimit.fresh _ sb, ?_⟩) L.kind)
    show codeAny _ _ (.expr body (lamEnv X scope s1.heap.objs.size f c')) _ _
    have kp : ∀ b o, s1.heap.get? b = some o → h'.get? b = some o := fun b o z => sb.extBut b o (Nat.ne_of_lt (Heap.lt_size z)) (Heap.get?_push_of_some _ z)
    have J0 := lam_start2 (E := E) (f := f) (c' := c') (tk := s1.toks + ([] : List (Str × Value)).length) I L I1.env0 hr.hd (show Un (frs X.stack) [] H Hz s.heap s1.heap from I1.base) ns kp
    have J := J0.toTry (lamN X (X.A.deeper (envOfC qg sg s.heap.objs.size g cdg)) (envOfC qg sg s.heap.objs.size g cdg :: X.stack) s1 Hz E scope f c').xe
    refine PySem.W.kla_codeExpr (wpAny_mono ((hbody _ _ s1 Hz (hr.deeper _)).run [] _ _ Hz Q J h3) (fun v s2 hq => ?_) fun e s2 hq => hq)
    obtain ⟨w2, H2, J2, rv, q⟩ := hq
    exact ⟨w2, H2, J2.os, J2.bare, J2.base, J2.hok, rv, q⟩
  refine wpAny_call (codeAny_mono rc fun r s2 hq => ?_)
  cases r with
  | error e => exact L2N.passes_call tk hW pz σz Hz s1 e s2 I1 hq
  | ok fl =>
    cases fl with
    | ret u => exact I1.after hq
    | next => exact False.elim hq
    | brk => exact False.elim hq
    | cont => exact False.elim hq
end
/-- what a def makes of the lambda that it gets (as its only argument) -/
def GivesN (X : Cx) (Ng : List Str) (x : Str) (sg : Scope) (g : Addr) (cdg : Value) (bg : List Stmt) (a : Str) (q : Str) (k : Nat) (TT : (XK → Hp → VK → Prop) → Hp → VK → Prop) : Prop :=
  ∀ (f c' : Addr) (s : Shared) (H : Hp) (Q : VK) (tl : XK → Hp → VK → Prop), Room (k + 1) (X.A.deeper (envOfC x sg s.heap.objs.size g cdg)) →
    (∀ (W : WX) (pn : List (Addr × Obj)) (xe : Value → Shared → Prop) (E : XK) (p1 p2 : Pos), L2N.Takes ((cxOf C8.CX0 X.prog X.w X.K X.mg X.base Ng x sg g cdg X.A X.stack s H C8.E0).tr pn xe) W → (∀ cls d σ' H', E cls d H' → W cls d σ' H') →
      PE ((cxOf C8.CX0 X.prog X.w X.K X.mg X.base Ng x sg g cdg X.A X.stack s H C8.E0).tr pn xe) (.Call (.Name a p1) [] [] p2) (fun σZ HZ Q => σZ[0]? = some (some (.ref f)) ∧ HZ c' = some (CodeO c' q) ∧ tl E HZ Q)) →
    H c' = some (CodeO c' q) → TT tl H Q →
    ∃ t, PSs (cxOf C8.CX0 X.prog X.w X.K X.mg X.base Ng x sg g cdg X.A X.stack s H C8.E0).nox bg t ∧ t { nx := fun _ H' => Q .non H', rt := Q } (L2.start Ng [.ref f]) H
section
variable {X : Cx}
/-- x(lambda: body) -/
theorem pe_lamN {T : List (Addr × Str)} {TT : (XK → Hp → VK → Prop) → Hp → VK → Prop} {x a : Str} {g c P : Addr} {k : Nat} {pg : Arguments} {bg : List Stmt} {sg : Scope} {dV kV doc pm cdv ct oc : Value} {an od : Option Addr} {osl : Array (Option Value)} {Ng : List Str}
    {params : Arguments} {body : Expr} {scope : Scope} {t : XK → TE} {p lpos pos : Pos} (hg : Gl X x) (hm : X.mg x = some (.ref g)) (hk : PySem.W.keepIn X.K (.ref g) = true)
    (lk : X.K.lookup g = some ⟨oc, od, .func (PySem.W.fnOf x x pg bg sg dV kV doc pm an cdv ct), osl⟩) (hcg : PySem.W.codeIn X.K cdv x = true) (hb : L2.Binds X.K (PySem.W.fnOf x x pg bg sg dV kV doc pm an cdv ct) [a] []) (Sg : FnScope Ng [a] sg) (hNg : Ng[0]? = some a) (hva : Vis sg a)
    (hG : GivesN X Ng x sg g cdv bg a (X.env.qual ++ "<lambda>") k TT)
    (TB : TabB X.base X.mg c P) (hcode : X.env.code = .ref c) (hmT : (P, X.env.qual ++ "<lambda>") ∈ T) (hu : ∀ p ∈ T, p.1 = P → p.2 = X.env.qual ++ "<lambda>") (hr : Room (k + 2) X.A) (L : LamS X.env.scope scope) (hdef : defaultsOf params X.env = ([], []))
    (hbind : ∀ (q : Str) (cl : List (Str × Addr)) (pm cv ctv : Value), bindArgs (PySem.W.kla_fn "<lambda>" q params body scope cl pm cv ctv) ⟨[], []⟩ = pure [])
    (hbody : ∀ (A : Around) (outer : List Env) (s : Shared) (H : Hp) (E : XK) (f c' : Addr), Room k (A.deeper (lamEnv X scope s.heap.objs.size f c')) → PE (lamN X A outer s H E scope f c') body (t E))
    (hdb : (x == ("__debug__" : Str)) = false := by decide) (hd : (a == ("__debug__" : Str)) = false := by decide) (hcd : (a == ("__classdict__" : Str)) = false := by decide) :
    PE X (.Call (.Name x p) [.Lambda params body scope lpos] [] pos) (tLam T TT t) := by
  refine ⟨fun pins s σ H Q I h => wpAny_Call_Name_kw (ld_glob I hg hm ?_ hdb)⟩
  obtain ⟨hT, h⟩ := h
  refine PySem.W.callWith_K (h₀ := X.base) I.ok.mod.kin hk ?_ (by rfl) (by rfl)
  show wpAny _ _ (spliced ((false, eval (.Lambda params body scope lpos) X.env) :: backTo pos (starEach [] X.env))) _ _ s
  refine Calls.spliced_cons (lam_make2 I TB hcode hmT hu hT hdef (L.has I.ok) fun f c' pm2 ctv H1 s1 I1 eN T1 hf hfn hfr hco => Calls.spliced_nil ⟨I1.kIn, ?_⟩)
  have rc : codeAny (model X.prog X.w) X.A (.call (.ref g) ⟨[.ref f], []⟩) (CR C8.CX0 X.stack X.prog X.w H1 s1 Q C8.E0) s1 := by
    refine run_ofS (N := Ng) (ps := [a]) (us := [.ref f]) (vs := [.ref f]) lk hcg Sg hr I1.env0 (hb s1 [.ref f] I1.kIn rfl) (.cons rfl .nil) rfl fun hr2 => ?_
    obtain ⟨t2, ht2, hq2⟩ := hG f c' s1 H1 Q (fun E H' Q' => t E σ H' Q') hr2 (fun W pn xe E p1 p2 tk hW => actN (i := 0) I1 L hf hfn hfr (hbind _ _ _ _ _) tk hW hr2 (fun A outer s H hr3 => hbody A outer s H E f c' hr3) hNg hva hd hcd) hco (h H1 eN T1)
    exact ⟨t2, ht2.nox, hq2⟩
  refine wpAny_call (codeAny_mono rc fun r s2 hq => ?_)
  cases r with
  | error e => exact (show False from hq).elim
  | ok fl =>
    cases fl with
    | ret u => exact I1.after hq
    | next => exact False.elim hq
    | brk => exact False.elim hq
    | cont => exact False.elim hq
end
end Hx

/-! H5: try: return a() / except x as e: return word(e), for a lambda handed in -/
namespace Hx
open PySem PySem.Spec PyProof.Rows L2 HotX L2H LamX
open Evl (Ex)
theorem takesN0 {X : Cx} : L2N.Takes X (fun _ _ _ _ => False) := fun _ _ x => by
  obtain ⟨_, _, _, _, _, _, _, _, _, _, _, _, _, _, _, _, z⟩ := x
  exact z.elim
theorem pe_ex {Z : Cx} {e : Expr} {α : Type} {C : α → Prop} {t : α → TE} (h : ∀ a, C a → PE Z e (t a)) : PE Z e (fun σ H Q => ∃ a, C a ∧ t a σ H Q) := ⟨fun pins s σ H Q I ⟨a, hc, ht⟩ => (h a hc).run pins s σ H Q I ht⟩
theorem pe_len {Z : Cx} {e : Expr} {t : TE} {m : Nat} (hm : Z.N.length = m) (h : PE Z e t) : PE Z e (fun σ H Q => σ.length = m → t σ H Q) := ⟨fun pins s σ H Q I ht => h.run pins s σ H Q I (ht (I.len.trans hm))⟩
/-- the pair that tells how it was refused -/
abbrev refV (w : Str) : List V := [.str "refused", .str w]
def Tells (H : Hp) (w : Str) (Q : VK) : Prop := ∀ q H2, Ex H H2 → H q = none → H2 q = some (.tup (refV w)) → Q (.ref q) H2
/-- what the told def makes of a lambda: its value, or the word of its exception's class -/
def TTn (K : PySem.W.Frag) (CS : Addr) (Wok : Addr → Str → Prop) : (XK → Hp → VK → Prop) → Hp → VK → Prop := fun tl H Q =>
  tl (fun cls d H' => ∃ D w, cls = .ref D ∧ d = none ∧ Wok D w ∧ PySem.W.exmOne K (.ref D) (.ref CS) = some true ∧ Tells H' w Q) H Q
theorem told_n {X : Cx} {Ng Nw : List Str} {x a e n xw q : Str} {sg scw : Scope} {g CS fw : Addr} {cdg : Value} {k : Nat} {p1 p2 p3 p4 p5 p6 p7 p8 p9 p10 : Pos} {pw : Arguments} {bw : List Stmt} {dV kV doc pm cdw ct oc : Value} {an od : Option Addr} {osl : Array (Option Value)} {Wok : Addr → Str → Prop}
    (hge : sg.names.lookup e = some .globalImplicit) (hme : X.mg e = some (.ref CS)) (hde : (e == ("__debug__" : Str)) = false) (h0 : ∀ f : Addr, (L2.start Ng [V.ref f])[0]? = some (some (V.ref f))) (hNd : Ng.Nodup) (hN1 : Ng[1]? = some n) (hln : sg.names.lookup n = some .local) (hlen : Ng.length = 2)
    (hnd : (n == ("__debug__" : Str)) = false) (hnc : (n == ("__classdict__" : Str)) = false)
    (hgw : sg.names.lookup xw = some .globalImplicit) (hmw : X.mg xw = some (.ref fw)) (hdw : (xw == ("__debug__" : Str)) = false) (hkw : PySem.W.keepIn X.K (.ref fw) = true)
    (lkw : X.K.lookup fw = some ⟨oc, od, .func (PySem.W.fnOf xw xw pw bw scw dV kV doc pm an cdw ct), osl⟩) (hcw : PySem.W.codeIn X.K cdw xw = true) (Sw : FnScope Nw [n] scw) (hbw : L2.Binds X.K (PySem.W.fnOf xw xw pw bw scw dV kV doc pm an cdw ct) [n] [])
    (hW : ∀ (A : Around) (outer : List Env) (s : Shared) (H : Hp) (p : Addr × Obj) (D : Addr) (w : Str) (Q : VK), Hot1 A p → Zc (.ref D) none p.2 → Wok D w → RoomH k (A.deeper (envOfC xw scw s.heap.objs.size fw cdw)) → Tells H w Q →
      ∃ t, PSs (cxH CX0 X.prog X.w X.K X.mg X.base Nw xw scw fw cdw A outer s H E0 p) bw t ∧ t { nx := fun _ H' => Q .non H', rt := Q } (L2.start Nw [.ref p.1]) H) :
    GivesN X Ng x sg g cdg [.Try [.Return (some (.Call (.Name a p1) [] [] p2)) p3] [.ExceptHandler (some (.Name e p4)) (some n) [.Return (some (.Call (.Name xw p5) [.Name n p6] [] p7)) p8] p9] [] [] p10] a q k (TTn X.K CS Wok) := by
  intro f c' s H Q tl hr act hc h
  have hgl : Gl (cxOf C8.CX0 X.prog X.w X.K X.mg X.base Ng x sg g cdg X.A X.stack s H C8.E0).nox e := hge
  refine ⟨_, pss_one (L2N.ps_try_as (X := (cxOf C8.CX0 X.prog X.w X.K X.mg X.base Ng x sg g cdg X.A X.stack s H C8.E0).nox) (c := .ref CS) (i := 1) (Wout := fun _ _ _ _ => False)
      (tb := fun W D σ H => ∃ Ech : XK, (∀ cls d σ' H', Ech cls d H' → W cls d σ' H') ∧ σ[0]? = some (some (.ref f)) ∧ H c' = some (CodeO c' q) ∧ tl Ech H D.rt)
      (ts := fun b cls d => tRet (fun σ H Q => ∃ z : Addr × Str, (cls = .ref z.1 ∧ d = none ∧ Wok z.1 z.2) ∧ (σ.length = 2 → tCons (tVar 1) tNil σ H fun vs H1 => vs = [.ref b] ∧ Tells H1 z.2 Q)))
      rfl rfl hNd hN1 hln ⟨hgl, hde, .inl hme⟩ takesN0 (fun W pn xe tk _ => ?_) (fun b oe cls d pn hz hf => pss_one (ps_ret (pe_ex fun z hz2 => ?_)))), ?_⟩
  · refine ⟨fun pins s1 σ H1 D I hh => ?_⟩
    obtain ⟨Ech, w1, w2, w3, w4⟩ := hh
    exact (pss_one (ps_ret (pos := p3) (act W pn xe Ech p1 p2 tk w1))).run pins s1 σ H1 D I ⟨w2, w3, w4⟩
  · obtain ⟨ec, ed, hwk⟩ := hz2
    subst ec ed
    obtain ⟨vs, hd⟩ := hf
    have rh : RoomH (k + 1) (((cxOf C8.CX0 X.prog X.w X.K X.mg X.base Ng x sg g cdg X.A X.stack s H C8.E0).nox.suite b ((b, oe) :: pn)).A) := by
      have := roomH_of hr
      exact ⟨this.dp, this.un⟩
    refine pe_len hlen ?_
    refine pe_callX (p := (b, oe)) (sp := fun vs H1 Q => vs = [.ref b] ∧ Tells H1 z.2 Q) lkw hcw Sw (List.mem_cons_self ..) rh hgw hmw hkw hbw (fun vs H1 Q hs => by rw [hs.1]; rfl) (fun s1 H1 vs1 Q1 hs hr1 => ?_) (pa_cons (pe_var (i := 1) hN1 (.inl hln) hnd hnc) pa_nil) hdw
    obtain ⟨ev, ht⟩ := hs
    subst ev
    exact hW _ _ s1 H1 (b, oe) z.1 z.2 Q1 ⟨rfl, vs, hd, hz.2.2 vs hd⟩ hz.zc hwk hr1 ht
  · refine ⟨fun cls d H1 => ∃ D w, cls = .ref D ∧ d = none ∧ Wok D w ∧ PySem.W.exmOne X.K (.ref D) (.ref CS) = some true ∧ Tells H1 w Q, fun cls d σ1 H1 hh => ?_, h0 f, hc, h⟩
    obtain ⟨D, w, e1, e2, e3, e4, e5⟩ := hh
    subst e1
    refine ⟨true, e4, fun _ b hb => ⟨(D, w), ⟨rfl, e2, e3⟩, fun hl => ?_⟩, fun z => by cases z⟩
    have hl1 : σ1.length = 2 := by rw [← hl, List.length_set]
    refine ⟨.ref b, ?_, rfl, e5⟩
    rw [List.getElem?_set_self (by omega)]
end Hx

/-! H6: readings at a base: isinstance of a caught error, flags, sum, index -/
namespace Hx
open PySem PySem.Spec PyProof.Rows L2 HotX L2H LamX B
open Evl (Ex ex_l ex_t ex_rd sq_of st_of sz_of sz_lt fresh_back)
section
variable {K : PySem.W.Frag} {σ : L2.St} {b b' H : Hp} {ta tb te tx : TE} {x y z v : V} {k : VK}
theorem p_isE {D a C : Addr} {r : Bool} (h : PySem.W.kitOne K (.ref D) (.ref C) = some r) : Pc (rIsE K D a) [.ref a, .ref C] b (.bl r) := fun H e Q q => ⟨.ref C, .ref C, r, rfl, fun u hu => hu, h, q H e⟩
theorem p_isET {D a : Addr} {n : String} {r : Bool} (h : PySem.W.kitOne K (.ref D) (.type n) = some r) : Pc (rIsE K D a) [.ref a, .ty n] b (.bl r) := fun H e Q q => ⟨.ty n, .type n, r, rfl, fun u hu => hu, h, q H e⟩
theorem n_flags {f : Addr} {bs : List Bool} (h : Pe te σ b (.ref f)) (hx : SqL K b f (bs.map V.bl)) : Pn (tFlags K te) σ b (.lst (bs.map oneZ)) := fun H e Q q => h H e _ fun H1 e1 => ⟨f, bs, rfl, ex_l e1 hx, fun p hp => q p _ (ex_none e1 hp) (ex_upd e1)⟩
theorem v_sumN {ns : List Int} {xs : List V} (h : Pn te σ b (.lst xs)) (hx : xs = ns.map V.int) : Pe (tCB (rSum K) (tCons te tNil)) σ b (.int ns.sum) := fun H e Q q => by
  unfold tCB tCons
  refine h H e _ fun p H1 hp e1 => ?_
  exact ⟨p, ns, rfl, sq_of (by rw [← hx]; exact e1 p _ upd_same), q H1 ((Ex.new hp).trans e1)⟩
/-- flags.index(True): the first flag that is set -/
theorem v_index {f : Addr} {bs : List Bool} {j : Nat} (h : Pe ta σ b (.ref f)) (hx : SqL K b f (bs.map V.bl)) (hj : bs[j]? = some true) (hn : ∀ m, m < j → bs[m]? = some false) : Pe (tBM K "list" (rIndex K) ta (tCons (tC (.bl true)) tNil)) σ b (.int (j : Nat)) := fun H e Q q =>
  h H e _ fun H1 e1 => ⟨Or.inl ⟨rfl, bs.map V.bl, ex_l e1 hx⟩, by
    refine ⟨f, bs.map V.bl, .bl true, j, .bl true, rfl, rfl, ex_l e1 hx, rfl, ?_, ?_, rfl, fun m z hm hz => ?_, q H1 e1⟩
    · rw [List.all_map]
      exact List.all_eq_true.mpr fun _ _ => rfl
    · rw [List.getElem?_map, hj]
      rfl
    · rw [List.getElem?_map, hn m hm] at hz
      have : V.bl false = z := Option.some.inj hz
      rw [← this]
      rfl⟩
end
end Hx

/-! H7: defs whose code object is told; room -/
namespace Hx
open PySem PySem.Spec PyProof.Rows L2 HotX L2H LamX B
open Evl (Ex ex_l ex_t ex_rd sq_of st_of sz_of sz_lt fresh_back)
theorem huH {k : Nat} {A : Around} (hr : RoomH k A) : A.units + 64 < cLine := by
  have := hr.un
  omega
theorem codeRef {K : PySem.W.Frag} {p : Str × Option Str} {oc : Value} {od : Option Addr} {osl : Array (Option Value)} {x qual : Str} {params : Arguments} {body : List Stmt} {scope : Scope} {dV kV doc pm cdv ct : Value} {an : Option Addr}
    (lk : K.lookup (He.fAd K p) = some ⟨oc, od, .func (PySem.W.fnOf x qual params body scope dV kV doc pm an cdv ct), osl⟩) (h : PySem.W.codeIn K cdv qual = true) : cdv = .ref (He.codeOf K p) := by
  obtain ⟨c, e⟩ := He.codeIn_ref h
  rw [e, He.codeOf_eq lk (show (PySem.W.fnOf x qual params body scope dV kV doc pm an cdv ct).code = .ref c from e)]
section
variable {P : Program} {w : World} {K : PySem.W.Frag} {mg : Str → Option Value} {base : Heap}
/-- as fn_mk; the def's code object is He.codeOf K at_ -/
theorem fn_mkC {x qual : Str} {params : Arguments} {body : List Stmt} {scope : Scope} {at_ : Str × Option Str} {fd : FuncData} {N ps : List Str} {k : Nat} {sb : Sb} (F : FunD K x qual params body scope [] [] (He.fAd K at_) fd) (S : FnScope N ps scope)
    (len : ∀ vs b k ke, sb vs b k ke → vs.length = ps.length)
    (h : ∀ (cdv : Value) (A : Around) (outer : List Env) (s : Shared) (H : Hp) (E : XK), cdv = .ref (He.codeOf K at_) → Room k (A.deeper (envOfC qual scope s.heap.objs.size (He.fAd K at_) cdv)) →
      ∃ t, PSs (cxOf (L2N.CX P w) P w K mg base N qual scope (He.fAd K at_) cdv A outer s H E) body t ∧
        ∀ (vs : List V) (b : Hp) (k : VK) (ke : XB), sb vs b k ke → (∀ c b' H', ke c b' → Ex b' H' → E c none H') → Cs t { nx := fun _ b' => k .non b', rt := k } (start N vs) b) :
    FnOk P w K mg base (L2N.CX P w) (k + 1) (He.fAd K at_) fd ps (up sb) := by
  obtain ⟨oc, od, dV, kV, doc, pm, an, cdv, ct, osl, ef, lk, hcd, _, _⟩ := F.ex
  subst ef
  refine fn_of lk hcd S (fun vs H Q E hs => ?_) (fun A outer s H vs Q E hr hs => ?_)
  · obtain ⟨b, k, ke, _, hsb, _⟩ := hs
    exact len vs b k ke hsb
  · obtain ⟨t, hd, hp⟩ := h cdv A outer s H E (codeRef lk hcd) hr
    obtain ⟨b, k, ke, hb, hsb, hq, he⟩ := hs
    exact ⟨t, hd, hp vs b k ke hsb he H hb _ ⟨fun σ b' H' q e => hq _ b' H' q e, fun v b' H' q e => hq _ b' H' q e, fun _ _ _ q _ => q, fun _ _ _ q _ => q⟩⟩
end
end Hx

/-! H8: a lambda told, read at a base -/
namespace Hx
open PySem PySem.Spec PyProof.Rows L2 HotX L2H LamX B
open Evl (Ex ex_l ex_t ex_rd sq_of st_of sz_of sz_lt fresh_back)
/-- a base without tables -/
def NoTbl (b : Hp) : Prop := ∀ a ps, b a ≠ some (.tbl ps)
theorem NoTbl.exN {b0 b b1 : Hp} (n : NoTbl b0) (e : Ex b0 b) (x : ExtN b b1) : Ex b0 b1 := fun a o h => x a o (e a o h) fun ps z => n a ps (z ▸ h)
theorem NoTbl.new {b : Hp} {p : Addr} {o : HO} (n : NoTbl b) (h : ∀ ps, o ≠ .tbl ps) : NoTbl (upd b p o) := fun a ps z => by
  by_cases e : a = p
  · rw [e, upd_same] at z
    exact h ps (Option.some.inj z)
  · rw [upd_ne e] at z
    exact n a ps z
section
variable {K : PySem.W.Frag} {σ : L2.St} {b : Hp} {k : VK}
/-- told(lambda: ..): its value, or the word of the class that it raises -/
theorem c_lam {T : List (Addr × Str)} {CS : Addr} {Wok : Addr → Str → Prop} {t : XK → TE} (hT : Tabs T b)
    (h : ∀ b1, ExtN b b1 → Tabs T b1 → ∀ E : XK, (∀ D w b2 H2, Wok D w → PySem.W.exmOne K (.ref D) (.ref CS) = some true → (∀ q b3, Ex b2 b3 → b2 q = none → b3 q = some (.tup (refV w)) → k (.ref q) b3) → Ex b2 H2 → E (.ref D) none H2) → Ce (t E) σ b1 k) :
    Ce (tLam T (TTn K CS Wok) t) σ b k := fun H e Q q => by
  refine ⟨hT.ext e, fun H1 eN T1 => ?_⟩
  refine h H1 (fun a o h1 n => eN a o (e a o h1) n) T1 _ (fun D w b2 H2 hw hx hk e2 => ?_) H1 (Ex.refl H1) Q q
  exact ⟨D, w, rfl, rfl, hw, hx, fun r H3 e3 h3 h4 => q _ H3 H3 (hk r H3 (e2.trans e3) (ex_none e2 h3) h4) (Ex.refl H3)⟩
end
end Hx

/-! H9: what leaves a lambda's body; bases with tables -/
namespace Hx
open PySem PySem.Spec PyProof.Rows L2 HotX L2H LamX B
open Evl (Ex ex_l ex_t ex_rd sq_of st_of sz_of sz_lt fresh_back)
section
variable {X : Cx} {A : Around} {outer : List Env} {s : Shared} {H : Hp} {E : XK} {scope : Scope} {f c' : Addr}
theorem pxL : Passes (L2N.CX (lamN X A outer s H E scope f c').prog (lamN X A outer s H E scope f c').w) (lamN X A outer s H E scope f c') E := L2N.passes_call (X := lamN X A outer s H E scope f c') (W := fun cls d _ H => E cls d H) (L2N.takes_of (X := lamN X A outer s H E scope f c') rfl rfl rfl rfl) (fun _ _ _ _ h => h)
end
/-! ### a def whose code object is told -/
section
variable {P : Program} {w : World} {K : PySem.W.Frag} {mg : Str → Option Value} {base : Heap}
theorem fok_mkC {x qual : Str} {params : Arguments} {body : List Stmt} {scope : Scope} {at_ : Str × Option Str} {fd : FuncData} {N ps : List Str} {k : Nat} {sb : Sb} (F : FunD K x qual params body scope [] [] (He.fAd K at_) fd) (S : FnScope N ps scope)
    (len : ∀ vs b k ke, sb vs b k ke → vs.length = ps.length)
    (hb : ∀ (kV doc pm : Value) (an : Option Addr) (cdv ct : Value) (us : List Value), us.length = ps.length → bindArgs (PySem.W.fnOf x qual params body scope .none kV doc pm an cdv ct) ⟨us, []⟩ = pure (ps.zip us))
    (h : ∀ (cdv : Value) (A : Around) (outer : List Env) (s : Shared) (H : Hp) (E : XK), cdv = .ref (He.codeOf K at_) → Room k (A.deeper (envOfC qual scope s.heap.objs.size (He.fAd K at_) cdv)) →
      ∃ t, PSs (cxOf (L2N.CX P w) P w K mg base N qual scope (He.fAd K at_) cdv A outer s H E) body t ∧
        ∀ (vs : List V) (b : Hp) (k : VK) (ke : XB), sb vs b k ke → (∀ c b' H', ke c b' → Ex b' H' → E c none H') → Cs t { nx := fun _ b' => k .non b', rt := k } (start N vs) b) :
    Fok P w K mg base (k + 1) at_ ps sb := ⟨⟨fd, fn_mkC F S len h, FunD.bindsN F hb⟩, F.kp⟩
end
/-! ### calls in a lambda's body -/
section
variable {X : Cx} {A : Around} {outer : List Env} {s : Shared} {H : Hp} {E : XK} {scope : Scope} {f c' : Addr} {j k : Nat} {ps : List Str} {sb : Sb} {x C m : Str} {p pos apos : Pos} {e o : Expr} {es : List Expr} {ta : TE} {t : TA}
theorem pe_fnL (F : Fok X.prog X.w X.K X.mg X.base k (x, none) ps sb) (hr : Room j (A.deeper (lamEnv X scope s.heap.objs.size f c'))) (hg : scope.names.lookup x = some .globalImplicit) (hm : X.mg x = some (.ref (He.ga X.K x))) (ha : PA (lamN X A outer s H E scope f c') (e :: es) t) (hk : k ≤ j := by decide)
    (hdb : (x == ("__debug__" : Str)) = false := by decide) (he : ∀ env : Env, starEach (e :: es) env = (false, eval e env) :: starEach es env := by intro _; rfl) (hpl : ∀ env : Env, (backTo pos (starEach es env)).any (·.1) = false := by intro _; rfl) : PE (lamN X A outer s H E scope f c') (.Call (.Name x p) (e :: es) [] pos) (tCall (up sb) [] E t) :=
  pe_fn (X := lamN X A outer s H E scope f c') F hr hg hm pxL ha hk hdb (he _) (hpl _)
theorem pe_meL {pl : Env → Sem Bool} (F : Fok X.prog X.w X.K X.mg X.base k (C, some m) ps sb) (c : Cls X.K (He.ga X.K C)) (hm : Meth X.K (He.ga X.K C) m (He.ma X.K (He.ga X.K C) m)) (hr : Room j (A.deeper (lamEnv X scope s.heap.objs.size f c'))) (ho : PE (lamN X A outer s H E scope f c') o ta) (ha : PA (lamN X A outer s H E scope f c') (e :: es) t) (hk : k ≤ j := by decide)
    (hst : ∀ env : Env, starEach (e :: es) env = (false, eval e env) :: starEach es env := by intro _; rfl) (hpl : ∀ env : Env, (backTo pos (starEach es env)).any (·.1) = false := by intro _; rfl)
    (ht : ∀ env : Env, eval (.Call (.Attribute o m apos) (e :: es) [] pos) env = (do
      let ov ← eval o env
      standAt apos.atName
      let (f, first) ← holding [ov] (getMethod ov m (pl env))
      callWith pos f first (backTo pos (starEach (e :: es) env)) (backToKw pos (keywordEach [] env))) := by intro _; rfl) : PE (lamN X A outer s H E scope f c') (.Call (.Attribute o m apos) (e :: es) [] pos) (tMeth (He.ga X.K C) m (up sb) [] E ta t) :=
  pe_me (X := lamN X A outer s H E scope f c') F c hm hr pxL ho ha hk (hst _) (hpl _) (ht _)
theorem pe_me0L {pl : Env → Sem Bool} (F : Fok X.prog X.w X.K X.mg X.base k (C, some m) ps sb) (c : Cls X.K (He.ga X.K C)) (hm : Meth X.K (He.ga X.K C) m (He.ma X.K (He.ga X.K C) m)) (hr : Room j (A.deeper (lamEnv X scope s.heap.objs.size f c'))) (ho : PE (lamN X A outer s H E scope f c') o ta) (hk : k ≤ j := by decide)
    (ht : ∀ env : Env, eval (.Call (.Attribute o m apos) [] [] pos) env = (do
      let ov ← eval o env
      standAt apos.atName
      let (f, first) ← holding [ov] (getMethod ov m (pl env))
      callWith pos f first (backTo pos (starEach [] env)) (backToKw pos (keywordEach [] env))) := by intro _; rfl) : PE (lamN X A outer s H E scope f c') (.Call (.Attribute o m apos) [] [] pos) (tMeth (He.ga X.K C) m (up sb) [] E ta tNil) :=
  pe_me0 (X := lamN X A outer s H E scope f c') F c hm hr pxL ho hk (ht _)
theorem pe_mkL (F : Fok X.prog X.w X.K X.mg X.base k (x, some "__init__") ps sb) (M : Mk X.K (He.ga X.K x) (He.ma X.K (He.ga X.K x) "__init__")) (hr : Room j (A.deeper (lamEnv X scope s.heap.objs.size f c'))) (hg : scope.names.lookup x = some .globalImplicit) (hm : X.mg x = some (.ref (He.ga X.K x))) (ha : PA (lamN X A outer s H E scope f c') (e :: es) t) (hk : k + 1 ≤ j := by decide)
    (hdb : (x == ("__debug__" : Str)) = false := by decide) (he : ∀ env : Env, starEach (e :: es) env = (false, eval e env) :: starEach es env := by intro _; rfl) (hpl : ∀ env : Env, (backTo pos (starEach es env)).any (·.1) = false := by intro _; rfl) : PE (lamN X A outer s H E scope f c') (.Call (.Name x p) (e :: es) [] pos) (tMake (He.ga X.K x) (up sb) [] E t) :=
  pe_mk (X := lamN X A outer s H E scope f c') F M hr hg hm pxL ha hk hdb (he _) (hpl _)
theorem pvL (i : Nat) {y : Str} (hN : X.N[i]? = some y := by rfl) (hv : Vis scope y := by first | exact Or.inr (Or.inr rfl) | exact Or.inl rfl | exact Or.inr (Or.inl rfl)) (hd : (y == ("__debug__" : Str)) = false := by decide) (hcd : (y == ("__classdict__" : Str)) = false := by decide) : PE (lamN X A outer s H E scope f c') (.Name y pos) (tVar i) :=
  pe_var (X := lamN X A outer s H E scope f c') (i := i) hN hv hd hcd
end
/-! ### what is known of a base with tables: b0 is free of tables -/
structure LB (T : List (Addr × Str)) (b0 b : Hp) : Prop where
  nt : NoTbl b0
  ex : Ex b0 b
  tb : Tabs T b
theorem LB.exN {T : List (Addr × Str)} {b0 b b1 : Hp} (h : LB T b0 b) (x : ExtN b b1) (t : Tabs T b1) : LB T b0 b1 := ⟨h.nt, h.nt.exN h.ex x, t⟩
theorem LB.on {T : List (Addr × Str)} {b0 b b1 : Hp} (h : LB T b0 b) (x : Ex b b1) : LB T b0 b1 := ⟨h.nt, h.ex.trans x, h.tb.ext x⟩
theorem LB.new {T : List (Addr × Str)} {b0 b : Hp} {p : Addr} {o : HO} (h : LB T b0 b) (hp : b p = none) (ho : ∀ ps, o ≠ .tbl ps) : LB T (upd b0 p o) (upd b p o) := ⟨h.nt.new ho, ex_upd h.ex, h.tb.ext (Ex.new hp)⟩
theorem Tabs.put {T : List (Addr × Str)} {b : Hp} {l : Addr} {o o' : HO} (h : Tabs T b) (hl : b l = some o) (n1 : ∀ ps, o ≠ .tbl ps) (n2 : ∀ c q, o ≠ CodeO c q) : Tabs T (upd b l o') := fun p hp => by
  obtain ⟨ps, h1, h2, h3⟩ := h p hp
  have nP : p.1 ≠ l := fun z => by
    rw [z, hl] at h1
    exact n1 ps (Option.some.inj h1)
  refine ⟨ps, by rw [upd_ne nP]; exact h1, h2, fun pos cv hc => ?_⟩
  obtain ⟨c, e1, e2⟩ := h3 pos cv hc
  have nC : c ≠ l := fun z => by
    have e3 := hl
    rw [← z, e2] at e3
    exact n2 c p.2 (Option.some.inj e3).symm
  exact ⟨c, e1, by rw [upd_ne nC]; exact e2⟩
theorem LB.put {T : List (Addr × Str)} {b0 b : Hp} {l : Addr} {o o' : HO} (h : LB T b0 b) (hl : b l = some o) (n1 : ∀ ps, o ≠ .tbl ps) (n2 : ∀ c q, o ≠ CodeO c q) (n3 : ∀ ps, o' ≠ .tbl ps) : LB T (upd b0 l o') (upd b l o') := ⟨h.nt.new n3, ex_upd h.ex, Tabs.put h.tb hl n1 n2⟩
/-- at the law's entry: all but the tables -/
def noT (H : Hp) : Hp := fun a => match H a with
  | some (.tbl _) => none
  | o => o
theorem noT_ex (H : Hp) : Ex (noT H) H := fun a o h => by
  unfold noT at h
  split at h
  · cases h
  · exact h
theorem noT_nt (H : Hp) : NoTbl (noT H) := fun a ps h => by
  unfold noT at h
  split at h
  · cases h
  · rename_i z
    exact z ps h
theorem noT_at {H : Hp} {a : Addr} {o : HO} (h : H a = some o) (n : ∀ ps, o ≠ .tbl ps) : noT H a = some o := by
  unfold noT
  rw [h]
  cases o <;> first | rfl | exact absurd rfl (n _)
theorem LB.start {T : List (Addr × Str)} {H : Hp} (h : Tabs T H) : LB T (noT H) H := ⟨noT_nt H, noT_ex H, h⟩
theorem noT_l {K : PySem.W.Frag} {H : Hp} {a : Addr} {xs : List V} (h : SqL K H a xs) : SqL K (noT H) a xs := by
  rcases h with (h | ⟨o, h⟩) | h
  · exact .inl (.inl (noT_at h (fun _ z => by cases z)))
  · exact .inl (.inr ⟨o, noT_at h (fun _ z => by cases z)⟩)
  · exact .inr h
section
variable {K : PySem.W.Frag} {σ : L2.St} {b b0 : Hp} {k : VK}
/-- .. with the base's tables -/
theorem c_lamB {T : List (Addr × Str)} {CS : Addr} {Wok : Addr → Str → Prop} {t : XK → TE} (h : LB T b0 b)
    (hb : ∀ b1, LB T b0 b1 → ∀ E : XK, (∀ D w b2 H2, Wok D w → PySem.W.exmOne K (.ref D) (.ref CS) = some true → (∀ q b3, Ex b2 b3 → b2 q = none → b3 q = some (.tup (refV w)) → k (.ref q) b3) → Ex b2 H2 → E (.ref D) none H2) → Ce (t E) σ b1 k) :
    Ce (tLam T (TTn K CS Wok) t) σ b k := c_lam h.tb fun b1 eN t1 E hE => hb b1 (h.exN eN t1) E hE
end
end Hx

/-! T1: try: f(..) / except C: one statement -/
namespace B
open PySem PySem.Spec PyProof.Rows L2 Evl
section
variable {X : Cx} {j k : Nat} {ps : List Str} {sb : Sb} {W : WX} {x : Str} {p pos : Pos} {e : Expr} {es : List Expr} {t : TA}
theorem pe_fnS (F : Fok X.prog X.w X.K X.mg X.base k (x, none) ps sb) (hr : Room j X.A) (hg : Gl X x) (hm : X.mg x = some (.ref (He.ga X.K x))) (tk : L2N.Takes X W) (ha : PA X (e :: es) t) (hk : k ≤ j := by decide)
    (hdb : (x == ("__debug__" : Str)) = false := by decide) (he : starEach (e :: es) X.env = (false, eval e X.env) :: starEach es X.env := by rfl) (hpl : (backTo pos (starEach es X.env)).any (·.1) = false := by rfl) : PE X (.Call (.Name x p) (e :: es) [] pos) (tCallS (up sb) (WE W) t) := by
  obtain ⟨fd, F1, b⟩ := F.ex
  exact pe_callS F1 (hr.mono hk) hg hm F.kp b (fun σ => L2N.passAt tk σ) ha hdb he hpl
end
def tTry1 (K : PySem.W.Frag) (sp : Sp) (C : Addr) (ta : TA) (ts : TS) (E : XK) : TS := fun D σ H => tDrop (tCallS sp (WE (wMany K (fun cls d _ H => E cls d H) D [(.ref C, fun _ _ _ => ts)])) ta) D σ H
section
variable {K : PySem.W.Frag} {σ : L2.St} {b : Hp} {D : Ends} {ts : TS} {ta : TA} {vs : List V} {ke : XB} {C : Addr} {sb : Sb} {E : XK}
theorem s_try1 (h : Pa ta σ b vs) (hs : sb vs b (fun _ b' => D.nx σ b') ke) (he : ∀ c b', ke c b' → PySem.W.exmOne K c (.ref C) = some true ∧ Cs ts D σ b') : Cs (tTry1 K (up sb) C ta ts E) D σ b := fun H a D' l => h H a _ fun H1 a1 =>
  ⟨b, _, ke, a1, hs, fun v b' H' hk e => l.nx σ b' H' hk e, fun c b' H' hc e => by
    obtain ⟨h1, h2⟩ := he c b' hc
    exact ⟨true, h1, fun _ _ _ => h2 H' e D' l, fun z => by cases z⟩⟩
end
end B

/-! S1: len(set(xs)), xs a list of tuples of ints -/
namespace B
open PySem PySem.Spec PyProof.Rows L2 Evl
abbrev rLenD : List V → Hp → VK → Prop := fun xs H Q => ∃ (a : Addr) (kvs : List (Key × V)), xs = [V.ref a] ∧ H a = some (.dK kvs) ∧ Q (.int kvs.length) H
/-- n things of l are unlike -/
def Dist (l : List (List Int)) (n : Nat) : Prop := ∃ L : List (List Int), L.Nodup ∧ (∀ x ∈ L, x ∈ l) ∧ (∀ x ∈ l, x ∈ L) ∧ L.length = n
def tLenSetT (K : PySem.W.Frag) (ta : TE) : TE := fun σ H Q => ta σ H fun x H1 => ∃ (l : Addr) (ks : List (Addr × List Int)), x = V.ref l ∧ SqL K H1 l (ks.map fun p => V.ref p.1) ∧ (∀ p ∈ ks, SqT K H1 p.1 (p.2.map V.int)) ∧ ks.length < 64 ∧ ∀ n : Nat, Dist (ks.map (·.2)) n → Q (.int n) H1
section
variable {X : Cx}
theorem pe_lenSetT {a : Expr} {ta : TE} {p p2 q pos : Pos} (hc : X.calm = true) (hu : X.A.units + 64 < cLine) (hg : Gl X "len") (hm : X.mg "len" = none) (hg2 : Gl X "set") (hm2 : X.mg "set" = none) (ha : PE X a ta)
    (na : starEach [a] X.env = (false, eval a X.env) :: starEach [] X.env := by rfl) : PE X (.Call (.Name "len" p) [.Call (.Name "set" p2) [a] [] q] [] pos) (tLenSetT X.K ta) := by
  refine ⟨fun pins s σ H Q I h => ?_⟩
  refine Call_ (ld_blt I hg hm PySem.boot_len ?_)
  refine PyProof.Rows.callWith_builtin1 (PyProof.Rows.args_cons ?_ rfl) rfl rfl
  refine Call_ (ld_blt I hg2 hm2 PyProof.Rows.boot_set ?_)
  refine PyProof.Rows.callWith_type1 (PyProof.Rows.args_cons (thn (ha.run pins s σ H _ I h) fun v s1 hq => PyProof.Rows.args_nil ?_) na) na rfl
  obtain ⟨x, H1, I1, r1, l, ks, ex, hl, hk, hf, q1⟩ := hq
  subst ex
  cases r1
  obtain ⟨its, rv, pl, hz⟩ := I1.list hl
  refine call_set_tups (P := X.prog) (w := X.w) ks (I1.ok.hd hc) pl.isList (by simpa using refs_of_vals rv) (fun p hp => I1.isT (hk p hp)) hf (by omega) fun h' tk L es ep t R g k => ?_
  refine PyProof.Rows.args_nil ?_
  obtain ⟨o, ho, hex, hd⟩ := R.ob
  have I2 : Inv X pins σ H1 { s1 with heap := h', toks := tk } := I1.kept k
  have hsz : es.size = L.length := R.size (s := { s1 with heap := h' })
  have hfew := R.few
  refine call_len_set ho hex hd (R.fits (s := { s1 with heap := h' })) (by rw [hsz]; omega) ⟨.int L.length, H1, I2.tok _, ⟨_, by rw [hsz]⟩, q1 L.length ⟨L.map (·.2), R.nd, fun x hx => ?_, fun x hx => ?_, List.length_map ..⟩⟩
  · obtain ⟨p, hp, rfl⟩ := List.mem_map.mp hx
    exact List.mem_map.mpr ⟨p, List.mem_of_mem_take (g.sub p hp), rfl⟩
  · obtain ⟨p, hp, rfl⟩ := List.mem_map.mp hx
    exact g.all p (by rw [List.take_length]; exact hp)
end
theorem nodup_le : ∀ (L l : List (List Int)), L.Nodup → (∀ x ∈ L, x ∈ l) → L.length ≤ l.length
  | [], _, _, _ => Nat.zero_le _
  | a :: L, l, h, hs => by
    have h1 := List.nodup_cons.mp h
    have ha := hs a (List.mem_cons_self ..)
    have ih := nodup_le L (l.erase a) h1.2 fun x hx => by
      have hne : x ≠ a := fun z => h1.1 (by rw [← z]; exact hx)
      exact (List.mem_erase_of_ne hne).mpr (hs x (List.mem_cons_of_mem _ hx))
    rw [List.length_erase_of_mem ha] at ih
    have : 0 < l.length := List.length_pos_of_mem ha
    rw [List.length_cons]
    omega
theorem dist_nodup {l : List (List Int)} {n : Nat} (h : l.Nodup) (d : Dist l n) : n = l.length := by
  obtain ⟨L, h1, h2, h3, rfl⟩ := d
  exact Nat.le_antisymm (nodup_le L l h1 h2) (nodup_le l L h h3)
section
variable {K : PySem.W.Frag} {σ : L2.St} {b : Hp} {te : TE} {k : VK}
theorem c_lenSetT {l : Addr} {ks : List (Addr × List Int)} (h : Pe te σ b (.ref l)) (hl : SqL K b l (ks.map fun p => V.ref p.1)) (hk : ∀ p ∈ ks, SqT K b p.1 (p.2.map V.int)) (hf : ks.length < 64) (hq : ∀ n : Nat, Dist (ks.map (·.2)) n → k (.int n) b) : Ce (tLenSetT K te) σ b k := fun H a Q q =>
  h H a _ fun H1 a1 => ⟨l, ks, rfl, ex_l a1 hl, fun p hp => ex_t a1 (hk p hp), hf, fun n hn => q _ b H1 (hq n hn) a1⟩
end
end B

namespace Fr
open PySem L2 B
open Evl (Ex ex_l ex_t ex_rd sq_of st_of sz_of sz_lt fresh_back)
local macro_rules | `(tactic| walk_at "side") => `(tactic| first | assumption | omega | decide | rfl | (simp only [List.length_cons, List.length_nil, List.length_map]; omega))
local macro_rules | `(tactic| walk_at "own") => `(tactic| fail "own")
local macro_rules | `(tactic| walk_at "v") => `(tactic| first
  | (with_reducible exact v_c)
  | ((with_reducible apply v_var); rfl)
  | ((with_reducible apply v_op) <;> walk_at "v")
  | ((with_reducible apply v_un) <;> walk_at "v")
  | ((with_reducible apply t_test); walk_at "v")
  | ((with_reducible apply t_B); walk_at "v")
  | ((with_reducible apply t_not); walk_at "v")
  | ((with_reducible apply t_and) <;> walk_at "v")
  | ((with_reducible apply t_or) <;> walk_at "v")
  | (with_reducible exact t_yes)
  | ((with_reducible apply v_chain) <;> walk_at "v")
  | ((with_reducible apply v_andV) <;> walk_at "v")
  | ((with_reducible apply v_orV) <;> walk_at "v")
  | ((with_reducible apply v_notV); walk_at "v")
  | ((with_reducible apply v_if) <;> walk_at "v")
  | ((with_reducible apply v_cb) <;> walk_at "v")
  | (with_reducible exact a_nil)
  | ((with_reducible apply a_cons) <;> walk_at "v")
  | (with_reducible exact r_add)
  | (with_reducible exact r_sub)
  | (with_reducible exact r_lt)
  | (with_reducible exact r_le)
  | (with_reducible exact r_gt)
  | (with_reducible exact r_ge)
  | (with_reducible exact r_eqI)
  | (with_reducible exact r_neI)
  | (with_reducible exact r_eqT)
  | (with_reducible exact r_neT)
  | (with_reducible exact r_eqB)
  | (with_reducible exact r_neB)
  | (with_reducible exact r_subB)
  | (with_reducible exact r_isN)
  | (with_reducible exact r_notN)
  | (with_reducible exact u_neg)
  | (with_reducible exact p_abs)
  | (with_reducible exact p_max2)
  | (with_reducible exact p_min2)
  | (with_reducible exact p_intB)
  | (with_reducible exact r_in)
  | (with_reducible exact r_notIn)
  | ((with_reducible apply r_mod); walk_at "side")
  | ((with_reducible apply r_mul); first | (left; constructor <;> omega) | (right; constructor <;> omega))
  | ((with_reducible apply r_fdiv); constructor <;> walk_at "side")
  | ((with_reducible apply r_iT) <;> first | (with_reducible assumption) | rfl)
  | ((with_reducible apply r_iL) <;> first | (with_reducible assumption) | rfl)
  | ((with_reducible apply p_lenT); (with_reducible assumption))
  | ((with_reducible apply v_call) <;> walk_at "v")
  | ((with_reducible apply v_meth) <;> walk_at "v")
  | ((with_reducible apply v_fld) <;> walk_at "v")
  | (with_reducible assumption)
  | ((with_reducible intro _); walk_at "v")
  | walk_at "own")

/-! ### maps -/
/-- a right map, w tiles wide -/
structure GoodMap (rows : List Str) (w : Nat) : Prop where
  h1 : 1 ≤ rows.length
  h2 : rows.length ≤ 20
  w1 : 1 ≤ w
  w2 : w ≤ 30
  len : ∀ r ∈ rows, r.cps.size = w
  sg : ∀ r ∈ rows, ∀ c ∈ r.cps.toList, c ∈ [35, 46, 60, 62, 61]
abbrev rowsV (rows : List Str) : List V := rows.map V.str
def cellM (rows : List Str) (i j : Nat) : Nat := (rows.getD i Str.empty).cps.toList.getD j 0
def solidM (rows : List Str) (w : Nat) (l t : Int) : Bool :=
  if ¬ (0 ≤ l ∧ l < 8 * (w : Int)) then true
  else if ¬ (0 ≤ t ∧ t < 8 * (rows.length : Int)) then false
  else if cellM rows (t / 8).toNat (l / 8).toNat = 62 then decide (7 - t % 8 ≤ l % 8)
  else if cellM rows (t / 8).toNat (l / 8).toNat = 60 then decide (7 - t % 8 ≤ 7 - l % 8)
  else decide (cellM rows (t / 8).toNat (l / 8).toNat = 35)
def ledgeM (rows : List Str) (w : Nat) (l t : Int) : Bool :=
  if ¬ (0 ≤ l ∧ l < 8 * (w : Int)) ∨ ¬ (0 ≤ t ∧ t < 8 * (rows.length : Int)) ∨ t % 8 ≠ 0 then false
  else decide (cellM rows (t / 8).toNat (l / 8).toNat = 61)
section
variable {K : PySem.W.Frag}
def sb_size (K : PySem.W.Frag) : Sb := fun vs b k _ => ∃ a rows w, vs = [.ref a] ∧ SqL K b a (rowsV rows) ∧ GoodMap rows w ∧ ∀ p, b p = none → k (.ref p) (upd b p (.tup [.int (8 * (w : Int)), .int (8 * (rows.length : Int))]))
def sb_tile (K : PySem.W.Frag) : Sb := fun vs b k _ => ∃ a rows w l t, vs = [.ref a, .int l, .int t] ∧ SqL K b a (rowsV rows) ∧ GoodMap rows w ∧ (0 ≤ l ∧ l < 8 * (w : Int)) ∧ (0 ≤ t ∧ t < 8 * (rows.length : Int)) ∧ k (.str ⟨#[cellM rows (t / 8).toNat (l / 8).toNat]⟩) b
def sb_solid (K : PySem.W.Frag) : Sb := fun vs b k _ => ∃ a rows w l t, vs = [.ref a, .int l, .int t] ∧ SqL K b a (rowsV rows) ∧ GoodMap rows w ∧ k (.bl (solidM rows w l t)) b
def sb_is_ledge (K : PySem.W.Frag) : Sb := fun vs b k _ => ∃ a rows w l t, vs = [.ref a, .int l, .int t] ∧ SqL K b a (rowsV rows) ∧ GoodMap rows w ∧ k (.bl (ledgeM rows w l t)) b
end
theorem len_size {K : PySem.W.Frag} : ∀ vs b k ke, sb_size K vs b k ke → vs.length = (["rows"] : List Str).length := fun _ _ _ _ ⟨_, _, _, e, _⟩ => e ▸ rfl
theorem len_tile {K : PySem.W.Frag} : ∀ vs b k ke, sb_tile K vs b k ke → vs.length = (["rows", "left", "top"] : List Str).length := fun _ _ _ _ ⟨_, _, _, _, _, e, _⟩ => e ▸ rfl
theorem len_solid {K : PySem.W.Frag} : ∀ vs b k ke, sb_solid K vs b k ke → vs.length = (["rows", "left", "top"] : List Str).length := fun _ _ _ _ ⟨_, _, _, _, _, e, _⟩ => e ▸ rfl
theorem len_is_ledge {K : PySem.W.Frag} : ∀ vs b k ke, sb_is_ledge K vs b k ke → vs.length = (["rows", "left", "top"] : List Str).length := fun _ _ _ _ ⟨_, _, _, _, _, e, _⟩ => e ▸ rfl
def t_size (K : PySem.W.Frag) (E : XK) : TS := (tRet (tTup (tCons (tOp rMulU (tC (.int 8)) (tCB (rLenU K) (tCons (tOp (rIx K) (tVar 0) (tC (.int 0))) tNil))) (tCons (tOp rMulU (tC (.int 8)) (tCB (rLenU K) (tCons (tVar 0) tNil))) tNil))))
def t_tile (K : PySem.W.Frag) (E : XK) : TS := (tRet (tOp (rIx K) (tOp (rIx K) (tVar 0) (tOp rFdivU (tVar 2) (tC (.int 8)))) (tOp rFdivU (tVar 1) (tC (.int 8)))))
def t_solid (K : PySem.W.Frag) (E : XK) : TS := (tSeq (tAsg (tCall (up (sb_size K)) [] E (tCons (tVar 0) tNil)) (gTup K 2 (gCons (gName 3) (gCons (gName 4) gNil)))) (tSeq (tIfS (tNot (tTest (tChain rLeI rLtI (tC (.int 0)) (tVar 1) (tVar 3)))) (tRet (tC (.bl true))) tNext) (tSeq (tIfS (tNot (tTest (tChain rLeI rLtI (tC (.int 0)) (tVar 2) (tVar 4)))) (tRet (tC (.bl false))) tNext) (tSeq (tAsg (tCall (up (sb_tile K)) [] E (tCons (tVar 0) (tCons (tVar 1) (tCons (tVar 2) tNil)))) (gName 5)) (tSeq (tPar 6 7 (tCons (tOp rSubU (tOp rSubU (tC (.int 8)) (tC (.int 1))) (tOp rModI (tVar 2) (tC (.int 8)))) (tCons (tOp rModI (tVar 1) (tC (.int 8))) tNil))) (tSeq (tIfS (tTest (tOp (rEqU K) (tVar 5) (tC (.str ">")))) (tRet (tOp rLeI (tVar 6) (tVar 7))) tNext) (tSeq (tIfS (tTest (tOp (rEqU K) (tVar 5) (tC (.str "<")))) (tRet (tOp rLeI (tVar 6) (tOp rSubU (tOp rSubU (tC (.int 8)) (tC (.int 1))) (tVar 7)))) tNext) (tRet (tOp (rEqU K) (tVar 5) (tC (.str "#")))))))))))
def t_is_ledge (K : PySem.W.Frag) (E : XK) : TS := (tSeq (tAsg (tCall (up (sb_size K)) [] E (tCons (tVar 0) tNil)) (gTup K 2 (gCons (gName 3) (gCons (gName 4) gNil)))) (tSeq (tIfS (tOr (tNot (tTest (tChain rLeI rLtI (tC (.int 0)) (tVar 1) (tVar 3)))) (tOr (tNot (tTest (tChain rLeI rLtI (tC (.int 0)) (tVar 2) (tVar 4)))) (tTest (tOp (rNeU K) (tOp rModI (tVar 2) (tC (.int 8))) (tC (.int 0)))))) (tRet (tC (.bl false))) tNext) (tRet (tOp (rEqU K) (tCall (up (sb_tile K)) [] E (tCons (tVar 0) (tCons (tVar 1) (tCons (tVar 2) tNil)))) (tC (.str "="))))))
/-! items -/
theorem at_getD {α : Type} (xs : List α) (d : α) {i : Int} (h0 : 0 ≤ i) (h1 : i < xs.length) : atI xs i = some (xs.getD i.toNat d) := by
  have e : i = (i.toNat : Int) := (Int.toNat_of_nonneg h0).symm
  have hl : i.toNat < xs.length := by omega
  have h : xs[i.toNat]? = some (xs.getD i.toNat d) := by rw [List.getD_eq_getElem?_getD, List.getElem?_eq_getElem hl]; rfl
  have q := atI_nat h
  rw [← e] at q
  exact q
theorem at_rows (rows : List Str) {i : Int} (h0 : 0 ≤ i) (h1 : i < rows.length) : atI (rowsV rows) i = some (.str (rows.getD i.toNat Str.empty)) := by
  have q := at_getD (rowsV rows) (V.str Str.empty) h0 (by rw [List.length_map]; exact h1)
  rw [q, List.getD_eq_getElem?_getD, List.getD_eq_getElem?_getD, List.getElem?_map]
  cases rows[i.toNat]? <;> rfl
theorem GoodMap.row {rows : List Str} {w : Nat} (g : GoodMap rows w) {i : Nat} (h : i < rows.length) : (rows.getD i Str.empty).cps.size = w := by
  refine g.len _ ?_
  rw [List.getD_eq_getElem?_getD, List.getElem?_eq_getElem h]
  exact List.getElem_mem h
theorem GoodMap.rowLen {rows : List Str} {w : Nat} (g : GoodMap rows w) {i : Nat} (h : i < rows.length) : (rows.getD i Str.empty).length = w := g.row h
section
variable {K : PySem.W.Frag} {σ : L2.St} {b : Hp} {vs : List V} {k : VK} {ke : XB} {E : XK}
/-- rows[i] -/
theorem r_row {a : Addr} {rows : List Str} {i : Int} (hm : SqL K b a (rowsV rows)) (h0 : 0 ≤ i) (h1 : i < rows.length) : Pr (rIx K) (.ref a) (.int i) b (.str (rows.getD i.toNat Str.empty)) := r_iL hm (at_rows rows h0 h1)
theorem r_chr {rows : List Str} {w i : Nat} {j : Int} (g : GoodMap rows w) (hi : i < rows.length) (h0 : 0 ≤ j) (h1 : j < w) : Pr (rIx K) (.str (rows.getD i Str.empty)) (.int j) b (.str ⟨#[cellM rows i j.toNat]⟩) := by
  have e := g.row hi
  exact r_iS (by show (rows.getD i Str.empty).cps.size ≤ 100000; have := g.w2; omega) (at_getD _ 0 h0 (by simp only [Array.length_toList]; omega))
theorem p_size (h : sb_size K vs b k ke) (hE : ∀ c b' H', ke c b' → Ex b' H' → E c none H') : Cs (t_size K E) { nx := fun _ b' => k .non b', rt := k } (start ["rows"] vs) b := by
  obtain ⟨a, rows, w, rfl, hm, g, hk⟩ := h
  have h1 := g.h1
  have e0 : (rows.getD (0 : Int).toNat Str.empty).length = w := g.rowLen (i := 0) (by omega)
  have w2 := g.w2
  refine s_ret (Pn.c (n_tup (a_cons (v_op v_c (v_cb (a_cons (v_op (v_var rfl) v_c (r_row hm (by decide) (by omega))) a_nil) (p_lenS (by omega))) (r_mul (.inl ⟨by decide, by decide⟩)))
    (a_cons (v_op v_c (v_cb (a_cons (v_var rfl) a_nil) (p_lenL hm)) (r_mul (.inl ⟨by decide, by decide⟩))) a_nil)) (by show 2 ≤ 100000; decide)) ?_)
  rw [e0, List.length_map]
  exact hk
theorem p_tile (h : sb_tile K vs b k ke) (hE : ∀ c b' H', ke c b' → Ex b' H' → E c none H') : Cs (t_tile K E) { nx := fun _ b' => k .non b', rt := k } (start ["rows", "left", "top"] vs) b := by
  obtain ⟨a, rows, w, l, t, rfl, hm, g, hl, ht, hk⟩ := h
  exact s_retV (v_op (v_op (v_var rfl) (v_op (v_var rfl) v_c (r_fdiv ⟨by decide, by decide⟩)) (r_row hm (by omega) (by omega))) (v_op (v_var rfl) v_c (r_fdiv ⟨by decide, by decide⟩)) (r_chr g (by omega) (by omega) (by omega))) hk
theorem s_size {a : Addr} {rows : List Str} {w : Nat} (hm : SqL K b a (rowsV rows)) (g : GoodMap rows w) : Psn (sb_size K) [.ref a] b (.tup [.int (8 * (w : Int)), .int (8 * (rows.length : Int))]) := fun k hk => ⟨a, rows, w, rfl, hm, g, hk⟩
theorem s_tile {a : Addr} {rows : List Str} {w : Nat} {l t : Int} (hm : SqL K b a (rowsV rows)) (g : GoodMap rows w) (hl : 0 ≤ l ∧ l < 8 * (w : Int)) (ht : 0 ≤ t ∧ t < 8 * (rows.length : Int)) : Ps (sb_tile K) [.ref a, .int l, .int t] b (.str ⟨#[cellM rows (t / 8).toNat (l / 8).toNat]⟩) := fun k hk => ⟨a, rows, w, l, t, rfl, hm, g, hl, ht, hk⟩
theorem s_solid {a : Addr} {rows : List Str} {w : Nat} {l t : Int} (hm : SqL K b a (rowsV rows)) (g : GoodMap rows w) : Ps (sb_solid K) [.ref a, .int l, .int t] b (.bl (solidM rows w l t)) := fun k hk => ⟨a, rows, w, l, t, rfl, hm, g, hk⟩
theorem s_is_ledge {a : Addr} {rows : List Str} {w : Nat} {l t : Int} (hm : SqL K b a (rowsV rows)) (g : GoodMap rows w) : Ps (sb_is_ledge K) [.ref a, .int l, .int t] b (.bl (ledgeM rows w l t)) := fun k hk => ⟨a, rows, w, l, t, rfl, hm, g, hk⟩
theorem sgn_eq {c n : Nat} {z : Str} (hz : z = ⟨#[n]⟩) : decide ((⟨#[c]⟩ : Str) = z) = decide (c = n) := by
  subst hz
  simp
theorem p_solid (h : sb_solid K vs b k ke) (hE : ∀ c b' H', ke c b' → Ex b' H' → E c none H') : Cs (t_solid K E) { nx := fun _ b' => k .non b', rt := k } (start ["rows", "left", "top", "wide", "high", "sign", "up", "right"] vs) b := by
  obtain ⟨a, rows, w, l, t, rfl, hm, g, hk⟩ := h
  unfold solidM at hk
  refine q_asgT (n_call (a_cons (v_var rfl) a_nil) (s_size hm g)) rfl (gs_name (gs_name (gs_nil ?_)))
  refine q_when (by walk_at "v") (fun c1 => s_retV v_c ?_) (fun c1 => ?_)
  · have c2 : ¬ (0 ≤ l ∧ l < 8 * (w : Int)) := by simp at c1; omega
    rw [if_pos c2] at hk
    exact hk
  have hl : 0 ≤ l ∧ l < 8 * (w : Int) := by simp at c1; omega
  rw [if_neg (by omega)] at hk
  refine q_when (by walk_at "v") (fun c1 => s_retV v_c ?_) (fun c1 => ?_)
  · have c2 : ¬ (0 ≤ t ∧ t < 8 * (rows.length : Int)) := by simp at c1; omega
    rw [if_pos c2] at hk
    exact hk
  have ht : 0 ≤ t ∧ t < 8 * (rows.length : Int) := by simp at c1; omega
  rw [if_neg (by omega)] at hk
  refine q_asgV (v_call (by walk_at "v") (s_tile hm g hl ht)) ?_
  refine q_par (by walk_at "v") ?_
  generalize cellM rows (t / 8).toNat (l / 8).toNat = c at hk ⊢
  have e1 : decide ((⟨#[c]⟩ : Str) = ">") = decide (c = 62) := sgn_eq (by decide +kernel)
  have e2 : decide ((⟨#[c]⟩ : Str) = "<") = decide (c = 60) := sgn_eq (by decide +kernel)
  have e3 : decide ((⟨#[c]⟩ : Str) = "#") = decide (c = 35) := sgn_eq (by decide +kernel)
  refine q_when (c := decide (c = 62)) (t_is (by walk_at "v") e1) (fun c1 => s_retV (by walk_at "v") ?_) (fun c1 => ?_)
  · rw [if_pos (of_decide_eq_true c1)] at hk
    exact hk
  rw [if_neg (of_decide_eq_false c1)] at hk
  refine q_when (c := decide (c = 60)) (t_is (by walk_at "v") e2) (fun c1 => s_retV (by walk_at "v") ?_) (fun c1 => ?_)
  · rw [if_pos (of_decide_eq_true c1)] at hk
    exact hk
  rw [if_neg (of_decide_eq_false c1)] at hk
  exact s_retV (v_is (by walk_at "v") (congrArg V.bl e3)) hk
theorem p_is_ledge (h : sb_is_ledge K vs b k ke) (hE : ∀ c b' H', ke c b' → Ex b' H' → E c none H') : Cs (t_is_ledge K E) { nx := fun _ b' => k .non b', rt := k } (start ["rows", "left", "top", "wide", "high"] vs) b := by
  obtain ⟨a, rows, w, l, t, rfl, hm, g, hk⟩ := h
  unfold ledgeM at hk
  refine q_asgT (n_call (a_cons (v_var rfl) a_nil) (s_size hm g)) rfl (gs_name (gs_name (gs_nil ?_)))
  refine q_when (by walk_at "v") (fun c1 => s_retV v_c ?_) (fun c1 => ?_)
  · rw [if_pos (by simp at c1; omega)] at hk
    exact hk
  have c2 : ¬ (¬ (0 ≤ l ∧ l < 8 * (w : Int)) ∨ ¬ (0 ≤ t ∧ t < 8 * (rows.length : Int)) ∨ t % 8 ≠ 0) := by simp at c1; omega
  rw [if_neg c2] at hk
  have hl : 0 ≤ l ∧ l < 8 * (w : Int) := by omega
  have ht : 0 ≤ t ∧ t < 8 * (rows.length : Int) := by omega
  generalize hc : cellM rows (t / 8).toNat (l / 8).toNat = c at hk
  have e1 : decide ((⟨#[c]⟩ : Str) = "=") = decide (c = 61) := sgn_eq (by decide +kernel)
  refine s_retV (v_is (v_op (v_call (by walk_at "v") (hc ▸ s_tile hm g hl ht)) v_c r_eqT) (congrArg V.bl e1)) hk
end

/-! ### the law's own helpers -/
section
variable {K : PySem.W.Frag} {σ : L2.St} {b : Hp} {vs : List V} {k : VK} {ke : XB} {E : XK}
theorem s_par3 {D : Ends} {i j l : Nat} {ts : TA} {u v w : V} (h : Pa ts σ b [u, v, w]) (hk : D.nx (((σ.set i (some u)).set j (some v)).set l (some w)) b) : Cs (tPar3 i j l ts) D σ b := fun H a D' q => h H a _ fun H1 a1 => ⟨u, v, w, rfl, q.nx _ b H1 hk a1⟩
theorem q_par3 {D : Ends} {tz : TS} {i j l : Nat} {ts : TA} {u v w : V} (h : Pa ts σ b [u, v, w]) (hk : Cs tz D (((σ.set i (some u)).set j (some v)).set l (some w)) b) : Cs (tSeq (tPar3 i j l ts) tz) D σ b := s_seq (s_par3 h hk)
def cellZ (ns : List Int) (kk : Int) : Int := if ns = [] then kk * 7919 else ns.getD (kk % (ns.length : Int)).toNat 0 + kk / (ns.length : Int) * 104729
def sb__law_cell (K : PySem.W.Frag) : Sb := fun vs b k _ => ∃ a ns kk, vs = [.ref a, .int kk] ∧ SqL K b a (ns.map V.int) ∧ ns.length ≤ 63 ∧ 0 ≤ kk ∧ k (.int (cellZ ns kk)) b
theorem len__law_cell : ∀ vs b k ke, sb__law_cell K vs b k ke → vs.length = (["script", "k"] : List Str).length := fun _ _ _ _ ⟨_, _, _, e, _⟩ => e ▸ rfl
def drawn1 (c kk : Int) : Int := (c * 6364136223846793005 + (kk + 1) * 1442695040888963407) % 340282366920938463463374607431768211507
def drawn2 (m : Int) : Int := m * m % 340282366920938463463374607431768211297
def drawn3 (m : Int) : Int := (m % 18446744073709551557 + 1) * (m / 18446744073709551557 + 1) * m % 340282366920938463463374607431768211507
def drawnZ (c kk : Int) : Int := drawn3 (drawn2 (drawn1 c kk))
theorem drawn_ge (c kk : Int) : 0 ≤ drawnZ c kk := Int.emod_nonneg _ (by decide)
theorem drawn_lt (c kk : Int) : drawnZ c kk < 340282366920938463463374607431768211507 := Int.emod_lt_of_pos _ (by decide)
def sb__law_drawn (K : PySem.W.Frag) : Sb := fun vs b k _ => ∃ c kk, vs = [.int c, .int kk] ∧ k (.int (drawnZ c kk)) b
theorem len__law_drawn : ∀ vs b k ke, sb__law_drawn K vs b k ke → vs.length = (["cell", "k"] : List Str).length := fun _ _ _ _ ⟨_, _, e, _⟩ => e ▸ rfl
end
def t__law_cell (K : PySem.W.Frag) (E : XK) : TS := (tSeq (tIfS (tTest (tOp (rEqU K) (tVar 0) (tLst tNil))) (tRet (tOp rMulU (tVar 1) (tC (.int 7919)))) tNext) (tRet (tOp (rAddU K) (tOp (rIx K) (tVar 0) (tOp rModI (tVar 1) (tCB (rLenU K) (tCons (tVar 0) tNil)))) (tOp rMulU (tOp rFdivU (tVar 1) (tCB (rLenU K) (tCons (tVar 0) tNil))) (tC (.int 104729))))))
def t__law_drawn (K : PySem.W.Frag) (E : XK) : TS := (tSeq (tAsg (tOp rModI (tOp (rAddU K) (tOp rMulU (tVar 0) (tC (.int 6364136223846793005))) (tOp rMulU (tOp (rAddU K) (tVar 1) (tC (.int 1))) (tC (.int 1442695040888963407)))) (tC (.int 340282366920938463463374607431768211507))) (gName 2)) (tSeq (tAsg (tOp rModI (tOp rMulU (tVar 2) (tVar 2)) (tC (.int 340282366920938463463374607431768211297))) (gName 2)) (tSeq (tAsg (tOp rMulU (tOp rMulU (tOp (rAddU K) (tOp rModI (tVar 2) (tC (.int 18446744073709551557))) (tC (.int 1))) (tOp (rAddU K) (tOp rFdivU (tVar 2) (tC (.int 18446744073709551557))) (tC (.int 1)))) (tVar 2)) (gName 2)) (tRet (tOp rModI (tVar 2) (tC (.int 340282366920938463463374607431768211507)))))))
section
variable {K : PySem.W.Frag} {σ : L2.St} {b : Hp} {vs : List V} {k : VK} {ke : XB} {E : XK}
theorem at_ints (ns : List Int) {i : Int} (h0 : 0 ≤ i) (h1 : i < ns.length) : atI (ns.map V.int) i = some (.int (ns.getD i.toNat 0)) := by
  have q := at_getD (ns.map V.int) (V.int 0) h0 (by rw [List.length_map]; exact h1)
  rw [q, List.getD_eq_getElem?_getD, List.getD_eq_getElem?_getD, List.getElem?_map]
  cases ns[i.toNat]? <;> rfl
theorem p__law_cell (h : sb__law_cell K vs b k ke) (hE : ∀ c b' H', ke c b' → Ex b' H' → E c none H') : Cs (t__law_cell K E) { nx := fun _ b' => k .non b', rt := k } (start ["script", "k"] vs) b := by
  obtain ⟨a, ns, kk, rfl, hS, hl, h0, hk⟩ := h
  unfold cellZ at hk
  have hS' := hS
  refine q_when (c := decide (ns = [])) (t_is (t_test (v_opN (v_var rfl) (n_lst a_nil (by decide)) (fun p b1 e hp => r_eqD (dp_ints (ex_l e hS)) (dp_ints (l := []) (sq_of hp)) (sh_ints _) (sh_ints _)))) (eqv_ints ns [])) (fun c1 => ?_) (fun c1 => ?_)
  · rw [if_pos (of_decide_eq_true c1)] at hk
    exact s_retV (v_op (v_var rfl) v_c (r_mul (.inr ⟨by decide, by decide⟩))) hk
  · have hne := of_decide_eq_false c1
    rw [if_neg hne] at hk
    have hpos : 0 < ns.length := List.length_pos_iff.mpr hne
    have e1 : (((ns.map V.int).length : Nat) : Int) = (ns.length : Int) := by rw [List.length_map]
    refine s_retV (v_op (v_op (v_var rfl) (v_op (v_var rfl) (v_is (v_cb (a_cons (v_var rfl) a_nil) (p_lenL hS)) (by rw [e1])) (r_mod (by omega))) (r_iL hS (at_ints ns (Int.emod_nonneg _ (by omega)) (Int.emod_lt_of_pos _ (by omega)))))
      (v_op (v_op (v_var rfl) (v_is (v_cb (a_cons (v_var rfl) a_nil) (p_lenL hS)) (by rw [e1])) (r_fdiv ⟨by omega, by omega⟩)) v_c (r_mul (.inr ⟨by decide, by decide⟩))) r_add) hk
theorem big_lt {m : Int} (h0 : 0 ≤ m) (h1 : m < 340282366920938463463374607431768211507) : m.natAbs < 2 ^ 129 := by
  have e : (2 : Nat) ^ 129 = 680564733841876926926749214863536422912 := by decide
  omega
theorem p__law_drawn (h : sb__law_drawn K vs b k ke) (hE : ∀ c b' H', ke c b' → Ex b' H' → E c none H') : Cs (t__law_drawn K E) { nx := fun _ b' => k .non b', rt := k } (start ["cell", "k", "more"] vs) b := by
  obtain ⟨c, kk, rfl, hk⟩ := h
  refine q_asgV (v := .int (drawn1 c kk)) (v_op (v_op (v_op (v_var rfl) v_c (r_mul (.inr ⟨by decide, by decide⟩))) (v_op (v_op (v_var rfl) v_c r_add) v_c (r_mul (.inr ⟨by decide, by decide⟩))) r_add) v_c (r_mod (by decide))) ?_
  have a0 : 0 ≤ drawn1 c kk := Int.emod_nonneg _ (by decide)
  have a1 : drawn1 c kk < 340282366920938463463374607431768211507 := Int.emod_lt_of_pos _ (by decide)
  unfold drawnZ at hk
  generalize drawn1 c kk = m1 at a0 a1 hk ⊢
  refine q_asgV (v := .int (drawn2 m1)) (v_op (v_op (v_var rfl) (v_var rfl) (r_mulW (wide_mul (big_lt a0 a1) (big_lt a0 a1) (by decide) (by decide) (by decide)))) v_c (r_mod (by decide))) ?_
  have b0 : 0 ≤ drawn2 m1 := Int.emod_nonneg _ (by decide)
  have b1 : drawn2 m1 < 340282366920938463463374607431768211297 := Int.emod_lt_of_pos _ (by decide)
  generalize drawn2 m1 = m2 at b0 b1 hk ⊢
  have c0 : 0 ≤ m2 % 18446744073709551557 := Int.emod_nonneg _ (by decide)
  have c1 : m2 % 18446744073709551557 < 18446744073709551557 := Int.emod_lt_of_pos _ (by decide)
  have d0 : 0 ≤ m2 / 18446744073709551557 := Int.ediv_nonneg b0 (by decide)
  have d1 : m2 / 18446744073709551557 ≤ m2 := Int.ediv_le_self _ b0
  have x1 : (m2 % 18446744073709551557 + 1).natAbs < 2 ^ 129 := big_lt (by omega) (by omega)
  have x2 : (m2 / 18446744073709551557 + 1).natAbs < 2 ^ 129 := big_lt (by omega) (by omega)
  have x3 : m2.natAbs < 2 ^ 129 := big_lt b0 (by omega)
  refine q_asgV (v_op (v_op (v_op (v_op (v_var rfl) v_c (r_mod (by decide))) v_c r_add) (v_op (v_op (v_var rfl) v_c (r_fdivW (wide_div (b := 129) (by decide) (by decide) (by decide) (by decide)))) v_c r_add) (r_mulW (wide_mul x1 x2 (by decide) (by decide) (by decide)))) (v_var rfl)
    (r_mulW (wide_mul (wide_lt x1 x2) x3 (by decide) (by decide) (by decide)))) ?_
  exact s_retV (v_op (v_var rfl) v_c (r_mod (by decide))) hk
theorem s__law_drawn {c kk : Int} : Ps (sb__law_drawn K) [.int c, .int kk] b (.int (drawnZ c kk)) := fun k hk => ⟨c, kk, rfl, hk⟩
end

/-! ### _law_map, _law_solid, _law_free -/
abbrev SG : List Nat := [35, 46, 60, 62, 61]
def GoodRow (n : Nat) (r : Str) : Prop := r.cps.size = n ∧ ∀ c ∈ r.cps.toList, c ∈ SG
theorem getD_mem {α : Type} {l : List α} {i : Nat} {d : α} (h : i < l.length) : l.getD i d ∈ l := by
  rw [List.getD_eq_getElem?_getD, List.getElem?_eq_getElem h]
  exact List.getElem_mem h
theorem GoodRow.nil : GoodRow 0 "" := by
  constructor
  · decide +kernel
  · have e : (("" : Str).cps.toList) = [] := by decide +kernel
    rw [e]
    intro c hc
    cases hc
theorem GoodRow.snoc {n : Nat} {r : Str} {c : Nat} (h : GoodRow n r) (hc : c ∈ SG) : GoodRow (n + 1) (r ++ (⟨#[c]⟩ : Str)) := by
  have e : (r ++ (⟨#[c]⟩ : Str)).cps = r.cps ++ #[c] := rfl
  constructor
  · rw [e, Array.size_append, h.1]
    rfl
  · intro d hd
    rw [e, Array.toList_append, List.mem_append] at hd
    rcases hd with hd | hd
    · exact h.2 d hd
    · have : d = c := by simpa using hd
      rw [this]
      exact hc
def tiles : List Str := [".......#", "...#<>=.", "....==><", "...####."]
theorem tiles_good : ∀ r ∈ tiles, r.cps.size = 8 ∧ ∀ c ∈ r.cps.toList, c ∈ SG := by decide +kernel
theorem hash_good : ∀ n : Nat, n < 31 → 1 ≤ n → (Txt.mul "#" (n : Int)).cps.size = n ∧ ∀ c ∈ (Txt.mul "#" (n : Int)).cps.toList, c ∈ SG := by decide +kernel
theorem hash_ok {n : Int} (h0 : 1 ≤ n) (h1 : n ≤ 30) : MulOk "#" n := by
  have e : (("#" : Str).length) = 1 := by decide +kernel
  refine ⟨?_, fun _ _ => ?_, fun _ _ => ?_⟩
  · have a1 : ¬ n < -(2 ^ 63 : Int) := by omega
    have a2 : ¬ n ≥ (2 ^ 63 : Int) := by omega
    rw [decide_eq_false a1, decide_eq_false a2]
    rfl
  · rw [e]
    have : (1 : Int) ≤ (2 ^ 63 - 1) / n := by
      have h2 : (30 : Int) * ((2 ^ 63 - 1) / 30) ≤ 2 ^ 63 - 1 := by decide
      exact (Int.le_ediv_iff_mul_le (by omega)).mpr (by omega)
    omega
  · rw [e]
    unfold Builtin.Str.tooLong
    have e2 : sizeLine = 16777216 := by decide
    rw [e2]
    simp
    omega
section
def sb__law_map (K : PySem.W.Frag) : Sb := fun vs b k _ => ∃ more : Int, vs = [.int more] ∧ 0 ≤ more ∧ ∀ rows w, GoodMap rows w → ∀ p, b p = none → k (.ref p) (upd b p (.lst (rowsV rows)))
theorem len__law_map {K : PySem.W.Frag} : ∀ vs b k ke, sb__law_map K vs b k ke → vs.length = (["more"] : List Str).length := fun _ _ _ _ ⟨_, e, _⟩ => e ▸ rfl
def sb__law_solid (K : PySem.W.Frag) : Sb := sb_solid K
theorem len__law_solid {K : PySem.W.Frag} : ∀ vs b k ke, sb__law_solid K vs b k ke → vs.length = (["rows", "left", "top"] : List Str).length := len_solid
/-- a body is free there -/
def freeM (rows : List Str) (w : Nat) (l t : Int) : Bool := (List.range 10).all fun d => (List.range 6).all fun r => !solidM rows w (l + (r : Nat)) (t + (d : Nat))
def sb__law_free (K : PySem.W.Frag) : Sb := fun vs b k _ => ∃ a rows w l t, vs = [.ref a, .int l, .int t] ∧ SqL K b a (rowsV rows) ∧ GoodMap rows w ∧ k (.bl (freeM rows w l t)) b
theorem len__law_free {K : PySem.W.Frag} : ∀ vs b k ke, sb__law_free K vs b k ke → vs.length = (["rows", "left", "top"] : List Str).length := fun _ _ _ _ ⟨_, _, _, _, _, e, _⟩ => e ▸ rfl
end
def t__law_map (K : PySem.W.Frag) (E : XK) : TS := (tSeq (tPar 1 2 (tCons (tOp (rAddU K) (tC (.int 1)) (tOp rModI (tVar 0) (tC (.int 8)))) (tCons (tOp (rAddU K) (tC (.int 2)) (tOp rModI (tOp rFdivU (tVar 0) (tC (.int 8))) (tC (.int 5)))) tNil))) (tSeq (tIfS (tTest (tOp (rEqU K) (tOp rModI (tOp rFdivU (tVar 0) (tC (.int 64))) (tC (.int 16))) (tC (.int 0)))) (tPar 1 2 (tCons (tOp rSubU (tC (.int 30)) (tOp rModI (tOp rFdivU (tVar 0) (tC (.int 1024))) (tC (.int 3)))) (tCons (tOp (rAddU K) (tC (.int 1)) (tOp rModI (tOp rFdivU (tVar 0) (tC (.int 4096))) (tC (.int 20)))) tNil))) tNext) (tSeq (tAsg (tLst tNil) (gName 3)) (tSeq (tFor (iRng1 (tCons (tVar 2) tNil)) (gName 4) (tSeq (tAsg (tC (.str "")) (gName 5)) (tSeq (tFor (iRng1 (tCons (tVar 1) tNil)) (gName 6) (tSeq (tAsg (tCall (up (sb__law_drawn K)) [] E (tCons (tVar 0) (tCons (tOp (rAddU K) (tOp rMulU (tC (.int 100)) (tVar 4)) (tVar 6)) tNil))) (gName 7)) (tAsg (tOp (rAddU K) (tVar 5) (tOp (rIx K) (tOp (rIx K) (tLst (tCons (tC (.str ".......#")) (tCons (tC (.str "...#<>=.")) (tCons (tC (.str "....==><")) (tCons (tC (.str "...####.")) tNil))))) (tOp rModI (tOp rFdivU (tVar 7) (tC (.int 8))) (tC (.int 4)))) (tOp rModI (tVar 7) (tC (.int 8))))) (gName 5)))) (tDrop (tBM K "list" rAppend (tVar 3) (tCons (tVar 5) tNil)))))) (tSeq (tIfS (tTest (tOp rGtI (tOp rModI (tOp rFdivU (tVar 0) (tOp rPowI (tC (.int 2)) (tC (.int 20)))) (tC (.int 4))) (tC (.int 0)))) (tAsg (tOp rMulU (tC (.str "#")) (tVar 1)) (gSub (tVar 3) (tUn rNegI (tC (.int 1))) rSetL)) tNext) (tRet (tVar 3)))))))
def t__law_solid (K : PySem.W.Frag) (E : XK) : TS := (tSeq (tIfS (tOr (tTest (tOp rLtI (tVar 1) (tC (.int 0)))) (tTest (tOp rGeI (tVar 1) (tOp rMulU (tC (.int 8)) (tCB (rLenU K) (tCons (tOp (rIx K) (tVar 0) (tC (.int 0))) tNil)))))) (tRet (tC (.bl true))) tNext) (tSeq (tIfS (tOr (tTest (tOp rLtI (tVar 2) (tC (.int 0)))) (tTest (tOp rGeI (tVar 2) (tOp rMulU (tC (.int 8)) (tCB (rLenU K) (tCons (tVar 0) tNil)))))) (tRet (tC (.bl false))) tNext) (tSeq (tPar3 3 4 5 (tCons (tOp (rIx K) (tOp (rIx K) (tVar 0) (tOp rFdivU (tVar 2) (tC (.int 8)))) (tOp rFdivU (tVar 1) (tC (.int 8)))) (tCons (tOp rModI (tVar 1) (tC (.int 8))) (tCons (tOp rModI (tVar 2) (tC (.int 8))) tNil)))) (tRet (tDGet (tDisp [((tC (.str "#")), (tC (.bl true))), ((tC (.str ".")), (tC (.bl false))), ((tC (.str "=")), (tC (.bl false))), ((tC (.str ">")), (tOp rGeI (tOp (rAddU K) (tVar 4) (tVar 5)) (tC (.int 7)))), ((tC (.str "<")), (tOp rGeI (tVar 5) (tVar 4)))]) (tVar 3))))))
def t__law_free (K : PySem.W.Frag) (E : XK) : TS := (tSeq (tFor (iRng1 (tCons (tC (.int 10)) tNil)) (gName 3) (tFor (iRng1 (tCons (tC (.int 6)) tNil)) (gName 4) (tIfS (tB (tCall (up (sb__law_solid K)) [] E (tCons (tVar 0) (tCons (tOp (rAddU K) (tVar 1) (tVar 4)) (tCons (tOp (rAddU K) (tVar 2) (tVar 3)) tNil))))) (tRet (tC (.bl false))) tNext))) (tRet (tC (.bl true))))
section
variable {K : PySem.W.Frag} {σ : L2.St} {b : Hp} {vs : List V} {k : VK} {ke : XB} {E : XK}
theorem s__law_solid {a : Addr} {rows : List Str} {w : Nat} {l t : Int} (hm : SqL K b a (rowsV rows)) (g : GoodMap rows w) : Ps (sb__law_solid K) [.ref a, .int l, .int t] b (.bl (solidM rows w l t)) := s_solid hm g
theorem s__law_free {a : Addr} {rows : List Str} {w : Nat} {l t : Int} (hm : SqL K b a (rowsV rows)) (g : GoodMap rows w) : Ps (sb__law_free K) [.ref a, .int l, .int t] b (.bl (freeM rows w l t)) := fun k hk => ⟨a, rows, w, l, t, rfl, hm, g, hk⟩
theorem set_rows (rs : List Str) (j : Nat) (s : Str) : (rowsV rs).set j (.str s) = rowsV (rs.set j s) := by
  unfold rowsV
  rw [List.map_set]
theorem pow20 : (2 : Int) ^ (20 : Int).toNat = 1048576 := by decide
/-- one sign more -/
theorem v_tile {i j : Int} (h0 : 0 ≤ i) : ∃ c ∈ SG, ∀ {s1 s2 : L2.St} {H0 : Hp} {ti tj : TE}, (∀ b1, Pe ti s1 b1 (.int (i / 8 % 4))) → Pe tj s1 H0 (.int (i % 8)) → Pe (tOp (rIx K) (tOp (rIx K) (tLst (tCons (tC (.str ".......#")) (tCons (tC (.str "...#<>=.")) (tCons (tC (.str "....==><")) (tCons (tC (.str "...####.")) tNil))))) ti) tj) s1 H0 (.str ⟨#[c]⟩) := by
  have a0 : 0 ≤ i / 8 % 4 := Int.emod_nonneg _ (by decide)
  have a1 : i / 8 % 4 < 4 := Int.emod_lt_of_pos _ (by decide)
  have c0 : 0 ≤ i % 8 := Int.emod_nonneg _ (by decide)
  have c1 : i % 8 < 8 := Int.emod_lt_of_pos _ (by decide)
  have hl : (i / 8 % 4).toNat < tiles.length := by show (i / 8 % 4).toNat < 4; omega
  have hmem : tiles.getD (i / 8 % 4).toNat Str.empty ∈ tiles := getD_mem hl
  obtain ⟨g1, g2⟩ := tiles_good _ hmem
  refine ⟨(tiles.getD (i / 8 % 4).toNat Str.empty).cps.toList.getD (i % 8).toNat 0, g2 _ ?_, fun {s1 s2 H0 ti tj} hi hj => ?_⟩
  · have hl2 : (i % 8).toNat < (tiles.getD (i / 8 % 4).toNat Str.empty).cps.toList.length := by
      rw [Array.length_toList, g1]
      omega
    exact getD_mem hl2
  · refine v_op (v_opN1 (n_lst (a_cons v_c (a_cons v_c (a_cons v_c (a_cons v_c a_nil)))) (by show 4 ≤ 100000; decide)) (fun b1 _ => hi b1) (fun p b1 _ hp => r_iL (sq_of hp) (at_rows tiles a0 (by show _ < ((4 : Nat) : Int); omega)))) hj (r_iS ?_ (at_getD _ 0 c0 ?_))
    · show (tiles.getD (i / 8 % 4).toNat Str.empty).cps.size ≤ 100000
      omega
    · rw [Array.length_toList, g1]
      exact c1
theorem p__law_map (h : sb__law_map K vs b k ke) (hE : ∀ c b' H', ke c b' → Ex b' H' → E c none H') : Cs (t__law_map K E) { nx := fun _ b' => k .non b', rt := k } (start ["more", "wide", "high", "rows", "row", "found", "column", "here"] vs) b := by
  obtain ⟨more, rfl, h0, hk⟩ := h
  refine q_par (by walk_at "v") ?_
  refine s_cut (fun σ' b' => ∃ wd hg : Int, σ' = [some (.int more), some (.int wd), some (.int hg), none, none, none, none, none] ∧ (1 ≤ wd ∧ wd ≤ 30) ∧ (1 ≤ hg ∧ hg ≤ 20) ∧ b = b') ?_ ?_
  · refine s_when (by walk_at "v") (fun c1 => s_par (by walk_at "v") ⟨_, _, rfl, ?_, ?_, rfl⟩) (fun c1 => ⟨_, _, rfl, ?_, ?_, rfl⟩) <;> omega
  rintro σ' b' ⟨wd, hg, rfl, hw, hh, rfl⟩
  refine q_asgN (n_lst a_nil (by decide)) (fun p hp => ?_)
  refine s_seq (s_range1 (by walk_at "v") (by omega) (fun i σ' b' => ∃ (rs : List Str) (v4 v5 v6 v7 : Option V), σ' = [some (.int more), some (.int wd), some (.int hg), some (.ref p), v4, v5, v6, v7] ∧ b' = upd b p (.lst (rowsV rs)) ∧ rs.length = i ∧ ∀ r ∈ rs, GoodRow wd.toNat r)
    ⟨[], none, none, none, none, rfl, rfl, rfl, fun r hr => by cases hr⟩ ?_ ?_)
  · rintro i σ' b' hi ⟨rs, v4, v5, v6, v7, rfl, rfl, hlen, hgood⟩
    refine g_name ?_
    refine q_asgV v_c ?_
    refine s_seq (s_range1 (by walk_at "v") (by omega) (fun j σ' b' => ∃ (f : Str) (v6 v7 : Option V), σ' = [some (.int more), some (.int wd), some (.int hg), some (.ref p), some (.int i), some (.str f), v6, v7] ∧ b' = upd b p (.lst (rowsV rs)) ∧ GoodRow j f)
      ⟨"", v6, v7, rfl, rfl, GoodRow.nil⟩ ?_ ?_)
    · rintro j σ' b' hj ⟨f, v6, v7, rfl, rfl, hf⟩
      refine g_name ?_
      refine q_asgV (v_call (by walk_at "v") s__law_drawn) ?_
      generalize hz : drawnZ more (100 * (i : Int) + (j : Int)) = z
      have z0 : 0 ≤ z := by rw [← hz]; exact drawn_ge _ _
      obtain ⟨c, hc, hv⟩ := v_tile (K := K) (i := z) (j := 0) z0
      refine s_asgV (v_op (v_var rfl) (hv (s2 := []) (fun b1 => by walk_at "v") (by walk_at "v")) (r_addS ?_)) ⟨f ++ (⟨#[c]⟩ : Str), _, _, rfl, rfl, hf.snoc hc⟩
      show f.cps.size + 1 ≤ 100000
      have := hf.1
      omega
    · rintro σ' b' ⟨f, v6, v7, rfl, rfl, hf⟩
      refine s_drop (c_append (v_var rfl) (v_var rfl) upd_same (by rw [List.length_map]; omega) ⟨rs ++ [f], _, _, _, _, rfl, ?_, ?_, ?_⟩)
      · rw [upd_upd]
        unfold rowsV
        rw [List.map_append]
        rfl
      · rw [List.length_append, hlen]
        rfl
      · intro r hr
        rcases List.mem_append.mp hr with hr | hr
        · exact hgood r hr
        · have : r = f := by simpa using hr
          rw [this]
          exact hf
  rintro σ' b' ⟨rs, v4, v5, v6, v7, rfl, rfl, hlen, hgood⟩
  have fin : ∀ rs2 : List Str, rs2.length = hg.toNat → (∀ r ∈ rs2, GoodRow wd.toNat r) → k (.ref p) (upd b p (.lst (rowsV rs2))) := fun rs2 l2 g2 =>
    hk rs2 wd.toNat ⟨by omega, by omega, by omega, by omega, fun r hr => (g2 r hr).1, fun r hr => (g2 r hr).2⟩ p hp
  refine q_when (c := decide (0 < more / 1048576 % 4)) (t_test (v_op (v_op (v_op (v_var rfl) (v_is (v_op v_c v_c (r_pow ⟨by decide, by decide, by decide⟩)) (by rw [pow20])) (r_fdiv ⟨by decide, by decide⟩)) v_c (r_mod (by decide))) v_c r_gt)) (fun c1 => ?_) (fun c1 => ?_)
  · have l1 : 1 ≤ rs.length := by omega
    obtain ⟨m1, m2⟩ := hash_good wd.toNat (by omega) (by omega)
    have ew : ((wd.toNat : Nat) : Int) = wd := by omega
    rw [ew] at m1 m2
    refine s_asg (Pe.c (v_op v_c (v_var rfl) (r_mulS (hash_ok hw.1 hw.2))) (g_subL (j := rs.length - 1) (v_var rfl) (v_un v_c u_neg) upd_same ?_ ?_))
    · unfold ixN
      rw [if_neg (by decide), if_pos (by rw [List.length_map]; omega), List.length_map]
      congr 1
      omega
    · refine s_retV (v_var rfl) ?_
      rw [upd_upd, set_rows]
      refine fin _ (by rw [List.length_set]; omega) (fun r hr => ?_)
      rcases List.mem_or_eq_of_mem_set hr with hr | hr
      · exact hgood r hr
      · rw [hr]
        exact ⟨m1, m2⟩
  · exact s_retV (v_var rfl) (fin rs (by omega) hgood)
theorem GoodMap.cell {rows : List Str} {w : Nat} (g : GoodMap rows w) {i j : Nat} (hi : i < rows.length) (hj : j < w) : cellM rows i j ∈ SG := by
  have hr := g.row hi
  have hm : rows.getD i Str.empty ∈ rows := getD_mem hi
  refine g.sg _ hm _ ?_
  unfold cellM
  have hl2 : j < (rows.getD i Str.empty).cps.toList.length := by
    rw [Array.length_toList, hr]
    exact hj
  exact getD_mem hl2
def solidKv (x y : Bool) : List (Key × V) := [(.inr "#", .bl true), (.inr ".", .bl false), (.inr "=", .bl false), (.inr ">", .bl x), (.inr "<", .bl y)]
theorem kv35 (x y : Bool) : valV (mergeK [] (solidKv x y)) (.inr ⟨#[35]⟩) = some (.bl true) := by kernel_rfl
theorem kv46 (x y : Bool) : valV (mergeK [] (solidKv x y)) (.inr ⟨#[46]⟩) = some (.bl false) := by kernel_rfl
theorem kv61 (x y : Bool) : valV (mergeK [] (solidKv x y)) (.inr ⟨#[61]⟩) = some (.bl false) := by kernel_rfl
theorem kv62 (x y : Bool) : valV (mergeK [] (solidKv x y)) (.inr ⟨#[62]⟩) = some (.bl x) := by kernel_rfl
theorem kv60 (x y : Bool) : valV (mergeK [] (solidKv x y)) (.inr ⟨#[60]⟩) = some (.bl y) := by kernel_rfl
theorem p__law_solid (h : sb__law_solid K vs b k ke) (hE : ∀ c b' H', ke c b' → Ex b' H' → E c none H') : Cs (t__law_solid K E) { nx := fun _ b' => k .non b', rt := k } (start ["rows", "left", "top", "sign", "right", "down"] vs) b := by
  obtain ⟨a, rows, w, l, t, rfl, hm, g, hk⟩ := h
  unfold solidM at hk
  have h1 := g.h1
  have w2 := g.w2
  have e0 : (rows.getD (0 : Int).toNat Str.empty).length = w := g.rowLen (i := 0) (by omega)
  have hw : ∀ {s : L2.St}, s[0]? = some (some (.ref a)) → Pe (tOp rMulU (tC (.int 8)) (tCB (rLenU K) (tCons (tOp (rIx K) (tVar 0) (tC (.int 0))) tNil))) s b (.int (8 * (w : Int))) := fun hs =>
    v_is (v_op v_c (v_cb (a_cons (v_op (v_var hs) v_c (r_row hm (by decide) (by omega))) a_nil) (p_lenS (by omega))) (r_mul (.inl ⟨by decide, by decide⟩))) (by rw [e0])
  have hh : ∀ {s : L2.St}, s[0]? = some (some (.ref a)) → Pe (tOp rMulU (tC (.int 8)) (tCB (rLenU K) (tCons (tVar 0) tNil))) s b (.int (8 * (rows.length : Int))) := fun hs =>
    v_is (v_op v_c (v_cb (a_cons (v_var hs) a_nil) (p_lenL hm)) (r_mul (.inl ⟨by decide, by decide⟩))) (by rw [List.length_map])
  refine q_when (t_or (t_test (v_op (v_var rfl) v_c r_lt)) (fun _ => t_test (v_op (v_var rfl) (hw rfl) r_ge))) (fun c1 => s_retV v_c ?_) (fun c1 => ?_)
  · rw [if_pos (by simp at c1; omega)] at hk
    exact hk
  have hl : 0 ≤ l ∧ l < 8 * (w : Int) := by simp at c1; omega
  rw [if_neg (by omega)] at hk
  refine q_when (t_or (t_test (v_op (v_var rfl) v_c r_lt)) (fun _ => t_test (v_op (v_var rfl) (hh rfl) r_ge))) (fun c1 => s_retV v_c ?_) (fun c1 => ?_)
  · rw [if_pos (by simp at c1; omega)] at hk
    exact hk
  have ht : 0 ≤ t ∧ t < 8 * (rows.length : Int) := by simp at c1; omega
  rw [if_neg (by omega)] at hk
  have hcell := g.cell (i := (t / 8).toNat) (j := (l / 8).toNat) (by omega) (by omega)
  refine q_par3 (a_cons (v_op (v_op (v_var rfl) (v_op (v_var rfl) v_c (r_fdiv ⟨by decide, by decide⟩)) (r_row hm (by omega) (by omega))) (v_op (v_var rfl) v_c (r_fdiv ⟨by decide, by decide⟩)) (r_chr g (by omega) (by omega) (by omega))) (by walk_at "v")) ?_
  generalize cellM rows (t / 8).toNat (l / 8).toNat = c at hk hcell ⊢
  have disp : ∀ (v : V), valV (mergeK [] (solidKv (decide (7 ≤ l % 8 + t % 8)) (decide (l % 8 ≤ t % 8)))) (.inr ⟨#[c]⟩) = some v → k v b → Cs (tRet (tDGet (tDisp [((tC (.str "#")), (tC (.bl true))), ((tC (.str ".")), (tC (.bl false))), ((tC (.str "=")), (tC (.bl false))), ((tC (.str ">")), (tOp rGeI (tOp (rAddU K) (tVar 4) (tVar 5)) (tC (.int 7)))), ((tC (.str "<")), (tOp rGeI (tVar 5) (tVar 4)))]) (tVar 3)))
      { nx := fun _ b' => k .non b', rt := k } [some (.ref a), some (.int l), some (.int t), some (.str ⟨#[c]⟩), some (.int (l % 8)), some (.int (t % 8))] b := fun v hv hq =>
    s_retV (v_dgetN (key := .inr ⟨#[c]⟩) (n_disp (kvs := solidKv (decide (7 ≤ l % 8 + t % 8)) (decide (l % 8 ≤ t % 8))) (fun b1 _ => pp_cons v_c v_c (pp_cons v_c v_c (pp_cons v_c v_c (pp_cons v_c (by walk_at "v") (pp_cons v_c (by walk_at "v") pp_nil))))) rfl (by show 5 ≤ 15; decide)) (fun b1 _ => v_var rfl) hv) hq
  have m0 : 0 ≤ l % 8 := Int.emod_nonneg _ (by decide)
  have m1 : l % 8 < 8 := Int.emod_lt_of_pos _ (by decide)
  have n0 : 0 ≤ t % 8 := Int.emod_nonneg _ (by decide)
  have n1 : t % 8 < 8 := Int.emod_lt_of_pos _ (by decide)
  have hc5 : c = 35 ∨ c = 46 ∨ c = 60 ∨ c = 62 ∨ c = 61 := by simpa using hcell
  rcases hc5 with rfl | rfl | rfl | rfl | rfl
  · exact disp _ (kv35 _ _) hk
  · exact disp _ (kv46 _ _) hk
  · refine disp _ (kv60 _ _) ?_
    have e : decide (l % 8 ≤ t % 8) = decide (7 - t % 8 ≤ 7 - l % 8) := by
      congr 1
      apply propext
      omega
    rw [e]
    exact hk
  · refine disp _ (kv62 _ _) ?_
    have e : decide (7 ≤ l % 8 + t % 8) = decide (7 - t % 8 ≤ l % 8) := by
      congr 1
      apply propext
      omega
    rw [e]
    exact hk
  · exact disp _ (kv61 _ _) hk
/-- the double loop over a body's units, for _law_free and World.is_free: by the test of one unit -/
theorem free_false {rows : List Str} {w : Nat} {l t : Int} {d r : Nat} (hd : d < 10) (hr : r < 6) (h : solidM rows w (l + r) (t + d) = true) : freeM rows w l t = false := by
  cases e : freeM rows w l t with
  | false => rfl
  | true =>
    unfold freeM at e
    have e1 := List.all_eq_true.mp e d (List.mem_range.mpr hd)
    have e2 := List.all_eq_true.mp e1 r (List.mem_range.mpr hr)
    rw [h] at e2
    cases e2
theorem free_true {rows : List Str} {w : Nat} {l t : Int} (h : ∀ d r : Nat, d < 10 → r < 6 → solidM rows w (l + r) (t + d) = false) : freeM rows w l t = true := by
  unfold freeM
  refine List.all_eq_true.mpr fun d hd => List.all_eq_true.mpr fun r hr => ?_
  rw [h d r (List.mem_range.mp hd) (List.mem_range.mp hr)]
  rfl
theorem free_iff {rows : List Str} {w : Nat} {l t : Int} : freeM rows w l t = true ↔ ∀ d r : Nat, d < 10 → r < 6 → solidM rows w (l + r) (t + d) = false := by
  constructor
  · intro e d r hd hr
    cases q : solidM rows w (l + r) (t + d) with
    | false => rfl
    | true =>
      rw [free_false hd hr q] at e
      cases e
  · exact free_true
theorem p__law_free (h : sb__law_free K vs b k ke) (hE : ∀ c b' H', ke c b' → Ex b' H' → E c none H') : Cs (t__law_free K E) { nx := fun _ b' => k .non b', rt := k } (start ["rows", "left", "top", "down", "right"] vs) b := by
  obtain ⟨a, rows, w, l, t, rfl, hm, g, hk⟩ := h
  refine s_seq (s_range1 (by walk_at "v") (by decide) (fun i σ' b' => ∃ v3 v4 : Option V, σ' = [some (.ref a), some (.int l), some (.int t), v3, v4] ∧ b = b' ∧ ∀ d r : Nat, d < i → r < 6 → solidM rows w (l + r) (t + d) = false)
    ⟨none, none, rfl, rfl, fun d r hd => by omega⟩ ?_ ?_)
  · rintro i σ' b' hi ⟨v3, v4, rfl, rfl, hn⟩
    refine g_name ?_
    refine s_range1 (by walk_at "v") (by decide) (fun j σ' b' => ∃ v4 : Option V, σ' = [some (.ref a), some (.int l), some (.int t), some (.int i), v4] ∧ b = b' ∧ ∀ r : Nat, r < j → solidM rows w (l + r) (t + i) = false)
      ⟨v4, rfl, rfl, fun r hr => by omega⟩ ?_ ?_
    · rintro j σ' b' hj ⟨v4, rfl, rfl, hn2⟩
      refine g_name ?_
      refine s_when (t_B (v_call (by walk_at "v") (s__law_solid hm g))) (fun c1 => s_retV v_c ?_) (fun c1 => ⟨_, rfl, rfl, fun r hr => ?_⟩)
      · rw [free_false (d := i) (r := j) (by omega) (by omega) c1] at hk
        exact hk
      · by_cases e : r = j
        · rw [e]
          exact c1
        · exact hn2 r (by omega)
    · rintro σ' b' ⟨v4, rfl, rfl, hn2⟩
      refine ⟨_, _, rfl, rfl, fun d r hd hr => ?_⟩
      by_cases e : d = i
      · rw [e]
        exact hn2 r hr
      · exact hn d r (by omega) hr
  · rintro σ' b' ⟨v3, v4, rfl, rfl, hn⟩
    refine s_retV v_c ?_
    rw [free_true (fun d r hd hr => hn d r hd hr)] at hk
    exact hk
end

/-! ### need_map, is_solid, mirrored -/
section
variable {K : PySem.W.Frag} {σ : L2.St} {b : Hp} {vs : List V} {k : VK} {ke : XB} {E : XK}
theorem sql_ty {H : Hp} {a : Addr} {xs : List V} (h : SqL K H a xs) : TyX K H (.ref a) (.type "list") := by
  rcases h with (h | ⟨o, h⟩) | ⟨o, its, n, h1, h2, _⟩
  · exact .base (.lst h)
  · exact .base (.frz h)
  · exact .kList h1 h2
theorem sqt_ty {H : Hp} {a : Addr} {xs : List V} (h : SqT K H a xs) : TyX K H (.ref a) (.type "tuple") := by
  rcases h with (h | ⟨o, h⟩) | ⟨o, its, n, h1, h2, _⟩
  · exact .base (.tup h)
  · exact .fTuple h
  · exact .kTuple h1 h2
theorem p_isi {x : V} {n m : String} {r : Bool} (hx : ∀ H, Ex b H → TyX K H x (.type n)) (h : kitB n m = some r) : Pc (rIsi K) [x, .ty m] b (.bl r) := fun H a Q q => ⟨x, .ty m, .type n, .type m, r, rfl, .ty m, hx H a, kit_ty h, q H a⟩
theorem filter_yes {α : Type} (xs : List α) : xs.filter (fun _ => true) = xs := List.filter_eq_self.mpr fun _ _ => rfl
/-- whether texts are a map -/
def mapOk (rows : List Str) : Bool := (decide ((1 : Int) ≤ (rows.length : Int)) && decide ((rows.length : Int) ≤ 20)) && ((decide ((1 : Int) ≤ ((rows.getD 0 Str.empty).length : Int)) && decide (((rows.getD 0 Str.empty).length : Int) ≤ 30)) && (rows.all fun r => decide ((r.length : Int) = ((rows.getD 0 Str.empty).length : Int)))) && rows.all fun r => r.cps.toList.all fun c => decide (c ∈ ([35, 46, 60, 62, 61] : List Nat))
/-- things that are no maps -/
inductive BadMapV (K : PySem.W.Frag) (b : Hp) : V → Prop where
  | other {v : V} (n : String) (h : ∀ H, Ex b H → TyX K H v (.type n)) (hk : kitB n "list" = some false) : BadMapV K b v
  | texts (a : Addr) (rows : List Str) (h : SqL K b a (rowsV rows)) (hz : rows.length < 1000) (hr : ∀ r ∈ rows, r.length < 1000) (no : mapOk rows = false) : BadMapV K b (.ref a)
  | mixed (a : Addr) (xs : List V) (f : V → Bool) (h : SqL K b a xs) (hz : xs.length < 1000) (hf : ∀ x ∈ xs, ∃ n, (∀ H, Ex b H → TyX K H x (.type n)) ∧ kitB n "str" = some (f x)) (no : xs.all f = false) : BadMapV K b (.ref a)
def sb_need_map (K : PySem.W.Frag) : Sb := fun vs b k ke => (∃ a rows w, vs = [.ref a] ∧ SqL K b a (rowsV rows) ∧ GoodMap rows w ∧ k .non b) ∨ ∃ v, vs = [v] ∧ BadMapV K b v ∧ ke (.ref (He.ga K "BadMap")) b
theorem len_need_map : ∀ vs b k ke, sb_need_map K vs b k ke → vs.length = (["rows"] : List Str).length := fun _ _ _ _ h => by
  rcases h with ⟨_, _, _, e, _⟩ | ⟨_, e, _⟩ <;> exact e ▸ rfl
def sb_is_solid (K : PySem.W.Frag) : Sb := fun vs b k ke => sb_solid K vs b k ke ∨ ∃ v l t, vs = [v, l, t] ∧ BadMapV K b v ∧ ke (.ref (He.ga K "BadMap")) b
theorem len_is_solid : ∀ vs b k ke, sb_is_solid K vs b k ke → vs.length = (["rows", "left", "top"] : List Str).length := fun vs b k ke h => by
  rcases h with h | ⟨_, _, _, e, _⟩
  · exact len_solid vs b k ke h
  · exact e ▸ rfl
def flipC (c : Nat) : Nat := if c = 60 then 62 else if c = 62 then 60 else c
def mirRow (r : Str) : Str := ⟨(r.cps.toList.reverse.map flipC).toArray⟩
def mirM (rows : List Str) : List Str := rows.map mirRow
def sb_mirrored (K : PySem.W.Frag) : Sb := fun vs b k ke => (∃ a rows w, vs = [.ref a] ∧ SqL K b a (rowsV rows) ∧ GoodMap rows w ∧ ∀ p, b p = none → k (.ref p) (upd b p (.lst (rowsV (mirM rows))))) ∨ ∃ v, vs = [v] ∧ BadMapV K b v ∧ ke (.ref (He.ga K "BadMap")) b
theorem len_mirrored : ∀ vs b k ke, sb_mirrored K vs b k ke → vs.length = (["rows"] : List Str).length := fun _ _ _ _ h => by
  rcases h with ⟨_, _, _, e, _⟩ | ⟨_, e, _⟩ <;> exact e ▸ rfl
end
def t_need_map (K : PySem.W.Frag) (E : XK) : TS := (tSeq (tAsg (tAndV (tCB (rIsi K) (tCons (tVar 0) (tCons (tC (.ty "list")) tNil))) (tAndV (tChain rLeI rLeI (tC (.int 1)) (tCB (rLenU K) (tCons (tVar 0) tNil)) (tC (.int 20))) (tCB (rAll K) (tCons (tLc (iList K (tVar 0)) (gName 2) tYes (tCB (rIsi K) (tCons (tVar 2) (tCons (tC (.ty "str")) tNil))) [2]) tNil)))) (gName 1)) (tSeq (tIfS (tOr (tNot (tB (tVar 1))) (tOr (tNot (tTest (tChain rLeI rLeI (tC (.int 1)) (tCB (rLenU K) (tCons (tOp (rIx K) (tVar 0) (tC (.int 0))) tNil)) (tC (.int 30))))) (tNot (tB (tCB (rAll K) (tCons (tLc (iList K (tVar 0)) (gName 2) tYes (tOp (rEqU K) (tCB (rLenU K) (tCons (tVar 2) tNil)) (tCB (rLenU K) (tCons (tOp (rIx K) (tVar 0) (tC (.int 0))) tNil))) [2]) tNil)))))) (tRaise (.ref (He.ga K "BadMap")) E) tNext) (tIfS (tNot (tB (tCB (rAll K) (tCons (tLc (iList K (tVar 0)) (gName 2) tYes (tCB (rAll K) (tCons (tLc (iStr (tVar 2)) (gName 3) tYes (tOp (rInU K) (tVar 3) (tC (.str "#.<>="))) [3]) tNil)) [2]) tNil)))) (tRaise (.ref (He.ga K "BadMap")) E) tNext)))
def t_is_solid (K : PySem.W.Frag) (E : XK) : TS := (tSeq (tDrop (tCall (up (sb_need_map K)) [] E (tCons (tVar 0) tNil))) (tRet (tCall (up (sb_solid K)) [] E (tCons (tVar 0) (tCons (tVar 1) (tCons (tVar 2) tNil))))))
def t_mirrored (K : PySem.W.Frag) (E : XK) : TS := (tSeq (tDrop (tCall (up (sb_need_map K)) [] E (tCons (tVar 0) tNil))) (tSeq (tAsg (tDisp [((tC (.str "<")), (tC (.str ">"))), ((tC (.str ">")), (tC (.str "<")))]) (gName 1)) (tRet (tLc (iList K (tVar 0)) (gName 2) tYes (tM1 (rJoin K) (tC (.str "")) (tLc (iStr (tRevS (tVar 2))) (gName 3) tYes (tDGet2 (tVar 1) (tVar 3) (tVar 3)) [3])) [2]))))
section
variable {K : PySem.W.Frag} {σ : L2.St} {b : Hp} {vs : List V} {k : VK} {ke : XB} {E : XK}
theorem s_need_map {a : Addr} {rows : List Str} {w : Nat} (hm : SqL K b a (rowsV rows)) (g : GoodMap rows w) : Ps (sb_need_map K) [.ref a] b .non := fun k hk => .inl ⟨a, rows, w, rfl, hm, g, hk⟩
theorem s_is_solid {a : Addr} {rows : List Str} {w : Nat} {l t : Int} (hm : SqL K b a (rowsV rows)) (g : GoodMap rows w) : Ps (sb_is_solid K) [.ref a, .int l, .int t] b (.bl (solidM rows w l t)) := fun k hk => .inl (s_solid hm g k hk)
theorem s_mirrored {a : Addr} {rows : List Str} {w : Nat} (hm : SqL K b a (rowsV rows)) (g : GoodMap rows w) : Psn (sb_mirrored K) [.ref a] b (.lst (rowsV (mirM rows))) := fun k hk => .inl ⟨a, rows, w, rfl, hm, g, hk⟩
theorem yes_all {α : Type} (xs : List α) : (xs.map fun _ => true).all id = true := by
  rw [List.all_map]
  exact List.all_eq_true.mpr fun _ _ => rfl
/-- all([f(x) for x in rows]) -/
theorem v_allL {a : Addr} {xs : List V} {i j : Nat} {te : TE} (f : V → Bool) (hx : SqL K b a xs) (hz : xs.length < 100000) (hs : σ[i]? = some (some (.ref a))) (hw : ∀ x, wipe ((wipe σ [j]).set j (some x)) [j] = wipe σ [j]) (he : ∀ x b1, x ∈ xs → Ex b b1 → Pe te ((wipe σ [j]).set j (some x)) b1 (.bl (f x))) :
    Pe (tCB (rAll K) (tCons (tLc (iList K (tVar i)) (gName j) tYes te [j]) tNil)) σ b (.bl (xs.all f)) := by
  refine v_is (v_allN (bs := xs.map f) (n_lcL (fun _ => true) (fun x => .bl (f x)) (v_var hs) hx hz hw (fun x b1 _ _ => t_yes) (fun x b1 hx _ e => he x b1 hx e)) ?_) ?_
  · rw [filter_yes, List.map_map]
    rfl
  · rw [List.all_map]
    rfl
theorem t_bad1 {i : Nat} {u : TT} (h : σ[i]? = some (some (.bl false))) : Pt (tOr (tNot (tB (tVar i))) u) σ b true := t_is (t_or (c := !false) (d := true) (t_not (t_B (v_var h))) (fun q => by cases q)) rfl
theorem p_need_bad {v : V} (h : BadMapV K b v) (hk : ke (.ref (He.ga K "BadMap")) b) (hE : ∀ c b' H', ke c b' → Ex b' H' → E c none H') : Cs (t_need_map K E) { nx := fun _ b' => k .non b', rt := k } (start ["rows", "good", "row", "sign"] [v]) b := by
  cases h with
  | other n hT hn =>
    refine q_asgV (v := .bl false) (v_is (v_andV (c := false) (d := true) (v_cb (a_cons (v_var rfl) (a_cons v_c a_nil)) (p_isi hT hn)) (fun q => by cases q)) rfl) ?_
    exact q_when (c := true) (t_bad1 rfl) (fun _ => s_raise hE hk) (fun c => by cases c)
  | mixed a xs f hx hz hf no =>
    refine q_asgV (v := .bl false) (v_is (v_andV (v_cb (a_cons (v_var rfl) (a_cons v_c a_nil)) (p_isi (n := "list") (r := true) (fun H e => sql_ty (ex_l e hx)) (by decide +kernel))) (fun _ => v_andV (v_chain v_c (v_cb (a_cons (v_var rfl) a_nil) (p_lenL hx)) r_le (fun _ => v_c) (fun _ => r_le)) (fun _ => v_allL f hx (by omega) rfl (fun x => rfl) (fun x b1 hm e => ?_)))) (by rw [no]; simp)) ?_
    · obtain ⟨n, h1, h2⟩ := hf x hm
      exact v_cb (a_cons (v_var rfl) (a_cons v_c a_nil)) (p_isi (fun H e2 => h1 H (e.trans e2)) h2)
    exact q_when (c := true) (t_bad1 rfl) (fun _ => s_raise hE hk) (fun c => by cases c)
  | texts a rows hm hz hr no =>
    have hl : (rowsV rows).length < 100000 := by rw [List.length_map]; omega
    have eL : (rowsV rows).length = rows.length := List.length_map _
    have allF : ∀ {s : L2.St} {i j : Nat} {te : TE} (f : Str → Bool), s[i]? = some (some (.ref a)) → (∀ x, wipe ((wipe s [j]).set j (some x)) [j] = wipe s [j]) → (∀ r b1, r ∈ rows → Ex b b1 → Pe te ((wipe s [j]).set j (some (.str r))) b1 (.bl (f r))) → Pe (tCB (rAll K) (tCons (tLc (iList K (tVar i)) (gName j) tYes te [j]) tNil)) s b (.bl (rows.all f)) := fun {s i j te} f hs hw he => by
      refine v_is (v_allL (fun x => match x with | .str r => f r | _ => false) hm hl hs hw (fun x b1 hx e => ?_)) ?_
      · obtain ⟨r, hr1, rfl⟩ := List.mem_map.mp hx
        exact he r b1 hr1 e
      · rw [List.all_map]
        rfl
    refine q_asgV (v := .bl (decide ((1 : Int) ≤ (rows.length : Int)) && decide ((rows.length : Int) ≤ 20))) (v_is (v_andV (v_cb (a_cons (v_var rfl) (a_cons v_c a_nil)) (p_isi (n := "list") (r := true) (fun H e => sql_ty (ex_l e hm)) (by decide +kernel))) (fun _ => v_andV (v_chain v_c (v_cb (a_cons (v_var rfl) a_nil) (p_lenL hm)) r_le (fun _ => v_c) (fun _ => r_le)) (fun _ => allF (fun _ => true) rfl (fun x => rfl) (fun r b1 hr e => v_cb (a_cons (v_var rfl) (a_cons v_c a_nil)) (p_isi (n := "str") (r := true) (fun H e => .base (.str r)) (by decide +kernel)))))) ?_) ?_
    · rw [eL, show rows.all (fun _ => true) = true from List.all_eq_true.mpr fun _ _ => rfl]
      simp
    generalize hG : (decide ((1 : Int) ≤ (rows.length : Int)) && decide ((rows.length : Int) ≤ 20)) = G
    have h0 : G = true → ∀ {s : L2.St} {b1 : Hp}, Ex b b1 → s[0]? = some (some (.ref a)) → Pe (tCB (rLenU K) (tCons (tOp (rIx K) (tVar 0) (tC (.int 0))) tNil)) s b1 (.int ((rows.getD 0 Str.empty).length : Int)) := fun hg s b1 e hs => by
      rw [hg, Bool.and_eq_true, decide_eq_true_eq] at hG
      have hp : 0 < rows.length := by omega
      have hmem : rows.getD 0 Str.empty ∈ rows := by
        rw [List.getD_eq_getElem?_getD, List.getElem?_eq_getElem hp]
        exact List.getElem_mem _
      exact v_cb (a_cons (v_op (v_var hs) v_c (r_row (ex_l e hm) (by decide) (by omega))) a_nil) (p_lenS (by have := hr _ hmem; show (rows.getD (0 : Int).toNat Str.empty).length ≤ 100000; exact Nat.le_trans (Nat.le_of_lt this) (by decide)))
    have hsg : ("#.<>=" : Str).cps.toList = [35, 46, 60, 62, 61] := by decide +kernel
    refine q_when (c := !(G && ((decide ((1 : Int) ≤ ((rows.getD 0 Str.empty).length : Int)) && decide (((rows.getD 0 Str.empty).length : Int) ≤ 30)) && (rows.all fun r => decide ((r.length : Int) = ((rows.getD 0 Str.empty).length : Int)))))) (t_is (t_or (t_not (t_B (v_var rfl))) (fun cG => t_or (t_not (t_test (v_chain v_c (h0 (by simpa using cG) (Ex.refl b) rfl) r_le (fun _ => v_c) (fun _ => r_le)))) (fun _ => t_not (t_B (allF _ rfl (fun x => rfl) (fun r b1 hr1 e => v_op (v_cb (a_cons (v_var rfl) a_nil) (p_lenS (by have := hr r hr1; omega))) (h0 (by simpa using cG) e rfl) r_eqI)))))) (by simp only [Bool.not_and])) (fun _ => s_raise hE hk) (fun c1 => ?_)
    refine s_when (c := true) (t_is (t_not (t_B (allF (fun r => r.cps.toList.all fun c => decide (c ∈ ([35, 46, 60, 62, 61] : List Nat))) rfl (fun x => rfl) (fun r b1 hr1 e => ?_)))) ?_) (fun _ => s_raise hE hk) (fun c => by cases c)
    · refine v_is (v_allN (bs := r.cps.toList.map fun c => decide (c ∈ ([35, 46, 60, 62, 61] : List Nat))) (n_lcS (fun _ => true) (fun c => .bl (decide (c ∈ ([35, 46, 60, 62, 61] : List Nat)))) (v_var rfl) (by have := hr r hr1; exact Nat.lt_of_lt_of_le this (by decide)) (fun x => rfl) (fun c b2 _ _ => t_yes) (fun c b2 hc _ e2 => v_is (v_op (v_var rfl) v_c r_in) (by rw [hsg]))) (by rw [filter_yes, List.map_map]; rfl)) (by rw [List.all_map]; rfl)
    · unfold mapOk at no
      rw [hG] at no
      rw [Bool.not_eq_false'] at c1
      rw [c1, Bool.true_and] at no
      rw [no]
      rfl
theorem p_need_map (h : sb_need_map K vs b k ke) (hE : ∀ c b' H', ke c b' → Ex b' H' → E c none H') : Cs (t_need_map K E) { nx := fun _ b' => k .non b', rt := k } (start ["rows", "good", "row", "sign"] vs) b := by
  rcases h with h | ⟨v, ev, hv, hk⟩
  rotate_left
  · subst ev
    exact p_need_bad hv hk hE
  obtain ⟨a, rows, w, rfl, hm, g, hk⟩ := h
  have h1 := g.h1
  have h2 := g.h2
  have w1 := g.w1
  have w2 := g.w2
  have hz : (rowsV rows).length < 100000 := by rw [List.length_map]; omega
  have e0 : (rows.getD (0 : Int).toNat Str.empty).length = w := g.rowLen (i := 0) (by omega)
  -- a comprehension of tests that all hold
  have allY : ∀ {s : L2.St} {j : Nat} {te : TE}, s[0]? = some (some (.ref a)) → (∀ x, wipe ((wipe s [j]).set j (some x)) [j] = wipe s [j]) → (∀ r b1, r ∈ rows → Ex b b1 → Pe te ((wipe s [j]).set j (some (.str r))) b1 (.bl true)) →
      Pe (tCB (rAll K) (tCons (tLc (iList K (tVar 0)) (gName j) tYes te [j]) tNil)) s b (.bl true) := fun {s j te} hs hw he => by
    refine v_is (v_allN (bs := rows.map fun _ => true) (n_lcL (fun _ => true) (fun _ => .bl true) (v_var hs) hm hz hw (fun x b1 _ _ => t_yes) (fun x b1 hx _ e => ?_)) ?_) (by rw [yes_all])
    · obtain ⟨r, hr, rfl⟩ := List.mem_map.mp hx
      exact he r b1 hr e
    · rw [filter_yes, List.map_map, List.map_map]
      rfl
  refine q_asgV (v := .bl true) (v_is (v_andV (v_cb (a_cons (v_var rfl) (a_cons v_c a_nil)) (p_isi (n := "list") (r := true) (fun H e => sql_ty (ex_l e hm)) (by decide +kernel))) (fun _ => v_andV (v_chain v_c (v_cb (a_cons (v_var rfl) a_nil) (p_lenL hm)) r_le (fun _ => v_c) (fun _ => r_le))
    (fun _ => allY rfl (fun x => rfl) (fun r b1 hr e => v_cb (a_cons (v_var rfl) (a_cons v_c a_nil)) (p_isi (n := "str") (r := true) (fun H e => .base (.str r)) (by decide +kernel)))))) (by have eL : (rowsV rows).length = rows.length := List.length_map _; rw [eL]; simp; omega)) ?_
  have hw0 : ∀ {s : L2.St} {b1 : Hp}, Ex b b1 → s[0]? = some (some (.ref a)) → Pe (tCB (rLenU K) (tCons (tOp (rIx K) (tVar 0) (tC (.int 0))) tNil)) s b1 (.int (w : Int)) := fun e hs =>
    v_is (v_cb (a_cons (v_op (v_var hs) v_c (r_row (ex_l e hm) (by decide) (by omega))) a_nil) (p_lenS (by omega))) (by rw [e0])
  refine q_when (c := false) (t_is (t_or (t_not (t_B (v_var rfl))) (fun _ => t_or (t_not (t_test (v_chain v_c (hw0 (Ex.refl b) rfl) r_le (fun _ => v_c) (fun _ => r_le)))) (fun _ => t_not (t_B (allY rfl (fun x => rfl) (fun r b1 hr e => ?_)))))) ?_) (fun c1 => by cases c1) (fun _ => ?_)
  · have er : r.length = w := g.len r hr
    exact v_is (v_op (v_cb (a_cons (v_var rfl) a_nil) (p_lenS (by omega))) (hw0 e rfl) r_eqI) (by simp [er])
  · simp
    omega
  refine s_when (c := false) (t_is (t_not (t_B (allY rfl (fun x => rfl) (fun r b1 hr e => ?_)))) rfl) (fun c1 => by cases c1) (fun _ => hk)
  have er : r.cps.size = w := g.len r hr
  have hsg : ("#.<>=" : Str).cps.toList = [35, 46, 60, 62, 61] := by decide +kernel
  refine v_is (v_allN (bs := r.cps.toList.map fun _ => true) (n_lcS (fun _ => true) (fun _ => .bl true) (v_var rfl) (by omega) (fun x => rfl) (fun c b2 _ _ => t_yes) (fun c b2 hc _ e2 => v_is (v_op (v_var rfl) v_c r_in) ?_)) ?_) (by rw [yes_all])
  · rw [hsg]
    exact congrArg V.bl (decide_eq_true (g.sg r hr c hc))
  · rw [filter_yes, List.map_map]
    rfl
theorem p_is_solid (h : sb_is_solid K vs b k ke) (hE : ∀ c b' H', ke c b' → Ex b' H' → E c none H') : Cs (t_is_solid K E) { nx := fun _ b' => k .non b', rt := k } (start ["rows", "left", "top"] vs) b := by
  rcases h with h | ⟨v, l, t, ev, hv, hk⟩
  rotate_left
  · subst ev
    exact q_drop (c_call (ke := ke) hE (Pa.c (a_cons (v_var rfl) a_nil) (.inr ⟨v, rfl, hv, hk⟩)))
  obtain ⟨a, rows, w, l, t, rfl, hm, g, hk⟩ := h
  refine q_drop (Pe.c (v_call (by walk_at "v") (s_need_map hm g)) ?_)
  exact s_retV (v_call (by walk_at "v") (s_solid hm g)) hk
theorem joinL_nil : ∀ cs : List Nat, TL.joinL [] (cs.map fun c => [c]) = cs
  | [] => rfl
  | [c] => rfl
  | c :: d :: r => by
    show [c] ++ ([] ++ TL.joinL [] ((d :: r).map fun c => [c])) = c :: d :: r
    rw [joinL_nil (d :: r)]
    rfl
theorem str_ext {x y : Str} (h : x.cps.toList = y.cps.toList) : x = y := by
  obtain ⟨⟨a⟩⟩ := x
  obtain ⟨⟨c⟩⟩ := y
  have e : a = c := h
  rw [e]
theorem join_str (cs : List Nat) : Txt.join "" (cs.map fun c => (⟨#[c]⟩ : Str)) = ⟨cs.toArray⟩ := by
  apply str_ext
  rw [TL.join_eq]
  have e := TL.tl_join "" (cs.map fun c => (⟨#[c]⟩ : Str))
  have e0 : TL.tl "" = [] := by decide +kernel
  rw [e0, List.map_map] at e
  have e1 : (TL.tl ∘ fun c => (⟨#[c]⟩ : Str)) = fun c => [c] := rfl
  rw [e1, joinL_nil] at e
  exact e
def turnKv : List (Key × V) := [(.inr "<", .str ">"), (.inr ">", .str "<")]
theorem turn_eq : mergeK [] turnKv = [(.inr ⟨#[60]⟩, .str ⟨#[62]⟩), (.inr ⟨#[62]⟩, .str ⟨#[60]⟩)] := by decide +kernel
theorem turn_val (c : Nat) : (valV (mergeK [] turnKv) (.inr ⟨#[c]⟩)).getD (.str ⟨#[c]⟩) = .str ⟨#[flipC c]⟩ := by
  rw [turn_eq]
  unfold valV flipC
  by_cases h1 : c = 60
  · subst h1
    rfl
  · by_cases h2 : c = 62
    · subst h2
      rfl
    · have n1 : ¬ ((Sum.inr (⟨#[60]⟩ : Str) : Key) = Sum.inr ⟨#[c]⟩) := by simp; omega
      have n2 : ¬ ((Sum.inr (⟨#[62]⟩ : Str) : Key) = Sum.inr ⟨#[c]⟩) := by simp; omega
      rw [List.find?_cons, decide_eq_false n1, List.find?_cons, decide_eq_false n2, if_neg h1, if_neg h2]
      rfl
def mirV : V → V
  | .str r => .str (mirRow r)
  | v => v
theorem sum_ones : ∀ cs : List Nat, ((cs.map fun c => (⟨#[c]⟩ : Str)).map (·.length)).sum = cs.length
  | [] => rfl
  | c :: r => by
    have ih := sum_ones r
    simp only [List.map_cons, List.sum_cons, List.length_cons]
    rw [ih]
    show 1 + r.length = r.length + 1
    omega
theorem p_mirrored (h : sb_mirrored K vs b k ke) (hE : ∀ c b' H', ke c b' → Ex b' H' → E c none H') : Cs (t_mirrored K E) { nx := fun _ b' => k .non b', rt := k } (start ["rows", "turned", "row", "sign"] vs) b := by
  rcases h with h | ⟨v, ev, hv, hk⟩
  rotate_left
  · subst ev
    exact q_drop (c_call (ke := ke) hE (Pa.c (a_cons (v_var rfl) a_nil) (.inr ⟨v, rfl, hv, hk⟩)))
  obtain ⟨a, rows, w, rfl, hm, g, hk⟩ := h
  have h2 := g.h2
  have w2 := g.w2
  have hz : (rowsV rows).length < 100000 := by rw [List.length_map]; omega
  refine q_drop (Pe.c (v_call (by walk_at "v") (s_need_map hm g)) ?_)
  refine q_asgN (n_disp (kvs := turnKv) (fun b1 _ => pp_cons v_c v_c (pp_cons v_c v_c pp_nil)) rfl (by decide)) (fun d hd => ?_)
  have hm1 : SqL K (upd b d (.dK (mergeK [] turnKv))) a (rowsV rows) := ex_l (Ex.new hd) hm
  refine s_retW (Pn.c (n_lcL (fun _ => true) mirV (v_var rfl) hm1 hz (fun x => rfl) (fun x b1 _ _ => t_yes) (fun x b1 hx _ e => ?_)) (fun p hp => ?_))
  · obtain ⟨r, hr, rfl⟩ := List.mem_map.mp hx
    have er : r.cps.size = w := g.len r hr
    have hd1 : b1 d = some (.dK (mergeK [] turnKv)) := e d _ upd_same
    refine v_is (v_joinN (ys := (r.cps.toList.reverse.map flipC).map fun c => (⟨#[c]⟩ : Str)) v_c (fun b2 e2 => n_lcS (w := ⟨r.cps.toList.reverse.toArray⟩) (fun _ => true) (fun c => .str ⟨#[flipC c]⟩) (v_revS (v_var rfl) (by show r.cps.size ≤ 100000; omega)) (by simp; omega) (fun x => rfl) (fun c b3 _ _ => t_yes)
      (fun c b3 hc _ e3 => v_is (v_dget2 (kvs := mergeK [] turnKv) (key := .inr ⟨#[c]⟩) (v_var rfl) (v_var rfl) (v_var rfl) (e3 d _ (e2 d _ hd1))) (turn_val c))) ?_ ?_) ?_
    · rw [filter_yes, List.map_map, List.map_map]
      rfl
    · rw [sum_ones]
      have e0 : ("" : Str).length = 0 := by decide +kernel
      rw [e0]
      simp
      omega
    · rw [join_str]
      rfl
  · rw [filter_yes]
    have ev : (rowsV rows).map mirV = rowsV (mirM rows) := by
      unfold rowsV mirM
      rw [List.map_map, List.map_map]
      rfl
    rw [ev]
    -- the base also holds turned: forgotten
    exact ⟨_, ex_upd (Ex.new hd), hk p (ex_none (Ex.new hd) hp)⟩
/-! mirrored maps -/
theorem flip_flip (c : Nat) : flipC (flipC c) = c := by
  unfold flipC
  by_cases h1 : c = 60
  · subst h1; rfl
  · by_cases h2 : c = 62
    · subst h2; rfl
    · rw [if_neg h1, if_neg h2, if_neg h1, if_neg h2]
theorem mir_mir_row (r : Str) : mirRow (mirRow r) = r := by
  apply str_ext
  unfold mirRow
  show ((r.cps.toList.reverse.map flipC).reverse.map flipC) = r.cps.toList
  rw [← List.map_reverse, List.reverse_reverse, List.map_map]
  have e : (flipC ∘ flipC) = id := funext flip_flip
  rw [e, List.map_id]
theorem mir_mir (rows : List Str) : mirM (mirM rows) = rows := by
  unfold mirM
  rw [List.map_map]
  have e : (mirRow ∘ mirRow) = id := funext mir_mir_row
  rw [e, List.map_id]
theorem mir_good {rows : List Str} {w : Nat} (g : GoodMap rows w) : GoodMap (mirM rows) w := by
  refine ⟨?_, ?_, g.w1, g.w2, ?_, ?_⟩
  · unfold mirM; rw [List.length_map]; exact g.h1
  · unfold mirM; rw [List.length_map]; exact g.h2
  · intro r hr
    obtain ⟨q, hq, rfl⟩ := List.mem_map.mp hr
    unfold mirRow
    simp
    exact g.len q hq
  · intro r hr c hc
    obtain ⟨q, hq, rfl⟩ := List.mem_map.mp hr
    have hc2 : c ∈ q.cps.toList.reverse.map flipC := hc
    obtain ⟨d, hd, rfl⟩ := List.mem_map.mp hc2
    have := g.sg q hq d (List.mem_reverse.mp hd)
    have hc5 : d = 35 ∨ d = 46 ∨ d = 60 ∨ d = 62 ∨ d = 61 := by simpa using this
    rcases hc5 with rfl | rfl | rfl | rfl | rfl <;> decide
theorem mir_cell {rows : List Str} {w : Nat} (g : GoodMap rows w) {i j : Nat} (hi : i < rows.length) (hj : j < w) : cellM (mirM rows) i (w - 1 - j) = flipC (cellM rows i j) := by
  unfold cellM mirM
  have e1 : (rows.map mirRow).getD i Str.empty = mirRow (rows.getD i Str.empty) := by
    rw [List.getD_eq_getElem?_getD, List.getD_eq_getElem?_getD, List.getElem?_map, List.getElem?_eq_getElem hi]
    rfl
  rw [e1]
  have hr : (rows.getD i Str.empty).cps.toList.length = w := by rw [Array.length_toList]; exact g.row hi
  generalize rows.getD i Str.empty = r at hr
  unfold mirRow
  show (r.cps.toList.reverse.map flipC).getD (w - 1 - j) 0 = flipC (r.cps.toList.getD j 0)
  have hj2 : j < r.cps.toList.length := by omega
  have e2 : r.cps.toList.reverse[w - 1 - j]? = some r.cps.toList[j] := by
    rw [List.getElem?_reverse (by omega), hr]
    have : w - 1 - (w - 1 - j) = j := by omega
    rw [this, List.getElem?_eq_getElem hj2]
  rw [List.getD_eq_getElem?_getD, List.getElem?_map, e2, List.getD_eq_getElem?_getD, List.getElem?_eq_getElem hj2]
  rfl
def tileM (c : Nat) (l t : Int) : Bool := if c = 62 then decide (7 - t % 8 ≤ l % 8) else if c = 60 then decide (7 - t % 8 ≤ 7 - l % 8) else decide (c = 35)
theorem solid_side {rows : List Str} {w : Nat} {l t : Int} (h : ¬ (0 ≤ l ∧ l < 8 * (w : Int))) : solidM rows w l t = true := if_pos h
theorem solid_over {rows : List Str} {w : Nat} {l t : Int} (h : 0 ≤ l ∧ l < 8 * (w : Int)) (h2 : ¬ (0 ≤ t ∧ t < 8 * (rows.length : Int))) : solidM rows w l t = false := by
  unfold solidM
  rw [if_neg (not_not_intro h), if_pos h2]
theorem solid_in {rows : List Str} {w : Nat} {l t : Int} (h : 0 ≤ l ∧ l < 8 * (w : Int)) (h2 : 0 ≤ t ∧ t < 8 * (rows.length : Int)) : solidM rows w l t = tileM (cellM rows (t / 8).toNat (l / 8).toNat) l t := by
  unfold solidM
  rw [if_neg (not_not_intro h), if_neg (not_not_intro h2)]
  rfl
theorem mir_len (rows : List Str) : (mirM rows).length = rows.length := List.length_map _
theorem mir_solid {rows : List Str} {w : Nat} (g : GoodMap rows w) (l t : Int) : solidM (mirM rows) w (8 * (w : Int) - 1 - l) t = solidM rows w l t := by
  by_cases hl : 0 ≤ l ∧ l < 8 * (w : Int)
  · by_cases ht : 0 ≤ t ∧ t < 8 * (rows.length : Int)
    · rw [solid_in (by omega) (by rw [mir_len]; exact ht), solid_in hl ht]
      have e1 : ((8 * (w : Int) - 1 - l) / 8).toNat = w - 1 - (l / 8).toNat := by omega
      have e2 : (8 * (w : Int) - 1 - l) % 8 = 7 - l % 8 := by omega
      have hj : (l / 8).toNat < w := by omega
      have hc := g.cell (i := (t / 8).toNat) (j := (l / 8).toNat) (by omega) hj
      unfold tileM
      rw [e1, e2, mir_cell g (by omega) hj]
      generalize cellM rows (t / 8).toNat (l / 8).toNat = c at hc
      have hc5 : c = 35 ∨ c = 46 ∨ c = 60 ∨ c = 62 ∨ c = 61 := by simpa using hc
      have m0 : 0 ≤ l % 8 := Int.emod_nonneg _ (by decide)
      have m1 : l % 8 < 8 := Int.emod_lt_of_pos _ (by decide)
      rcases hc5 with rfl | rfl | rfl | rfl | rfl
      · rfl
      · rfl
      · rfl
      · show decide (7 - t % 8 ≤ 7 - (7 - l % 8)) = decide (7 - t % 8 ≤ l % 8)
        congr 1
        apply propext
        omega
      · rfl
    · rw [solid_over (by omega) (by rw [mir_len]; exact ht), solid_over hl ht]
  · rw [solid_side (by omega), solid_side hl]
end

/-! ### common to laws -/
def AllPairs (b : Hp) (xs : List V) : Prop := ∀ x ∈ xs, ∃ (p : Addr) (l t : Int), x = .ref p ∧ b p = some (.tup [.int l, .int t])
theorem AllPairs.ex {b b' : Hp} {xs : List V} (h : AllPairs b xs) (e : Ex b b') : AllPairs b' xs := fun x hx => by
  obtain ⟨p, l, t, e1, e2⟩ := h x hx
  exact ⟨p, l, t, e1, e p _ e2⟩
theorem AllPairs.append {b : Hp} {xs ys : List V} (h1 : AllPairs b xs) (h2 : AllPairs b ys) : AllPairs b (xs ++ ys) := fun x hx => (List.mem_append.mp hx).elim (h1 x) (h2 x)
section
variable {K : PySem.W.Frag} {σ : L2.St} {b : Hp} {vs : List V} {k : VK} {ke : XB} {E : XK}
theorem ca_pnil : Ca tNil σ b (fun vs b2 => Ex b b2 ∧ AllPairs b2 vs ∧ vs.length = 0) := ca_nil ⟨Ex.refl b, (fun x hx => nomatch hx), rfl⟩
theorem ca_pcons {ta : TE} {tr : TA} {n : Nat} {l t : Int} (h : Pn ta σ b (.tup [.int l, .int t])) (hr : ∀ b1, Ex b b1 → Ca tr σ b1 (fun vs b2 => Ex b1 b2 ∧ AllPairs b2 vs ∧ vs.length = n)) : Ca (tCons ta tr) σ b (fun vs b2 => Ex b b2 ∧ AllPairs b2 vs ∧ vs.length = n + 1) :=
  ca_cons (Pn.c h fun p hp => fun H a Q q => hr _ (Ex.new hp) H a Q fun vs b2 H' ⟨e, ap, hl⟩ a' => q vs b2 H' ⟨(Ex.new hp).trans e, fun x hx => by
    rcases List.mem_cons.mp hx with hx | hx
    · exact ⟨p, l, t, hx, e p _ upd_same⟩
    · exact ap x hx, by rw [List.length_cons, hl]⟩ a')
theorem n_pair {ta tb : TE} {l t : Int} (h1 : Pe ta σ b (.int l)) (h2 : Pe tb σ b (.int t)) : Pn (tTup (tCons ta (tCons tb tNil))) σ b (.tup [.int l, .int t]) := n_tup (a_cons h1 (a_cons h2 a_nil)) (by show 2 ≤ 100000; decide)
theorem good_ok {rows : List Str} {w : Nat} (g : GoodMap rows w) : ∀ x ∈ rows, PyData.strOk x = true := fun x hx => by
  unfold PyData.strOk
  rw [Array.all_eq_true_iff_forall_mem]
  intro c hc
  have h := g.sg x hx c (by simpa using hc)
  have hc5 : c = 35 ∨ c = 46 ∨ c = 60 ∨ c = 62 ∨ c = 61 := by simpa using h
  have : c < 1114112 := by omega
  simpa using this
/-- 8 * len(rows[0]), 8 * len(rows), the map's address in slot i -/
theorem v_w8 {a : Addr} {rows : List Str} {w i : Nat} (hs : σ[i]? = some (some (.ref a))) (hm : SqL K b a (rowsV rows)) (g : GoodMap rows w) : Pe (tCB (rLenU K) (tCons (tOp (rIx K) (tVar i) (tC (.int 0))) tNil)) σ b (.int (w : Int)) := by
  have h1 := g.h1
  have w2 := g.w2
  have e0 : (rows.getD (0 : Int).toNat Str.empty).length = w := g.rowLen (i := 0) (by omega)
  exact v_is (v_cb (a_cons (v_op (v_var hs) v_c (r_row hm (by decide) (by omega))) a_nil) (p_lenS (by omega))) (by rw [e0])
theorem v_h8 {a : Addr} {rows : List Str} {i : Nat} (hs : σ[i]? = some (some (.ref a))) (hm : SqL K b a (rowsV rows)) : Pe (tCB (rLenU K) (tCons (tVar i) tNil)) σ b (.int (rows.length : Int)) :=
  v_is (v_cb (a_cons (v_var hs) a_nil) (p_lenL hm)) (by rw [List.length_map])
theorem r_mul8 {j : Int} : Pr rMulU (.int 8) (.int j) b (.int (8 * j)) := r_mul (.inl ⟨by decide, by decide⟩)
theorem s__law_cell {a : Addr} {ns : List Int} {kk : Int} (hS : SqL K b a (ns.map V.int)) (hl : ns.length ≤ 63) (h0 : 0 ≤ kk) : Ps (sb__law_cell K) [.ref a, .int kk] b (.int (cellZ ns kk)) := fun k hk => ⟨a, ns, kk, rfl, hS, hl, h0, hk⟩
/-- how many rounds -/
theorem v_rounds {a : Addr} {ns : List Int} {m : Int} (hs : σ[0]? = some (some (.ref a))) (hS : SqL K b a (ns.map V.int)) : Pa (tCons (tCB rMax2 (tCons (tC (.int 1)) (tCons (tCB rMin2 (tCons (tC (.int m)) (tCons (tCB (rLenU K) (tCons (tVar 0) tNil)) tNil))) tNil))) tNil) σ b
    [.int (if (if (ns.length : Int) < m then (ns.length : Int) else m) > 1 then (if (ns.length : Int) < m then (ns.length : Int) else m) else 1)] :=
  a_cons (v_cb (a_cons v_c (a_cons (v_cb (a_cons v_c (a_cons (v_is (v_cb (a_cons (v_var hs) a_nil) (p_lenL hS)) (by rw [List.length_map])) a_nil)) p_min2) a_nil)) p_max2) a_nil
end

/-! ### lifts -/
structure Lift where
  across : Bool
  left : Int
  top : Int
  wide : Int
  far : Int
  pace : Int
  deriving DecidableEq
def wayS (c : Bool) : Str := if c = true then "across" else "up"
def liftV (L : Lift) : List V := [.str (wayS L.across), .int L.left, .int L.top, .int L.wide, .int L.far, .int L.pace]
structure GoodLift (L : Lift) : Prop where
  l : 0 ≤ L.left ∧ L.left ≤ 400
  t : 0 ≤ L.top ∧ L.top ≤ 400
  w : 1 ≤ L.wide ∧ L.wide ≤ 400
  f : 1 ≤ L.far ∧ L.far ≤ 400
  p : 1 ≤ L.pace ∧ L.pace ≤ 100
def phaseM (far n : Int) : Int := if n % (2 * far) ≤ far then n % (2 * far) else 2 * far - n % (2 * far)
def goneM (L : Lift) (time : Int) : Int := phaseM L.far (time / L.pace)
def placeX (L : Lift) (time : Int) : Int := if L.across = true then L.left + goneM L time else L.left
def placeY (L : Lift) (time : Int) : Int := if L.across = true then L.top else L.top - goneM L time
/-- whether v is a whole number between lo and hi -/
inductive CountIs (K : PySem.W.Frag) (b : Hp) (lo hi : Int) : V → Bool → Prop where
  | int (i : Int) : CountIs K b lo hi (.int i) (decide (lo ≤ i) && decide (i ≤ hi))
  | other {v : V} (n : String) (h : ∀ H, Ex b H → TyX K H v (.type n)) (hk : kitB n "int" = some false ∨ (kitB n "int" = some true ∧ kitB n "bool" = some true)) : CountIs K b lo hi v false
section
variable {K : PySem.W.Frag} {σ : L2.St} {b : Hp} {vs : List V} {k : VK} {ke : XB} {E : XK}
def sb_is_count (K : PySem.W.Frag) : Sb := fun vs b k _ => ∃ v lo hi r, vs = [v, .int lo, .int hi] ∧ CountIs K b lo hi v r ∧ k (.bl r) b
theorem len_is_count : ∀ vs b k ke, sb_is_count K vs b k ke → vs.length = (["thing", "low", "high"] : List Str).length := fun _ _ _ _ ⟨_, _, _, _, e, _⟩ => e ▸ rfl
/-- things that are no lifts -/
inductive BadLiftV (K : PySem.W.Frag) (b : Hp) : V → Prop where
  | other {v : V} (n : String) (h : ∀ H, Ex b H → TyX K H v (.type n)) (hk : kitB n "tuple" = some false) : BadLiftV K b v
  | len (p : Addr) (xs : List V) (h : SqT K b p xs) (hl : xs.length ≠ 6) : BadLiftV K b (.ref p)
  | first (p : Addr) (x0 x1 x2 x3 x4 x5 : V) (n : String) (h : SqT K b p [x0, x1, x2, x3, x4, x5]) (hT : ∀ H, Ex b H → TyX K H x0 (.type n)) (hk : kitB n "str" = some false) : BadLiftV K b (.ref p)
  | way (p : Addr) (w : Str) (x1 x2 x3 x4 x5 : V) (h : SqT K b p [.str w, x1, x2, x3, x4, x5]) (hw : inV (.str w) [.str "across", .str "up"] = false) : BadLiftV K b (.ref p)
  | six (p : Addr) (c : Bool) (x1 x2 x3 x4 x5 : V) (r1 r2 r3 r4 r5 : Bool) (h : SqT K b p [.str (wayS c), x1, x2, x3, x4, x5]) (c1 : CountIs K b 0 400 x1 r1) (c2 : CountIs K b 0 400 x2 r2) (c3 : CountIs K b 1 400 x3 r3) (c4 : CountIs K b 1 400 x4 r4) (c5 : CountIs K b 1 100 x5 r5) (no : ((r1 && r2) && (r3 && (r4 && r5))) = false) : BadLiftV K b (.ref p)
def sb_is_lift (K : PySem.W.Frag) : Sb := fun vs b k _ => (∃ p L, vs = [.ref p] ∧ SqT K b p (liftV L) ∧ GoodLift L ∧ k (.bl true) b) ∨ ∃ v, vs = [v] ∧ BadLiftV K b v ∧ k (.bl false) b
theorem len_is_lift : ∀ vs b k ke, sb_is_lift K vs b k ke → vs.length = (["thing"] : List Str).length := fun _ _ _ _ h => by
  rcases h with ⟨_, _, e, _⟩ | ⟨_, e, _⟩ <;> exact e ▸ rfl
def sb_need_lift (K : PySem.W.Frag) : Sb := fun vs b k ke => (∃ p L, vs = [.ref p] ∧ SqT K b p (liftV L) ∧ GoodLift L ∧ k .non b) ∨ ∃ v, vs = [v] ∧ BadLiftV K b v ∧ ke (.ref (He.ga K "BadLift")) b
theorem len_need_lift : ∀ vs b k ke, sb_need_lift K vs b k ke → vs.length = (["lift"] : List Str).length := fun _ _ _ _ h => by
  rcases h with ⟨_, _, e, _⟩ | ⟨_, e, _⟩ <;> exact e ▸ rfl
def sb_way_gone (K : PySem.W.Frag) : Sb := fun vs b k _ => ∃ p L time, vs = [.ref p, .int time] ∧ SqT K b p (liftV L) ∧ GoodLift L ∧ k (.int (goneM L time)) b
theorem len_way_gone : ∀ vs b k ke, sb_way_gone K vs b k ke → vs.length = (["lift", "time"] : List Str).length := fun _ _ _ _ ⟨_, _, _, e, _⟩ => e ▸ rfl
def sb_place (K : PySem.W.Frag) : Sb := fun vs b k _ => ∃ p L time, vs = [.ref p, .int time] ∧ SqT K b p (liftV L) ∧ GoodLift L ∧ ∀ q, b q = none → k (.ref q) (upd b q (.tup [.int (placeX L time), .int (placeY L time)]))
theorem len_place : ∀ vs b k ke, sb_place K vs b k ke → vs.length = (["lift", "time"] : List Str).length := fun _ _ _ _ ⟨_, _, _, e, _⟩ => e ▸ rfl
def sb_lift_at (K : PySem.W.Frag) : Sb := fun vs b k ke => sb_place K vs b k ke ∨ ∃ v t, vs = [v, t] ∧ BadLiftV K b v ∧ ke (.ref (He.ga K "BadLift")) b
theorem len_lift_at : ∀ vs b k ke, sb_lift_at K vs b k ke → vs.length = (["lift", "time"] : List Str).length := fun vs b k ke h => by
  rcases h with h | ⟨_, _, e, _⟩
  · exact len_place vs b k ke h
  · exact e ▸ rfl
end
def t_is_count (K : PySem.W.Frag) (E : XK) : TS := (tRet (tAndV (tCB (rIsi K) (tCons (tVar 0) (tCons (tC (.ty "int")) tNil))) (tAndV (tNotV (tCB (rIsi K) (tCons (tVar 0) (tCons (tC (.ty "bool")) tNil)))) (tChain rLeI rLeI (tVar 1) (tVar 0) (tVar 2)))))
def t_is_lift (K : PySem.W.Frag) (E : XK) : TS := (tSeq (tIfS (tOr (tNot (tB (tCB (rIsi K) (tCons (tVar 0) (tCons (tC (.ty "tuple")) tNil))))) (tOr (tTest (tOp (rNeU K) (tCB (rLenU K) (tCons (tVar 0) tNil)) (tC (.int 6)))) (tNot (tB (tCB (rIsi K) (tCons (tOp (rIx K) (tVar 0) (tC (.int 0))) (tCons (tC (.ty "str")) tNil))))))) (tRet (tC (.bl false))) tNext) (tSeq (tIfS (tTest (tOp (rNotInU K) (tOp (rIx K) (tVar 0) (tC (.int 0))) (tTup (tCons (tC (.str "across")) (tCons (tC (.str "up")) tNil))))) (tRet (tC (.bl false))) tNext) (tSeq (tAsg (tVar 0) (gTup K 6 (gCons (gName 1) (gCons (gName 2) (gCons (gName 3) (gCons (gName 4) (gCons (gName 5) (gCons (gName 6) gNil)))))))) (tSeq (tIfS (tOr (tNot (tB (tCall (up (sb_is_count K)) [] E (tCons (tVar 2) (tCons (tC (.int 0)) (tCons (tC (.int 400)) tNil)))))) (tNot (tB (tCall (up (sb_is_count K)) [] E (tCons (tVar 3) (tCons (tC (.int 0)) (tCons (tC (.int 400)) tNil))))))) (tRet (tC (.bl false))) tNext) (tRet (tAndV (tCall (up (sb_is_count K)) [] E (tCons (tVar 4) (tCons (tC (.int 1)) (tCons (tC (.int 400)) tNil)))) (tAndV (tCall (up (sb_is_count K)) [] E (tCons (tVar 5) (tCons (tC (.int 1)) (tCons (tC (.int 400)) tNil)))) (tCall (up (sb_is_count K)) [] E (tCons (tVar 6) (tCons (tC (.int 1)) (tCons (tC (.int 100)) tNil)))))))))))
def t_need_lift (K : PySem.W.Frag) (E : XK) : TS := (tIfS (tNot (tB (tCall (up (sb_is_lift K)) [] E (tCons (tVar 0) tNil)))) (tRaise (.ref (He.ga K "BadLift")) E) tNext)
def t_way_gone (K : PySem.W.Frag) (E : XK) : TS := (tSeq (tAsg (tVar 0) (gTup K 6 (gCons (gName 2) (gCons (gName 3) (gCons (gName 4) (gCons (gName 5) (gCons (gName 6) (gCons (gName 7) gNil)))))))) (tSeq (tAsg (tOp rModI (tOp rFdivU (tVar 1) (tVar 7)) (tOp rMulU (tC (.int 2)) (tVar 6))) (gName 8)) (tRet (tIf (tTest (tOp rLeI (tVar 8) (tVar 6))) (tVar 8) (tOp rSubU (tOp rMulU (tC (.int 2)) (tVar 6)) (tVar 8))))))
def t_place (K : PySem.W.Frag) (E : XK) : TS := (tSeq (tAsg (tSl (rSlU K) (tVar 0) tNoPart (tPart (tC (.int 3)))) (gTup K 3 (gCons (gName 2) (gCons (gName 3) (gCons (gName 4) gNil))))) (tSeq (tIfS (tTest (tOp (rEqU K) (tVar 2) (tC (.str "across")))) (tRet (tTup (tCons (tOp (rAddU K) (tVar 3) (tCall (up (sb_way_gone K)) [] E (tCons (tVar 0) (tCons (tVar 1) tNil)))) (tCons (tVar 4) tNil)))) tNext) (tRet (tTup (tCons (tVar 3) (tCons (tOp rSubU (tVar 4) (tCall (up (sb_way_gone K)) [] E (tCons (tVar 0) (tCons (tVar 1) tNil)))) tNil))))))
def t_lift_at (K : PySem.W.Frag) (E : XK) : TS := (tSeq (tDrop (tCall (up (sb_need_lift K)) [] E (tCons (tVar 0) tNil))) (tRet (tCall (up (sb_place K)) [] E (tCons (tVar 0) (tCons (tVar 1) tNil)))))
section
variable {K : PySem.W.Frag} {σ : L2.St} {b : Hp} {vs : List V} {k : VK} {ke : XB} {E : XK}
theorem s_is_countI {i lo hi : Int} : Ps (sb_is_count K) [.int i, .int lo, .int hi] b (.bl (decide (lo ≤ i) && decide (i ≤ hi))) := fun k hk => ⟨_, lo, hi, _, rfl, .int i, hk⟩
theorem s_is_lift {p : Addr} {L : Lift} (h : SqT K b p (liftV L)) (g : GoodLift L) : Ps (sb_is_lift K) [.ref p] b (.bl true) := fun k hk => .inl ⟨p, L, rfl, h, g, hk⟩
theorem s_need_lift {p : Addr} {L : Lift} (h : SqT K b p (liftV L)) (g : GoodLift L) : Ps (sb_need_lift K) [.ref p] b .non := fun k hk => .inl ⟨p, L, rfl, h, g, hk⟩
theorem s_way_gone {p : Addr} {L : Lift} {time : Int} (h : SqT K b p (liftV L)) (g : GoodLift L) : Ps (sb_way_gone K) [.ref p, .int time] b (.int (goneM L time)) := fun k hk => ⟨p, L, time, rfl, h, g, hk⟩
theorem s_place {p : Addr} {L : Lift} {time : Int} (h : SqT K b p (liftV L)) (g : GoodLift L) : Psn (sb_place K) [.ref p, .int time] b (.tup [.int (placeX L time), .int (placeY L time)]) := fun k hk => ⟨p, L, time, rfl, h, g, hk⟩
theorem s_lift_at {p : Addr} {L : Lift} {time : Int} (h : SqT K b p (liftV L)) (g : GoodLift L) : Psn (sb_lift_at K) [.ref p, .int time] b (.tup [.int (placeX L time), .int (placeY L time)]) := fun k hk => .inl (s_place h g k hk)
theorem p_is_count (h : sb_is_count K vs b k ke) (hE : ∀ c b' H', ke c b' → Ex b' H' → E c none H') : Cs (t_is_count K E) { nx := fun _ b' => k .non b', rt := k } (start ["thing", "low", "high"] vs) b := by
  obtain ⟨v, lo, hi, r, rfl, hc, hk⟩ := h
  cases hc with
  | int i =>
    exact s_retV (v_is (v_andV (v_cb (a_cons (v_var rfl) (a_cons v_c a_nil)) (p_isi (n := "int") (r := true) (fun H e => .base (.int i)) (by decide +kernel))) (fun _ => v_andV (v_notV (v_cb (a_cons (v_var rfl) (a_cons v_c a_nil)) (p_isi (n := "int") (r := false) (fun H e => .base (.int i)) (by decide +kernel)))) (fun _ => by walk_at "v"))) (by simp)) hk
  | other n hT hn =>
    rcases hn with hn | ⟨hn, hn2⟩
    · exact s_retV (v := .bl false) (v_is (v_andV (d := true) (v_cb (a_cons (v_var rfl) (a_cons v_c a_nil)) (p_isi hT hn)) (fun q => by cases q)) rfl) hk
    · exact s_retV (v := .bl false) (v_is (v_andV (v_cb (a_cons (v_var rfl) (a_cons v_c a_nil)) (p_isi hT hn)) (fun _ => v_andV (d := true) (v_notV (v_cb (a_cons (v_var rfl) (a_cons v_c a_nil)) (p_isi hT hn2))) (fun q => by cases q))) rfl) hk
theorem way_in (c : Bool) : inV (.str (wayS c)) [.str "across", .str "up"] = true := by
  cases c <;> decide +kernel
theorem way_eq (c : Bool) : decide (wayS c = "across") = c := by
  cases c <;> decide +kernel
theorem s_count {v : V} {lo hi : Int} {r : Bool} (h : CountIs K b lo hi v r) : Ps (sb_is_count K) [v, .int lo, .int hi] b (.bl r) := fun k hk => ⟨v, lo, hi, r, rfl, h, hk⟩
theorem p_is_bad {v : V} (h : BadLiftV K b v) (hk : k (.bl false) b) : Cs (t_is_lift K E) { nx := fun _ b' => k .non b', rt := k } (start ["thing", "way", "left", "top", "wide", "far", "pace"] [v]) b := by
  have isT : ∀ {s : L2.St} {p : Addr} {xs : List V}, SqT K b p xs → s[0]? = some (some (.ref p)) → Pt (tB (tCB (rIsi K) (tCons (tVar 0) (tCons (tC (.ty "tuple")) tNil)))) s b true := fun hx hs => t_B (v_cb (a_cons (v_var hs) (a_cons v_c a_nil)) (p_isi (n := "tuple") (r := true) (fun H e => sqt_ty (ex_t e hx)) (by decide +kernel)))
  cases h with
  | other n hT hn => exact q_when (c := true) (t_is (t_or (c := !false) (d := true) (t_not (t_B (v_cb (a_cons (v_var rfl) (a_cons v_c a_nil)) (p_isi hT hn)))) (fun q => by cases q)) rfl) (fun _ => s_retV v_c hk) (fun z => by cases z)
  | len p xs hx hl => exact q_when (c := true) (t_is (t_or (t_not (isT hx rfl)) (fun _ => t_or (c := true) (d := true) (t_is (t_test (v_op (v_cb (a_cons (v_var rfl) a_nil) (p_lenT hx)) v_c r_neI)) (by rw [decide_eq_false (by omega)]; rfl)) (fun q => by cases q))) rfl) (fun _ => s_retV v_c hk) (fun z => by cases z)
  | first p x0 x1 x2 x3 x4 x5 n hx hT hn => exact q_when (c := true) (t_is (t_or (t_not (isT hx rfl)) (fun _ => t_or (t_test (v_op (v_cb (a_cons (v_var rfl) a_nil) (p_lenT hx)) v_c r_neI)) (fun _ => t_not (t_B (v_cb (a_cons (v_op (v_var rfl) v_c (r_iT hx rfl)) (a_cons v_c a_nil)) (p_isi hT hn)))))) rfl) (fun _ => s_retV v_c hk) (fun z => by cases z)
  | way p w x1 x2 x3 x4 x5 hx hw =>
    refine q_when (c := false) (t_is (t_or (t_not (isT hx rfl)) (fun _ => t_or (t_test (v_op (v_cb (a_cons (v_var rfl) a_nil) (p_lenT hx)) v_c r_neI)) (fun _ => t_not (t_B (v_cb (a_cons (v_op (v_var rfl) v_c (r_iT hx rfl)) (a_cons v_c a_nil)) (p_isi (n := "str") (r := true) (fun H e => .base (.str _)) (by decide +kernel))))))) rfl) (fun z => by cases z) (fun _ => ?_)
    exact q_when (c := true) (t_is (t_test (v_opN (v_op (v_var rfl) v_c (r_iT hx rfl)) (n_tup (a_cons v_c (a_cons v_c a_nil)) (by decide)) (fun q b1 e hq => r_notInT (st_of hq) rfl rfl))) (by rw [hw]; rfl)) (fun _ => s_retV v_c hk) (fun z => by cases z)
  | six p c x1 x2 x3 x4 x5 r1 r2 r3 r4 r5 hx c1 c2 c3 c4 c5 no =>
    refine q_when (c := false) (t_is (t_or (t_not (isT hx rfl)) (fun _ => t_or (t_test (v_op (v_cb (a_cons (v_var rfl) a_nil) (p_lenT hx)) v_c r_neI)) (fun _ => t_not (t_B (v_cb (a_cons (v_op (v_var rfl) v_c (r_iT hx rfl)) (a_cons v_c a_nil)) (p_isi (n := "str") (r := true) (fun H e => .base (.str _)) (by decide +kernel))))))) rfl) (fun z => by cases z) (fun _ => ?_)
    refine q_when (c := false) (t_is (t_test (v_opN (v_op (v_var rfl) v_c (r_iT hx rfl)) (n_tup (a_cons v_c (a_cons v_c a_nil)) (by decide)) (fun q b1 e hq => r_notInT (st_of hq) rfl rfl))) (by rw [way_in]; rfl)) (fun z => by cases z) (fun _ => ?_)
    refine q_asg (Pe.c (v_var rfl) (g_tup hx rfl (gs_name (gs_name (gs_name (gs_name (gs_name (gs_name (gs_nil ?_)))))))))
    refine q_when (c := !(r1 && r2)) (t_is (t_or (t_not (t_B (v_call (by walk_at "v") (s_count c1)))) (fun _ => t_not (t_B (v_call (by walk_at "v") (s_count c2))))) (by rw [Bool.not_and])) (fun _ => s_retV v_c hk) (fun z => ?_)
    rw [Bool.not_eq_false'] at z
    rw [z, Bool.true_and] at no
    exact s_retV (v_is (v_andV (v_call (by walk_at "v") (s_count c3)) (fun _ => v_andV (v_call (by walk_at "v") (s_count c4)) (fun _ => v_call (by walk_at "v") (s_count c5)))) (by rw [no])) hk
theorem p_is_lift (h : sb_is_lift K vs b k ke) (hE : ∀ c b' H', ke c b' → Ex b' H' → E c none H') : Cs (t_is_lift K E) { nx := fun _ b' => k .non b', rt := k } (start ["thing", "way", "left", "top", "wide", "far", "pace"] vs) b := by
  rcases h with h | ⟨v, ev, hv, hk⟩
  rotate_left
  · subst ev
    exact p_is_bad hv hk
  obtain ⟨p, L, rfl, hp, g, hk⟩ := h
  refine q_when (c := false) (t_is (t_or (t_not (t_B (v_cb (a_cons (v_var rfl) (a_cons v_c a_nil)) (p_isi (n := "tuple") (r := true) (fun H e => sqt_ty (ex_t e hp)) (by decide +kernel))))) (fun _ => t_or (t_test (v_op (v_cb (a_cons (v_var rfl) a_nil) (p_lenT hp)) v_c r_neI))
    (fun _ => t_not (t_B (v_cb (a_cons (v_op (v_var rfl) v_c (r_iT hp rfl)) (a_cons v_c a_nil)) (p_isi (n := "str") (r := true) (fun H e => .base (.str _)) (by decide +kernel))))))) rfl) (fun c1 => by cases c1) (fun _ => ?_)
  refine q_when (c := false) (t_is (t_test (v_opN (v_op (v_var rfl) v_c (r_iT hp rfl)) (n_tup (a_cons v_c (a_cons v_c a_nil)) (by decide)) (fun q b1 e hq => r_notInT (st_of hq) rfl rfl))) (by rw [way_in]; rfl)) (fun c1 => by cases c1) (fun _ => ?_)
  refine q_asg (Pe.c (v_var rfl) (g_tup hp rfl (gs_name (gs_name (gs_name (gs_name (gs_name (gs_name (gs_nil ?_)))))))))
  refine q_when (c := false) (t_is (t_or (t_not (t_B (v_call (by walk_at "v") s_is_countI))) (fun _ => t_not (t_B (v_call (by walk_at "v") s_is_countI)))) ?_) (fun c1 => by cases c1) (fun _ => ?_)
  · simp [g.l, g.t]
  exact s_retV (v_is (v_andV (v_call (by walk_at "v") s_is_countI) (fun _ => v_andV (v_call (by walk_at "v") s_is_countI) (fun _ => v_call (by walk_at "v") s_is_countI))) (by simp [g.w, g.f, g.p])) hk
theorem p_need_lift (h : sb_need_lift K vs b k ke) (hE : ∀ c b' H', ke c b' → Ex b' H' → E c none H') : Cs (t_need_lift K E) { nx := fun _ b' => k .non b', rt := k } (start ["lift"] vs) b := by
  rcases h with h | ⟨v, ev, hv, hk⟩
  rotate_left
  · subst ev
    exact s_when (c := true) (t_is (t_not (t_B (v_call (z := .bl false) (a_cons (v_var rfl) a_nil) (fun k hk => .inr ⟨v, rfl, hv, hk⟩)))) rfl) (fun _ => s_raise hE hk) (fun z => by cases z)
  obtain ⟨p, L, rfl, hp, g, hk⟩ := h
  exact s_when (c := false) (t_is (t_not (t_B (v_call (by walk_at "v") (s_is_lift hp g)))) rfl) (fun c1 => by cases c1) (fun _ => hk)
theorem p_way_gone (h : sb_way_gone K vs b k ke) (hE : ∀ c b' H', ke c b' → Ex b' H' → E c none H') : Cs (t_way_gone K E) { nx := fun _ b' => k .non b', rt := k } (start ["lift", "time", "way", "left", "top", "wide", "far", "pace", "phase"] vs) b := by
  obtain ⟨p, L, time, rfl, hp, g, hk⟩ := h
  have h1 := g.f
  have h2 := g.p
  refine q_asg (Pe.c (v_var rfl) (g_tup hp rfl (gs_name (gs_name (gs_name (gs_name (gs_name (gs_name (gs_nil ?_)))))))))
  refine q_asgV (v_op (v_op (v_var rfl) (v_var rfl) (r_fdiv ⟨by omega, by omega⟩)) (v_op v_c (v_var rfl) (r_mul (.inl ⟨by decide, by decide⟩))) (r_mod (by omega))) ?_
  refine s_retV (v_is (v_if (by walk_at "v") (fun _ => by walk_at "v") (fun _ => by walk_at "v")) ?_) hk
  unfold goneM phaseM
  by_cases hc : time / L.pace % (2 * L.far) ≤ L.far
  · rw [if_pos (decide_eq_true hc), if_pos hc]
  · rw [if_neg (by simpa using hc), if_neg hc]
theorem p_place (h : sb_place K vs b k ke) (hE : ∀ c b' H', ke c b' → Ex b' H' → E c none H') : Cs (t_place K E) { nx := fun _ b' => k .non b', rt := k } (start ["lift", "time", "way", "left", "top"] vs) b := by
  obtain ⟨p, L, time, rfl, hp, g, hk⟩ := h
  refine q_asgT (vs := [.str (wayS L.across), .int L.left, .int L.top]) (n_slT (lo := none) (hi := some 3) (v_var rfl) o_none (o_some v_c) hp (fun q => absurd (show (3 : Nat) = 6 from q.2) (by decide))) rfl (gs_name (gs_name (gs_name (gs_nil ?_))))
  unfold placeX placeY at hk
  refine q_when (c := L.across) (t_is (by walk_at "v") (way_eq L.across)) (fun c1 => ?_) (fun c1 => ?_)
  · rw [if_pos c1, if_pos c1] at hk
    exact s_ret (Pn.c (n_pair (v_op (v_var rfl) (v_call (by walk_at "v") (s_way_gone hp g)) r_add) (v_var rfl)) hk)
  · have c2 : ¬ (L.across = true) := by rw [c1]; decide
    rw [if_neg c2, if_neg c2] at hk
    exact s_ret (Pn.c (n_pair (v_var rfl) (v_op (v_var rfl) (v_call (by walk_at "v") (s_way_gone hp g)) r_sub)) hk)
theorem p_lift_at (h : sb_lift_at K vs b k ke) (hE : ∀ c b' H', ke c b' → Ex b' H' → E c none H') : Cs (t_lift_at K E) { nx := fun _ b' => k .non b', rt := k } (start ["lift", "time"] vs) b := by
  rcases h with h | ⟨v, t, ev, hv, hk⟩
  rotate_left
  · subst ev
    exact q_drop (c_call (ke := ke) hE (Pa.c (a_cons (v_var rfl) a_nil) (.inr ⟨v, rfl, hv, hk⟩)))
  obtain ⟨p, L, time, rfl, hp, g, hk⟩ := h
  refine q_drop (Pe.c (v_call (by walk_at "v") (s_need_lift hp g)) ?_)
  exact s_ret (Pn.c (n_call (by walk_at "v") (s_place hp g)) hk)
end
/-! the way there and back, step by step -/
theorem imod_step (n m : Int) (hm : 0 < m) : (n + 1) % m = if n % m + 1 = m then 0 else n % m + 1 := by
  have h0 := Int.emod_nonneg n (show m ≠ 0 by omega)
  have h1 := Int.emod_lt_of_pos n hm
  have e : n % m + m * (n / m) = n := Int.emod_add_mul_ediv n m
  by_cases hc : n % m + 1 = m
  · rw [if_pos hc]
    have e2 : n + 1 = m * (n / m + 1) := by
      rw [Int.mul_add, Int.mul_one]
      omega
    rw [e2]
    exact Int.mul_emod_right m _
  · rw [if_neg hc]
    have e2 : n + 1 = (n % m + 1) + m * (n / m) := by omega
    rw [e2, Int.add_mul_emod_self_left]
    exact Int.emod_eq_of_lt (by omega) (by omega)
def GoInv (far n gone by_ : Int) : Prop := gone = phaseM far n ∧ ((by_ = 1 ∧ n % (2 * far) ≤ far ∧ (1 ≤ n % (2 * far) ∨ n = 0)) ∨ (by_ = -1 ∧ (far < n % (2 * far) ∨ (n % (2 * far) = 0 ∧ 0 < n))))
theorem GoInv.zero {far : Int} (h : 1 ≤ far) : GoInv far 0 0 1 := by
  unfold GoInv phaseM
  rw [Int.zero_emod]
  rw [if_pos (by omega)]
  exact ⟨rfl, .inl ⟨rfl, by omega, .inr rfl⟩⟩
theorem GoInv.step {far n gone by_ : Int} (h : 1 ≤ far) (hn : 0 ≤ n) (g : GoInv far n gone by_) :
    GoInv far (n + 1) (gone + (if gone + by_ < 0 ∨ far < gone + by_ then 0 - by_ else by_)) (if gone + by_ < 0 ∨ far < gone + by_ then 0 - by_ else by_) := by
  unfold GoInv phaseM at g ⊢
  have h0 := Int.emod_nonneg n (show 2 * far ≠ 0 by omega)
  have h1 := Int.emod_lt_of_pos n (show 0 < 2 * far by omega)
  have e := imod_step n (2 * far) (by omega)
  generalize n % (2 * far) = ph at *
  generalize (n + 1) % (2 * far) = ph' at *
  obtain ⟨g1, g2⟩ := g
  by_cases c1 : ph + 1 = 2 * far
  · rw [if_pos c1] at e
    subst e
    rcases g2 with ⟨r1, r2, r3⟩ | ⟨r1, r2⟩
    · by_cases c2 : gone + by_ < 0 ∨ far < gone + by_
      · rw [if_pos c2]
        split at g1 <;> (refine ⟨?_, ?_⟩ <;> (try split) <;> omega)
      · rw [if_neg c2]
        split at g1 <;> (refine ⟨?_, ?_⟩ <;> (try split) <;> omega)
    · by_cases c2 : gone + by_ < 0 ∨ far < gone + by_
      · rw [if_pos c2]
        split at g1 <;> (refine ⟨?_, ?_⟩ <;> (try split) <;> omega)
      · rw [if_neg c2]
        split at g1 <;> (refine ⟨?_, ?_⟩ <;> (try split) <;> omega)
  · rw [if_neg c1] at e
    subst e
    rcases g2 with ⟨r1, r2, r3⟩ | ⟨r1, r2⟩
    · by_cases c2 : gone + by_ < 0 ∨ far < gone + by_
      · rw [if_pos c2]
        split at g1 <;> (refine ⟨?_, ?_⟩ <;> (try split) <;> omega)
      · rw [if_neg c2]
        split at g1 <;> (refine ⟨?_, ?_⟩ <;> (try split) <;> omega)
    · by_cases c2 : gone + by_ < 0 ∨ far < gone + by_
      · rw [if_pos c2]
        split at g1 <;> (refine ⟨?_, ?_⟩ <;> (try split) <;> omega)
      · rw [if_neg c2]
        split at g1 <;> (refine ⟨?_, ?_⟩ <;> (try split) <;> omega)
section
variable {K : PySem.W.Frag} {σ : L2.St} {b : Hp} {vs : List V} {k : VK} {ke : XB} {E : XK}
def sb__law_lift_at (K : PySem.W.Frag) : Sb := fun vs b k _ => ∃ p L time, vs = [.ref p, .int time] ∧ SqT K b p (liftV L) ∧ GoodLift L ∧ (0 ≤ time ∧ time < 1000000) ∧ ∀ q, b q = none → k (.ref q) (upd b q (.tup [.int (placeX L time), .int (placeY L time)]))
theorem len__law_lift_at : ∀ vs b k ke, sb__law_lift_at K vs b k ke → vs.length = (["lift", "time"] : List Str).length := fun _ _ _ _ ⟨_, _, _, e, _⟩ => e ▸ rfl
def sb__law_lift (K : PySem.W.Frag) : Sb := fun vs b k _ => ∃ more a rows w, vs = [.int more, .ref a] ∧ 0 ≤ more ∧ SqL K b a (rowsV rows) ∧ GoodMap rows w ∧ ∀ L, GoodLift L → L.wide ≤ 30 → L.far ≤ 30 → L.pace ≤ 4 → ∀ p, b p = none → k (.ref p) (upd b p (.tup (liftV L)))
theorem len__law_lift : ∀ vs b k ke, sb__law_lift K vs b k ke → vs.length = (["more", "rows"] : List Str).length := fun _ _ _ _ ⟨_, _, _, _, e, _⟩ => e ▸ rfl
end
def t__law_lift_at (K : PySem.W.Frag) (E : XK) : TS := (tSeq (tAsg (tVar 0) (gTup K 6 (gCons (gName 2) (gCons (gName 3) (gCons (gName 4) (gCons (gName 5) (gCons (gName 6) (gCons (gName 7) gNil)))))))) (tSeq (tAsg (tTup (tCons (tC (.int 0)) (tCons (tC (.int 1)) tNil))) (gTup K 2 (gCons (gName 8) (gCons (gName 9) gNil)))) (tSeq (tFor (iRng1 (tCons (tOp rFdivU (tVar 1) (tVar 7)) tNil)) (gName 10) (tSeq (tIfS (tOr (tTest (tOp rLtI (tOp (rAddU K) (tVar 8) (tVar 9)) (tC (.int 0)))) (tTest (tOp rGtI (tOp (rAddU K) (tVar 8) (tVar 9)) (tVar 6)))) (tAsg (tOp rSubU (tC (.int 0)) (tVar 9)) (gName 9)) tNext) (tAsg (tOp (rAddU K) (tVar 8) (tVar 9)) (gName 8)))) (tRet (tIf (tTest (tOp (rEqU K) (tVar 2) (tC (.str "across")))) (tTup (tCons (tOp (rAddU K) (tVar 3) (tVar 8)) (tCons (tVar 4) tNil))) (tTup (tCons (tVar 3) (tCons (tOp rSubU (tVar 4) (tVar 8)) tNil))))))))
def t__law_lift (K : PySem.W.Frag) (E : XK) : TS := (tSeq (tAsg (tOp (rIx K) (tLst (tCons (tC (.str "across")) (tCons (tC (.str "up")) tNil))) (tOp rModI (tVar 0) (tC (.int 2)))) (gName 2)) (tSeq (tPar 3 4 (tCons (tOp rModI (tOp rFdivU (tVar 0) (tC (.int 2))) (tOp rMulU (tC (.int 8)) (tCB (rLenU K) (tCons (tOp (rIx K) (tVar 1) (tC (.int 0))) tNil)))) (tCons (tOp rModI (tOp rFdivU (tVar 0) (tC (.int 512))) (tOp rMulU (tC (.int 8)) (tCB (rLenU K) (tCons (tVar 1) tNil)))) tNil))) (tRet (tTup (tCons (tVar 2) (tCons (tVar 3) (tCons (tVar 4) (tCons (tOp (rAddU K) (tC (.int 4)) (tOp rModI (tOp rFdivU (tVar 0) (tOp rPowI (tC (.int 2)) (tC (.int 18)))) (tC (.int 20)))) (tCons (tOp (rAddU K) (tC (.int 1)) (tOp rModI (tOp rFdivU (tVar 0) (tOp rPowI (tC (.int 2)) (tC (.int 24)))) (tC (.int 30)))) (tCons (tOp (rAddU K) (tC (.int 1)) (tOp rModI (tOp rFdivU (tVar 0) (tOp rPowI (tC (.int 2)) (tC (.int 30)))) (tC (.int 4)))) tNil))))))))))
section
variable {K : PySem.W.Frag} {σ : L2.St} {b : Hp} {vs : List V} {k : VK} {ke : XB} {E : XK}
theorem s__law_lift_at {p : Addr} {L : Lift} {time : Int} (h : SqT K b p (liftV L)) (g : GoodLift L) (ht : 0 ≤ time ∧ time < 1000000) : Psn (sb__law_lift_at K) [.ref p, .int time] b (.tup [.int (placeX L time), .int (placeY L time)]) := fun k hk => ⟨p, L, time, rfl, h, g, ht, hk⟩
theorem p__law_lift_at (h : sb__law_lift_at K vs b k ke) (hE : ∀ c b' H', ke c b' → Ex b' H' → E c none H') : Cs (t__law_lift_at K E) { nx := fun _ b' => k .non b', rt := k } (start ["lift", "time", "way", "left", "top", "wide", "far", "pace", "gone", "by", "step"] vs) b := by
  obtain ⟨p, L, time, rfl, hp, g, ht, hk⟩ := h
  have h1 := g.f
  have h2 := g.p
  have hq0 : 0 ≤ time / L.pace := Int.ediv_nonneg ht.1 (by omega)
  have hq1 : time / L.pace ≤ time := Int.ediv_le_self _ ht.1
  refine q_asg (Pe.c (v_var rfl) (g_tup hp rfl (gs_name (gs_name (gs_name (gs_name (gs_name (gs_name (gs_nil ?_)))))))))
  refine q_asgT (n_tup (a_cons v_c (a_cons v_c a_nil)) (by decide)) rfl (gs_name (gs_name (gs_nil ?_)))
  refine s_seq (s_range1 (n := time / L.pace) (a_cons (v_op (v_var rfl) (v_var rfl) (r_fdiv ⟨by omega, by omega⟩)) a_nil) (by omega) (fun i σ' b' => ∃ (gone by_ : Int) (v10 : Option V), σ' = [some (.ref p), some (.int time), some (.str (wayS L.across)), some (.int L.left), some (.int L.top), some (.int L.wide), some (.int L.far), some (.int L.pace), some (.int gone), some (.int by_), v10] ∧ b = b' ∧ GoInv L.far i gone by_)
    ⟨0, 1, none, rfl, rfl, GoInv.zero h1.1⟩ ?_ ?_)
  · rintro i σ' b' hi ⟨gone, by_, v10, rfl, rfl, gi⟩
    refine g_name ?_
    have st := gi.step h1.1 (by omega)
    refine s_cut (fun σ' b' => σ' = [some (.ref p), some (.int time), some (.str (wayS L.across)), some (.int L.left), some (.int L.top), some (.int L.wide), some (.int L.far), some (.int L.pace), some (.int gone), some (.int (if gone + by_ < 0 ∨ L.far < gone + by_ then 0 - by_ else by_)), some (.int (i : Int))] ∧ b = b') ?_ ?_
    · refine s_when (by walk_at "v") (fun c1 => s_asgV (by walk_at "v") ⟨?_, rfl⟩) (fun c1 => ⟨?_, rfl⟩)
      · rw [if_pos (by simpa using c1)]
        rfl
      · rw [if_neg (by simpa using c1)]
        rfl
    · rintro σ' b' ⟨rfl, rfl⟩
      exact s_asgV (by walk_at "v") ⟨_, _, _, rfl, rfl, st⟩
  · rintro σ' b' ⟨gone, by_, v10, rfl, rfl, gi⟩
    have e1 : (((time / L.pace).toNat : Nat) : Int) = time / L.pace := by omega
    rw [e1] at gi
    have eg : gone = goneM L time := gi.1
    subst eg
    unfold placeX placeY at hk
    refine s_ret (c_if (kt := k) (c := L.across) (t_is (by walk_at "v") (way_eq L.across)) (fun c1 => ?_) (fun c1 => ?_))
    · rw [if_pos c1, if_pos c1] at hk
      exact Pn.c (n_pair (by walk_at "v") (by walk_at "v")) hk
    · have c2 : ¬ (L.across = true) := by rw [c1]; decide
      rw [if_neg c2, if_neg c2] at hk
      exact Pn.c (n_pair (by walk_at "v") (by walk_at "v")) hk
theorem pow18 : (2 : Int) ^ (18 : Int).toNat = 262144 := by decide
theorem pow24 : (2 : Int) ^ (24 : Int).toNat = 16777216 := by decide
theorem pow30 : (2 : Int) ^ (30 : Int).toNat = 1073741824 := by decide
theorem p__law_lift (h : sb__law_lift K vs b k ke) (hE : ∀ c b' H', ke c b' → Ex b' H' → E c none H') : Cs (t__law_lift K E) { nx := fun _ b' => k .non b', rt := k } (start ["more", "rows", "way", "left", "top"] vs) b := by
  obtain ⟨more, a, rows, w, rfl, h0, hm, g, hk⟩ := h
  have w1 := g.w1
  have w2 := g.w2
  have hh1 := g.h1
  have hh2 := g.h2
  have m0 : 0 ≤ more % 2 := Int.emod_nonneg _ (by decide)
  have m1 : more % 2 < 2 := Int.emod_lt_of_pos _ (by decide)
  have ew : ∀ n : Nat, n < 2 → (["across", "up"] : List Str).getD n Str.empty = wayS (decide (n = 0)) := by decide +kernel
  refine q_asgV (v := .str (wayS (decide ((more % 2).toNat = 0)))) (v_is (v_opN1 (n_lst (a_cons v_c (a_cons v_c a_nil)) (by decide)) (fun b1 _ => by walk_at "v") (fun p b1 _ hp => r_iL (sq_of hp) (at_rows ["across", "up"] m0 (by show _ < ((2 : Nat) : Int); omega)))) (by rw [ew _ (by omega)])) ?_
  refine q_par (a_cons (v_op (v_op (v_var rfl) v_c (r_fdiv ⟨by decide, by decide⟩)) (v_op v_c (v_w8 rfl hm g) r_mul8) (r_mod (by omega))) (a_cons (v_op (v_op (v_var rfl) v_c (r_fdiv ⟨by decide, by decide⟩)) (v_op v_c (v_h8 rfl hm) r_mul8) (r_mod (by omega))) a_nil)) ?_
  have x0 := Int.emod_nonneg (more / 2) (show (8 * (w : Int)) ≠ 0 by omega)
  have x1 := Int.emod_lt_of_pos (more / 2) (show 0 < (8 * (w : Int)) by omega)
  have y0 := Int.emod_nonneg (more / 512) (show (8 * (rows.length : Int)) ≠ 0 by omega)
  have y1 := Int.emod_lt_of_pos (more / 512) (show 0 < (8 * (rows.length : Int)) by omega)
  have L1 := hk ⟨decide ((more % 2).toNat = 0), more / 2 % (8 * (w : Int)), more / 512 % (8 * (rows.length : Int)), 4 + more / 262144 % 20, 1 + more / 16777216 % 30, 1 + more / 1073741824 % 4⟩
    ⟨⟨x0, by show more / 2 % (8 * (w : Int)) ≤ 400; omega⟩, ⟨y0, by show more / 512 % (8 * (rows.length : Int)) ≤ 400; omega⟩, by show 1 ≤ 4 + more / 262144 % 20 ∧ 4 + more / 262144 % 20 ≤ 400; omega, by show 1 ≤ 1 + more / 16777216 % 30 ∧ 1 + more / 16777216 % 30 ≤ 400; omega, by show 1 ≤ 1 + more / 1073741824 % 4 ∧ 1 + more / 1073741824 % 4 ≤ 100; omega⟩ (by show 4 + more / 262144 % 20 ≤ 30; omega) (by show 1 + more / 16777216 % 30 ≤ 30; omega) (by show 1 + more / 1073741824 % 4 ≤ 4; omega)
  refine s_ret (Pn.c (n_tup (a_cons (v_var rfl) (a_cons (v_var rfl) (a_cons (v_var rfl) (a_cons (v_op v_c (v_op (v_op (v_var rfl) (v_is (v_op v_c v_c (r_pow ⟨by decide, by decide, by decide⟩)) (by rw [pow18])) (r_fdiv ⟨by decide, by decide⟩)) v_c (r_mod (by decide))) r_add)
    (a_cons (v_op v_c (v_op (v_op (v_var rfl) (v_is (v_op v_c v_c (r_pow ⟨by decide, by decide, by decide⟩)) (by rw [pow24])) (r_fdiv ⟨by decide, by decide⟩)) v_c (r_mod (by decide))) r_add)
    (a_cons (v_op v_c (v_op (v_op (v_var rfl) (v_is (v_op v_c v_c (r_pow ⟨by decide, by decide, by decide⟩)) (by rw [pow30])) (r_fdivW (wide_div (b := 31) (by decide) (by decide) (by decide) (by decide)))) v_c (r_mod (by decide))) r_add) a_nil)))))) (by show 6 ≤ 100000; decide)) L1)
end

section
variable {K : PySem.W.Frag} {σ : L2.St} {b : Hp} {vs : List V} {k : VK} {ke : XB} {E : XK} {D : Ends} {tz : TS}
theorem cr_catT {l m : Addr} {xs ys : List V} (h1 : SqT K b l xs) (h2 : SqT K b m ys) (hx : xs ≠ []) (hy : ys ≠ []) (hz : xs.length + ys.length ≤ 100000) (hk : ∀ p, b p = none → k (.ref p) (upd b p (.tup (xs ++ ys)))) : Cr (rAddU K) (.ref l) (.ref m) b k := fun H a Q q =>
  .inr (.inr (.inr ⟨l, m, xs, ys, rfl, rfl, ex_t a h1, ex_t a h2, hx, sz_of hz, fun e => absurd e hy, fun _ p hp => q _ _ _ (hk p (ex_none a hp)) (ex_upd a)⟩))
theorem s_parC {i j : Nat} {ts : TA} (h : Ca ts σ b fun vs b1 => ∃ v w, vs = [v, w] ∧ D.nx ((σ.set i (some v)).set j (some w)) b1) : Cs (tPar i j ts) D σ b := fun H a D' l => h H a _ fun vs b1 H1 ⟨v, w, e, hk⟩ a1 => ⟨v, w, e, l.nx _ b1 H1 hk a1⟩
theorem q_parC {i j : Nat} {ts : TA} (h : Ca ts σ b fun vs b1 => ∃ v w, vs = [v, w] ∧ Cs tz D ((σ.set i (some v)).set j (some w)) b1) : Cs (tSeq (tPar i j ts) tz) D σ b := s_seq (s_parC h)
/-- a pair against a pair made on the way -/
theorem t_neN {ta tb : TE} {p : Addr} {i j i' j' : Int} (h1 : Pe ta σ b (.ref p)) (hp : SqT K b p [.int i, .int j]) (h2 : Pn tb σ b (.tup [.int i', .int j'])) : Pt (tTest (tOp (rNeU K) ta tb)) σ b (!decide (i = i' ∧ j = j')) :=
  t_is (t_test (v_opN h1 h2 (fun q b1 e hq => r_neD (dp_pr (ex_t e hp)) (dp_pr (st_of hq)) (sh_pr _ _) (sh_pr _ _)))) (by rw [eqv_pr])
theorem t_neN1 {ta tb : TE} {p : Addr} {i j i' j' : Int} (h1 : Pn ta σ b (.tup [.int i', .int j'])) (h2 : ∀ b1, Ex b b1 → Pe tb σ b1 (.ref p)) (hp : SqT K b p [.int i, .int j]) : Pt (tTest (tOp (rNeU K) ta tb)) σ b (!decide (i' = i ∧ j' = j)) :=
  t_is (t_test (v_opN1 h1 h2 (fun q b1 e hq => r_neD (dp_pr (st_of hq)) (dp_pr (ex_t e hp)) (sh_pr _ _) (sh_pr _ _)))) (by rw [eqv_pr])
theorem t_neNN {ta tb : TE} {i j i' j' : Int} (h1 : Pn ta σ b (.tup [.int i, .int j])) (h2 : ∀ b1, Ex b b1 → Pn tb σ b1 (.tup [.int i', .int j'])) : Pt (tTest (tOp (rNeU K) ta tb)) σ b (!decide (i = i' ∧ j = j')) :=
  t_is (t_test (v_opNN h1 h2 (fun q q' b1 e hq hq' => r_neD (dp_pr (st_of hq)) (dp_pr (st_of hq')) (sh_pr _ _) (sh_pr _ _)))) (by rw [eqv_pr])
end

/-! ### where lifts go -/
theorem phase_step (far n : Int) (h : 1 ≤ far) : phaseM far (n + 1) - phaseM far n ≤ 1 ∧ phaseM far n - phaseM far (n + 1) ≤ 1 := by
  unfold phaseM
  have h0 := Int.emod_nonneg n (show 2 * far ≠ 0 by omega)
  have h1 := Int.emod_lt_of_pos n (show 0 < 2 * far by omega)
  have e := imod_step n (2 * far) (by omega)
  generalize n % (2 * far) = ph at *
  generalize (n + 1) % (2 * far) = ph' at *
  split at e <;> (constructor <;> split <;> split <;> omega)
theorem phase_rng (far n : Int) (h : 1 ≤ far) : 0 ≤ phaseM far n ∧ phaseM far n ≤ far := by
  unfold phaseM
  have h0 := Int.emod_nonneg n (show 2 * far ≠ 0 by omega)
  have h1 := Int.emod_lt_of_pos n (show 0 < 2 * far by omega)
  split <;> omega
theorem div_step (t p : Int) (h : 1 ≤ p) : (t + 1) / p = t / p ∨ (t + 1) / p = t / p + 1 := by
  have e1 := Int.emod_add_mul_ediv t p
  have h0 := Int.emod_nonneg t (show p ≠ 0 by omega)
  have h1 := Int.emod_lt_of_pos t (show 0 < p by omega)
  by_cases hc : t % p + 1 = p
  · right
    have e2 : t + 1 = p * (t / p + 1) := by rw [Int.mul_add, Int.mul_one]; omega
    rw [e2, Int.mul_ediv_cancel_left _ (by omega)]
  · left
    have e2 : t + 1 = (t % p + 1) + p * (t / p) := by omega
    rw [e2, Int.add_mul_ediv_left _ _ (by omega), Int.ediv_eq_zero_of_lt (by omega) (by omega)]
    omega
theorem gone_step (L : Lift) (g : GoodLift L) (t : Int) : goneM L (t + 1) - goneM L t ≤ 1 ∧ goneM L t - goneM L (t + 1) ≤ 1 := by
  unfold goneM
  have h := phase_step L.far (t / L.pace) g.f.1
  rcases div_step t L.pace g.p.1 with e | e
  · rw [e]
    omega
  · rw [e]
    exact h
theorem gone_round (L : Lift) (g : GoodLift L) (t : Int) : goneM L (t + 2 * L.far * L.pace) = goneM L t := by
  unfold goneM phaseM
  have h := g.p
  have e : (t + 2 * L.far * L.pace) / L.pace = t / L.pace + 2 * L.far := Int.add_mul_ediv_right _ _ (by omega)
  rw [e]
  have e2 : (t / L.pace + 2 * L.far) % (2 * L.far) = t / L.pace % (2 * L.far) := Int.add_emod_right _ _
  rw [e2]
theorem place_zero (L : Lift) (g : GoodLift L) : placeX L 0 = L.left ∧ placeY L 0 = L.top := by
  have e : goneM L 0 = 0 := by
    unfold goneM phaseM
    rw [Int.zero_ediv, Int.zero_emod]
    have := g.f
    rw [if_pos (by omega)]
  unfold placeX placeY
  rw [e]
  constructor <;> split <;> omega
theorem place_round (L : Lift) (g : GoodLift L) (t : Int) : placeX L (t + 2 * L.far * L.pace) = placeX L t ∧ placeY L (t + 2 * L.far * L.pace) = placeY L t := by
  unfold placeX placeY
  rw [gone_round L g]
  exact ⟨rfl, rfl⟩
def absI (i : Int) : Int := if i < 0 then -i else i
theorem place_step (L : Lift) (g : GoodLift L) (t : Int) : absI (placeX L t - placeX L (t + 1)) + absI (placeY L t - placeY L (t + 1)) ≤ 1 := by
  have h := gone_step L g t
  unfold placeX placeY absI
  by_cases c : L.across = true
  · simp only [c, if_true]
    split <;> split <;> omega
  · simp only [c, if_false]
    split <;> split <;> omega
theorem place_far (L : Lift) (g : GoodLift L) (t : Int) : absI (placeX L t - L.left) + absI (placeY L t - L.top) ≤ L.far := by
  have h := phase_rng L.far (t / L.pace) g.f.1
  unfold placeX placeY absI goneM
  by_cases c : L.across = true
  · simp only [c, if_true]
    split <;> split <;> omega
  · simp only [c, if_false]
    split <;> split <;> omega

/-! ### worlds -/
structure CW (K : PySem.W.Frag) : Prop where
  cl : Cls K (He.ga K "World")
  rows : NoAttr K (He.ga K "World") "rows"
  lifts : NoAttr K (He.ga K "World") "lifts"
structure Wd where
  rows : List Str
  w : Nat
  lifts : List Lift
def wf (ra la : Addr) : List (Str × V) := [("rows", .ref ra), ("lifts", .ref la)]
theorem wf_rows (ra la : Addr) : (wf ra la).lookup ("rows" : Str) = some (.ref ra) := by kernel_rfl
theorem wf_lifts (ra la : Addr) : (wf ra la).lookup ("lifts" : Str) = some (.ref la) := by kernel_rfl
/-- a list of lifts -/
def LiftsAt (K : PySem.W.Frag) (b : Hp) (la : Addr) (Ls : List Lift) : Prop := ∃ ps : List Addr, SqL K b la (ps.map V.ref) ∧ ps.length = Ls.length ∧ ∀ (i : Nat) (p : Addr) (L : Lift), ps[i]? = some p → Ls[i]? = some L → SqT K b p (liftV L)
theorem LiftsAt.ex {K : PySem.W.Frag} {b b' : Hp} {la : Addr} {Ls : List Lift} (h : LiftsAt K b la Ls) (e : Ex b b') : LiftsAt K b' la Ls := by
  obtain ⟨ps, h1, h2, h3⟩ := h
  exact ⟨ps, ex_l e h1, h2, fun i p L a c => ex_t e (h3 i p L a c)⟩
structure GoodWd (W : Wd) : Prop where
  map : GoodMap W.rows W.w
  lifts : ∀ L ∈ W.lifts, GoodLift L
  few : W.lifts.length ≤ 1000
structure WAt (K : PySem.W.Frag) (b : Hp) (wa : Addr) (W : Wd) : Prop where
  cw : CW K
  ins : ∃ dx ra la, b wa = some (.ins (He.ga K "World") dx (wf ra la)) ∧ SqL K b ra (rowsV W.rows) ∧ LiftsAt K b la W.lifts
  good : GoodWd W
theorem WAt.ex {K : PySem.W.Frag} {b b' : Hp} {wa : Addr} {W : Wd} (h : WAt K b wa W) (e : Ex b b') : WAt K b' wa W := by
  obtain ⟨dx, ra, la, h1, h2, h3⟩ := h.ins
  exact ⟨h.cw, ⟨dx, ra, la, e _ _ h1, ex_l e h2, h3.ex e⟩, h.good⟩
def isUnder (l t time : Int) (L : Lift) : Bool := decide (placeY L time = t + 10) && (decide (placeX L time < l + 6) && decide (l < placeX L time + L.wide))
def underIx (W : Wd) (l t time : Int) : List Nat := (List.range W.lifts.length).filter fun i => match W.lifts[i]? with
  | some L => isUnder l t time L
  | none => false
def onLedgeM (W : Wd) (l t : Int) : Bool := (List.range 6).any fun r => ledgeM W.rows W.w (l + (r : Nat)) (t + 10)
def floorM (W : Wd) (l t time : Int) (drop : Bool) : Bool := !freeM W.rows W.w l (t + 1) || (!drop && (onLedgeM W l t || W.lifts.any (isUnder l t time)))
section
variable {K : PySem.W.Frag} {σ : L2.St} {b : Hp} {vs : List V} {k : VK} {ke : XB} {E : XK}
def sb_World_is_free (K : PySem.W.Frag) : Sb := fun vs b k _ => ∃ wa W l t, vs = [.ref wa, .int l, .int t] ∧ WAt K b wa W ∧ k (.bl (freeM W.rows W.w l t)) b
theorem len_World_is_free : ∀ vs b k ke, sb_World_is_free K vs b k ke → vs.length = (["self", "left", "top"] : List Str).length := fun _ _ _ _ ⟨_, _, _, _, e, _⟩ => e ▸ rfl
def sb_World_under (K : PySem.W.Frag) : Sb := fun vs b k _ => ∃ wa W l t time, vs = [.ref wa, .int l, .int t, .int time] ∧ WAt K b wa W ∧ ∀ p, b p = none → k (.ref p) (upd b p (.lst ((underIx W l t time).map fun i => V.int (i : Nat))))
theorem len_World_under : ∀ vs b k ke, sb_World_under K vs b k ke → vs.length = (["self", "left", "top", "time"] : List Str).length := fun _ _ _ _ ⟨_, _, _, _, _, e, _⟩ => e ▸ rfl
def sb_World_is_on_ledge (K : PySem.W.Frag) : Sb := fun vs b k _ => ∃ wa W l t, vs = [.ref wa, .int l, .int t] ∧ WAt K b wa W ∧ k (.bl (onLedgeM W l t)) b
theorem len_World_is_on_ledge : ∀ vs b k ke, sb_World_is_on_ledge K vs b k ke → vs.length = (["self", "left", "top"] : List Str).length := fun _ _ _ _ ⟨_, _, _, _, e, _⟩ => e ▸ rfl
def sb_World_is_on_floor (K : PySem.W.Frag) : Sb := fun vs b k _ => ∃ wa W l t time d, vs = [.ref wa, .int l, .int t, .int time, .bl d] ∧ WAt K b wa W ∧ k (.bl (floorM W l t time d)) b
theorem len_World_is_on_floor : ∀ vs b k ke, sb_World_is_on_floor K vs b k ke → vs.length = (["self", "left", "top", "time", "is_dropping"] : List Str).length := fun _ _ _ _ ⟨_, _, _, _, _, _, e, _⟩ => e ▸ rfl
/-- what is no world: no map, or a bad lift behind good ones -/
inductive BadWorldV (K : PySem.W.Frag) (b : Hp) (ke : XB) : V → V → Prop where
  | map {v la : V} (h : BadMapV K b v) (hk : ke (.ref (He.ga K "BadMap")) b) : BadWorldV K b ke v la
  | lift {v : V} (a la : Addr) (rows : List Str) (w : Nat) (xs : List V) (i : Nat) (h : SqL K b a (rowsV rows)) (g : GoodMap rows w) (hx : SqL K b la xs) (hi : xs[i]? = some v) (hv : BadLiftV K b v) (hg : ∀ j, j < i → ∃ p L, xs[j]? = some (.ref p) ∧ SqT K b p (liftV L) ∧ GoodLift L) (hk : ke (.ref (He.ga K "BadLift")) b) : BadWorldV K b ke (.ref a) (.ref la)
def sb_World___init__ (K : PySem.W.Frag) : Sb := fun vs b k ke => (∃ x v la, vs = [.ref x, v, la] ∧ BadWorldV K b ke v la) ∨ ∃ wa dx a la W, vs = [.ref wa, .ref a, .ref la] ∧ CW K ∧ b wa = some (.ins (He.ga K "World") dx []) ∧ SqL K b a (rowsV W.rows) ∧ LiftsAt K b la W.lifts ∧ GoodWd W ∧
  ∀ b', Ex (fun x => if x = wa then none else b x) b' → WAt K b' wa W → k .non b'
theorem len_World___init__ : ∀ vs b k ke, sb_World___init__ K vs b k ke → vs.length = (["self", "rows", "lifts"] : List Str).length := fun _ _ _ _ h => by
  rcases h with ⟨_, _, _, e, _⟩ | ⟨_, _, _, _, _, e, _⟩ <;> exact e ▸ rfl
end
def t_World___init__ (K : PySem.W.Frag) (E : XK) : TS := (tSeq (tDrop (tCall (up (sb_need_map K)) [] E (tCons (tVar 1) tNil))) (tSeq (tFor (iList K (tVar 2)) (gName 3) (tDrop (tCall (up (sb_need_lift K)) [] E (tCons (tVar 3) tNil)))) (tSeq (sFld K (tVar 0) (tCB (rListA K) (tCons (tVar 1) tNil)) "rows") (sFld K (tVar 0) (tCB (rListA K) (tCons (tVar 2) tNil)) "lifts"))))
def t_World_is_free (K : PySem.W.Frag) (E : XK) : TS := (tSeq (tFor (iRng1 (tCons (tC (.int 10)) tNil)) (gName 3) (tFor (iRng1 (tCons (tC (.int 6)) tNil)) (gName 4) (tIfS (tB (tCall (up (sb_solid K)) [] E (tCons (tFld K (tVar 0) "rows") (tCons (tOp (rAddU K) (tVar 1) (tVar 4)) (tCons (tOp (rAddU K) (tVar 2) (tVar 3)) tNil))))) (tRet (tC (.bl false))) tNext))) (tRet (tC (.bl true))))
def t_World_under (K : PySem.W.Frag) (E : XK) : TS := (tSeq (tAsg (tLst tNil) (gName 4)) (tSeq (tFor (iEnum K (tCons (tFld K (tVar 0) "lifts") tNil)) (gTup K 2 (gCons (gName 5) (gCons (gName 6) gNil))) (tSeq (tAsg (tCall (up (sb_place K)) [] E (tCons (tVar 6) (tCons (tVar 3) tNil))) (gTup K 2 (gCons (gName 7) (gCons (gName 8) gNil)))) (tIfS (tAnd (tTest (tOp (rEqU K) (tVar 8) (tOp (rAddU K) (tVar 2) (tC (.int 10))))) (tAnd (tTest (tOp rLtI (tVar 7) (tOp (rAddU K) (tVar 1) (tC (.int 6))))) (tTest (tOp rLtI (tVar 1) (tOp (rAddU K) (tVar 7) (tOp (rIx K) (tVar 6) (tC (.int 3)))))))) (tDrop (tBM K "list" rAppend (tVar 4) (tCons (tVar 5) tNil))) tNext))) (tRet (tVar 4))))
def t_World_is_on_ledge (K : PySem.W.Frag) (E : XK) : TS := (tRet (tCB (rAny K) (tCons (tLc (iRng1 (tCons (tC (.int 6)) tNil)) (gName 3) tYes (tCall (up (sb_is_ledge K)) [] E0 (tCons (tFld K (tVar 0) "rows") (tCons (tOp (rAddU K) (tVar 1) (tVar 3)) (tCons (tOp (rAddU K) (tVar 2) (tC (.int 10))) tNil)))) [3]) tNil)))
def t_World_is_on_floor (K : PySem.W.Frag) (E : XK) : TS := (tSeq (tIfS (tNot (tB (tMeth (He.ga K "World") "is_free" (up (sb_World_is_free K)) [] E (tVar 0) (tCons (tVar 1) (tCons (tOp (rAddU K) (tVar 2) (tC (.int 1))) tNil))))) (tRet (tC (.bl true))) tNext) (tSeq (tIfS (tB (tVar 4)) (tRet (tC (.bl false))) tNext) (tRet (tOrV (tMeth (He.ga K "World") "is_on_ledge" (up (sb_World_is_on_ledge K)) [] E (tVar 0) (tCons (tVar 1) (tCons (tVar 2) tNil))) (tOp (rNeU K) (tMeth (He.ga K "World") "under" (up (sb_World_under K)) [] E (tVar 0) (tCons (tVar 1) (tCons (tVar 2) (tCons (tVar 3) tNil)))) (tLst tNil))))))
section
variable {K : PySem.W.Frag} {σ : L2.St} {b : Hp} {vs : List V} {k : VK} {ke : XB} {E : XK}
theorem s_World_is_free {wa : Addr} {W : Wd} {l t : Int} (h : WAt K b wa W) : Ps (sb_World_is_free K) [.ref wa, .int l, .int t] b (.bl (freeM W.rows W.w l t)) := fun k hk => ⟨wa, W, l, t, rfl, h, hk⟩
theorem s_World_under {wa : Addr} {W : Wd} {l t time : Int} (h : WAt K b wa W) : Psn (sb_World_under K) [.ref wa, .int l, .int t, .int time] b (.lst ((underIx W l t time).map fun i => V.int (i : Nat))) := fun k hk => ⟨wa, W, l, t, time, rfl, h, hk⟩
theorem s_World_is_on_ledge {wa : Addr} {W : Wd} {l t : Int} (h : WAt K b wa W) : Ps (sb_World_is_on_ledge K) [.ref wa, .int l, .int t] b (.bl (onLedgeM W l t)) := fun k hk => ⟨wa, W, l, t, rfl, h, hk⟩
theorem s_World_is_on_floor {wa : Addr} {W : Wd} {l t time : Int} {d : Bool} (h : WAt K b wa W) : Ps (sb_World_is_on_floor K) [.ref wa, .int l, .int t, .int time, .bl d] b (.bl (floorM W l t time d)) := fun k hk => ⟨wa, W, l, t, time, d, rfl, h, hk⟩
theorem wf_none {m : Str} (ra la : Addr) (h1 : m ≠ "rows") (h2 : m ≠ "lifts") : (wf ra la).lookup m = none := by
  unfold wf
  rw [List.lookup_cons, beq_false_of_ne h1, List.lookup_cons, beq_false_of_ne h2]
  rfl
/-- self.is_free(..) and its like, self in slot i -/
theorem v_free {wa : Addr} {W : Wd} {to : TE} {ts : TA} {l t : Int} (hW : WAt K b wa W) (ho : Pe to σ b (.ref wa)) (hs : Pa ts σ b [.int l, .int t]) : Pe (tMeth (He.ga K "World") "is_free" (up (sb_World_is_free K)) [] E to ts) σ b (.bl (freeM W.rows W.w l t)) := by
  obtain ⟨dx, ra, la, h1, h2, h3⟩ := hW.ins
  exact v_meth ho h1 (wf_none _ _ (by decide +kernel) (by decide +kernel)) hs (s_World_is_free hW)
theorem v_ledge {wa : Addr} {W : Wd} {to : TE} {ts : TA} {l t : Int} (hW : WAt K b wa W) (ho : Pe to σ b (.ref wa)) (hs : Pa ts σ b [.int l, .int t]) : Pe (tMeth (He.ga K "World") "is_on_ledge" (up (sb_World_is_on_ledge K)) [] E to ts) σ b (.bl (onLedgeM W l t)) := by
  obtain ⟨dx, ra, la, h1, h2, h3⟩ := hW.ins
  exact v_meth ho h1 (wf_none _ _ (by decide +kernel) (by decide +kernel)) hs (s_World_is_on_ledge hW)
theorem n_under {wa : Addr} {W : Wd} {to : TE} {ts : TA} {l t time : Int} (hW : WAt K b wa W) (ho : Pe to σ b (.ref wa)) (hs : Pa ts σ b [.int l, .int t, .int time]) : Pn (tMeth (He.ga K "World") "under" (up (sb_World_under K)) [] E to ts) σ b (.lst ((underIx W l t time).map fun i => V.int (i : Nat))) := by
  obtain ⟨dx, ra, la, h1, h2, h3⟩ := hW.ins
  exact n_meth ho h1 (wf_none _ _ (by decide +kernel) (by decide +kernel)) hs (s_World_under hW)
theorem v_floor {wa : Addr} {W : Wd} {to : TE} {ts : TA} {l t time : Int} {d : Bool} (hW : WAt K b wa W) (ho : Pe to σ b (.ref wa)) (hs : Pa ts σ b [.int l, .int t, .int time, .bl d]) : Pe (tMeth (He.ga K "World") "is_on_floor" (up (sb_World_is_on_floor K)) [] E to ts) σ b (.bl (floorM W l t time d)) := by
  obtain ⟨dx, ra, la, h1, h2, h3⟩ := hW.ins
  exact v_meth ho h1 (wf_none _ _ (by decide +kernel) (by decide +kernel)) hs (s_World_is_on_floor hW)
theorem p_World_is_free (h : sb_World_is_free K vs b k ke) (hE : ∀ c b' H', ke c b' → Ex b' H' → E c none H') : Cs (t_World_is_free K E) { nx := fun _ b' => k .non b', rt := k } (start ["self", "left", "top", "down", "right"] vs) b := by
  obtain ⟨wa, W, l, t, rfl, hW, hk⟩ := h
  obtain ⟨dx, ra, la, h1, hm, h3⟩ := hW.ins
  have g := hW.good.map
  have fR : ∀ {s : L2.St}, s[0]? = some (some (.ref wa)) → Pe (tFld K (tVar 0) "rows") s b (.ref ra) := fun hs => v_fld (v_var hs) h1 hW.cw.cl hW.cw.rows (wf_rows _ _)
  refine s_seq (s_range1 (by walk_at "v") (by decide) (fun i σ' b' => ∃ v3 v4 : Option V, σ' = [some (.ref wa), some (.int l), some (.int t), v3, v4] ∧ b = b' ∧ ∀ d r : Nat, d < i → r < 6 → solidM W.rows W.w (l + r) (t + d) = false)
    ⟨none, none, rfl, rfl, fun d r hd => by omega⟩ ?_ ?_)
  · rintro i σ' b' hi ⟨v3, v4, rfl, rfl, hn⟩
    refine g_name ?_
    refine s_range1 (by walk_at "v") (by decide) (fun j σ' b' => ∃ v4 : Option V, σ' = [some (.ref wa), some (.int l), some (.int t), some (.int i), v4] ∧ b = b' ∧ ∀ r : Nat, r < j → solidM W.rows W.w (l + r) (t + i) = false)
      ⟨v4, rfl, rfl, fun r hr => by omega⟩ ?_ ?_
    · rintro j σ' b' hj ⟨v4, rfl, rfl, hn2⟩
      refine g_name ?_
      refine s_when (t_B (v_call (a_cons (fR rfl) (by walk_at "v")) (s_solid hm g))) (fun c1 => s_retV v_c ?_) (fun c1 => ⟨_, rfl, rfl, fun r hr => ?_⟩)
      · rw [free_false (d := i) (r := j) (by omega) (by omega) c1] at hk
        exact hk
      · by_cases e : r = j
        · rw [e]
          exact c1
        · exact hn2 r (by omega)
    · rintro σ' b' ⟨v4, rfl, rfl, hn2⟩
      refine ⟨_, _, rfl, rfl, fun d r hd hr => ?_⟩
      by_cases e : d = i
      · rw [e]
        exact hn2 r hr
      · exact hn d r (by omega) hr
  · rintro σ' b' ⟨v3, v4, rfl, rfl, hn⟩
    refine s_retV v_c ?_
    rw [free_true (fun d r hd hr => hn d r hd hr)] at hk
    exact hk
theorem any_range {n : Nat} (f : Nat → Bool) : ((List.range n).map f).any id = (List.range n).any f := by
  rw [List.any_map]
  rfl
theorem p_World_is_on_ledge (h : sb_World_is_on_ledge K vs b k ke) (hE : ∀ c b' H', ke c b' → Ex b' H' → E c none H') : Cs (t_World_is_on_ledge K E) { nx := fun _ b' => k .non b', rt := k } (start ["self", "left", "top", "right"] vs) b := by
  obtain ⟨wa, W, l, t, rfl, hW, hk⟩ := h
  obtain ⟨dx, ra, la, h1, hm, h3⟩ := hW.ins
  have g := hW.good.map
  refine s_retV (v_is (v_anyN (bs := (List.range (6 : Int).toNat).map fun r => ledgeM W.rows W.w (l + (r : Nat)) (t + 10)) (n_lcR (n := 6) (fun _ => true) (fun r => .bl (ledgeM W.rows W.w (l + (r : Nat)) (t + 10))) (by walk_at "v") (by decide) (fun x => rfl) (fun i b1 _ _ => t_yes) (fun i b1 hi _ e => ?_)) ?_) (by rw [any_range]; rfl)) hk
  · have fR : ∀ {s : L2.St}, s[0]? = some (some (.ref wa)) → Pe (tFld K (tVar 0) "rows") s b1 (.ref ra) := fun hs => v_fld (v_var hs) (e _ _ h1) hW.cw.cl hW.cw.rows (wf_rows _ _)
    exact v_call (a_cons (fR rfl) (by walk_at "v")) (s_is_ledge (ex_l e hm) g)
  · rw [filter_yes, List.map_map]
    rfl
theorem range_filter_succ (n : Nat) (P : Nat → Bool) : (List.range (n + 1)).filter P = (List.range n).filter P ++ (if P n = true then [n] else []) := by
  rw [List.range_succ, List.filter_append]
  congr 1
  rw [List.filter_cons]
  by_cases h : P n = true
  · rw [if_pos h, if_pos h] <;> rfl
  · rw [if_neg h, if_neg h] <;> rfl
theorem p_World_under (h : sb_World_under K vs b k ke) (hE : ∀ c b' H', ke c b' → Ex b' H' → E c none H') : Cs (t_World_under K E) { nx := fun _ b' => k .non b', rt := k } (start ["self", "left", "top", "time", "found", "at", "lift", "mine", "row"] vs) b := by
  obtain ⟨wa, W, l, t, time, rfl, hW, hk⟩ := h
  obtain ⟨dx, ra, la, h1, hm, ps, hps, hlen, hl⟩ := hW.ins
  have few := hW.good.few
  refine q_asgN (n_lst a_nil (by decide)) (fun f hf => ?_)
  have nwf : wa ≠ f := ne_of_none h1 hf
  have P : Nat → Bool := fun i => match W.lifts[i]? with
    | some L => isUnder l t time L
    | none => false
  have fL : ∀ {s : L2.St} {xs : List V}, s[0]? = some (some (.ref wa)) → Pe (tFld K (tVar 0) "lifts") s (upd b f (.lst xs)) (.ref la) := fun hs => v_fld (v_var hs) (by rw [upd_ne nwf]; exact h1) hW.cw.cl hW.cw.lifts (wf_lifts _ _)
  refine s_seq (s_enum (a_cons (fL rfl) a_nil) (ex_l (Ex.new hf) hps) (fun i σ' b' => ∃ v5 v6 v7 v8 : Option V, σ' = [some (.ref wa), some (.int l), some (.int t), some (.int time), some (.ref f), v5, v6, v7, v8] ∧ b' = upd b f (.lst (((List.range i).filter fun i => match W.lifts[i]? with
    | some L => isUnder l t time L
    | none => false).map fun i => V.int (i : Nat))))
    ⟨_, _, _, _, rfl, rfl⟩ (fun i σ' b' _ ⟨_, _, _, _, _, e⟩ => by rw [e]; exact ex_l (Ex.new hf) hps) ?_ ?_)
  · rintro i x σ' b' hi ⟨v5, v6, v7, v8, rfl, rfl⟩
    obtain ⟨p, hpi, rfl⟩ : ∃ p, ps[i]? = some p ∧ x = V.ref p := by
      rw [List.getElem?_map] at hi
      cases e : ps[i]? with
      | none => rw [e] at hi; cases hi
      | some p => rw [e] at hi; exact ⟨p, rfl, (Option.some.inj hi).symm⟩
    have hlt : i < W.lifts.length := by
      have := (List.getElem?_eq_some_iff.mp hpi).1
      omega
    have hLi : W.lifts[i]? = some W.lifts[i] := List.getElem?_eq_getElem hlt
    have gL := hW.good.lifts _ (List.getElem_mem hlt)
    have hp0 := hl i p _ hpi hLi
    have step := range_filter_succ i (fun i => match W.lifts[i]? with
      | some L => isUnder l t time L
      | none => false)
    rw [hLi] at step
    generalize W.lifts[i] = L at gL hp0 step
    have hp1 : SqT K (upd b f (.lst (((List.range i).filter fun i => match W.lifts[i]? with
      | some L => isUnder l t time L
      | none => false).map fun i => V.int (i : Nat)))) p (liftV L) := ex_t (Ex.new hf) hp0
    refine gs_name (gs_name (gs_nil ?_))
    refine q_asgT (n_call (by walk_at "v") (s_place hp1 gL)) rfl (gs_name (gs_name (gs_nil ?_)))
    refine s_when (c := isUnder l t time L) (t_is (t_and (by walk_at "v") (fun _ => t_and (by walk_at "v") (fun _ => t_test (v_op (v_var rfl) (v_op (v_var rfl) (v_op (v_var rfl) v_c (r_iT hp1 rfl)) r_add) r_lt)))) rfl) (fun c1 => s_drop (c_append (v_var rfl) (v_var rfl) upd_same ?_ ⟨_, _, _, _, rfl, ?_⟩)) (fun c1 => ⟨_, _, _, _, rfl, ?_⟩)
    · rw [List.length_map]
      exact Nat.lt_of_le_of_lt (List.length_filter_le _ _) (by rw [List.length_range]; omega)
    · rw [upd_upd, step]
      dsimp only
      rw [if_pos c1, List.map_append]
      rfl
    · rw [step]
      dsimp only
      rw [if_neg (by rw [c1]; decide), List.append_nil]
  · rintro σ' b' ⟨v5, v6, v7, v8, rfl, rfl⟩
    refine s_retV (v_var rfl) ?_
    have e : (ps.map V.ref).length = W.lifts.length := by rw [List.length_map]; exact hlen
    rw [e]
    exact hk f hf
theorem under_nil {W : Wd} {l t time : Int} : decide ((underIx W l t time).map (fun i => ((i : Nat) : Int)) = []) = !W.lifts.any (isUnder l t time) := by
  have key : (underIx W l t time = []) ↔ W.lifts.any (isUnder l t time) = false := by
    unfold underIx
    rw [List.filter_eq_nil_iff, List.any_eq_false]
    constructor
    · intro h L hL
      obtain ⟨i, hi, rfl⟩ := List.getElem_of_mem hL
      have := h i (List.mem_range.mpr hi)
      rw [List.getElem?_eq_getElem hi] at this
      exact this
    · intro h i hi
      have hi2 := List.mem_range.mp hi
      rw [List.getElem?_eq_getElem hi2]
      exact h _ (List.getElem_mem hi2)
  cases e : W.lifts.any (isUnder l t time) with
  | false =>
    rw [key.mpr e]
    rfl
  | true =>
    have n : ¬ ((underIx W l t time).map (fun i => ((i : Nat) : Int)) = []) := fun q => by
      have := key.mp (List.map_eq_nil_iff.mp q)
      rw [e] at this
      cases this
    rw [decide_eq_false n]
    rfl
theorem map_int (l : List Nat) : (l.map fun i => V.int (i : Nat)) = (l.map fun i => ((i : Nat) : Int)).map V.int := by
  rw [List.map_map]
  rfl
theorem p_World_is_on_floor (h : sb_World_is_on_floor K vs b k ke) (hE : ∀ c b' H', ke c b' → Ex b' H' → E c none H') : Cs (t_World_is_on_floor K E) { nx := fun _ b' => k .non b', rt := k } (start ["self", "left", "top", "time", "is_dropping"] vs) b := by
  obtain ⟨wa, W, l, t, time, d, rfl, hW, hk⟩ := h
  unfold floorM at hk
  refine q_when (t_not (t_B (v_free hW (v_var rfl) (by walk_at "v")))) (fun c1 => s_retV v_c ?_) (fun c1 => ?_)
  · rw [c1, Bool.true_or] at hk
    exact hk
  rw [c1, Bool.false_or] at hk
  refine q_when (t_B (v_var rfl)) (fun c2 => s_retV v_c ?_) (fun c2 => ?_)
  · rw [c2] at hk
    exact hk
  rw [c2] at hk
  refine s_retV (v_is (v_orV (v_ledge hW (v_var rfl) (by walk_at "v")) (fun _ => v_opNN (n_under hW (v_var rfl) (by walk_at "v")) (fun b1 _ => n_lst a_nil (by decide)) (fun p p' b1 e hp hp' => r_neD (dp_ints (l := (underIx W l t time).map fun i => ((i : Nat) : Int)) (by rw [← map_int]; exact sq_of hp)) (dp_ints (l := []) (sq_of hp')) (sh_ints _) (sh_ints _)))) ?_) hk
  rw [eqv_ints, under_nil, Bool.not_not]
  rfl
theorem putF_hit (f : Str) (v w : V) (r : List (Str × V)) : putF f v ((f, w) :: r) = (f, v) :: r := by
  show (if f = f then _ else _) = _
  rw [if_pos rfl]
theorem putF_miss {f g : Str} (h : g ≠ f) (v w : V) (r : List (Str × V)) : putF f v ((g, w) :: r) = (g, w) :: putF f v r := by
  show (if g = f then _ else _) = _
  rw [if_neg h]
theorem putF_nil (f : Str) (v : V) : putF f v [] = [(f, v)] := rfl
/-- without x -/
theorem ex_but {b b' : Hp} {x : Addr} {o : HO} (e : Ex b b') : Ex (fun y => if y = x then none else b y) (upd b' x o) := fun y u h => by
  have h : (if y = x then none else b y) = some u := h
  by_cases hy : y = x
  · rw [if_pos hy] at h
    cases h
  · rw [if_neg hy] at h
    rw [upd_ne hy]
    exact e y u h
theorem ex_but_l {x : Addr} {a : Addr} {xs : List V} {C dx : Addr} {fs : List (Str × V)} (hx : b x = some (.ins C dx fs)) (h : SqL K b a xs) : SqL K (fun y => if y = x then none else b y) a xs := by
  rcases h with (h | ⟨o, h⟩) | h
  · have n : a ≠ x := fun e => by
      rw [e, hx] at h
      cases h
    exact .inl (.inl ((if_neg n).trans h))
  · have n : a ≠ x := fun e => by
      rw [e, hx] at h
      cases h
    exact .inl (.inr ⟨o, (if_neg n).trans h⟩)
  · exact .inr h
theorem ex_but_t {x : Addr} {a : Addr} {xs : List V} {C dx : Addr} {fs : List (Str × V)} (hx : b x = some (.ins C dx fs)) (h : SqT K b a xs) : SqT K (fun y => if y = x then none else b y) a xs := by
  rcases h with (h | ⟨o, h⟩) | h
  · have n : a ≠ x := fun e => by
      rw [e, hx] at h
      cases h
    exact .inl (.inl ((if_neg n).trans h))
  · have n : a ≠ x := fun e => by
      rw [e, hx] at h
      cases h
    exact .inl (.inr ⟨o, (if_neg n).trans h⟩)
  · exact .inr h
theorem p_World___init__ (h : sb_World___init__ K vs b k ke) (hE : ∀ c b' H', ke c b' → Ex b' H' → E c none H') : Cs (t_World___init__ K E) { nx := fun _ b' => k .non b', rt := k } (start ["self", "rows", "lifts", "lift"] vs) b := by
  rcases h with ⟨x, v, la, ev, hv⟩ | h
  · subst ev
    cases hv with
    | map hb hk => exact q_drop (c_call (ke := ke) hE (Pa.c (a_cons (v_var rfl) a_nil) (.inr ⟨_, rfl, hb, hk⟩)))
    | lift a la rows w xs i hm g hx hi hv hg hk =>
      rename_i v
      refine q_drop (Pe.c (v_call (by walk_at "v") (s_need_map hm g)) ?_)
      have hlt : i < xs.length := (List.getElem?_eq_some_iff.mp hi).1
      refine s_seq (s_list (v_var rfl) hx (fun j σ' b' => ∃ v3 : Option V, σ' = [some (.ref x), some (.ref a), some (.ref la), v3] ∧ b = b' ∧ j ≤ i) ⟨_, rfl, rfl, Nat.zero_le _⟩ (fun j σ' b' _ ⟨_, _, e, _⟩ => e ▸ hx) ?_ (fun σ' b' ⟨_, _, _, z⟩ => absurd hlt (by omega)))
      rintro j y σ' b' hj ⟨v3, rfl, rfl, hji⟩
      refine g_name ?_
      by_cases e : j = i
      · subst e
        have : y = v := Option.some.inj (hj.symm.trans hi)
        subst this
        exact s_drop (c_call (ke := ke) hE (Pa.c (a_cons (v_var rfl) a_nil) (.inr ⟨_, rfl, hv, hk⟩)))
      · obtain ⟨p, L, h1, h2, h3⟩ := hg j (by omega)
        have : y = .ref p := Option.some.inj (hj.symm.trans h1)
        subst this
        exact s_drop (Pe.c (v_call (by walk_at "v") (s_need_lift h2 h3)) ⟨_, rfl, rfl, by omega⟩)
  obtain ⟨wa, dx, a, la, W, rfl, cw, hw, hm, ⟨ps, hps, hlen, hl⟩, gd, hk⟩ := h
  refine q_drop (Pe.c (v_call (by walk_at "v") (s_need_map hm gd.map)) ?_)
  refine s_seq (s_list (v_var rfl) hps (fun i σ' b' => ∃ v3 : Option V, σ' = [some (.ref wa), some (.ref a), some (.ref la), v3] ∧ b = b') ⟨_, rfl, rfl⟩ (fun i σ' b' _ ⟨_, _, e⟩ => e ▸ hps) ?_ ?_)
  · rintro i x σ' b' hi ⟨v3, rfl, rfl⟩
    obtain ⟨p, hpi, rfl⟩ : ∃ p, ps[i]? = some p ∧ x = V.ref p := by
      rw [List.getElem?_map] at hi
      cases e : ps[i]? with
      | none => rw [e] at hi; cases hi
      | some p => rw [e] at hi; exact ⟨p, rfl, (Option.some.inj hi).symm⟩
    have hlt : i < W.lifts.length := by
      have := (List.getElem?_eq_some_iff.mp hpi).1
      omega
    refine g_name (s_drop (Pe.c (v_call (by walk_at "v") (s_need_lift (hl i p _ hpi (List.getElem?_eq_getElem hlt)) (gd.lifts _ (List.getElem_mem hlt)))) ⟨_, rfl, rfl⟩))
  · rintro σ' b' ⟨v3, rfl, rfl⟩
    refine q_fldN (n_list (a_cons (v_var rfl) a_nil) hm) (fun p hp => v_var rfl) hw cw.cl cw.rows (by decide) (fun p hp => ?_)
    have nwp : wa ≠ p := ne_of_none hw hp
    have hps1 : SqL K (upd (upd b p (.lst (rowsV W.rows))) wa (.ins (He.ga K "World") dx (putF "rows" (.ref p) []))) la (ps.map V.ref) := ex_l (ex_but (Ex.new hp)) (ex_but_l hw hps)
    refine s_fldN (n_list (a_cons (v_var rfl) a_nil) hps1) (fun q hq => v_var rfl) upd_same cw.cl cw.lifts (by show 1 < 1000; decide) (fun q hq => ?_)
    have nwq : wa ≠ q := ne_of_none upd_same hq
    have npq : p ≠ q := ne_of_none (o := .lst (rowsV W.rows)) (by rw [upd_ne nwp.symm]; exact upd_same) hq
    have hq0 : upd b p (.lst (rowsV W.rows)) q = none := by
      rw [upd_ne nwq.symm] at hq
      exact hq
    have eb : Ex (fun x => if x = wa then none else b x) (upd (upd (upd (upd b p (.lst (rowsV W.rows))) wa (.ins (He.ga K "World") dx (putF "rows" (.ref p) []))) q (.lst (ps.map V.ref))) wa (.ins (He.ga K "World") dx (putF "lifts" (.ref q) (putF "rows" (.ref p) [])))) := by
      rw [upd_comm (p := wa) (d := q) nwq, upd_upd]
      exact ex_but ((Ex.new hp).trans (Ex.new hq0))
    refine hk _ eb ⟨cw, ⟨dx, p, q, ?_, ?_, ps, ?_, hlen, fun i p' L h1 h2 => ex_t eb (ex_but_t hw (hl i p' L h1 h2))⟩, gd⟩
    · rw [upd_same, putF_nil, putF_miss (by decide +kernel), putF_nil]
      rfl
    · refine sq_of ?_
      rw [upd_ne nwp.symm, upd_ne npq, upd_ne nwp.symm, upd_same]
    · refine sq_of ?_
      rw [upd_ne nwq.symm, upd_same]
end

/-! ### the law's own: what is under a body, where it stands -/
def LiftsPs (K : PySem.W.Frag) (b : Hp) (la : Addr) (ps : List Addr) (Ls : List Lift) : Prop := SqL K b la (ps.map V.ref) ∧ ps.length = Ls.length ∧ ∀ (i : Nat) (p : Addr) (L : Lift), ps[i]? = some p → Ls[i]? = some L → SqT K b p (liftV L)
theorem LiftsPs.ex {K : PySem.W.Frag} {b b' : Hp} {la : Addr} {ps : List Addr} {Ls : List Lift} (h : LiftsPs K b la ps Ls) (e : Ex b b') : LiftsPs K b' la ps Ls := ⟨ex_l e h.1, h.2.1, fun i p L a c => ex_t e (h.2.2 i p L a c)⟩
theorem LiftsPs.at {K : PySem.W.Frag} {b : Hp} {la : Addr} {ps : List Addr} {Ls : List Lift} (h : LiftsPs K b la ps Ls) : LiftsAt K b la Ls := ⟨ps, h⟩
section
variable {K : PySem.W.Frag} {σ : L2.St} {b : Hp} {vs : List V} {k : VK} {ke : XB} {E : XK}
def sb__law_under (K : PySem.W.Frag) : Sb := fun vs b k _ => ∃ la ps W l t time, vs = [.ref la, .int l, .int t, .int time] ∧ LiftsPs K b la ps W.lifts ∧ GoodWd W ∧ (-100000 ≤ l ∧ l ≤ 100000) ∧ (0 ≤ time ∧ time < 1000000) ∧ ∀ q, b q = none → k (.ref q) (upd b q (.lst (((underIx W l t time).map fun i => ps.getD i 0).map V.ref)))
theorem len__law_under : ∀ vs b k ke, sb__law_under K vs b k ke → vs.length = (["lifts", "left", "top", "time"] : List Str).length := fun _ _ _ _ ⟨_, _, _, _, _, _, e, _⟩ => e ▸ rfl
def sb__law_stands (K : PySem.W.Frag) : Sb := fun vs b k _ => ∃ ra la ps W l t time d, vs = [.ref ra, .ref la, .int l, .int t, .int time, .bl d] ∧ SqL K b ra (rowsV W.rows) ∧ LiftsPs K b la ps W.lifts ∧ GoodWd W ∧ (-100000 ≤ l ∧ l ≤ 100000) ∧ (0 ≤ time ∧ time < 1000000) ∧ k (.bl (floorM W l t time d)) b
theorem len__law_stands : ∀ vs b k ke, sb__law_stands K vs b k ke → vs.length = (["rows", "lifts", "left", "top", "time", "drops"] : List Str).length := fun _ _ _ _ ⟨_, _, _, _, _, _, _, _, e, _⟩ => e ▸ rfl
end
def t__law_under (K : PySem.W.Frag) (E : XK) : TS := (tSeq (tAsg (tLst tNil) (gName 4)) (tSeq (tFor (iList K (tVar 0)) (gName 5) (tSeq (tAsg (tCall (up (sb__law_lift_at K)) [] E (tCons (tVar 5) (tCons (tVar 3) tNil))) (gTup K 2 (gCons (gName 6) (gCons (gName 7) gNil)))) (tSeq (tAsg (tLc (iRng2 (tCons (tVar 1) (tCons (tOp (rAddU K) (tVar 1) (tC (.int 6))) tNil))) (gName 9) (tTest (tChain rLeI rLtI (tVar 6) (tVar 9) (tOp (rAddU K) (tVar 6) (tOp (rIx K) (tVar 5) (tC (.int 3)))))) (tVar 9) [9]) (gName 8)) (tIfS (tAnd (tTest (tOp (rEqU K) (tVar 7) (tOp (rAddU K) (tVar 2) (tC (.int 10))))) (tTest (tOp (rNeU K) (tVar 8) (tLst tNil)))) (tDrop (tBM K "list" rAppend (tVar 4) (tCons (tVar 5) tNil))) tNext)))) (tRet (tVar 4))))
def t__law_stands (K : PySem.W.Frag) (E : XK) : TS := (tSeq (tIfS (tNot (tB (tCall (up (sb__law_free K)) [] E (tCons (tVar 0) (tCons (tVar 2) (tCons (tOp (rAddU K) (tVar 3) (tC (.int 1))) tNil)))))) (tRet (tC (.bl true))) tNext) (tSeq (tAsg (tC (.bl false)) (gName 6)) (tSeq (tFor (iRng1 (tCons (tC (.int 6)) tNil)) (gName 7) (tSeq (tAsg (tOp rFdivU (tOp (rAddU K) (tVar 3) (tC (.int 10))) (tC (.int 8))) (gName 8)) (tIfS (tAnd (tTest (tOp (rEqU K) (tOp rModI (tOp (rAddU K) (tVar 3) (tC (.int 10))) (tC (.int 8))) (tC (.int 0)))) (tAnd (tTest (tChain rLeI rLtI (tC (.int 0)) (tVar 8) (tCB (rLenU K) (tCons (tVar 0) tNil)))) (tTest (tChain rLeI rLtI (tC (.int 0)) (tOp (rAddU K) (tVar 2) (tVar 7)) (tOp rMulU (tC (.int 8)) (tCB (rLenU K) (tCons (tOp (rIx K) (tVar 0) (tC (.int 0))) tNil))))))) (tAsg (tOrV (tVar 6) (tOp (rEqU K) (tOp (rIx K) (tOp (rIx K) (tVar 0) (tVar 8)) (tOp rFdivU (tOp (rAddU K) (tVar 2) (tVar 7)) (tC (.int 8)))) (tC (.str "=")))) (gName 6)) tNext))) (tRet (tAndV (tNotV (tVar 5)) (tOrV (tVar 6) (tOp (rNeU K) (tCall (up (sb__law_under K)) [] E (tCons (tVar 1) (tCons (tVar 2) (tCons (tVar 3) (tCons (tVar 4) tNil))))) (tLst tNil))))))))
theorem above_nil (l mine wide : Int) (hw : 1 ≤ wide) : decide ((((List.range 6).filter fun j => decide (mine ≤ l + (j : Nat)) && decide (l + (j : Nat) < mine + wide)).map fun j => l + ((j : Nat) : Int)) = []) = !(decide (mine < l + 6) && decide (l < mine + wide)) := by
  have key : (((List.range 6).filter fun j => decide (mine ≤ l + (j : Nat)) && decide (l + (j : Nat) < mine + wide)).map fun j => l + ((j : Nat) : Int)) = [] ↔ ¬ (mine < l + 6 ∧ l < mine + wide) := by
    rw [List.map_eq_nil_iff, List.filter_eq_nil_iff]
    constructor
    · intro h hc
      have := h (max 0 (mine - l)).toNat (List.mem_range.mpr (by omega))
      apply this
      simp
      omega
    · intro h j hj hc
      have hj2 := List.mem_range.mp hj
      apply h
      simp at hc
      omega
  by_cases hc : mine < l + 6 ∧ l < mine + wide
  · rw [decide_eq_false (fun q => key.mp q hc), decide_eq_true hc.1, decide_eq_true hc.2]
    rfl
  · rw [decide_eq_true (key.mpr hc)]
    by_cases h1 : mine < l + 6
    · have h2 : ¬ l < mine + wide := fun q => hc ⟨h1, q⟩
      rw [decide_eq_false h2]
      simp
    · rw [decide_eq_false h1]
      rfl
section
variable {K : PySem.W.Frag} {σ : L2.St} {b : Hp} {vs : List V} {k : VK} {ke : XB} {E : XK}
theorem s__law_stands {ra la : Addr} {ps : List Addr} {W : Wd} {l t time : Int} {d : Bool} (hm : SqL K b ra (rowsV W.rows)) (hL : LiftsPs K b la ps W.lifts) (gd : GoodWd W) (hl : -100000 ≤ l ∧ l ≤ 100000) (ht : 0 ≤ time ∧ time < 1000000) : Ps (sb__law_stands K) [.ref ra, .ref la, .int l, .int t, .int time, .bl d] b (.bl (floorM W l t time d)) := fun k hk => ⟨ra, la, ps, W, l, t, time, d, rfl, hm, hL, gd, hl, ht, hk⟩
theorem s__law_under {la : Addr} {ps : List Addr} {W : Wd} {l t time : Int} (hL : LiftsPs K b la ps W.lifts) (gd : GoodWd W) (hl : -100000 ≤ l ∧ l ≤ 100000) (ht : 0 ≤ time ∧ time < 1000000) : Psn (sb__law_under K) [.ref la, .int l, .int t, .int time] b (.lst (((underIx W l t time).map fun i => ps.getD i 0).map V.ref)) := fun k hk => ⟨la, ps, W, l, t, time, rfl, hL, gd, hl, ht, hk⟩
theorem p__law_under (h : sb__law_under K vs b k ke) (hE : ∀ c b' H', ke c b' → Ex b' H' → E c none H') : Cs (t__law_under K E) { nx := fun _ b' => k .non b', rt := k } (start ["lifts", "left", "top", "time", "found", "lift", "mine", "row", "above", "unit"] vs) b := by
  obtain ⟨la, ps, W, l, t, time, rfl, ⟨hps, hlen, hl⟩, gd, hlr, htr, hk⟩ := h
  have few := gd.few
  refine q_asgN (n_lst a_nil (by decide)) (fun f hf => ?_)
  refine s_seq (s_list (v_var rfl) (ex_l (Ex.new hf) hps) (fun i σ' b' => ∃ v5 v6 v7 v8 v9 : Option V, σ' = [some (.ref la), some (.int l), some (.int t), some (.int time), some (.ref f), v5, v6, v7, v8, v9] ∧ b' = upd b f (.lst ((((List.range i).filter fun i => match W.lifts[i]? with
    | some L => isUnder l t time L
    | none => false).map fun i => ps.getD i 0).map V.ref)))
    ⟨_, _, _, _, _, rfl, rfl⟩ (fun i σ' b' _ ⟨_, _, _, _, _, _, e⟩ => by rw [e]; exact ex_l (Ex.new hf) hps) ?_ ?_)
  · rintro i x σ' b' hi ⟨v5, v6, v7, v8, v9, rfl, rfl⟩
    obtain ⟨p, hpi, rfl⟩ : ∃ p, ps[i]? = some p ∧ x = V.ref p := by
      rw [List.getElem?_map] at hi
      cases e : ps[i]? with
      | none => rw [e] at hi; cases hi
      | some p => rw [e] at hi; exact ⟨p, rfl, (Option.some.inj hi).symm⟩
    have hpd : ps.getD i 0 = p := by rw [List.getD_eq_getElem?_getD, hpi]; rfl
    have hlt : i < W.lifts.length := by
      have := (List.getElem?_eq_some_iff.mp hpi).1
      omega
    have hLi : W.lifts[i]? = some W.lifts[i] := List.getElem?_eq_getElem hlt
    have gL := gd.lifts _ (List.getElem_mem hlt)
    have hp0 := hl i p _ hpi hLi
    have step := range_filter_succ i (fun i => match W.lifts[i]? with
      | some L => isUnder l t time L
      | none => false)
    rw [hLi] at step
    generalize W.lifts[i] = L at gL hp0 step
    have hp1 : SqT K (upd b f (.lst ((((List.range i).filter fun i => match W.lifts[i]? with
      | some L => isUnder l t time L
      | none => false).map fun i => ps.getD i 0).map V.ref))) p (liftV L) := ex_t (Ex.new hf) hp0
    have hfl : (upd b f (.lst ((((List.range i).filter fun i => match W.lifts[i]? with
      | some L => isUnder l t time L
      | none => false).map fun i => ps.getD i 0).map V.ref))) f = some (.lst ((((List.range i).filter fun i => match W.lifts[i]? with
      | some L => isUnder l t time L
      | none => false).map fun i => ps.getD i 0).map V.ref)) := upd_same
    refine g_name (s_weak ?_)
    refine q_asgT (n_call (by walk_at "v") (s__law_lift_at hp1 gL htr)) rfl (gs_name (gs_name (gs_nil ?_)))
    refine q_asgN (n_lcR2 (lo := l) (n := l + 6) (fun j => decide (placeX L time ≤ l + (j : Nat)) && decide (l + (j : Nat) < placeX L time + L.wide)) (fun j => .int (l + (j : Nat))) (by walk_at "v") (by omega) (by omega) (fun x => rfl) (fun j b1 hj e => t_test (v_chain (v_var rfl) (v_var rfl) r_le (fun _ => v_op (v_var rfl) (v_op (v_var rfl) v_c (r_iT (ex_t e hp1) rfl)) r_add) (fun _ => r_lt))) (fun j b1 hj _ e => v_var rfl)) (fun ab hab => ?_)
    have nfa : f ≠ ab := ne_of_none hfl hab
    have e6 : (l + 6 - l).toNat = 6 := by omega
    rw [e6]
    have emap : (((List.range 6).filter fun j => decide (placeX L time ≤ l + (j : Nat)) && decide (l + (j : Nat) < placeX L time + L.wide)).map fun j => V.int (l + (j : Nat))) = (((List.range 6).filter fun j => decide (placeX L time ≤ l + (j : Nat)) && decide (l + (j : Nat) < placeX L time + L.wide)).map fun j => l + ((j : Nat) : Int)).map V.int := by
      rw [List.map_map]
      rfl
    rw [emap]
    refine s_when (c := isUnder l t time L) (t_is (t_and (by walk_at "v") (fun _ => t_test (v_opN (v_var rfl) (n_lst a_nil (by decide)) (fun q b1 e hq => r_neD (dp_ints (ex_l e (sq_of upd_same))) (dp_ints (l := []) (sq_of hq)) (sh_ints _) (sh_ints _))))) ?_) (fun c1 => s_drop (c_append (v_var rfl) (v_var rfl) (by rw [upd_ne nfa]; exact hfl) ?_ ⟨_, ?_, _, _, _, _, _, rfl, rfl⟩)) (fun c1 => ⟨_, Ex.new hab, _, _, _, _, _, rfl, ?_⟩)
    · rw [eqv_ints, above_nil l _ _ gL.w.1, Bool.not_not]
      rfl
    · rw [List.length_map, List.length_map]
      exact Nat.lt_of_le_of_lt (List.length_filter_le _ _) (by rw [List.length_range]; omega)
    · rw [step]
      dsimp only
      rw [if_pos c1, List.map_append, List.map_append]
      show Ex (upd b f (.lst (_ ++ [V.ref (ps.getD i 0)]))) _
      rw [hpd]
      refine fun y u hy => ?_
      by_cases hyf : y = f
      · rw [hyf, upd_same] at hy ⊢
        exact hy
      · rw [upd_ne hyf] at hy ⊢
        have nya : y ≠ ab := fun e => by
          rw [upd_ne nfa.symm] at hab
          rw [e, hab] at hy
          cases hy
        rw [upd_ne nya, upd_ne hyf]
        exact hy
    · rw [step]
      dsimp only
      rw [if_neg (by rw [c1]; decide), List.append_nil]
  · rintro σ' b' ⟨v5, v6, v7, v8, v9, rfl, rfl⟩
    refine s_retV (v_var rfl) ?_
    have e : (ps.map V.ref).length = W.lifts.length := by rw [List.length_map]; exact hlen
    rw [e]
    exact hk f hf
/-- found != [] of a list of objects -/
theorem eqv_list_nil {ds : List PyData} : PyData.eqv (.list ds) (.list []) = decide (ds = []) := by
  cases ds with
  | nil => rfl
  | cons d r => rfl
theorem dp_nil {p : Addr} (h : SqL K b p []) : Dp K b (.ref p) (.list []) := .lst h .nil
theorem under_any {W : Wd} {l t time : Int} : (underIx W l t time = []) ↔ W.lifts.any (isUnder l t time) = false := by
  have h := under_nil (W := W) (l := l) (t := t) (time := time)
  cases e : W.lifts.any (isUnder l t time) with
  | false =>
    rw [e] at h
    constructor
    · intro _; rfl
    · intro _
      exact List.map_eq_nil_iff.mp (of_decide_eq_true h)
  | true =>
    rw [e] at h
    constructor
    · intro q
      have := of_decide_eq_false h
      exact absurd (by rw [q]; rfl) this
    · intro q; cases q
/-- the data of lifts: for lists of them that are compared with [] -/
def dLift (L : Lift) : PyData := .tuple [.str (wayS L.across), .int L.left, .int L.top, .int L.wide, .int L.far, .int L.pace]
theorem dp_lift {p : Addr} {L : Lift} (h : SqT K b p (liftV L)) : Dp K b (.ref p) (dLift L) := .tup h (.cons (.str _) (.cons (.int _) (.cons (.int _) (.cons (.int _) (.cons (.int _) (.cons (.int _) .nil))))))
theorem way_ok (c : Bool) : PyData.strOk (wayS c) = true := by cases c <;> decide +kernel
theorem lay_lift (L : Lift) : (dLift L).canLay0 = true := by
  show (PyData.strOk (wayS L.across) && true) = true
  rw [way_ok]
  rfl
theorem depth_lift (L : Lift) : (dLift L).depth ≤ 1 := by
  show max 0 (max 0 (max 0 (max 0 (max 0 (max 0 0))))) + 1 ≤ 1
  decide
theorem sh_lifts (Ls : List Lift) : SeqAt.shaped (.list (Ls.map dLift)) = true := by
  unfold SeqAt.shaped
  have h1 : PyData.canLayAll0 (Ls.map dLift) = true := canLay_map Ls (fun L _ => lay_lift L)
  have h2 : PyData.depthAll (Ls.map dLift) ≤ 1 := depthAll_map 1 depth_lift Ls
  show (PyData.canLayAll0 (Ls.map dLift) && decide (PyData.depth (.list (Ls.map dLift)) ≤ 64)) = true
  rw [h1]
  have h3 : PyData.depth (.list (Ls.map dLift)) ≤ 64 := by
    simp only [PyData.depth]
    omega
  simp [h3]
theorem dpa_lifts : ∀ (ps : List Addr) (Ls : List Lift), ps.length = Ls.length → (∀ (i : Nat) (p : Addr) (L : Lift), ps[i]? = some p → Ls[i]? = some L → SqT K b p (liftV L)) → DpAll K b (ps.map V.ref) (Ls.map dLift)
  | [], [], _, _ => .nil
  | p :: ps, L :: Ls, hl, h => .cons (dp_lift (h 0 p L rfl rfl)) (dpa_lifts ps Ls (by simpa using hl) fun i q M h1 h2 => h (i + 1) q M (by simpa using h1) (by simpa using h2))
  | [], _ :: _, hl, _ => by simp at hl
  | _ :: _, [], hl, _ => by simp at hl
theorem dp_lifts {la : Addr} {ps : List Addr} {Ls : List Lift} (h : LiftsPs K b la ps Ls) : Dp K b (.ref la) (.list (Ls.map dLift)) := .lst h.1 (dpa_lifts ps Ls h.2.1 h.2.2)
/-- the lifts under a body, in the list's order -/
def underL (W : Wd) (l t time : Int) : List Lift := (underIx W l t time).map fun i => W.lifts.getD i ⟨true, 0, 0, 1, 1, 1⟩
theorem underPs {la : Addr} {ps : List Addr} {W : Wd} {l t time : Int} {q : Addr} (h : LiftsPs K b la ps W.lifts) (hq : SqL K b q (((underIx W l t time).map fun i => ps.getD i 0).map V.ref)) : LiftsPs K b q ((underIx W l t time).map fun i => ps.getD i 0) (underL W l t time) := by
  refine ⟨hq, ?_, fun i p L h1 h2 => ?_⟩
  · unfold underL
    rw [List.length_map, List.length_map]
  · unfold underL at h2
    rw [List.getElem?_map] at h1 h2
    cases e : (underIx W l t time)[i]? with
    | none => rw [e] at h1; cases h1
    | some j =>
      rw [e] at h1 h2
      have hj : j < W.lifts.length := by
        have := List.mem_of_getElem? e
        unfold underIx at this
        exact List.mem_range.mp (List.mem_filter.mp this).1
      have hj2 : j < ps.length := by rw [h.2.1]; exact hj
      have e1 : ps.getD j 0 = p := Option.some.inj h1
      have e2 : W.lifts.getD j ⟨true, 0, 0, 1, 1, 1⟩ = L := Option.some.inj h2
      refine h.2.2 j p L ?_ ?_
      · rw [← e1, List.getD_eq_getElem?_getD, List.getElem?_eq_getElem hj2]; rfl
      · rw [← e2, List.getD_eq_getElem?_getD, List.getElem?_eq_getElem hj]; rfl
theorem underL_nil {W : Wd} {l t time : Int} : decide ((underL W l t time).map dLift = []) = !W.lifts.any (isUnder l t time) := by
  unfold underL
  cases e : W.lifts.any (isUnder l t time) with
  | false =>
    rw [under_any.mpr e]
    rfl
  | true =>
    have n : ¬ (List.map dLift ((underIx W l t time).map fun i => W.lifts.getD i ⟨true, 0, 0, 1, 1, 1⟩) = []) := fun q => by
      have := under_any.mp (List.map_eq_nil_iff.mp (List.map_eq_nil_iff.mp q))
      rw [e] at this
      cases this
    rw [decide_eq_false n]
    rfl
theorem p__law_stands (h : sb__law_stands K vs b k ke) (hE : ∀ c b' H', ke c b' → Ex b' H' → E c none H') : Cs (t__law_stands K E) { nx := fun _ b' => k .non b', rt := k } (start ["rows", "lifts", "left", "top", "time", "drops", "thin", "right", "at"] vs) b := by
  obtain ⟨ra, la, ps, W, l, t, time, d, rfl, hm, hL, gd, hlr, htr, hk⟩ := h
  have g := gd.map
  have h1 := g.h1
  have w2 := g.w2
  unfold floorM at hk
  refine q_when (t_not (t_B (v_call (by walk_at "v") (s__law_free hm g)))) (fun c1 => s_retV v_c ?_) (fun c1 => ?_)
  · rw [c1, Bool.true_or] at hk
    exact hk
  rw [c1, Bool.false_or] at hk
  refine q_asgV v_c ?_
  refine s_seq (s_range1 (by walk_at "v") (by decide) (fun i σ' b' => ∃ v7 v8 : Option V, σ' = [some (.ref ra), some (.ref la), some (.int l), some (.int t), some (.int time), some (.bl d), some (.bl ((List.range i).any fun r => ledgeM W.rows W.w (l + (r : Nat)) (t + 10))), v7, v8] ∧ b = b')
    ⟨_, _, rfl, rfl⟩ ?_ ?_)
  · rintro i σ' b' hi ⟨v7, v8, rfl, rfl⟩
    refine g_name ?_
    refine q_asgV (by walk_at "v") ?_
    have es : ((List.range (i + 1)).any fun r => ledgeM W.rows W.w (l + (r : Nat)) (t + 10)) = (((List.range i).any fun r => ledgeM W.rows W.w (l + (r : Nat)) (t + 10)) || ledgeM W.rows W.w (l + (i : Nat)) (t + 10)) := by
      rw [List.range_succ, List.any_append]
      simp
    refine s_when (t_and (by walk_at "v") (fun _ => t_and (t_test (v_chain v_c (v_var rfl) r_le (fun _ => v_h8 rfl hm) (fun _ => r_lt))) (fun _ => t_test (v_chain v_c (by walk_at "v") r_le (fun _ => v_op v_c (v_w8 rfl hm g) r_mul8) (fun _ => r_lt))))) (fun c2 => ?_) (fun c2 => ⟨some (.int (i : Int)), some (.int ((t + 10) / 8)), ?_, rfl⟩)
    · have hc : (t + 10) % 8 = 0 ∧ (0 ≤ (t + 10) / 8 ∧ (t + 10) / 8 < (W.rows.length : Int)) ∧ (0 ≤ l + (i : Int) ∧ l + (i : Int) < 8 * (W.w : Int)) := by simpa using c2
      have e1 : decide ((⟨#[cellM W.rows ((t + 10) / 8).toNat ((l + (i : Int)) / 8).toNat]⟩ : Str) = "=") = decide (cellM W.rows ((t + 10) / 8).toNat ((l + (i : Int)) / 8).toNat = 61) := sgn_eq (by decide +kernel)
      have el : ledgeM W.rows W.w (l + (i : Nat)) (t + 10) = decide (cellM W.rows ((t + 10) / 8).toNat ((l + (i : Int)) / 8).toNat = 61) := by
        unfold ledgeM
        rw [if_neg (by omega)]
      refine s_asgV (v_orV (v_var rfl) (fun _ => v_is (v_op (v_op (v_op (v_var rfl) (v_var rfl) (r_row hm (by omega) (by omega))) (by walk_at "v") (r_chr g (by omega) (by omega) (by omega))) v_c r_eqT) (congrArg V.bl e1))) ⟨some (.int (i : Int)), some (.int ((t + 10) / 8)), ?_, rfl⟩
      rw [es, el]
      rfl
    · have hc : ¬ ((t + 10) % 8 = 0 ∧ (0 ≤ (t + 10) / 8 ∧ (t + 10) / 8 < (W.rows.length : Int)) ∧ (0 ≤ l + (i : Int) ∧ l + (i : Int) < 8 * (W.w : Int))) := fun q => by
        simp [q] at c2
      have el : ledgeM W.rows W.w (l + (i : Nat)) (t + 10) = false := by
        unfold ledgeM
        rw [if_pos (by omega)]
      rw [es, el, Bool.or_false]
      rfl
  · rintro σ' b' ⟨v7, v8, rfl, rfl⟩
    refine s_retV (v_is (v_andV (v_notV (v_var rfl)) (fun _ => v_orV (v_var rfl) (fun _ => v_opNN (n_call (by walk_at "v") (s__law_under hL gd hlr htr)) (fun b1 _ => n_lst a_nil (by decide)) (fun p p' b1 e hp hp' => r_neD (dp_lifts (underPs (hL.ex e) (sq_of hp))) (dp_nil (sq_of hp')) (sh_lifts _) rfl)))) ?_) hk
    rw [eqv_list_nil, underL_nil, Bool.not_not]
    rfl
end

/-! ### lifts and worlds made by a law -/
section
variable {K : PySem.W.Frag} {σ : L2.St} {b : Hp} {vs : List V} {k : VK} {ke : XB} {E : XK}
theorem c_lifts {ts : TA} {n : Int} {j : Nat} {te : TE} (h : Pa ts σ b [.int n]) (hn : 0 ≤ n ∧ n ≤ 10) (hw : ∀ x, wipe ((wipe σ [j]).set j (some x)) [j] = wipe σ [j]) (P : Lift → Prop)
    (he : ∀ (i : Nat) b1, Ex b b1 → Ce te ((wipe σ [j]).set j (some (.int i))) b1 (fun v b2 => Ex b1 b2 ∧ ∃ p L, v = .ref p ∧ b2 p = some (.tup (liftV L)) ∧ P L))
    (hk : ∀ la ps Ls b1, Ex b b1 → LiftsPs K b1 la ps Ls → b la = none → b1 la = some (.lst (ps.map V.ref)) → (∀ L ∈ Ls, P L) → Ls.length = n.toNat → k (.ref la) b1) : Ce (tLc (iRng1 ts) (gName j) tYes te [j]) σ b k := by
  refine c_lcR h (by omega) (fun Dl i acc b' => ∃ (ps : List Addr) (Ls : List Lift), acc = ps.map V.ref ∧ b' Dl = some (.lst acc) ∧ Ex b b' ∧ ps.length = i ∧ Ls.length = i ∧ (∀ (i : Nat) (p : Addr) (L : Lift), ps[i]? = some p → Ls[i]? = some L → b' p = some (.tup (liftV L))) ∧ (∀ L ∈ Ls, P L) ∧ i ≤ 10) ?_ ?_ ?_ ?_
  · exact fun Dl hD => ⟨[], [], rfl, upd_same, Ex.new hD, rfl, rfl, (fun i p L h1 _ => by simp at h1), (fun L hL => nomatch hL), by omega⟩
  · rintro Dl i acc b' hD ⟨ps, Ls, rfl, h2, h3, h4, h5, h6, h7, h8⟩
    exact ⟨h2, by rw [List.length_map]; omega⟩
  · rintro Dl i acc b' hD hi ⟨ps, Ls, rfl, h2, h3, h4, h5, h6, h7, h8⟩
    refine g_name ⟨hw _, Pt.c t_yes (Ce.mono (he i b' h3) ?_)⟩
    rintro v b2 ⟨e2, p, L, rfl, hp, gL⟩
    have hD2 : b2 Dl = some (.lst (ps.map V.ref)) := e2 _ _ h2
    have npD : p ≠ Dl := ne_of hp hD2 (by intro z; cases z)
    refine ⟨hD2, ps ++ [p], Ls ++ [L], by rw [List.map_append]; rfl, upd_same, Ex.mut (h3.trans e2) hD, by rw [List.length_append, h4]; rfl, by rw [List.length_append, h5]; rfl, fun i2 p2 L2 q1 q2 => ?_, fun L2 hL2 => ?_, by omega⟩
    · by_cases hlt : i2 < i
      · rw [List.getElem?_append_left (by omega)] at q1 q2
        have := e2 _ _ (h6 i2 p2 L2 q1 q2)
        rw [upd_ne (ne_of this hD2 (by intro z; cases z))]
        exact this
      · rw [List.getElem?_append_right (by omega)] at q1 q2
        have e0 : i2 - ps.length = 0 := by
          have := (List.getElem?_eq_some_iff.mp q1).1
          simp at this
          omega
        have e1 : i2 - Ls.length = 0 := by omega
        rw [e0] at q1
        rw [e1] at q2
        have z1 : p = p2 := Option.some.inj q1
        have z2 : L = L2 := Option.some.inj q2
        subst z1 z2
        rw [upd_ne npD]
        exact hp
    · rcases List.mem_append.mp hL2 with q | q
      · exact h7 L2 q
      · have : L2 = L := by simpa using q
        rw [this]
        exact gL
  · rintro Dl acc b' hD ⟨ps, Ls, rfl, h2, h3, h4, h5, h6, h7, h8⟩
    exact hk Dl ps Ls b' h3 ⟨sq_of h2, by omega, fun i p L q1 q2 => st_of (h6 i p L q1 q2)⟩ hD h2 h7 h5
theorem c_world {ts : TA} {ra la : Addr} {W : Wd} (h : Pa ts σ b [.ref ra, .ref la]) (cw : CW K) (hm : SqL K b ra (rowsV W.rows)) (hL : LiftsAt K b la W.lifts) (gd : GoodWd W) (hk : ∀ x b1, Ex b b1 → b x = none → WAt K b1 x W → k (.ref x) b1) : Ce (tMake (He.ga K "World") (up (sb_World___init__ K)) [] E ts) σ b k := by
  refine c_make0 (Pa.c h fun x dx hx hdx hne => ?_)
  have e1 : Ex b (upd (upd b dx (.own x)) x (.ins (He.ga K "World") dx [])) := (Ex.new hdx).trans (Ex.new (by rw [upd_ne hne.symm]; exact hx))
  refine .inr ⟨x, dx, ra, la, W, rfl, cw, upd_same, ex_l e1 hm, hL.ex e1, gd, fun b' eb hW => ⟨rfl, hk x b' (fun y o hy => eb y o ?_) hx hW⟩⟩
  have nyx : y ≠ x := ne_of_none hy hx
  show (if y = x then none else (upd (upd b dx (.own x)) x (.ins (He.ga K "World") dx [])) y) = some o
  rw [if_neg nyx]
  exact e1 y o hy
/-- _law_lift(drawn, rows) in a comprehension -/
theorem c_law_lift {ts : TA} {more : Int} {ra : Addr} {rows : List Str} {w : Nat} (h : Pa ts σ b [.int more, .ref ra]) (h0 : 0 ≤ more) (hm : SqL K b ra (rowsV rows)) (g : GoodMap rows w) (hk : ∀ p b1 L, Ex b b1 → b p = none → b1 p = some (.tup (liftV L)) → GoodLift L → k (.ref p) b1) : Ce (tCall (up (sb__law_lift K)) [] E ts) σ b k :=
  c_call0 (Pa.c h ⟨more, ra, rows, w, rfl, h0, hm, g, fun L gL _ _ _ p hp => hk p _ L (Ex.new hp) hp upd_same gL⟩)
theorem t_liftsNe {la : Addr} {ps : List Addr} {Ls : List Lift} {ta : TE} (h1 : Pe ta σ b (.ref la)) (hL : LiftsPs K b la ps Ls) : Pt (tTest (tOp (rNeU K) ta (tLst tNil))) σ b (!decide (Ls = [])) := by
  refine t_is (t_test (v_opN h1 (n_lst a_nil (by decide)) (fun q b1 e hq => r_neD (dp_lifts (hL.ex e)) (dp_nil (sq_of hq)) (sh_lifts _) rfl))) ?_
  rw [eqv_list_nil]
  congr 2
  exact propext List.map_eq_nil_iff
end

/-! ### runners: what they do -/
structure CR (K : PySem.W.Frag) : Prop where
  cl : Cls K (He.ga K "Runner")
  world : NoAttr K (He.ga K "Runner") "world"
  time : NoAttr K (He.ga K "Runner") "time"
  left : NoAttr K (He.ga K "Runner") "left"
  top : NoAttr K (He.ga K "Runner") "top"
  across : NoAttr K (He.ga K "Runner") "across"
  down : NoAttr K (He.ga K "Runner") "down"
  was_jumping : NoAttr K (He.ga K "Runner") "was_jumping"
structure Rs where
  t : Int
  x : Int
  y : Int
  vx : Int
  vy : Int
  j : Bool
def hasK (c : Nat) (w : Str) : Bool := decide (c ∈ w.cps.toList)
def bI (c : Bool) : Int := if c = true then 1 else 0
def keysOk (w : Str) : Bool := decide (w.cps.toList = [108, 106, 114, 100].filter fun c => hasK c w)
def carryM (W : Wd) (s : Rs) : Rs :=
  match W.lifts.find? (isUnder s.x s.y s.t) with
  | none => { s with t := s.t + 1 }
  | some L => if freeM W.rows W.w (s.x + placeX L (s.t + 1) - placeX L s.t) (s.y + placeY L (s.t + 1) - placeY L s.t) = true then { s with t := s.t + 1, x := s.x + placeX L (s.t + 1) - placeX L s.t, y := s.y + placeY L (s.t + 1) - placeY L s.t } else { s with t := s.t + 1 }
def clampM (i : Int) : Int := if i < -3 then -3 else if 3 < i then 3 else i
def pushM (s : Rs) (keys : Str) : Int := if bI (hasK 114 keys) - bI (hasK 108 keys) = 0 then bI (decide (s.vx < 0)) - bI (decide (0 < s.vx)) else bI (hasK 114 keys) - bI (hasK 108 keys)
def speedM (s : Rs) (keys : Str) : Rs := { s with vx := clampM (s.vx + pushM s keys) }
def leapM (W : Wd) (s : Rs) (keys : Str) : Rs :=
  if (floorM W s.x s.y s.t (hasK 100 keys) && decide (0 ≤ s.vy)) = true then { s with vy := if (hasK 106 keys && !s.j) = true then -6 else 0 } else { s with vy := if s.vy + 1 < 6 then s.vy + 1 else 6 }
def stepM (W : Wd) (d : Int) (s : Rs) : Option Rs :=
  if freeM W.rows W.w (s.x + d) s.y = true then
    if (floorM W s.x s.y s.t false && (decide (0 ≤ s.vy) && !floorM W (s.x + d) s.y s.t false)) = true then
      if floorM W (s.x + d) (s.y + 1) s.t false = true then some { s with x := s.x + d, y := s.y + 1 } else some { s with x := s.x + d }
    else some { s with x := s.x + d }
  else if (floorM W s.x s.y s.t false && freeM W.rows W.w (s.x + d) (s.y - 1)) = true then some { s with x := s.x + d, y := s.y - 1 }
  else none
def acrossGo (W : Wd) (d : Int) : Nat → Rs → Rs
  | 0, s => s
  | n + 1, s => match stepM W d s with
    | some s' => acrossGo W d n s'
    | none => { s with vx := 0 }
def acrossM (W : Wd) (s : Rs) : Rs := acrossGo W (if 0 < s.vx then 1 else -1) s.vx.natAbs s
def stopM (W : Wd) (drop : Bool) (d : Int) (s : Rs) : Bool := if 0 < d then floorM W s.x s.y s.t drop else !freeM W.rows W.w s.x (s.y - 1)
def downGo (W : Wd) (drop : Bool) (d : Int) : Nat → Rs → Rs
  | 0, s => s
  | n + 1, s => if stopM W drop d s = true then { s with vy := 0 } else downGo W drop d n { s with y := s.y + d }
def downM (W : Wd) (drop : Bool) (s : Rs) : Rs := downGo W drop (if 0 < s.vy then 1 else -1) s.vy.natAbs s
def tickM (W : Wd) (s : Rs) (keys : Str) : Rs := { downM W (hasK 100 keys) (acrossM W (leapM W (speedM (carryM W s) keys) keys)) with j := hasK 106 keys }
/-! bounds -/
structure GoodRs (s : Rs) : Prop where
  vx : -3 ≤ s.vx ∧ s.vx ≤ 3
  vy : -6 ≤ s.vy ∧ s.vy ≤ 6
theorem clamp_rng (i : Int) : -3 ≤ clampM i ∧ clampM i ≤ 3 := by
  unfold clampM
  split
  · omega
  · split <;> omega
theorem carry_vx (W : Wd) (s : Rs) : (carryM W s).vx = s.vx ∧ (carryM W s).vy = s.vy ∧ (carryM W s).j = s.j ∧ (carryM W s).t = s.t + 1 := by
  unfold carryM
  split
  · exact ⟨rfl, rfl, rfl, rfl⟩
  · split <;> exact ⟨rfl, rfl, rfl, rfl⟩
theorem leap_vy (W : Wd) (s : Rs) (keys : Str) (h : -6 ≤ s.vy) : -6 ≤ (leapM W s keys).vy ∧ (leapM W s keys).vy ≤ 6 ∧ (leapM W s keys).vx = s.vx ∧ (leapM W s keys).t = s.t := by
  unfold leapM
  split
  · refine ⟨?_, ?_, rfl, rfl⟩ <;> dsimp only <;> split <;> decide
  · refine ⟨?_, ?_, rfl, rfl⟩ <;> dsimp only <;> split <;> omega
theorem step_keep (W : Wd) (d : Int) (s s' : Rs) (h : stepM W d s = some s') : s'.vx = s.vx ∧ s'.vy = s.vy ∧ s'.t = s.t ∧ s'.x = s.x + d ∧ freeM W.rows W.w s'.x s'.y = true ∧ -1 ≤ s'.y - s.y ∧ s'.y - s.y ≤ 1 := by
  unfold stepM at h
  split at h
  · rename_i h1
    split at h
    · rename_i h2
      split at h
      · cases h
        refine ⟨rfl, rfl, rfl, rfl, ?_, by dsimp only; omega, by dsimp only; omega⟩
        have h3 : floorM W (s.x + d) s.y s.t false = false := by
          cases hh : floorM W (s.x + d) s.y s.t false
          · rfl
          · rw [hh] at h2
            simp at h2
        unfold floorM at h3
        cases hf : freeM W.rows W.w (s.x + d) (s.y + 1)
        · rw [hf] at h3
          cases h3
        · rfl
      · cases h
        exact ⟨rfl, rfl, rfl, rfl, h1, by dsimp only; omega, by dsimp only; omega⟩
    · cases h
      exact ⟨rfl, rfl, rfl, rfl, h1, by dsimp only; omega, by dsimp only; omega⟩
  · split at h
    · rename_i h2
      cases h
      refine ⟨rfl, rfl, rfl, rfl, ?_, by dsimp only; omega, by dsimp only; omega⟩
      rw [Bool.and_eq_true] at h2
      exact h2.2
    · cases h
/-- what holds of a runner going across -/
theorem across_keep (W : Wd) (d : Int) : ∀ (n : Nat) (s : Rs), freeM W.rows W.w s.x s.y = true → freeM W.rows W.w (acrossGo W d n s).x (acrossGo W d n s).y = true ∧ (acrossGo W d n s).t = s.t ∧ (acrossGo W d n s).vy = s.vy ∧ ((acrossGo W d n s).vx = s.vx ∨ (acrossGo W d n s).vx = 0) ∧ ((acrossGo W d n s).y - s.y).natAbs ≤ n
  | 0, s, h => ⟨h, rfl, rfl, .inl rfl, by show (s.y - s.y).natAbs ≤ 0; omega⟩
  | n + 1, s, h => by
    unfold acrossGo
    cases e : stepM W d s with
    | none => exact ⟨h, rfl, rfl, .inr rfl, by show (s.y - s.y).natAbs ≤ n + 1; omega⟩
    | some s' =>
      have hs := step_keep W d s s' e
      have ih := across_keep W d n s' hs.2.2.2.2.1
      refine ⟨ih.1, ih.2.1.trans hs.2.2.1, ih.2.2.1.trans hs.2.1, ?_, ?_⟩
      · rcases ih.2.2.2.1 with q | q
        · exact .inl (q.trans hs.1)
        · exact .inr q
      · have := ih.2.2.2.2
        dsimp only
        omega
theorem stop_free (W : Wd) (drop : Bool) (d : Int) (hd : d = 1 ∨ d = -1) (s : Rs) (h : stopM W drop d s = false) : freeM W.rows W.w s.x (s.y + d) = true := by
  unfold stopM at h
  rcases hd with e | e
  · subst e
    rw [if_pos (by decide)] at h
    unfold floorM at h
    cases hf : freeM W.rows W.w s.x (s.y + 1)
    · rw [hf] at h
      cases h
    · rfl
  · subst e
    rw [if_neg (by decide)] at h
    have e2 : s.y + -1 = s.y - 1 := by omega
    rw [e2]
    cases hf : freeM W.rows W.w s.x (s.y - 1)
    · rw [hf] at h
      cases h
    · rfl
theorem down_keep (W : Wd) (drop : Bool) (d : Int) (hd : d = 1 ∨ d = -1) : ∀ (n : Nat) (s : Rs), freeM W.rows W.w s.x s.y = true → freeM W.rows W.w (downGo W drop d n s).x (downGo W drop d n s).y = true ∧ (downGo W drop d n s).t = s.t ∧ (downGo W drop d n s).vx = s.vx ∧ ((downGo W drop d n s).vy = s.vy ∨ (downGo W drop d n s).vy = 0) ∧ (downGo W drop d n s).x = s.x ∧ ((downGo W drop d n s).y - s.y).natAbs ≤ n
  | 0, s, h => ⟨h, rfl, rfl, .inl rfl, rfl, by show (s.y - s.y).natAbs ≤ 0; omega⟩
  | n + 1, s, h => by
    unfold downGo
    cases e : stopM W drop d s with
    | true =>
      rw [if_pos rfl]
      exact ⟨h, rfl, rfl, .inr rfl, rfl, by show (s.y - s.y).natAbs ≤ n + 1; omega⟩
    | false =>
      rw [if_neg Bool.false_ne_true]
      have ih := down_keep W drop d hd n { s with y := s.y + d } (stop_free W drop d hd s e)
      refine ⟨ih.1, ih.2.1, ih.2.2.1, ih.2.2.2.1, ih.2.2.2.2.1, ?_⟩
      have := ih.2.2.2.2.2
      dsimp only at this ⊢
      rcases hd with q | q <;> subst q <;> omega
theorem carry_free (W : Wd) (s : Rs) (h : freeM W.rows W.w s.x s.y = true) : freeM W.rows W.w (carryM W s).x (carryM W s).y = true := by
  unfold carryM
  split
  · exact h
  · split
    · assumption
    · exact h
theorem leap_xy (W : Wd) (s : Rs) (keys : Str) : (leapM W s keys).x = s.x ∧ (leapM W s keys).y = s.y := by
  unfold leapM
  split <;> exact ⟨rfl, rfl⟩
theorem dir (v : Int) : (if 0 < v then (1 : Int) else -1) = 1 ∨ (if 0 < v then (1 : Int) else -1) = -1 := by
  split
  · exact .inl rfl
  · exact .inr rfl
theorem tick_good (W : Wd) (s : Rs) (keys : Str) (g : GoodRs s) (h : freeM W.rows W.w s.x s.y = true) : GoodRs (tickM W s keys) ∧ freeM W.rows W.w (tickM W s keys).x (tickM W s keys).y = true ∧ (tickM W s keys).t = s.t + 1 ∧ (tickM W s keys).j = hasK 106 keys := by
  have c := carry_vx W s
  have hl := leap_vy W (speedM (carryM W s) keys) keys (by show -6 ≤ (carryM W s).vy; rw [c.2.1]; exact g.vy.1)
  have lx := leap_xy W (speedM (carryM W s) keys) keys
  have f1 : freeM W.rows W.w (leapM W (speedM (carryM W s) keys) keys).x (leapM W (speedM (carryM W s) keys) keys).y = true := by
    rw [lx.1, lx.2]
    exact carry_free W s h
  have ha := across_keep W (if 0 < (leapM W (speedM (carryM W s) keys) keys).vx then 1 else -1) (leapM W (speedM (carryM W s) keys) keys).vx.natAbs _ f1
  have hd := down_keep W (hasK 100 keys) _ (dir (acrossM W (leapM W (speedM (carryM W s) keys) keys)).vy) (acrossM W (leapM W (speedM (carryM W s) keys) keys)).vy.natAbs (acrossM W (leapM W (speedM (carryM W s) keys) keys)) ha.1
  have vx1 : (leapM W (speedM (carryM W s) keys) keys).vx = (speedM (carryM W s) keys).vx := hl.2.2.1
  have cr := clamp_rng ((carryM W s).vx + pushM (carryM W s) keys)
  have vx2 : (speedM (carryM W s) keys).vx = clampM ((carryM W s).vx + pushM (carryM W s) keys) := rfl
  refine ⟨⟨?_, ?_⟩, hd.1, ?_, rfl⟩
  · show -3 ≤ (downM W (hasK 100 keys) (acrossM W (leapM W (speedM (carryM W s) keys) keys))).vx ∧ (downM W (hasK 100 keys) (acrossM W (leapM W (speedM (carryM W s) keys) keys))).vx ≤ 3
    have e1 : (downM W (hasK 100 keys) (acrossM W (leapM W (speedM (carryM W s) keys) keys))).vx = (acrossM W (leapM W (speedM (carryM W s) keys) keys)).vx := hd.2.2.1
    have e2 : (acrossM W (leapM W (speedM (carryM W s) keys) keys)).vx = (leapM W (speedM (carryM W s) keys) keys).vx ∨ (acrossM W (leapM W (speedM (carryM W s) keys) keys)).vx = 0 := ha.2.2.2.1
    rw [e1]
    rcases e2 with q | q
    · rw [q, vx1, vx2]
      exact cr
    · rw [q]
      decide
  · show -6 ≤ (downM W (hasK 100 keys) (acrossM W (leapM W (speedM (carryM W s) keys) keys))).vy ∧ (downM W (hasK 100 keys) (acrossM W (leapM W (speedM (carryM W s) keys) keys))).vy ≤ 6
    have e1 : (downM W (hasK 100 keys) (acrossM W (leapM W (speedM (carryM W s) keys) keys))).vy = (acrossM W (leapM W (speedM (carryM W s) keys) keys)).vy ∨ (downM W (hasK 100 keys) (acrossM W (leapM W (speedM (carryM W s) keys) keys))).vy = 0 := hd.2.2.2.1
    have e2 : (acrossM W (leapM W (speedM (carryM W s) keys) keys)).vy = (leapM W (speedM (carryM W s) keys) keys).vy := ha.2.2.1
    rcases e1 with q | q
    · rw [q, e2]
      exact ⟨hl.1, hl.2.1⟩
    · rw [q]
      decide
  · show (downM W (hasK 100 keys) (acrossM W (leapM W (speedM (carryM W s) keys) keys))).t = s.t + 1
    have e1 : (downM W (hasK 100 keys) (acrossM W (leapM W (speedM (carryM W s) keys) keys))).t = (acrossM W (leapM W (speedM (carryM W s) keys) keys)).t := hd.2.1
    have e2 : (acrossM W (leapM W (speedM (carryM W s) keys) keys)).t = (leapM W (speedM (carryM W s) keys) keys).t := ha.2.1
    rw [e1, e2, hl.2.2.2]
    exact c.2.2.2
/-- a free place lies between the map's sides -/
theorem free_in {rows : List Str} {w : Nat} {l t : Int} (h : freeM rows w l t = true) : 0 ≤ l ∧ l + 5 < 8 * (w : Int) := by
  have h0 := (free_iff.mp h) 0 0 (by decide) (by decide)
  have h5 := (free_iff.mp h) 0 5 (by decide) (by decide)
  constructor
  · apply Classical.byContradiction
    intro hn
    unfold solidM at h0
    rw [if_pos (by simp; omega)] at h0
    cases h0
  · apply Classical.byContradiction
    intro hn
    unfold solidM at h5
    rw [if_pos (by simp; omega)] at h5
    cases h5
theorem find_nil {W : Wd} {l t time : Int} (h : underIx W l t time = []) : W.lifts.find? (isUnder l t time) = none := by
  have := @under_nil W l t time
  rw [h] at this
  rw [List.find?_eq_none]
  intro L hL
  have hh : W.lifts.any (isUnder l t time) = false := by
    cases e : W.lifts.any (isUnder l t time)
    · rfl
    · rw [e] at this
      simp at this
  exact (List.any_eq_false.mp hh) L hL
theorem find_cons {W : Wd} {l t time : Int} {i : Nat} {r : List Nat} (h : underIx W l t time = i :: r) : ∃ L, W.lifts[i]? = some L ∧ W.lifts.find? (isUnder l t time) = some L := by
  unfold underIx at h
  obtain ⟨l1, l2, e1, e2, e3, e4⟩ := List.filter_eq_cons_iff.mp h
  have hi : i < W.lifts.length := by
    have : i ∈ List.range W.lifts.length := by
      rw [e1]
      simp
    exact List.mem_range.mp this
  refine ⟨W.lifts[i], List.getElem?_eq_getElem hi, ?_⟩
  rw [List.find?_eq_some_iff_getElem]
  rw [List.getElem?_eq_getElem hi] at e3
  refine ⟨e3, i, hi, rfl, fun j hj => ?_⟩
  have hl1 : l1 = List.range i := by
    have hp : l1 <+: List.range W.lifts.length := ⟨_, e1.symm⟩
    have hlen : l1.length = i := by
      have : (List.range W.lifts.length)[l1.length]? = some i := by
        rw [e1, List.getElem?_append_right (Nat.le_refl _)]
        simp
      have h2 := List.getElem?_eq_some_iff.mp this
      obtain ⟨q, q2⟩ := h2
      rw [List.getElem_range] at q2
      exact q2
    have := List.prefix_iff_eq_take.mp hp
    rw [hlen] at this
    rw [this]
    apply List.ext_getElem
    · simp
      omega
    · intro n h1 h2
      simp
  have hm : j ∈ l1 := by
    rw [hl1]
    exact List.mem_range.mpr hj
  have := e2 j hm
  rw [List.getElem?_eq_getElem (by omega)] at this
  simpa using this

/-! ### runners: the class -/
def rf (wa : Addr) (s : Rs) : List (Str × V) := [("world", .ref wa), ("time", .int s.t), ("left", .int s.x), ("top", .int s.y), ("across", .int s.vx), ("down", .int s.vy), ("was_jumping", .bl s.j)]
theorem rf_world (wa : Addr) (s : Rs) : (rf wa s).lookup ("world" : Str) = some (.ref wa) := by kernel_rfl
theorem rf_time (wa : Addr) (s : Rs) : (rf wa s).lookup ("time" : Str) = some (.int s.t) := by kernel_rfl
theorem rf_left (wa : Addr) (s : Rs) : (rf wa s).lookup ("left" : Str) = some (.int s.x) := by kernel_rfl
theorem rf_top (wa : Addr) (s : Rs) : (rf wa s).lookup ("top" : Str) = some (.int s.y) := by kernel_rfl
theorem rf_across (wa : Addr) (s : Rs) : (rf wa s).lookup ("across" : Str) = some (.int s.vx) := by kernel_rfl
theorem rf_down (wa : Addr) (s : Rs) : (rf wa s).lookup ("down" : Str) = some (.int s.vy) := by kernel_rfl
theorem rf_jump (wa : Addr) (s : Rs) : (rf wa s).lookup ("was_jumping" : Str) = some (.bl s.j) := by kernel_rfl
theorem pf_time (wa : Addr) (s : Rs) (i : Int) : putF "time" (.int i) (rf wa s) = rf wa { s with t := i } := by kernel_rfl
theorem pf_left (wa : Addr) (s : Rs) (i : Int) : putF "left" (.int i) (rf wa s) = rf wa { s with x := i } := by kernel_rfl
theorem pf_top (wa : Addr) (s : Rs) (i : Int) : putF "top" (.int i) (rf wa s) = rf wa { s with y := i } := by kernel_rfl
theorem pf_across (wa : Addr) (s : Rs) (i : Int) : putF "across" (.int i) (rf wa s) = rf wa { s with vx := i } := by kernel_rfl
theorem pf_down (wa : Addr) (s : Rs) (i : Int) : putF "down" (.int i) (rf wa s) = rf wa { s with vy := i } := by kernel_rfl
theorem pf_jump (wa : Addr) (s : Rs) (i : Bool) : putF "was_jumping" (.bl i) (rf wa s) = rf wa { s with j := i } := by kernel_rfl
theorem rf_none {m : Str} (wa : Addr) (s : Rs) (h : ([("world" : Str), "time", "left", "top", "across", "down", "was_jumping"].all fun n => !(m == n)) = true) : (rf wa s).lookup m = none := by
  simp only [List.all_cons, List.all_nil, Bool.and_true, Bool.and_eq_true, Bool.not_eq_true'] at h
  obtain ⟨h1, h2, h3, h4, h5, h6, h7⟩ := h
  unfold rf
  rw [List.lookup_cons, h1, List.lookup_cons, h2, List.lookup_cons, h3, List.lookup_cons, h4, List.lookup_cons, h5, List.lookup_cons, h6, List.lookup_cons, h7]
  rfl
/-- a runner at ra, in a world that lies in b0 -/
structure RA (K : PySem.W.Frag) (b : Hp) (ra dx wa : Addr) (b0 : Hp) (W : Wd) (s : Rs) : Prop where
  cr : CR K
  ins : b ra = some (.ins (He.ga K "Runner") dx (rf wa s))
  ex : Ex b0 b
  no : b0 ra = none
  wo : WAt K b0 wa W
def rput (K : PySem.W.Frag) (b : Hp) (ra dx wa : Addr) (s : Rs) : Hp := upd b ra (.ins (He.ga K "Runner") dx (rf wa s))
theorem RA.put {K : PySem.W.Frag} {b : Hp} {ra dx wa : Addr} {b0 : Hp} {W : Wd} {s : Rs} (h : RA K b ra dx wa b0 W s) (s' : Rs) : RA K (rput K b ra dx wa s') ra dx wa b0 W s' := ⟨h.cr, upd_same, Ex.mut h.ex h.no, h.no, h.wo⟩
theorem RA.of {K : PySem.W.Frag} {b b' : Hp} {ra dx wa : Addr} {b0 : Hp} {W : Wd} {s : Rs} (h : RA K b ra dx wa b0 W s) (e : Ex b b') : RA K b' ra dx wa b0 W s := ⟨h.cr, e _ _ h.ins, h.ex.trans e, h.no, h.wo⟩
theorem RA.w {K : PySem.W.Frag} {b : Hp} {ra dx wa : Addr} {b0 : Hp} {W : Wd} {s : Rs} (h : RA K b ra dx wa b0 W s) : WAt K b wa W := h.wo.ex h.ex
theorem rput_rput {K : PySem.W.Frag} {b : Hp} {ra dx wa : Addr} {s s' : Rs} : rput K (rput K b ra dx wa s) ra dx wa s' = rput K b ra dx wa s' := upd_upd
theorem rput_self {K : PySem.W.Frag} {b : Hp} {ra dx wa : Addr} {b0 : Hp} {W : Wd} {s : Rs} (h : RA K b ra dx wa b0 W s) : rput K b ra dx wa s = b := by
  funext c
  unfold rput upd
  by_cases e : c = ra
  · rw [if_pos e, e]
    exact h.ins.symm
  · rw [if_neg e]
/-- whether a thing is keys -/
inductive KeysIs (K : PySem.W.Frag) (b : Hp) : V → Bool → Prop where
  | str (w : Str) (hz : w.cps.size < 100000) : KeysIs K b (.str w) (keysOk w)
  | other {v : V} (n : String) (h : ∀ H, Ex b H → TyX K H v (.type n)) (hk : kitB n "str" = some false) : KeysIs K b v false
inductive PlaceIs (K : PySem.W.Frag) (b : Hp) (W : Wd) : V → V → Bool → Prop where
  | whole (l t : Int) : PlaceIs K b W (.int l) (.int t) (((decide (-400 ≤ l) && decide (l ≤ 400)) && (decide (-400 ≤ t) && decide (t ≤ 400))) && freeM W.rows W.w l t)
  | left {v1 v2 : V} (h : CountIs K b (-400) 400 v1 false) : PlaceIs K b W v1 v2 false
  | top {v1 v2 : V} {r : Bool} (h : CountIs K b (-400) 400 v1 r) (h2 : CountIs K b (-400) 400 v2 false) : PlaceIs K b W v1 v2 false
section
variable {K : PySem.W.Frag} {σ : L2.St} {b : Hp} {vs : List V} {k : VK} {ke : XB} {E : XK}
def sb_need_keys (K : PySem.W.Frag) : Sb := fun vs b k ke => ∃ v r, vs = [v] ∧ KeysIs K b v r ∧ (r = true → k .non b) ∧ (r = false → ke (.ref (He.ga K "BadKeys")) b)
theorem len_need_keys : ∀ vs b k ke, sb_need_keys K vs b k ke → vs.length = (["keys"] : List Str).length := fun _ _ _ _ ⟨_, _, e, _⟩ => e ▸ rfl
def sb_World_need_place (K : PySem.W.Frag) : Sb := fun vs b k ke => ∃ wa W v1 v2 r, vs = [.ref wa, v1, v2] ∧ WAt K b wa W ∧ PlaceIs K b W v1 v2 r ∧ (r = true → k .non b) ∧ (r = false → ke (.ref (He.ga K "BadPlace")) b)
theorem len_World_need_place : ∀ vs b k ke, sb_World_need_place K vs b k ke → vs.length = (["self", "left", "top"] : List Str).length := fun _ _ _ _ ⟨_, _, _, _, _, e, _⟩ => e ▸ rfl
def sb_Runner___init__ (K : PySem.W.Frag) : Sb := fun vs b k ke => ∃ x dx wa W v1 v2 r, vs = [.ref x, .ref wa, v1, v2] ∧ CR K ∧ b x = some (.ins (He.ga K "Runner") dx []) ∧ WAt K b wa W ∧ PlaceIs K b W v1 v2 r ∧ (r = true → ∀ l t, v1 = .int l → v2 = .int t → k .non (rput K b x dx wa ⟨0, l, t, 0, 0, false⟩)) ∧ (r = false → ke (.ref (He.ga K "BadPlace")) b)
theorem len_Runner___init__ : ∀ vs b k ke, sb_Runner___init__ K vs b k ke → vs.length = (["self", "world", "left", "top"] : List Str).length := fun _ _ _ _ ⟨_, _, _, _, _, _, _, e, _⟩ => e ▸ rfl
def sb_Runner_at (K : PySem.W.Frag) : Sb := fun vs b k _ => ∃ ra dx wa b0 W s, vs = [.ref ra] ∧ RA K b ra dx wa b0 W s ∧ ∀ p, b p = none → k (.ref p) (upd b p (.tup [.int s.x, .int s.y]))
theorem len_Runner_at : ∀ vs b k ke, sb_Runner_at K vs b k ke → vs.length = (["self"] : List Str).length := fun _ _ _ _ ⟨_, _, _, _, _, _, e, _⟩ => e ▸ rfl
def sb_Runner_pace (K : PySem.W.Frag) : Sb := fun vs b k _ => ∃ ra dx wa b0 W s, vs = [.ref ra] ∧ RA K b ra dx wa b0 W s ∧ ∀ p, b p = none → k (.ref p) (upd b p (.tup [.int s.vx, .int s.vy]))
theorem len_Runner_pace : ∀ vs b k ke, sb_Runner_pace K vs b k ke → vs.length = (["self"] : List Str).length := fun _ _ _ _ ⟨_, _, _, _, _, _, e, _⟩ => e ▸ rfl
def sb_Runner_clock (K : PySem.W.Frag) : Sb := fun vs b k _ => ∃ ra dx wa b0 W s, vs = [.ref ra] ∧ RA K b ra dx wa b0 W s ∧ k (.int s.t) b
theorem len_Runner_clock : ∀ vs b k ke, sb_Runner_clock K vs b k ke → vs.length = (["self"] : List Str).length := fun _ _ _ _ ⟨_, _, _, _, _, _, e, _⟩ => e ▸ rfl
def sb_Runner_stands (K : PySem.W.Frag) : Sb := fun vs b k _ => ∃ ra dx wa b0 W s d, vs = [.ref ra, .bl d] ∧ RA K b ra dx wa b0 W s ∧ k (.bl (floorM W s.x s.y s.t d)) b
theorem len_Runner_stands : ∀ vs b k ke, sb_Runner_stands K vs b k ke → vs.length = (["self", "is_dropping"] : List Str).length := fun _ _ _ _ ⟨_, _, _, _, _, _, _, e, _⟩ => e ▸ rfl
def sb_Runner_is_standing (K : PySem.W.Frag) : Sb := fun vs b k _ => ∃ ra dx wa b0 W s, vs = [.ref ra] ∧ RA K b ra dx wa b0 W s ∧ k (.bl (floorM W s.x s.y s.t false)) b
theorem len_Runner_is_standing : ∀ vs b k ke, sb_Runner_is_standing K vs b k ke → vs.length = (["self"] : List Str).length := fun _ _ _ _ ⟨_, _, _, _, _, _, e, _⟩ => e ▸ rfl
def sb_Runner_be_carried (K : PySem.W.Frag) : Sb := fun vs b k _ => ∃ ra dx wa b0 W s, vs = [.ref ra] ∧ RA K b ra dx wa b0 W s ∧ k .non (rput K b ra dx wa (carryM W s))
theorem len_Runner_be_carried : ∀ vs b k ke, sb_Runner_be_carried K vs b k ke → vs.length = (["self"] : List Str).length := fun _ _ _ _ ⟨_, _, _, _, _, _, e, _⟩ => e ▸ rfl
def sb_Runner_speed_up (K : PySem.W.Frag) : Sb := fun vs b k _ => ∃ ra dx wa b0 W s keys, vs = [.ref ra, .str keys] ∧ RA K b ra dx wa b0 W s ∧ k .non (rput K b ra dx wa (speedM s keys))
theorem len_Runner_speed_up : ∀ vs b k ke, sb_Runner_speed_up K vs b k ke → vs.length = (["self", "keys"] : List Str).length := fun _ _ _ _ ⟨_, _, _, _, _, _, _, e, _⟩ => e ▸ rfl
def sb_Runner_leap (K : PySem.W.Frag) : Sb := fun vs b k _ => ∃ ra dx wa b0 W s keys, vs = [.ref ra, .str keys] ∧ RA K b ra dx wa b0 W s ∧ k .non (rput K b ra dx wa (leapM W s keys))
theorem len_Runner_leap : ∀ vs b k ke, sb_Runner_leap K vs b k ke → vs.length = (["self", "keys"] : List Str).length := fun _ _ _ _ ⟨_, _, _, _, _, _, _, e, _⟩ => e ▸ rfl
def sb_Runner_step_down (K : PySem.W.Frag) : Sb := fun vs b k _ => ∃ ra dx wa b0 W s, vs = [.ref ra] ∧ RA K b ra dx wa b0 W s ∧ k .non (rput K b ra dx wa (if floorM W s.x (s.y + 1) s.t false = true then { s with y := s.y + 1 } else s))
theorem len_Runner_step_down : ∀ vs b k ke, sb_Runner_step_down K vs b k ke → vs.length = (["self"] : List Str).length := fun _ _ _ _ ⟨_, _, _, _, _, _, e, _⟩ => e ▸ rfl
def sb_Runner_step_across (K : PySem.W.Frag) : Sb := fun vs b k _ => ∃ ra dx wa b0 W s d, vs = [.ref ra, .int d] ∧ RA K b ra dx wa b0 W s ∧ k (.bl (stepM W d s).isSome) (rput K b ra dx wa ((stepM W d s).getD s))
theorem len_Runner_step_across : ∀ vs b k ke, sb_Runner_step_across K vs b k ke → vs.length = (["self", "by"] : List Str).length := fun _ _ _ _ ⟨_, _, _, _, _, _, _, e, _⟩ => e ▸ rfl
def sb_Runner_go_across (K : PySem.W.Frag) : Sb := fun vs b k _ => ∃ ra dx wa b0 W s, vs = [.ref ra] ∧ RA K b ra dx wa b0 W s ∧ (-3 ≤ s.vx ∧ s.vx ≤ 3) ∧ k .non (rput K b ra dx wa (acrossM W s))
theorem len_Runner_go_across : ∀ vs b k ke, sb_Runner_go_across K vs b k ke → vs.length = (["self"] : List Str).length := fun _ _ _ _ ⟨_, _, _, _, _, _, e, _⟩ => e ▸ rfl
def sb_Runner_go_down (K : PySem.W.Frag) : Sb := fun vs b k _ => ∃ ra dx wa b0 W s d, vs = [.ref ra, .bl d] ∧ RA K b ra dx wa b0 W s ∧ (-6 ≤ s.vy ∧ s.vy ≤ 6) ∧ k .non (rput K b ra dx wa (downM W d s))
theorem len_Runner_go_down : ∀ vs b k ke, sb_Runner_go_down K vs b k ke → vs.length = (["self", "is_dropping"] : List Str).length := fun _ _ _ _ ⟨_, _, _, _, _, _, _, e, _⟩ => e ▸ rfl
def sb_Runner_tick (K : PySem.W.Frag) : Sb := fun vs b k ke => ∃ ra dx wa b0 W s v r, vs = [.ref ra, v] ∧ RA K b ra dx wa b0 W s ∧ GoodRs s ∧ KeysIs K b v r ∧ (r = true → ∀ keys, v = .str keys → k .non (rput K b ra dx wa (tickM W s keys))) ∧ (r = false → ke (.ref (He.ga K "BadKeys")) b)
theorem len_Runner_tick : ∀ vs b k ke, sb_Runner_tick K vs b k ke → vs.length = (["self", "keys"] : List Str).length := fun _ _ _ _ ⟨_, _, _, _, _, _, _, _, e, _⟩ => e ▸ rfl
end
def t_need_keys (K : PySem.W.Frag) (E : XK) : TS := (tSeq (tAsg (tAndV (tCB (rIsi K) (tCons (tVar 0) (tCons (tC (.ty "str")) tNil))) (tCB (rAll K) (tCons (tLc (iStr (tVar 0)) (gName 2) tYes (tOp (rInU K) (tVar 2) (tC (.str "ljrd"))) [2]) tNil))) (gName 1)) (tIfS (tOr (tNot (tB (tVar 1))) (tTest (tOp (rNeU K) (tCB (rListA K) (tCons (tVar 0) tNil)) (tLc (iStr (tC (.str "ljrd"))) (gName 2) (tTest (tOp (rInU K) (tVar 2) (tVar 0))) (tVar 2) [2])))) (tRaise (.ref (He.ga K "BadKeys")) E) tNext))
def t_World_need_place (K : PySem.W.Frag) (E : XK) : TS := (tSeq (tAsg (tAndV (tCall (up (sb_is_count K)) [] E (tCons (tVar 1) (tCons (tOp rSubU (tC (.int 0)) (tC (.int 400))) (tCons (tC (.int 400)) tNil)))) (tCall (up (sb_is_count K)) [] E (tCons (tVar 2) (tCons (tOp rSubU (tC (.int 0)) (tC (.int 400))) (tCons (tC (.int 400)) tNil))))) (gName 3)) (tIfS (tOr (tNot (tB (tVar 3))) (tNot (tB (tMeth (He.ga K "World") "is_free" (up (sb_World_is_free K)) [] E (tVar 0) (tCons (tVar 1) (tCons (tVar 2) tNil)))))) (tRaise (.ref (He.ga K "BadPlace")) E) tNext))
def t_Runner___init__ (K : PySem.W.Frag) (E : XK) : TS := (tSeq (tDrop (tMeth (He.ga K "World") "need_place" (up (sb_World_need_place K)) [] E (tVar 1) (tCons (tVar 2) (tCons (tVar 3) tNil)))) (tSeq (sFld K (tVar 0) (tVar 1) "world") (tSeq (sFld K (tVar 0) (tC (.int 0)) "time") (tSeq (sFld K (tVar 0) (tVar 2) "left") (tSeq (sFld K (tVar 0) (tVar 3) "top") (tSeq (sFld K (tVar 0) (tC (.int 0)) "across") (tSeq (sFld K (tVar 0) (tC (.int 0)) "down") (sFld K (tVar 0) (tC (.bl false)) "was_jumping"))))))))
def t_Runner_at (K : PySem.W.Frag) (E : XK) : TS := (tRet (tTup (tCons (tFld K (tVar 0) "left") (tCons (tFld K (tVar 0) "top") tNil))))
def t_Runner_pace (K : PySem.W.Frag) (E : XK) : TS := (tRet (tTup (tCons (tFld K (tVar 0) "across") (tCons (tFld K (tVar 0) "down") tNil))))
def t_Runner_clock (K : PySem.W.Frag) (E : XK) : TS := (tRet (tFld K (tVar 0) "time"))
def t_Runner_stands (K : PySem.W.Frag) (E : XK) : TS := (tRet (tMeth (He.ga K "World") "is_on_floor" (up (sb_World_is_on_floor K)) [] E (tFld K (tVar 0) "world") (tCons (tFld K (tVar 0) "left") (tCons (tFld K (tVar 0) "top") (tCons (tFld K (tVar 0) "time") (tCons (tVar 1) tNil))))))
def t_Runner_is_standing (K : PySem.W.Frag) (E : XK) : TS := (tRet (tMeth (He.ga K "Runner") "stands" (up (sb_Runner_stands K)) [] E (tVar 0) (tCons (tC (.bl false)) tNil)))
def t_Runner_be_carried (K : PySem.W.Frag) (E : XK) : TS := (tSeq (tAsg (tLc (iList K (tFld K (tFld K (tVar 0) "world") "lifts")) (gName 7) tYes (tCall (up (sb_place K)) [] E0 (tCons (tVar 7) (tCons (tFld K (tVar 0) "time") tNil))) [7]) (gName 1)) (tSeq (tAsg (tMeth (He.ga K "World") "under" (up (sb_World_under K)) [] E (tFld K (tVar 0) "world") (tCons (tFld K (tVar 0) "left") (tCons (tFld K (tVar 0) "top") (tCons (tFld K (tVar 0) "time") tNil)))) (gName 2)) (tSeq (sFld K (tVar 0) (tOp (rAddU K) (tFld K (tVar 0) "time") (tC (.int 1))) "time") (tIfS (tTest (tOp (rNeU K) (tVar 2) (tLst tNil))) (tSeq (tAsg (tCall (up (sb_place K)) [] E (tCons (tOp (rIx K) (tFld K (tFld K (tVar 0) "world") "lifts") (tOp (rIx K) (tVar 2) (tC (.int 0)))) (tCons (tFld K (tVar 0) "time") tNil))) (gTup K 2 (gCons (gName 3) (gCons (gName 4) gNil)))) (tSeq (tPar 5 6 (tCons (tOp rSubU (tOp (rAddU K) (tFld K (tVar 0) "left") (tVar 3)) (tOp (rIx K) (tOp (rIx K) (tVar 1) (tOp (rIx K) (tVar 2) (tC (.int 0)))) (tC (.int 0)))) (tCons (tOp rSubU (tOp (rAddU K) (tFld K (tVar 0) "top") (tVar 4)) (tOp (rIx K) (tOp (rIx K) (tVar 1) (tOp (rIx K) (tVar 2) (tC (.int 0)))) (tC (.int 1)))) tNil))) (tIfS (tB (tMeth (He.ga K "World") "is_free" (up (sb_World_is_free K)) [] E (tFld K (tVar 0) "world") (tCons (tVar 5) (tCons (tVar 6) tNil)))) (tAsg (tTup (tCons (tVar 5) (tCons (tVar 6) tNil))) (gTup K 2 (gCons (gFld K (tVar 0) "left") (gCons (gFld K (tVar 0) "top") gNil)))) tNext))) tNext))))
def t_Runner_speed_up (K : PySem.W.Frag) (E : XK) : TS := (tSeq (tAsg (tOp rSubU (tCB rInt1 (tCons (tOp (rInU K) (tC (.str "r")) (tVar 1)) tNil)) (tCB rInt1 (tCons (tOp (rInU K) (tC (.str "l")) (tVar 1)) tNil))) (gName 2)) (tSeq (tIfS (tTest (tOp (rEqU K) (tVar 2) (tC (.int 0)))) (tAsg (tOp rSubU (tCB rInt1 (tCons (tOp rLtI (tFld K (tVar 0) "across") (tC (.int 0))) tNil)) (tCB rInt1 (tCons (tOp rGtI (tFld K (tVar 0) "across") (tC (.int 0))) tNil))) (gName 2)) tNext) (sFld K (tVar 0) (tCB rMax2 (tCons (tOp rSubU (tC (.int 0)) (tC (.int 3))) (tCons (tCB rMin2 (tCons (tC (.int 3)) (tCons (tOp (rAddU K) (tFld K (tVar 0) "across") (tVar 2)) tNil))) tNil))) "across")))
def t_Runner_leap (K : PySem.W.Frag) (E : XK) : TS := (tIfS (tAnd (tB (tMeth (He.ga K "Runner") "stands" (up (sb_Runner_stands K)) [] E (tVar 0) (tCons (tOp (rInU K) (tC (.str "d")) (tVar 1)) tNil))) (tTest (tOp rGeI (tFld K (tVar 0) "down") (tC (.int 0))))) (sFld K (tVar 0) (tIf (tAnd (tTest (tOp (rInU K) (tC (.str "j")) (tVar 1))) (tNot (tB (tFld K (tVar 0) "was_jumping")))) (tOp rSubU (tC (.int 0)) (tC (.int 6))) (tC (.int 0))) "down") (sFld K (tVar 0) (tCB rMin2 (tCons (tC (.int 6)) (tCons (tOp (rAddU K) (tFld K (tVar 0) "down") (tC (.int 1))) tNil))) "down"))
def t_Runner_go_across (K : PySem.W.Frag) (E : XK) : TS := (tSeq (tAsg (tIf (tTest (tOp rGtI (tFld K (tVar 0) "across") (tC (.int 0)))) (tC (.int 1)) (tUn rNegI (tC (.int 1)))) (gName 1)) (tFor (iRng1 (tCons (tCB rAbs (tCons (tFld K (tVar 0) "across") tNil)) tNil)) (gName 2) (tIfS (tNot (tB (tMeth (He.ga K "Runner") "step_across" (up (sb_Runner_step_across K)) [] E (tVar 0) (tCons (tVar 1) tNil)))) (tSeq (sFld K (tVar 0) (tC (.int 0)) "across") tRetN) tNext)))
def t_Runner_step_across (K : PySem.W.Frag) (E : XK) : TS := (tSeq (tAsg (tMeth (He.ga K "Runner") "stands" (up (sb_Runner_stands K)) [] E (tVar 0) (tCons (tC (.bl false)) tNil)) (gName 2)) (tSeq (tIfS (tB (tMeth (He.ga K "World") "is_free" (up (sb_World_is_free K)) [] E (tFld K (tVar 0) "world") (tCons (tOp (rAddU K) (tFld K (tVar 0) "left") (tVar 1)) (tCons (tFld K (tVar 0) "top") tNil)))) (tSeq (sFld K (tVar 0) (tOp (rAddU K) (tFld K (tVar 0) "left") (tVar 1)) "left") (tSeq (tIfS (tAnd (tB (tVar 2)) (tAnd (tTest (tOp rGeI (tFld K (tVar 0) "down") (tC (.int 0)))) (tNot (tB (tMeth (He.ga K "Runner") "stands" (up (sb_Runner_stands K)) [] E (tVar 0) (tCons (tC (.bl false)) tNil)))))) (tDrop (tMeth (He.ga K "Runner") "step_down" (up (sb_Runner_step_down K)) [] E (tVar 0) tNil)) tNext) (tRet (tC (.bl true))))) tNext) (tSeq (tIfS (tAnd (tB (tVar 2)) (tB (tMeth (He.ga K "World") "is_free" (up (sb_World_is_free K)) [] E (tFld K (tVar 0) "world") (tCons (tOp (rAddU K) (tFld K (tVar 0) "left") (tVar 1)) (tCons (tOp rSubU (tFld K (tVar 0) "top") (tC (.int 1))) tNil))))) (tSeq (tAsg (tTup (tCons (tOp (rAddU K) (tFld K (tVar 0) "left") (tVar 1)) (tCons (tOp rSubU (tFld K (tVar 0) "top") (tC (.int 1))) tNil))) (gTup K 2 (gCons (gFld K (tVar 0) "left") (gCons (gFld K (tVar 0) "top") gNil)))) (tRet (tC (.bl true)))) tNext) (tRet (tC (.bl false))))))
def t_Runner_step_down (K : PySem.W.Frag) (E : XK) : TS := (tIfS (tB (tMeth (He.ga K "World") "is_on_floor" (up (sb_World_is_on_floor K)) [] E (tFld K (tVar 0) "world") (tCons (tFld K (tVar 0) "left") (tCons (tOp (rAddU K) (tFld K (tVar 0) "top") (tC (.int 1))) (tCons (tFld K (tVar 0) "time") (tCons (tC (.bl false)) tNil)))))) (sFld K (tVar 0) (tOp (rAddU K) (tFld K (tVar 0) "top") (tC (.int 1))) "top") tNext)
def t_Runner_go_down (K : PySem.W.Frag) (E : XK) : TS := (tSeq (tAsg (tIf (tTest (tOp rGtI (tFld K (tVar 0) "down") (tC (.int 0)))) (tC (.int 1)) (tUn rNegI (tC (.int 1)))) (gName 2)) (tFor (iRng1 (tCons (tCB rAbs (tCons (tFld K (tVar 0) "down") tNil)) tNil)) (gName 3) (tSeq (tAsg (tIf (tTest (tOp rGtI (tVar 2) (tC (.int 0)))) (tMeth (He.ga K "Runner") "stands" (up (sb_Runner_stands K)) [] E (tVar 0) (tCons (tVar 1) tNil)) (tNotV (tMeth (He.ga K "World") "is_free" (up (sb_World_is_free K)) [] E (tFld K (tVar 0) "world") (tCons (tFld K (tVar 0) "left") (tCons (tOp rSubU (tFld K (tVar 0) "top") (tC (.int 1))) tNil))))) (gName 4)) (tSeq (tIfS (tB (tVar 4)) (tSeq (sFld K (tVar 0) (tC (.int 0)) "down") tRetN) tNext) (sFld K (tVar 0) (tOp (rAddU K) (tFld K (tVar 0) "top") (tVar 2)) "top")))))
def t_Runner_tick (K : PySem.W.Frag) (E : XK) : TS := (tSeq (tDrop (tCall (up (sb_need_keys K)) [] E (tCons (tVar 1) tNil))) (tSeq (tDrop (tMeth (He.ga K "Runner") "be_carried" (up (sb_Runner_be_carried K)) [] E (tVar 0) tNil)) (tSeq (tDrop (tMeth (He.ga K "Runner") "speed_up" (up (sb_Runner_speed_up K)) [] E (tVar 0) (tCons (tVar 1) tNil))) (tSeq (tDrop (tMeth (He.ga K "Runner") "leap" (up (sb_Runner_leap K)) [] E (tVar 0) (tCons (tVar 1) tNil))) (tSeq (tDrop (tMeth (He.ga K "Runner") "go_across" (up (sb_Runner_go_across K)) [] E (tVar 0) tNil)) (tSeq (tDrop (tMeth (He.ga K "Runner") "go_down" (up (sb_Runner_go_down K)) [] E (tVar 0) (tCons (tOp (rInU K) (tC (.str "d")) (tVar 1)) tNil))) (sFld K (tVar 0) (tOp (rInU K) (tC (.str "j")) (tVar 1)) "was_jumping")))))))
section
variable {K : PySem.W.Frag} {σ : L2.St} {b : Hp} {vs : List V} {k : VK} {ke : XB} {E : XK} {ra dx wa : Addr} {b0 : Hp} {W : Wd} {s : Rs} {to te tx : TE} {ts : TA} {D : Ends} {tz : TS}
theorem f_world (h : RA K b ra dx wa b0 W s) (ho : Pe to σ b (.ref ra)) : Pe (tFld K to "world") σ b (.ref wa) := v_fld ho h.ins h.cr.cl h.cr.world (rf_world _ _)
theorem f_time (h : RA K b ra dx wa b0 W s) (ho : Pe to σ b (.ref ra)) : Pe (tFld K to "time") σ b (.int s.t) := v_fld ho h.ins h.cr.cl h.cr.time (rf_time _ _)
theorem f_left (h : RA K b ra dx wa b0 W s) (ho : Pe to σ b (.ref ra)) : Pe (tFld K to "left") σ b (.int s.x) := v_fld ho h.ins h.cr.cl h.cr.left (rf_left _ _)
theorem f_top (h : RA K b ra dx wa b0 W s) (ho : Pe to σ b (.ref ra)) : Pe (tFld K to "top") σ b (.int s.y) := v_fld ho h.ins h.cr.cl h.cr.top (rf_top _ _)
theorem f_across (h : RA K b ra dx wa b0 W s) (ho : Pe to σ b (.ref ra)) : Pe (tFld K to "across") σ b (.int s.vx) := v_fld ho h.ins h.cr.cl h.cr.across (rf_across _ _)
theorem f_down (h : RA K b ra dx wa b0 W s) (ho : Pe to σ b (.ref ra)) : Pe (tFld K to "down") σ b (.int s.vy) := v_fld ho h.ins h.cr.cl h.cr.down (rf_down _ _)
theorem f_jump (h : RA K b ra dx wa b0 W s) (ho : Pe to σ b (.ref ra)) : Pe (tFld K to "was_jumping") σ b (.bl s.j) := v_fld ho h.ins h.cr.cl h.cr.was_jumping (rf_jump _ _)
theorem x_free {l t : Int} (h : RA K b ra dx wa b0 W s) (ho : Pe to σ b (.ref wa)) (hs : Pa ts σ b [.int l, .int t]) : Pe (tMeth (He.ga K "World") "is_free" (up (sb_World_is_free K)) [] E to ts) σ b (.bl (freeM W.rows W.w l t)) := v_free h.w ho hs
theorem x_floor {l t time : Int} {d : Bool} (h : RA K b ra dx wa b0 W s) (ho : Pe to σ b (.ref wa)) (hs : Pa ts σ b [.int l, .int t, .int time, .bl d]) : Pe (tMeth (He.ga K "World") "is_on_floor" (up (sb_World_is_on_floor K)) [] E to ts) σ b (.bl (floorM W l t time d)) := v_floor h.w ho hs
theorem x_stands {d : Bool} (h : RA K b ra dx wa b0 W s) (ho : Pe to σ b (.ref ra)) (hs : Pa ts σ b [.bl d]) : Pe (tMeth (He.ga K "Runner") "stands" (up (sb_Runner_stands K)) [] E to ts) σ b (.bl (floorM W s.x s.y s.t d)) := v_meth ho h.ins (rf_none _ _ (by decide +kernel)) hs (fun k hk => ⟨ra, dx, wa, b0, W, s, d, rfl, h, hk⟩)
theorem x_standing (h : RA K b ra dx wa b0 W s) (ho : Pe to σ b (.ref ra)) : Pe (tMeth (He.ga K "Runner") "is_standing" (up (sb_Runner_is_standing K)) [] E to tNil) σ b (.bl (floorM W s.x s.y s.t false)) := v_meth ho h.ins (rf_none _ _ (by decide +kernel)) a_nil (fun k hk => ⟨ra, dx, wa, b0, W, s, rfl, h, hk⟩)
theorem x_clock (h : RA K b ra dx wa b0 W s) (ho : Pe to σ b (.ref ra)) : Pe (tMeth (He.ga K "Runner") "clock" (up (sb_Runner_clock K)) [] E to tNil) σ b (.int s.t) := v_meth ho h.ins (rf_none _ _ (by decide +kernel)) a_nil (fun k hk => ⟨ra, dx, wa, b0, W, s, rfl, h, hk⟩)
theorem x_at (h : RA K b ra dx wa b0 W s) (ho : Pe to σ b (.ref ra)) : Pn (tMeth (He.ga K "Runner") "at" (up (sb_Runner_at K)) [] E to tNil) σ b (.tup [.int s.x, .int s.y]) := n_meth ho h.ins (rf_none _ _ (by decide +kernel)) a_nil (fun k hk => ⟨ra, dx, wa, b0, W, s, rfl, h, hk⟩)
theorem x_pace (h : RA K b ra dx wa b0 W s) (ho : Pe to σ b (.ref ra)) : Pn (tMeth (He.ga K "Runner") "pace" (up (sb_Runner_pace K)) [] E to tNil) σ b (.tup [.int s.vx, .int s.vy]) := n_meth ho h.ins (rf_none _ _ (by decide +kernel)) a_nil (fun k hk => ⟨ra, dx, wa, b0, W, s, rfl, h, hk⟩)
theorem s_put {f : Str} {v : V} {s' : Rs} (h : RA K b ra dx wa b0 W s) (hv : Pe te σ b v) (ho : Pe to σ b (.ref ra)) (na : NoAttr K (He.ga K "Runner") f) (e : putF f v (rf wa s) = rf wa s') (hk : D.nx σ (rput K b ra dx wa s')) : Cs (sFld K to te f) D σ b := s_fldV hv ho h.ins h.cr.cl na (by show 7 < 1000; decide) (by rw [e]; exact hk)
theorem q_put {f : Str} {v : V} {s' : Rs} (h : RA K b ra dx wa b0 W s) (hv : Pe te σ b v) (ho : Pe to σ b (.ref ra)) (na : NoAttr K (He.ga K "Runner") f) (e : putF f v (rf wa s) = rf wa s') (hk : Cs tz D σ (rput K b ra dx wa s')) : Cs (tSeq (sFld K to te f) tz) D σ b := s_seq (s_put h hv ho na e hk)
theorem r_inK {c : Nat} {z w : Str} (e : z = ⟨#[c]⟩) : Pr (rInU K) (.str z) (.str w) b (.bl (hasK c w)) := by
  rw [e]
  exact r_in
theorem key_r : ("r" : Str) = ⟨#[114]⟩ := by decide +kernel
theorem key_l : ("l" : Str) = ⟨#[108]⟩ := by decide +kernel
theorem key_d : ("d" : Str) = ⟨#[100]⟩ := by decide +kernel
theorem key_j : ("j" : Str) = ⟨#[106]⟩ := by decide +kernel
end
local macro_rules | `(tactic| walk_at "own") => `(tactic| first
  | ((with_reducible apply f_time) <;> walk_at "v")
  | ((with_reducible apply f_left) <;> walk_at "v")
  | ((with_reducible apply f_top) <;> walk_at "v")
  | ((with_reducible apply f_across) <;> walk_at "v")
  | ((with_reducible apply f_down) <;> walk_at "v")
  | ((with_reducible apply f_jump) <;> walk_at "v")
  | ((with_reducible apply f_world) <;> walk_at "v")
  | ((with_reducible apply x_free) <;> walk_at "v")
  | ((with_reducible apply x_floor) <;> walk_at "v")
  | ((with_reducible apply x_stands) <;> walk_at "v")
  | ((with_reducible apply x_standing) <;> walk_at "v")
  | ((with_reducible apply x_clock) <;> walk_at "v")
  | (with_reducible exact r_inK key_r)
  | (with_reducible exact r_inK key_l)
  | (with_reducible exact r_inK key_d)
  | (with_reducible exact r_inK key_j))
section
variable {K : PySem.W.Frag} {σ : L2.St} {b : Hp} {vs : List V} {k : VK} {ke : XB} {E : XK}
theorem p_Runner_at (h : sb_Runner_at K vs b k ke) (hE : ∀ c b' H', ke c b' → Ex b' H' → E c none H') : Cs (t_Runner_at K E) { nx := fun _ b' => k .non b', rt := k } (start ["self"] vs) b := by
  obtain ⟨ra, dx, wa, b0, W, s, rfl, h, hk⟩ := h
  exact s_ret (Pn.c (n_pair (f_left h (v_var rfl)) (f_top h (v_var rfl))) hk)
theorem p_Runner_pace (h : sb_Runner_pace K vs b k ke) (hE : ∀ c b' H', ke c b' → Ex b' H' → E c none H') : Cs (t_Runner_pace K E) { nx := fun _ b' => k .non b', rt := k } (start ["self"] vs) b := by
  obtain ⟨ra, dx, wa, b0, W, s, rfl, h, hk⟩ := h
  exact s_ret (Pn.c (n_pair (f_across h (v_var rfl)) (f_down h (v_var rfl))) hk)
theorem p_Runner_clock (h : sb_Runner_clock K vs b k ke) (hE : ∀ c b' H', ke c b' → Ex b' H' → E c none H') : Cs (t_Runner_clock K E) { nx := fun _ b' => k .non b', rt := k } (start ["self"] vs) b := by
  obtain ⟨ra, dx, wa, b0, W, s, rfl, h, hk⟩ := h
  exact s_retV (f_time h (v_var rfl)) hk
theorem p_Runner_stands (h : sb_Runner_stands K vs b k ke) (hE : ∀ c b' H', ke c b' → Ex b' H' → E c none H') : Cs (t_Runner_stands K E) { nx := fun _ b' => k .non b', rt := k } (start ["self", "is_dropping"] vs) b := by
  obtain ⟨ra, dx, wa, b0, W, s, d, rfl, h, hk⟩ := h
  exact s_retV (by walk_at "v") hk
theorem p_Runner_is_standing (h : sb_Runner_is_standing K vs b k ke) (hE : ∀ c b' H', ke c b' → Ex b' H' → E c none H') : Cs (t_Runner_is_standing K E) { nx := fun _ b' => k .non b', rt := k } (start ["self"] vs) b := by
  obtain ⟨ra, dx, wa, b0, W, s, rfl, h, hk⟩ := h
  exact s_retV (by walk_at "v") hk
theorem p_Runner_step_down (h : sb_Runner_step_down K vs b k ke) (hE : ∀ c b' H', ke c b' → Ex b' H' → E c none H') : Cs (t_Runner_step_down K E) { nx := fun _ b' => k .non b', rt := k } (start ["self"] vs) b := by
  obtain ⟨ra, dx, wa, b0, W, s, rfl, h, hk⟩ := h
  refine s_when (c := floorM W s.x (s.y + 1) s.t false) (by walk_at "v") (fun c1 => ?_) (fun c1 => ?_)
  · rw [if_pos c1] at hk
    exact s_put h (by walk_at "v") (v_var rfl) h.cr.top (pf_top _ _ _) hk
  · rw [if_neg (by rw [c1]; decide), rput_self h] at hk
    exact hk
theorem p_Runner_speed_up (h : sb_Runner_speed_up K vs b k ke) (hE : ∀ c b' H', ke c b' → Ex b' H' → E c none H') : Cs (t_Runner_speed_up K E) { nx := fun _ b' => k .non b', rt := k } (start ["self", "keys", "by"] vs) b := by
  obtain ⟨ra, dx, wa, b0, W, s, keys, rfl, h, hk⟩ := h
  refine q_asgV (v := .int (bI (hasK 114 keys) - bI (hasK 108 keys))) (v_is (by walk_at "v") (by rfl)) ?_
  refine s_cut (fun σ' b' => σ' = [some (.ref ra), some (.str keys), some (.int (pushM s keys))] ∧ b = b') ?_ ?_
  · refine s_when (c := decide (bI (hasK 114 keys) - bI (hasK 108 keys) = 0)) (by walk_at "v") (fun c1 => s_asgV (v := .int (bI (decide (s.vx < 0)) - bI (decide (0 < s.vx)))) (v_is (by walk_at "v") (by rfl)) ⟨?_, rfl⟩) (fun c1 => ⟨?_, rfl⟩)
    · unfold pushM
      rw [if_pos (of_decide_eq_true c1)]
      rfl
    · unfold pushM
      rw [if_neg (of_decide_eq_false c1)]
      rfl
  · rintro σ' b' ⟨rfl, rfl⟩
    have e : ∀ i : Int, (if (if i < 3 then i else 3) > 0 - 3 then (if i < 3 then i else 3) else 0 - 3) = clampM i := by
      intro i
      unfold clampM
      repeat' split
      all_goals omega
    exact s_put (v := .int (clampM (s.vx + pushM s keys))) h (v_is (by walk_at "v") (by rw [← e (s.vx + pushM s keys)])) (v_var rfl) h.cr.across (pf_across _ _ _) hk
theorem p_Runner_leap (h : sb_Runner_leap K vs b k ke) (hE : ∀ c b' H', ke c b' → Ex b' H' → E c none H') : Cs (t_Runner_leap K E) { nx := fun _ b' => k .non b', rt := k } (start ["self", "keys"] vs) b := by
  obtain ⟨ra, dx, wa, b0, W, s, keys, rfl, h, hk⟩ := h
  unfold leapM at hk
  refine s_if (c := (floorM W s.x s.y s.t (hasK 100 keys) && decide (0 ≤ s.vy))) (by walk_at "v") (fun c1 => ?_) (fun c1 => ?_)
  · rw [if_pos c1] at hk
    exact s_put h (v := .int (if (hasK 106 keys && !s.j) = true then -6 else 0)) (v_is (v_if (x := V.int (0 - 6)) (y := V.int 0) (c := hasK 106 keys && !s.j) (by walk_at "v") (fun _ => by walk_at "v") (fun _ => by walk_at "v")) (by split <;> rfl)) (v_var rfl) h.cr.down (pf_down _ _ _) hk
  · rw [if_neg (by rw [c1]; decide)] at hk
    exact s_put h (v := .int (if s.vy + 1 < 6 then s.vy + 1 else 6)) (by walk_at "v") (v_var rfl) h.cr.down (pf_down _ _ _) hk
end

/-! ### runners: the walks that call others -/
section
variable {K : PySem.W.Frag} {σ : L2.St} {b : Hp} {vs : List V} {k : VK} {ke : XB} {E : XK} {ra dx wa : Addr} {b0 : Hp} {W : Wd} {s : Rs} {to te tx : TE} {ts : TA} {D : Ends} {tz : TS}
theorem c_step_down (h : RA K b ra dx wa b0 W s) (ho : Pe to σ b (.ref ra)) (hk : k .non (rput K b ra dx wa (if floorM W s.x (s.y + 1) s.t false = true then { s with y := s.y + 1 } else s))) : Ce (tMeth (He.ga K "Runner") "step_down" (up (sb_Runner_step_down K)) [] E to tNil) σ b k :=
  c_meth0 ho h.ins (rf_none _ _ (by decide +kernel)) (Pa.c a_nil ⟨ra, dx, wa, b0, W, s, rfl, h, hk⟩)
theorem c_step_across {d : Int} (h : RA K b ra dx wa b0 W s) (ho : Pe to σ b (.ref ra)) (hs : Pa ts σ b [.int d]) (hk : k (.bl (stepM W d s).isSome) (rput K b ra dx wa ((stepM W d s).getD s))) : Ce (tMeth (He.ga K "Runner") "step_across" (up (sb_Runner_step_across K)) [] E to ts) σ b k :=
  c_meth0 ho h.ins (rf_none _ _ (by decide +kernel)) (Pa.c hs ⟨ra, dx, wa, b0, W, s, d, rfl, h, hk⟩)
theorem c_carried (h : RA K b ra dx wa b0 W s) (ho : Pe to σ b (.ref ra)) (hk : k .non (rput K b ra dx wa (carryM W s))) : Ce (tMeth (He.ga K "Runner") "be_carried" (up (sb_Runner_be_carried K)) [] E to tNil) σ b k :=
  c_meth0 ho h.ins (rf_none _ _ (by decide +kernel)) (Pa.c a_nil ⟨ra, dx, wa, b0, W, s, rfl, h, hk⟩)
theorem c_speed {keys : Str} (h : RA K b ra dx wa b0 W s) (ho : Pe to σ b (.ref ra)) (hs : Pa ts σ b [.str keys]) (hk : k .non (rput K b ra dx wa (speedM s keys))) : Ce (tMeth (He.ga K "Runner") "speed_up" (up (sb_Runner_speed_up K)) [] E to ts) σ b k :=
  c_meth0 ho h.ins (rf_none _ _ (by decide +kernel)) (Pa.c hs ⟨ra, dx, wa, b0, W, s, keys, rfl, h, hk⟩)
theorem c_leap {keys : Str} (h : RA K b ra dx wa b0 W s) (ho : Pe to σ b (.ref ra)) (hs : Pa ts σ b [.str keys]) (hk : k .non (rput K b ra dx wa (leapM W s keys))) : Ce (tMeth (He.ga K "Runner") "leap" (up (sb_Runner_leap K)) [] E to ts) σ b k :=
  c_meth0 ho h.ins (rf_none _ _ (by decide +kernel)) (Pa.c hs ⟨ra, dx, wa, b0, W, s, keys, rfl, h, hk⟩)
theorem c_across (h : RA K b ra dx wa b0 W s) (ho : Pe to σ b (.ref ra)) (hv : -3 ≤ s.vx ∧ s.vx ≤ 3) (hk : k .non (rput K b ra dx wa (acrossM W s))) : Ce (tMeth (He.ga K "Runner") "go_across" (up (sb_Runner_go_across K)) [] E to tNil) σ b k :=
  c_meth0 ho h.ins (rf_none _ _ (by decide +kernel)) (Pa.c a_nil ⟨ra, dx, wa, b0, W, s, rfl, h, hv, hk⟩)
theorem c_down {d : Bool} (h : RA K b ra dx wa b0 W s) (ho : Pe to σ b (.ref ra)) (hs : Pa ts σ b [.bl d]) (hv : -6 ≤ s.vy ∧ s.vy ≤ 6) (hk : k .non (rput K b ra dx wa (downM W d s))) : Ce (tMeth (He.ga K "Runner") "go_down" (up (sb_Runner_go_down K)) [] E to ts) σ b k :=
  c_meth0 ho h.ins (rf_none _ _ (by decide +kernel)) (Pa.c hs ⟨ra, dx, wa, b0, W, s, d, rfl, h, hv, hk⟩)
/-- a tick with good keys -/
theorem c_tick {keys : Str} (h : RA K b ra dx wa b0 W s) (g : GoodRs s) (ho : Pe to σ b (.ref ra)) (hs : Pa ts σ b [.str keys]) (hz : keys.cps.size < 100000) (hok : keysOk keys = true) (hk : k .non (rput K b ra dx wa (tickM W s keys))) : Ce (tMeth (He.ga K "Runner") "tick" (up (sb_Runner_tick K)) [] E to ts) σ b k :=
  c_meth0 ho h.ins (rf_none _ _ (by decide +kernel)) (Pa.c hs ⟨ra, dx, wa, b0, W, s, .str keys, keysOk keys, rfl, h, g, .str keys hz, fun _ w e => by cases e; exact hk, fun e => by rw [hok] at e; cases e⟩)
theorem s_need_keys {keys : Str} (hz : keys.cps.size < 100000) (hok : keysOk keys = true) : Ps (sb_need_keys K) [.str keys] b .non := fun k hk => ⟨_, _, rfl, .str keys hz, fun _ => hk, fun e => by rw [hok] at e; cases e⟩
theorem p_Runner_step_across (h : sb_Runner_step_across K vs b k ke) (hE : ∀ c b' H', ke c b' → Ex b' H' → E c none H') : Cs (t_Runner_step_across K E) { nx := fun _ b' => k .non b', rt := k } (start ["self", "by", "was_standing"] vs) b := by
  obtain ⟨ra, dx, wa, b0, W, s, d, rfl, h, hk⟩ := h
  unfold stepM at hk
  refine q_asgV (v := .bl (floorM W s.x s.y s.t false)) (by walk_at "v") ?_
  refine q_when (c := freeM W.rows W.w (s.x + d) s.y) (by walk_at "v") (fun c1 => ?_) (fun c1 => ?_)
  · rw [if_pos c1] at hk
    refine q_put h (v := .int (s.x + d)) (by walk_at "v") (v_var rfl) h.cr.left (pf_left _ _ _) ?_
    have h1 := h.put { s with x := s.x + d }
    clear h
    refine q_when (c := floorM W s.x s.y s.t false && (decide (0 ≤ s.vy) && !floorM W (s.x + d) s.y s.t false)) (t_is (by walk_at "v") (by rfl)) (fun c2 => ?_) (fun c2 => ?_)
    · rw [if_pos c2] at hk
      refine s_drop (c_step_down h1 (v_var rfl) (s_retV v_c ?_))
      rw [rput_rput]
      split at hk
      · rename_i c3
        rw [if_pos c3]
        exact hk
      · rename_i c3
        rw [if_neg c3]
        exact hk
    · rw [if_neg (by rw [c2]; decide)] at hk
      exact s_retV v_c hk
  · rw [if_neg (by rw [c1]; decide)] at hk
    refine q_when (c := floorM W s.x s.y s.t false && freeM W.rows W.w (s.x + d) (s.y - 1)) (by walk_at "v") (fun c2 => ?_) (fun c2 => ?_)
    · rw [if_pos c2] at hk
      refine q_asgT (vs := [.int (s.x + d), .int (s.y - 1)]) (n_pair (by walk_at "v") (by walk_at "v")) rfl (gs_cons (g_fld (v_var rfl) h.ins h.cr.cl h.cr.left (by show 7 < 1000; decide) ?_))
      rw [pf_left]
      refine gs_cons (g_fld (v_var rfl) upd_same h.cr.cl h.cr.top (by show 7 < 1000; decide) (gs_nil ?_))
      rw [pf_top, upd_upd]
      exact s_retV v_c hk
    · rw [if_neg (by rw [c2]; decide)] at hk
      refine s_retV v_c ?_
      have e := rput_self h
      dsimp only [Option.getD, Option.isSome] at hk
      rw [e] at hk
      exact hk
theorem acrossGo_succ (W : Wd) (d : Int) (n : Nat) (s : Rs) : acrossGo W d (n + 1) s = match stepM W d s with
    | some s' => acrossGo W d n s'
    | none => { s with vx := 0 } := rfl
theorem downGo_succ (W : Wd) (dr : Bool) (d : Int) (n : Nat) (s : Rs) : downGo W dr d (n + 1) s = if stopM W dr d s = true then { s with vy := 0 } else downGo W dr d n { s with y := s.y + d } := rfl
theorem abs_nat (v : Int) : (if v < 0 then -v else v) = (v.natAbs : Int) := by
  split <;> omega
theorem p_Runner_go_across (h : sb_Runner_go_across K vs b k ke) (hE : ∀ c b' H', ke c b' → Ex b' H' → E c none H') : Cs (t_Runner_go_across K E) { nx := fun _ b' => k .non b', rt := k } (start ["self", "by", "step"] vs) b := by
  obtain ⟨ra, dx, wa, b0, W, s, rfl, h, hv, hk⟩ := h
  refine q_asgV (v := .int (if 0 < s.vx then 1 else -1)) (v_is (v_if (x := V.int 1) (y := V.int (-1)) (c := decide (0 < s.vx)) (by walk_at "v") (fun _ => by walk_at "v") (fun _ => by walk_at "v")) (by by_cases q : 0 < s.vx <;> simp [q])) ?_
  unfold acrossM at hk
  generalize (if 0 < s.vx then (1 : Int) else -1) = d at hk
  refine s_range1 (n := (s.vx.natAbs : Int)) (a_cons (v_is (by walk_at "v") (by rw [abs_nat])) a_nil) (by omega) (fun i σ' b' => ∃ (v2 : Option V) (c : Rs), σ' = [some (.ref ra), some (.int d), v2] ∧ b' = rput K b ra dx wa c ∧ acrossGo W d (s.vx.natAbs - i) c = acrossGo W d s.vx.natAbs s)
    ⟨none, s, rfl, (rput_self h).symm, rfl⟩ ?_ ?_
  · rintro i σ' b' hi ⟨v2, c, rfl, rfl, hc⟩
    have h1 := h.put c
    have e1 : s.vx.natAbs - i = (s.vx.natAbs - (i + 1)) + 1 := by omega
    rw [e1, acrossGo_succ] at hc
    refine g_name (s_ifC (ct_not (ct_B (c_step_across h1 (v_var rfl) (by walk_at "v") ⟨_, rfl, ?_⟩))))
    rw [rput_rput]
    cases e : stepM W d c with
    | none =>
      rw [e] at hc
      refine q_put (h.put c) (v := .int 0) v_c (v_var rfl) h.cr.across (pf_across _ _ _) (s_retN ?_)
      rw [rput_rput]
      dsimp only at hc
      have e2 : ({ c with vx := 0 } : Rs) = acrossGo W d s.vx.natAbs s := by rw [← hc]
      rw [e2]
      exact hk
    | some c' =>
      rw [e] at hc
      exact s_next ⟨_, c', rfl, rfl, by dsimp only at hc; rw [hc]⟩
  · rintro σ' b' ⟨v2, c, rfl, rfl, hc⟩
    have e1 : s.vx.natAbs - ((s.vx.natAbs : Int)).toNat = 0 := by omega
    rw [e1] at hc
    have e2 : c = acrossGo W d s.vx.natAbs s := by rw [← hc]; rfl
    rw [e2]
    exact hk
theorem p_Runner_go_down (h : sb_Runner_go_down K vs b k ke) (hE : ∀ c b' H', ke c b' → Ex b' H' → E c none H') : Cs (t_Runner_go_down K E) { nx := fun _ b' => k .non b', rt := k } (start ["self", "is_dropping", "by", "step", "is_stopped"] vs) b := by
  obtain ⟨ra, dx, wa, b0, W, s, dr, rfl, h, hv, hk⟩ := h
  refine q_asgV (v := .int (if 0 < s.vy then 1 else -1)) (v_is (v_if (x := V.int 1) (y := V.int (-1)) (c := decide (0 < s.vy)) (by walk_at "v") (fun _ => by walk_at "v") (fun _ => by walk_at "v")) (by by_cases q : 0 < s.vy <;> simp [q])) ?_
  unfold downM at hk
  generalize (if 0 < s.vy then (1 : Int) else -1) = d at hk
  refine s_range1 (n := (s.vy.natAbs : Int)) (a_cons (v_is (by walk_at "v") (by rw [abs_nat])) a_nil) (by omega) (fun i σ' b' => ∃ (v3 v4 : Option V) (c : Rs), σ' = [some (.ref ra), some (.bl dr), some (.int d), v3, v4] ∧ b' = rput K b ra dx wa c ∧ downGo W dr d (s.vy.natAbs - i) c = downGo W dr d s.vy.natAbs s)
    ⟨none, none, s, rfl, (rput_self h).symm, rfl⟩ ?_ ?_
  · rintro i σ' b' hi ⟨v3, v4, c, rfl, rfl, hc⟩
    have h1 := h.put c
    have e1 : s.vy.natAbs - i = (s.vy.natAbs - (i + 1)) + 1 := by omega
    rw [e1, downGo_succ] at hc
    refine g_name ?_
    refine q_asgV (v := .bl (stopM W dr d c)) (v_is (v_if (x := V.bl (floorM W c.x c.y c.t dr)) (y := V.bl (!freeM W.rows W.w c.x (c.y - 1))) (c := decide (0 < d)) (by walk_at "v") (fun _ => by walk_at "v") (fun _ => by walk_at "v")) (by unfold stopM; by_cases q : 0 < d <;> simp [q])) ?_
    refine q_when (c := stopM W dr d c) (by walk_at "v") (fun c1 => ?_) (fun c1 => ?_)
    · rw [if_pos c1] at hc
      refine q_put h1 (v := .int 0) v_c (v_var rfl) h.cr.down (pf_down _ _ _) (s_retN ?_)
      rw [rput_rput, hc]
      exact hk
    · rw [if_neg (by rw [c1]; decide)] at hc
      refine s_put h1 (v := .int (c.y + d)) (by walk_at "v") (v_var rfl) h.cr.top (pf_top _ _ _) ⟨_, _, { c with y := c.y + d }, rfl, rput_rput, hc⟩
  · rintro σ' b' ⟨v3, v4, c, rfl, rfl, hc⟩
    have e1 : s.vy.natAbs - ((s.vy.natAbs : Int)).toNat = 0 := by omega
    rw [e1] at hc
    have e2 : c = downGo W dr d s.vy.natAbs s := by rw [← hc]; rfl
    rw [e2]
    exact hk
theorem p_Runner_tick (h : sb_Runner_tick K vs b k ke) (hE : ∀ c b' H', ke c b' → Ex b' H' → E c none H') : Cs (t_Runner_tick K E) { nx := fun _ b' => k .non b', rt := k } (start ["self", "keys"] vs) b := by
  obtain ⟨ra, dx, wa, b0, W, s, v, r, rfl, h, g, hr, hk, hk2⟩ := h
  refine q_drop (c_call (ke := ke) hE (Pa.c (a_cons (v_var rfl) a_nil) ⟨v, r, rfl, hr, fun er => ?_, hk2⟩))
  obtain ⟨keys, rfl⟩ : ∃ keys, v = .str keys := by
    cases hr with
    | str w hz => exact ⟨w, rfl⟩
    | other n h1 h2 => cases er
  have hk := hk er keys rfl
  have c := carry_vx W s
  have hl := leap_vy W (speedM (carryM W s) keys) keys (by show -6 ≤ (carryM W s).vy; rw [c.2.1]; exact g.vy.1)
  have cr := clamp_rng ((carryM W s).vx + pushM (carryM W s) keys)
  refine q_drop (c_carried h (v_var rfl) ?_)
  refine q_drop (c_speed (h.put _) (v_var rfl) (by walk_at "v") ?_)
  rw [rput_rput]
  refine q_drop (c_leap (h.put _) (v_var rfl) (by walk_at "v") ?_)
  rw [rput_rput]
  refine q_drop (c_across (h.put _) (v_var rfl) (by rw [hl.2.2.1]; exact cr) ?_)
  rw [rput_rput]
  have ha : ∀ (d : Int) (n : Nat) (z : Rs), (acrossGo W d n z).vy = z.vy := by
    intro d n
    induction n with
    | zero => exact fun z => rfl
    | succ n ih =>
      intro z
      unfold acrossGo
      cases e : stepM W d z with
      | none => rfl
      | some z' => exact (ih z').trans (step_keep W d z z' e).2.1
  have h5 := h.put (acrossM W (leapM W (speedM (carryM W s) keys) keys))
  refine q_drop (c_down (d := hasK 100 keys) h5 (v_var rfl) (a_cons (v_op v_c (v_var rfl) (r_inK key_d)) a_nil) (by unfold acrossM; rw [ha]; exact ⟨hl.1, hl.2.1⟩) ?_)
  rw [rput_rput]
  refine s_put (h.put _) (v := .bl (hasK 106 keys)) (v_op v_c (v_var rfl) (r_inK key_j)) (v_var rfl) h.cr.was_jumping (pf_jump _ _ _) ?_
  rw [rput_rput]
  exact hk
end

/-! ### refusals of keys and places, new runners -/
def sgn (c : Nat) : Str := ⟨#[c]⟩
theorem sgn_map {l m : List Nat} : l.map sgn = m.map sgn ↔ l = m := by
  constructor
  · intro h
    have inj : ∀ x y : Nat, sgn x = sgn y → x = y := by
      intro x y e
      have : (sgn x).cps = (sgn y).cps := congrArg Str.cps e
      have h2 : (#[x] : Array Nat) = #[y] := this
      simpa using h2
    induction l generalizing m with
    | nil =>
      cases m with
      | nil => rfl
      | cons a r => cases h
    | cons a r ih =>
      cases m with
      | nil => cases h
      | cons c q =>
        have h1 : sgn a :: r.map sgn = sgn c :: q.map sgn := h
        injection h1 with e1 e2
        rw [inj _ _ e1, ih e2]
  · intro h
    rw [h]
theorem ljrd : ("ljrd" : Str).cps.toList = [108, 106, 114, 100] := by decide +kernel
theorem ljrd_ok {c : Nat} (h : c ∈ ([108, 106, 114, 100] : List Nat)) : PySem.PyData.strOk (sgn c) = true := by
  have : c = 108 ∨ c = 106 ∨ c = 114 ∨ c = 100 := by simpa using h
  rcases this with e | e | e | e <;> subst e <;> decide +kernel
section
variable {K : PySem.W.Frag} {σ : L2.St} {b : Hp} {vs : List V} {k : VK} {ke : XB} {E : XK}
theorem t_bad {i : Nat} {u : TT} (h : σ[i]? = some (some (.bl false))) : Pt (tOr (tNot (tB (tVar i))) u) σ b true := t_is (t_or (c := !false) (d := true) (t_not (t_B (v_var h))) (fun q => by cases q)) rfl
theorem at_zero {α : Type} (x : α) (xs : List α) : atI (x :: xs) 0 = some x := by
  have := at_getD (x :: xs) x (i := 0) (by decide) (by rw [List.length_cons]; omega)
  rw [this]
  rfl
theorem p_need_keys (h : sb_need_keys K vs b k ke) (hE : ∀ c b' H', ke c b' → Ex b' H' → E c none H') : Cs (t_need_keys K E) { nx := fun _ b' => k .non b', rt := k } (start ["keys", "good", "key"] vs) b := by
  obtain ⟨v, r, rfl, hr, hk, hk2⟩ := h
  cases hr with
  | other n hT hn =>
    refine q_asgV (v := .bl false) (v_is (v_andV (c := false) (d := true) (v_cb (a_cons (v_var rfl) (a_cons v_c a_nil)) (p_isi hT hn)) (fun q => by cases q)) rfl) ?_
    exact s_when (c := true) (t_bad rfl) (fun _ => s_raise hE (hk2 rfl)) (fun c => by cases c)
  | str w hz =>
    refine q_asgV (v := .bl ((w.cps.toList.map fun c => decide (c ∈ ([108, 106, 114, 100] : List Nat))).all id)) (v_is (v_andV (c := true) (v_cb (a_cons (v_var rfl) (a_cons v_c a_nil)) (p_isi (n := "str") (r := true) (fun H e => .base (.str w)) (by decide +kernel))) (fun _ => v_allN (bs := w.cps.toList.map fun c => decide (c ∈ ([108, 106, 114, 100] : List Nat))) (n_lcS (fun _ => true) (fun c => .bl (decide (c ∈ ([108, 106, 114, 100] : List Nat)))) (v_var rfl) hz (fun x => rfl) (fun c b2 _ _ => t_yes) (fun c b2 hc _ e2 => v_is (v_op (v_var rfl) v_c r_in) (by rw [ljrd]))) (by rw [filter_yes, List.map_map]; rfl))) (by rw [Bool.true_and])) ?_
    generalize hA : (w.cps.toList.map fun c => decide (c ∈ ([108, 106, 114, 100] : List Nat))).all id = A
    have key : ((!A) || !decide (w.cps.toList.map sgn = ([108, 106, 114, 100].filter fun c => hasK c w).map sgn)) = !keysOk w := by
      unfold keysOk
      by_cases e : w.cps.toList = [108, 106, 114, 100].filter fun c => hasK c w
      · have : A = true := by
          rw [← hA, List.all_eq_true]
          intro x hx
          obtain ⟨c, hc, rfl⟩ := List.mem_map.mp hx
          rw [e] at hc
          have := (List.mem_filter.mp hc).1
          simpa using this
        rw [this, decide_eq_true e, decide_eq_true (sgn_map.mpr e)]
        rfl
      · rw [decide_eq_false e, decide_eq_false (fun q => e (sgn_map.mp q))]
        simp
    refine s_when (c := !keysOk w) (t_is (t_or (t_not (t_B (v_var rfl))) (fun cA => t_test (v_opNN (n_listT (by walk_at "v") (by omega)) (fun b1 _ => n_lcS (fun c => hasK c w) (fun c => .str (sgn c)) v_c (by decide +kernel) (fun x => rfl) (fun c b2 _ _ => t_test (v_op (v_var rfl) (v_var rfl) r_in)) (fun c b2 _ _ _ => v_var rfl)) (fun p p' b1 e hp hp' => ?_)))) key) (fun c1 => s_raise hE (hk2 (by rw [Bool.not_eq_true'] at c1; exact c1))) (fun c1 => hk (by rw [Bool.not_eq_false'] at c1; exact c1))
    have hA1 : A = true := by simpa using cA
    have hall : ∀ c ∈ w.cps.toList, c ∈ ([108, 106, 114, 100] : List Nat) := by
      intro c hc
      rw [hA1, List.all_eq_true] at hA
      have := hA (decide (c ∈ ([108, 106, 114, 100] : List Nat))) (List.mem_map_of_mem (f := fun c => decide (c ∈ ([108, 106, 114, 100] : List Nat))) hc)
      simpa using this
    have hs1 : SqL K b1 p ((w.cps.toList.map sgn).map V.str) := sq_of (by rw [hp]; unfold sgs; rw [List.map_map]; rfl)
    have hs2 : SqL K b1 p' ((([108, 106, 114, 100].filter fun c => hasK c w).map sgn).map V.str) := sq_of (by rw [hp', ljrd, List.map_map]; rfl)
    have hq := r_neD (dp_strs hs1) (dp_strs hs2) (sh_strs _ fun x hx => by
      obtain ⟨c, hc, rfl⟩ := List.mem_map.mp hx
      exact ljrd_ok (hall c hc)) (sh_strs _ fun x hx => by
      obtain ⟨c, hc, rfl⟩ := List.mem_map.mp hx
      exact ljrd_ok (List.mem_filter.mp hc).1)
    rw [eqv_strs] at hq
    exact hq
theorem s_is_count {v : V} {lo hi : Int} {r : Bool} (h : CountIs K b lo hi v r) : Ps (sb_is_count K) [v, .int lo, .int hi] b (.bl r) := fun k hk => ⟨v, lo, hi, r, rfl, h, hk⟩
theorem p_World_need_place (h : sb_World_need_place K vs b k ke) (hE : ∀ c b' H', ke c b' → Ex b' H' → E c none H') : Cs (t_World_need_place K E) { nx := fun _ b' => k .non b', rt := k } (start ["self", "left", "top", "good"] vs) b := by
  obtain ⟨wa, W, v1, v2, r, rfl, hW, hr, hk, hk2⟩ := h
  have a1 : ∀ {v : V} {i : Nat} {s : L2.St}, s[i]? = some (some v) → Pa (tCons (tVar i) (tCons (tOp rSubU (tC (.int 0)) (tC (.int 400))) (tCons (tC (.int 400)) tNil))) s b [v, .int (-400), .int 400] := fun hs => a_cons (v_var hs) (a_cons (v_is (v_op v_c v_c r_sub) rfl) (a_cons v_c a_nil))
  cases hr with
  | whole l t =>
    refine q_asgV (v_andV (v_call (a1 rfl) (s_is_count (.int l))) (fun _ => v_call (a1 rfl) (s_is_count (.int t)))) ?_
    exact s_when (c := !(((decide (-400 ≤ l) && decide (l ≤ 400)) && (decide (-400 ≤ t) && decide (t ≤ 400))) && freeM W.rows W.w l t)) (t_is (t_or (t_not (t_B (v_var rfl))) (fun _ => t_not (t_B (v_free hW (v_var rfl) (by walk_at "v"))))) (by rw [← Bool.not_and])) (fun c1 => s_raise hE (hk2 (by rw [Bool.not_eq_true'] at c1; exact c1))) (fun c1 => hk (by rw [Bool.not_eq_false'] at c1; exact c1))
  | left hc =>
    refine q_asgV (v := .bl false) (v_is (v_andV (c := false) (d := true) (v_call (a1 rfl) (s_is_count hc)) (fun q => by cases q)) rfl) ?_
    exact s_when (c := true) (t_bad rfl) (fun _ => s_raise hE (hk2 rfl)) (fun c => by cases c)
  | top hc hc2 =>
    refine q_asgV (v := .bl false) (v_is (v_andV (v_call (a1 rfl) (s_is_count hc)) (fun _ => v_call (a1 rfl) (s_is_count hc2))) (by rw [Bool.and_false])) ?_
    exact s_when (c := true) (t_bad rfl) (fun _ => s_raise hE (hk2 rfl)) (fun c => by cases c)
theorem p_Runner___init__ (h : sb_Runner___init__ K vs b k ke) (hE : ∀ c b' H', ke c b' → Ex b' H' → E c none H') : Cs (t_Runner___init__ K E) { nx := fun _ b' => k .non b', rt := k } (start ["self", "world", "left", "top"] vs) b := by
  obtain ⟨x, dx, wa, W, v1, v2, r, rfl, cr, hx, hW, hr, hk, hk2⟩ := h
  obtain ⟨dw, rw', lw, hw1, hw2, hw3⟩ := hW.ins
  refine q_drop (c_meth (ke := ke) hE (v_var rfl) hw1 (wf_none _ _ (by decide +kernel) (by decide +kernel)) (Pa.c (by walk_at "v") ⟨wa, W, v1, v2, r, rfl, hW, hr, fun er => ?_, hk2⟩))
  obtain ⟨l, t, rfl, rfl⟩ : ∃ l t, v1 = .int l ∧ v2 = .int t := by
    cases hr with
    | whole l t => exact ⟨l, t, rfl, rfl⟩
    | left h => cases er
    | top h h2 => cases er
  have hk := hk er l t rfl rfl
  refine q_fldV (v_var rfl) (v_var rfl) hx cr.cl cr.world (by decide) ?_
  refine q_fldV v_c (v_var rfl) upd_same cr.cl cr.time (by show 1 < 1000; decide) ?_
  rw [upd_upd]
  refine q_fldV (v_var rfl) (v_var rfl) upd_same cr.cl cr.left (by show 2 < 1000; decide) ?_
  rw [upd_upd]
  refine q_fldV (v_var rfl) (v_var rfl) upd_same cr.cl cr.top (by show 3 < 1000; decide) ?_
  rw [upd_upd]
  refine q_fldV v_c (v_var rfl) upd_same cr.cl cr.across (by show 4 < 1000; decide) ?_
  rw [upd_upd]
  refine q_fldV v_c (v_var rfl) upd_same cr.cl cr.down (by show 5 < 1000; decide) ?_
  rw [upd_upd]
  refine s_fldV v_c (v_var rfl) upd_same cr.cl cr.was_jumping (by show 6 < 1000; decide) ?_
  rw [upd_upd]
  have e : putF "was_jumping" (.bl false) (putF "down" (.int 0) (putF "across" (.int 0) (putF "top" (.int t) (putF "left" (.int l) (putF "time" (.int 0) (putF "world" (.ref wa) [])))))) = rf wa ⟨0, l, t, 0, 0, false⟩ := by kernel_rfl
  rw [e]
  exact hk
theorem c_runner {ts : TA} {wa : Addr} {W : Wd} {l t : Int} (h : Pa ts σ b [.ref wa, .int l, .int t]) (cr : CR K) (hW : WAt K b wa W) (hl : -400 ≤ l ∧ l ≤ 400) (ht : -400 ≤ t ∧ t ≤ 400) (hf : freeM W.rows W.w l t = true)
    (hk : ∀ x dx b1, Ex b b1 → b x = none → RA K b1 x dx wa b W ⟨0, l, t, 0, 0, false⟩ → k (.ref x) b1) : Ce (tMake (He.ga K "Runner") (up (sb_Runner___init__ K)) [] E ts) σ b k := by
  refine c_make0 (Pa.c h fun x dx hx hdx hne => ?_)
  have e1 : Ex b (upd (upd b dx (.own x)) x (.ins (He.ga K "Runner") dx [])) := (Ex.new hdx).trans (Ex.new (by rw [upd_ne hne.symm]; exact hx))
  have ok : (((decide (-400 ≤ l) && decide (l ≤ 400)) && (decide (-400 ≤ t) && decide (t ≤ 400))) && freeM W.rows W.w l t) = true := by
    rw [hf]
    simp [hl, ht]
  refine ⟨x, dx, wa, W, .int l, .int t, _, rfl, cr, upd_same, hW.ex e1, .whole l t, fun _ l' t' q1 q2 => ?_, fun q => by rw [ok] at q; cases q⟩
  cases q1
  cases q2
  have e2 : Ex b (rput K (upd (upd b dx (.own x)) x (.ins (He.ga K "Runner") dx [])) x dx wa ⟨0, l, t, 0, 0, false⟩) := Ex.mut e1 hx
  exact ⟨rfl, hk x dx _ e2 hx ⟨cr, upd_same, e2, hx, hW⟩⟩
theorem p_Runner_be_carried (h : sb_Runner_be_carried K vs b k ke) (hE : ∀ c b' H', ke c b' → Ex b' H' → E c none H') : Cs (t_Runner_be_carried K E) { nx := fun _ b' => k .non b', rt := k } (start ["self", "ways", "under", "mine", "row", "left", "top", "lift"] vs) b := by
  obtain ⟨ra, dx, wa, b0, W, s, rfl, h, hk⟩ := h
  obtain ⟨dw, rwa, la, h10, hm, ps, hps0, hlen, hl0⟩ := h.wo.ins
  have h1 := h.ex _ _ h10
  have hps := ex_l h.ex hps0
  have hl := fun i p L z1 z2 => ex_t h.ex (hl0 i p L z1 z2)
  have few := h.w.good.few
  refine Cs.weak ?_
  have fL : ∀ {s' : L2.St} {b' : Hp} {s2 : Rs}, RA K b' ra dx wa b0 W s2 → b' wa = some (.ins (He.ga K "World") dw (wf rwa la)) → s'[0]? = some (some (.ref ra)) → Pe (tFld K (tFld K (tVar 0) "world") "lifts") s' b' (.ref la) := fun hr hw hs => v_fld (f_world hr (v_var hs)) hw h.w.cw.cl h.w.cw.lifts (wf_lifts _ _)
  refine q_asgC (c_lcL (fL h h1 rfl) hps (fun Dl i acc b' => ∃ qs : List Addr, acc = qs.map V.ref ∧ qs.length = i ∧ b' Dl = some (.lst acc) ∧ Ex b b' ∧ (∀ (j : Nat) (q : Addr) (L : Lift), qs[j]? = some q → W.lifts[j]? = some L → b' q = some (.tup [.int (placeX L s.t), .int (placeY L s.t)])) ∧ i ≤ W.lifts.length)
    (fun Dl hD => ⟨[], rfl, rfl, upd_same, Ex.new hD, (fun j q L z _ => by cases z), Nat.zero_le _⟩) ?_ ?_ ?_)
  · rintro Dl i acc b' hD ⟨qs, rfl, hql, hd, e, hq, hi⟩
    exact ⟨hd, ex_l e hps, by rw [List.length_map]; omega⟩
  · rintro Dl i x acc b' hD hi ⟨qs, rfl, hql, hd, e, hq, hi2⟩
    obtain ⟨p, hpi, rfl⟩ : ∃ p, ps[i]? = some p ∧ x = V.ref p := by
      rw [List.getElem?_map] at hi
      cases e : ps[i]? with
      | none => rw [e] at hi; cases hi
      | some p => rw [e] at hi; exact ⟨p, rfl, (Option.some.inj hi).symm⟩
    have hlt : i < W.lifts.length := by
      have := (List.getElem?_eq_some_iff.mp hpi).1
      omega
    have hLi : W.lifts[i]? = some W.lifts[i] := List.getElem?_eq_getElem hlt
    have gL := h.w.good.lifts _ (List.getElem_mem hlt)
    have hp0 := ex_t e (hl i p _ hpi hLi)
    generalize hLe : W.lifts[i] = L at gL hp0 hLi
    have h' := h.of e
    refine g_name ⟨rfl, Pt.c t_yes (Pn.c (n_call (a_cons (v_var rfl) (a_cons (f_time h' (v_var rfl)) a_nil)) (s_place hp0 gL)) fun q hqn => ⟨?_, qs ++ [q], by rw [List.map_append]; rfl, by rw [List.length_append, hql]; rfl, upd_same, Ex.mut (e.trans (Ex.new hqn)) hD, ?_, hlt⟩)⟩
    · rw [upd_ne (ne_of_none hd hqn)]
      exact hd
    · intro j q2 L2 z1 z2
      by_cases hj : j < i
      · rw [List.getElem?_append_left (by omega)] at z1
        have := hq j q2 L2 z1 z2
        rw [upd_ne (ne_of this hd (by intro z; cases z)), upd_ne (ne_of_none this hqn)]
        exact this
      · rw [List.getElem?_append_right (by omega)] at z1
        have ej : j = i := by
          have := (List.getElem?_eq_some_iff.mp z1).1
          simp at this
          omega
        subst ej
        rw [hql, Nat.sub_self] at z1
        have zq : q = q2 := Option.some.inj z1
        rw [hLi] at z2
        have zL : L = L2 := Option.some.inj z2
        subst zq zL
        have : q ≠ Dl := fun z => by rw [z, hd] at hqn; cases hqn
        rw [upd_ne this, upd_same]
  rintro Dl acc b1 hD ⟨qs, rfl, hql, hd, e1, hq, _⟩
  have hr1 := h.of e1
  refine q_asgN (n_under hr1.w (f_world hr1 (v_var rfl)) (a_cons (f_left hr1 (v_var rfl)) (a_cons (f_top hr1 (v_var rfl)) (a_cons (f_time hr1 (v_var rfl)) a_nil)))) (fun u hu => ?_)
  generalize hux : underIx W s.x s.y s.t = ux
  have e2 : Ex b (upd b1 u (.lst (ux.map fun i => V.int (i : Nat)))) := e1.trans (Ex.new hu)
  have hr2 := h.of e2
  have hd2 : (upd b1 u (.lst (ux.map fun i => V.int (i : Nat)))) Dl = some (.lst (qs.map V.ref)) := by
    rw [upd_ne (ne_of_none hd hu)]
    exact hd
  have hq2 : ∀ (j : Nat) (q : Addr) (L : Lift), qs[j]? = some q → W.lifts[j]? = some L → (upd b1 u (.lst (ux.map fun i => V.int (i : Nat)))) q = some (.tup [.int (placeX L s.t), .int (placeY L s.t)]) := by
    intro j q L z1 z2
    have := hq j q L z1 z2
    rw [upd_ne (ne_of_none this hu)]
    exact this
  have hu2 : (upd b1 u (.lst (ux.map fun i => V.int (i : Nat)))) u = some (.lst (ux.map fun i => V.int (i : Nat))) := upd_same
  generalize upd b1 u (.lst (ux.map fun i => V.int (i : Nat))) = b2 at e2 hr2 hd2 hq2 hu2
  refine q_put hr2 (v := .int (s.t + 1)) (v_op (f_time hr2 (v_var rfl)) v_c r_add) (v_var rfl) h.cr.time (pf_time _ _ _) ?_
  have hr3 := hr2.put { s with t := s.t + 1 }
  have hi2 := hr2.ins
  have fin : ∀ z : Rs, carryM W s = z → ∃ b3, Ex b3 (rput K b2 ra dx wa z) ∧ k .non b3 := fun z e => ⟨rput K b ra dx wa (carryM W s), by rw [e]; exact ex_upd e2, hk⟩
  have hu3 : (rput K b2 ra dx wa { s with t := s.t + 1 }) u = some (.lst (ux.map fun i => V.int (i : Nat))) := by
    unfold rput
    rw [upd_ne (ne_of hu2 hi2 (by intro z; cases z))]
    exact hu2
  have hu4 : SqL K (rput K b2 ra dx wa { s with t := s.t + 1 }) u ((ux.map fun i => ((i : Nat) : Int)).map V.int) := by
    rw [List.map_map]
    exact sq_of hu3
  refine s_when (c := !decide (ux = [])) (t_is (t_test (v_opN (v_var rfl) (n_lst a_nil (by decide)) (fun q b3 e hq => r_neD (dp_ints (ex_l e hu4)) (dp_nil (sq_of hq)) (sh_ints _) rfl))) ?_) (fun c1 => ?_) (fun c1 => ?_)
  · have e := eqv_ints (ux.map fun i => ((i : Nat) : Int)) []
    have e2 : PySem.PyData.eqv (dInts (ux.map fun i => ((i : Nat) : Int))) (.list []) = decide (ux.map (fun i => ((i : Nat) : Int)) = []) := e
    rw [e2]
    congr 2
    exact propext List.map_eq_nil_iff
  · cases ux with
    | nil => cases c1
    | cons i r =>
      obtain ⟨L, hLi, hfind⟩ := find_cons hux
      have hlt : i < W.lifts.length := (List.getElem?_eq_some_iff.mp hLi).1
      have gL : GoodLift L := by
        have := List.mem_of_getElem? hLi
        exact h.w.good.lifts _ this
      have hpi : ps[i]? = some (ps.getD i 0) := by
        rw [List.getD_eq_getElem?_getD, List.getElem?_eq_getElem (by omega)]
        rfl
      have hqi : qs[i]? = some (qs.getD i 0) := by
        have : qs.length = W.lifts.length := by rw [hql, List.length_map]; omega
        rw [List.getD_eq_getElem?_getD, List.getElem?_eq_getElem (by omega)]
        rfl
      have hqq := hq2 i _ L hqi hLi
      have hpp : SqT K (rput K b2 ra dx wa { s with t := s.t + 1 }) (ps.getD i 0) (liftV L) := ex_t hr3.ex (hl0 i _ L hpi hLi)
      have hla : SqL K (rput K b2 ra dx wa { s with t := s.t + 1 }) la (ps.map V.ref) := ex_l hr3.ex hps0
      have hw3 := hr3.ex _ _ h10
      have i0 : Pr (rIx K) (.ref u) (.int 0) (rput K b2 ra dx wa { s with t := s.t + 1 }) (.int (i : Nat)) := r_iL (sq_of hu3) (at_zero _ _)
      have aI : atI (ps.map V.ref) ((i : Nat) : Int) = some (.ref (ps.getD i 0)) := by
        have e := at_getD (ps.map V.ref) (V.ref 0) (i := (i : Int)) (by omega) (by rw [List.length_map]; omega)
        rw [e, List.getD_eq_getElem?_getD, List.getElem?_map, Int.toNat_natCast, hpi]
        rfl
      have aQ : atI (qs.map V.ref) ((i : Nat) : Int) = some (.ref (qs.getD i 0)) := by
        have : qs.length = W.lifts.length := by rw [hql, List.length_map]; omega
        have e := at_getD (qs.map V.ref) (V.ref 0) (i := (i : Int)) (by omega) (by rw [List.length_map]; omega)
        rw [e, List.getD_eq_getElem?_getD, List.getElem?_map, Int.toNat_natCast, hqi]
        rfl
      have hd3 : (rput K b2 ra dx wa { s with t := s.t + 1 }) Dl = some (.lst (qs.map V.ref)) := by
        unfold rput
        rw [upd_ne (ne_of hd2 hi2 (by intro z; cases z))]
        exact hd2
      have hq3 : (rput K b2 ra dx wa { s with t := s.t + 1 }) (qs.getD i 0) = some (.tup [.int (placeX L s.t), .int (placeY L s.t)]) := by
        unfold rput
        rw [upd_ne (ne_of hqq hi2 (by intro z; cases z))]
        exact hqq
      refine q_asgT (n_call (a_cons (v_op (fL hr3 hw3 rfl) (v_op (v_var rfl) v_c i0) (r_iL hla aI)) (a_cons (f_time hr3 (v_var rfl)) a_nil)) (s_place hpp gL)) rfl (gs_name (gs_name (gs_nil ?_)))
      refine q_par (v := .int (s.x + placeX L (s.t + 1) - placeX L s.t)) (w := .int (s.y + placeY L (s.t + 1) - placeY L s.t)) (a_cons (v_op (v_op (f_left hr3 (v_var rfl)) (v_var rfl) r_add) (v_op (v_op (v_var rfl) (v_op (v_var rfl) v_c i0) (r_iL (sq_of hd3) aQ)) v_c (r_iT (st_of hq3) rfl)) r_sub) (a_cons (v_op (v_op (f_top hr3 (v_var rfl)) (v_var rfl) r_add) (v_op (v_op (v_var rfl) (v_op (v_var rfl) v_c i0) (r_iL (sq_of hd3) aQ)) v_c (r_iT (st_of hq3) rfl)) r_sub) a_nil)) ?_
      refine s_when (c := freeM W.rows W.w (s.x + placeX L (s.t + 1) - placeX L s.t) (s.y + placeY L (s.t + 1) - placeY L s.t)) (t_B (x_free hr3 (f_world hr3 (v_var rfl)) (a_cons (v_var rfl) (a_cons (v_var rfl) a_nil)))) (fun c2 => ?_) (fun c2 => ?_)
      · refine s_asgT (vs := [.int (s.x + placeX L (s.t + 1) - placeX L s.t), .int (s.y + placeY L (s.t + 1) - placeY L s.t)]) (n_pair (v_var rfl) (v_var rfl)) rfl (gs_cons (g_fld (v_var rfl) hr3.ins h.cr.cl h.cr.left (by show 7 < 1000; decide) ?_))
        rw [pf_left]
        refine gs_cons (g_fld (v_var rfl) upd_same h.cr.cl h.cr.top (by show 7 < 1000; decide) (gs_nil ?_))
        rw [pf_top, upd_upd]
        unfold rput
        rw [upd_upd]
        refine fin _ ?_
        unfold carryM
        rw [hfind]
        dsimp only
        rw [if_pos c2]
      · refine fin _ ?_
        unfold carryM
        rw [hfind]
        dsimp only
        rw [if_neg (by rw [c2]; decide)]
  · refine fin _ ?_
    have : ux = [] := by simpa using c1
    rw [this] at hux
    unfold carryM
    rw [find_nil hux]
end
section
variable {K : PySem.W.Frag} {σ : L2.St} {b b' H : Hp} {ta tb te tx : TE} {t u : TT} {x y z v : V} {r : R2} {k : VK} {D : Ends} {tu tw tz : TS} {g : TG} {ks : SK} {E : XK} {ke : XB}
theorem c_worldC {ts : TA} {W : Wd} (cw : CW K) (gd : GoodWd W) (h : Ca ts σ b fun vs b1 => ∃ ra la, vs = [.ref ra, .ref la] ∧ SqL K b1 ra (rowsV W.rows) ∧ LiftsAt K b1 la W.lifts ∧ ∀ x b2, Ex b1 b2 → b1 x = none → WAt K b2 x W → k (.ref x) b2) : Ce (tMake (He.ga K "World") (up (sb_World___init__ K)) [] E ts) σ b k := by
  refine c_make0 (fun H e Q q => h H e Q fun vs b1 H' ⟨ra, la, ev, hm, hL, hk⟩ a => q vs b1 H' ?_ a)
  intro x dx hx hdx hne
  have e1 : Ex b1 (upd (upd b1 dx (.own x)) x (.ins (He.ga K "World") dx [])) := (Ex.new hdx).trans (Ex.new (by rw [upd_ne hne.symm]; exact hx))
  refine .inr ⟨x, dx, ra, la, W, by rw [ev], cw, upd_same, ex_l e1 hm, hL.ex e1, gd, fun b' eb hW => ⟨rfl, hk x b' (fun y o hy => eb y o ?_) hx hW⟩⟩
  have nyx : y ≠ x := ne_of_none hy hx
  show (if y = x then none else (upd (upd b1 dx (.own x)) x (.ins (He.ga K "World") dx [])) y) = some o
  rw [if_neg nyx]
  exact e1 y o hy
theorem c_runnerC {ts : TA} {W : Wd} (cr : CR K) (h : Ca ts σ b fun vs b1 => ∃ wa l t, vs = [.ref wa, .int l, .int t] ∧ WAt K b1 wa W ∧ (-400 ≤ l ∧ l ≤ 400) ∧ (-400 ≤ t ∧ t ≤ 400) ∧ freeM W.rows W.w l t = true ∧ ∀ x dx b2, Ex b1 b2 → b1 x = none → RA K b2 x dx wa b1 W ⟨0, l, t, 0, 0, false⟩ → k (.ref x) b2) : Ce (tMake (He.ga K "Runner") (up (sb_Runner___init__ K)) [] E ts) σ b k := by
  refine c_make0 (fun H e Q q => h H e Q fun vs b1 H' ⟨wa, l, t, ev, hW, hl, ht, hf, hk⟩ a => q vs b1 H' ?_ a)
  intro x dx hx hdx hne
  have e1 : Ex b1 (upd (upd b1 dx (.own x)) x (.ins (He.ga K "Runner") dx [])) := (Ex.new hdx).trans (Ex.new (by rw [upd_ne hne.symm]; exact hx))
  have ok : (((decide (-400 ≤ l) && decide (l ≤ 400)) && (decide (-400 ≤ t) && decide (t ≤ 400))) && freeM W.rows W.w l t) = true := by
    rw [hf]
    simp [hl, ht]
  refine ⟨x, dx, wa, W, .int l, .int t, _, by rw [ev], cr, upd_same, hW.ex e1, .whole l t, fun _ l' t' q1 q2 => ?_, fun q => by rw [ok] at q; cases q⟩
  cases q1
  cases q2
  have e2 : Ex b1 (rput K (upd (upd b1 dx (.own x)) x (.ins (He.ga K "Runner") dx [])) x dx wa ⟨0, l, t, 0, 0, false⟩) := Ex.mut e1 hx
  exact ⟨rfl, hk x dx _ e2 hx ⟨cr, upd_same, e2, hx, hW⟩⟩
theorem nolifts {la : Addr} (h : SqL K b la []) : LiftsAt K b la [] := ⟨[], h, rfl, fun i p L z _ => by cases z⟩
/-- x[i] of a pair made on the way -/
theorem v_ixN {vs : List V} {i : Int} (h : Pn ta σ b (.tup vs)) (ha : atI vs i = some v) : Pe (tOp (rIx K) ta (tC (.int i))) σ b v := v_opN1 h (fun _ _ => v_c) (fun p b1 _ hp => r_iT (st_of hp) ha)
end

/-! ### step ranges, dicts, lists of pairs -/
section
variable {K : PySem.W.Frag} {σ : L2.St} {b b' H : Hp} {ta tb te tx : TE} {t u : TT} {x y z v : V} {r : R2} {k : VK} {D : Ends} {tu tw tz : TS} {g : TG} {ks : SK} {E : XK} {ke : XB}
theorem rgC {i j c : Int} (hc : 1 ≤ c ∧ c ≤ 3) (hi : -1000000 ≤ i ∧ i ≤ 1000000) (hj : -1000000 ≤ j ∧ j ≤ 1000000) : RgC i j c (if i < j then (j - i - 1) / c + 1 else 0).toNat := by
  have e : Builtin.Range.rangeSize i j c = (if i < j then (j - i - 1) / c + 1 else 0) := by
    unfold Builtin.Range.rangeSize
    rw [if_pos (by omega)]
  have hq : 0 ≤ (if i < j then (j - i - 1) / c + 1 else 0) := by
    split
    · have : 0 ≤ (j - i - 1) / c := Int.ediv_nonneg (by omega) (by omega)
      omega
    · omega
  refine ⟨by omega, by omega, ?_, ?_⟩
  · unfold Builtin.Range.small
    rw [e]
    have hq2 : (if i < j then (j - i - 1) / c + 1 else 0) ≤ 2000001 := by
      split
      · have : (j - i - 1) / c ≤ 2000000 := by
          apply Int.ediv_le_of_le_mul (by omega)
          have : (2000000 : Int) * c ≥ 2000000 * 1 := Int.mul_le_mul_of_nonneg_left (by omega) (by decide)
          omega
        omega
      · omega
    simp only [Builtin.Range.rangeFitsLong, Bool.and_eq_true, Bool.or_eq_true, decide_eq_true_eq, beq_iff_eq]
    have hc2 : c = 1 ∨ c = 2 ∨ c = 3 := by omega
    rcases hc2 with q | q | q <;> subst q <;> simp <;> omega
  · rw [e]
    omega
theorem s_range3 {ts : TA} {lo hi c : Int} {n : Nat} (h : Pa ts σ b [.int lo, .int hi, .int c]) (hr : RgC lo hi c n) (Pv : Nat → SK) (h0 : Pv 0 σ b)
    (hs : ∀ (i : Nat) σ' b', i < n → Pv i σ' b' → Cg g (.int (lo + (i : Nat) * c)) σ' b' fun σ2 b2 => Cs tu { D with nx := Pv (i + 1), ct := Pv (i + 1), bk := D.nx } σ2 b2) (hd : ∀ σ' b', Pv n σ' b' → D.nx σ' b') : Cs (tFor (iRng3 ts) g tu) D σ b := fun H e D' l =>
  h H e _ fun H1 e1 => ⟨lo, hi, c, n, rfl, hr, for_rangeC (lo := lo) (c := c) (n := n) (B.lift Pv) ⟨b, e1, h0⟩ (fun i σ' H' hi ⟨b', e', p⟩ =>
    hs i σ' b' hi p H' e' _ fun σ2 b2 H2 h2 e2 => h2 H2 e2 _ (dle_loop l)) fun σ' H' ⟨b', e', p⟩ => l.nx σ' b' H' (hd σ' b' p) e'⟩
theorem s_dput {p : Addr} {kvs : List (Key × V)} {key : Key} (hv : Pe te σ b v) (hd : Pe ta σ b (.ref p)) (hy : Pe tb σ b (kV key)) (hp : b p = some (.dK kvs)) (hz : kvs.length < 100000) (hk : D.nx σ (upd b p (.dK (putK kvs key v)))) : Cs (sDPut ta tb te) D σ b := fun H e D' l =>
  hv H e _ fun H1 e1 => hd H1 e1 _ fun H2 e2 => hy H2 e2 _ fun H3 e3 => ⟨p, _, rfl, DPut.k (e3 p _ hp) (sz_lt hz), l.nx _ _ _ hk (ex_upd e3)⟩
theorem g_dput {p : Addr} {kvs : List (Key × V)} {key : Key} (hd : Pe ta σ b (.ref p)) (hy : Pe tb σ b (kV key)) (hp : b p = some (.dK kvs)) (hz : kvs.length < 100000) (hk : ks σ (upd b p (.dK (putK kvs key v)))) : Cg (gSub ta tb rSetD) v σ b ks := fun H e Q q =>
  hd H e _ fun H2 e2 => hy H2 e2 _ fun H3 e3 => by
    unfold rSetD
    exact ⟨p, _, rfl, DPut.k (e3 p _ hp) (sz_lt hz), q _ _ _ hk (ex_upd e3)⟩
/-- sorted([-3, a, 3])[1] -/
theorem perm3 {a : Int} {l : List Int} (hp : l.Perm [-3, a, 3]) (hs : l.Pairwise (· ≤ ·)) : atI (l.map V.int) 1 = some (.int (clampM a)) := by
  have hl := hp.length_eq
  match l, hl with
  | [p, q, s], _ =>
    have h1 : p ≤ q ∧ q ≤ s := by
      simp only [List.pairwise_cons, List.mem_cons, List.not_mem_nil, or_false] at hs
      exact ⟨hs.1 q (.inl rfl), hs.2.1 s rfl⟩
    have m1 : (-3 : Int) ∈ [p, q, s] := hp.mem_iff.mpr (by simp)
    have m2 : a ∈ [p, q, s] := hp.mem_iff.mpr (by simp)
    have m3 : (3 : Int) ∈ [p, q, s] := hp.mem_iff.mpr (by simp)
    have n1 : p ∈ [-3, a, 3] := hp.mem_iff.mp (by simp)
    have n2 : q ∈ [-3, a, 3] := hp.mem_iff.mp (by simp)
    have n3 : s ∈ [-3, a, 3] := hp.mem_iff.mp (by simp)
    have hsum : p + q + s = -3 + a + 3 := by
      have := hp.foldr_eq' (f := fun i j : Int => i + j) (fun x _ y _ z => by omega) 0
      simp only [List.foldr_cons, List.foldr_nil] at this
      omega
    simp only [List.mem_cons, List.not_mem_nil, or_false] at m1 m2 m3 n1 n2 n3
    have eq : q = clampM a := by
      unfold clampM
      repeat' split
      all_goals omega
    show some (V.int q) = _
    rw [eq]
theorem v_sort3 {ts : TA} {a : Int} (h : Pa ts σ b [.int (-3), .int a, .int 3]) : Pe (tOp (rIx K) (tCB (rSorted K) (tCons (tLst ts) tNil)) (tC (.int 1))) σ b (.int (clampM a)) := fun H e Q q => by
  unfold tOp tCB tCons
  refine n_lst h (by show 3 ≤ 100000; decide) H e _ fun p H1 hp e1 => ?_
  refine ⟨p, [-3, a, 3], rfl, sq_of (e1 p _ upd_same), by show 3 < 64; decide, fun ns' p' hperm hsort hp' => ?_⟩
  exact r_iL (K := K) (b := upd H1 p' (.lst (ns'.map V.int))) (sq_of upd_same) (perm3 hperm hsort) _ (Ex.refl _) Q fun H' e' => q H' (((Ex.new hp).trans e1).trans ((Ex.new hp').trans e'))
end
/-- the law's runner: a dict -/
def oneD (s : Rs) : List (Key × V) := [(.inr "x", .int s.x), (.inr "y", .int s.y), (.inr "t", .int s.t), (.inr "vx", .int s.vx), (.inr "vy", .int s.vy), (.inr "j", .bl s.j)]
theorem od_x (s : Rs) : valV (oneD s) (.inr "x") = some (.int s.x) := by kernel_rfl
theorem od_y (s : Rs) : valV (oneD s) (.inr "y") = some (.int s.y) := by kernel_rfl
theorem od_t (s : Rs) : valV (oneD s) (.inr "t") = some (.int s.t) := by kernel_rfl
theorem od_vx (s : Rs) : valV (oneD s) (.inr "vx") = some (.int s.vx) := by kernel_rfl
theorem od_vy (s : Rs) : valV (oneD s) (.inr "vy") = some (.int s.vy) := by kernel_rfl
theorem od_j (s : Rs) : valV (oneD s) (.inr "j") = some (.bl s.j) := by kernel_rfl
theorem op_x (s : Rs) (i : Int) : putK (oneD s) (.inr "x") (.int i) = oneD { s with x := i } := by kernel_rfl
theorem op_y (s : Rs) (i : Int) : putK (oneD s) (.inr "y") (.int i) = oneD { s with y := i } := by kernel_rfl
theorem op_t (s : Rs) (i : Int) : putK (oneD s) (.inr "t") (.int i) = oneD { s with t := i } := by kernel_rfl
theorem op_vx (s : Rs) (i : Int) : putK (oneD s) (.inr "vx") (.int i) = oneD { s with vx := i } := by kernel_rfl
theorem op_vy (s : Rs) (i : Int) : putK (oneD s) (.inr "vy") (.int i) = oneD { s with vy := i } := by kernel_rfl
theorem op_j (s : Rs) (i : Bool) : putK (oneD s) (.inr "j") (.bl i) = oneD { s with j := i } := by kernel_rfl
structure OA (K : PySem.W.Frag) (b : Hp) (oa : Addr) (b0 : Hp) (s : Rs) : Prop where
  at_ : b oa = some (.dK (oneD s))
  ex : Ex b0 b
  no : b0 oa = none
def oput (b : Hp) (oa : Addr) (s : Rs) : Hp := upd b oa (.dK (oneD s))
theorem OA.put {K : PySem.W.Frag} {b : Hp} {oa : Addr} {b0 : Hp} {s : Rs} (h : OA K b oa b0 s) (s' : Rs) : OA K (oput b oa s') oa b0 s' := ⟨upd_same, Ex.mut h.ex h.no, h.no⟩
theorem OA.of {K : PySem.W.Frag} {b b' : Hp} {oa : Addr} {b0 : Hp} {s : Rs} (h : OA K b oa b0 s) (e : Ex b b') : OA K b' oa b0 s := ⟨e _ _ h.at_, h.ex.trans e, h.no⟩
theorem oput_oput {b : Hp} {oa : Addr} {s s' : Rs} : oput (oput b oa s) oa s' = oput b oa s' := upd_upd
theorem oput_self {K : PySem.W.Frag} {b : Hp} {oa : Addr} {b0 : Hp} {s : Rs} (h : OA K b oa b0 s) : oput b oa s = b := by
  funext c
  unfold oput upd
  by_cases e : c = oa
  · rw [if_pos e, e]
    exact h.at_.symm
  · rw [if_neg e]
section
variable {K : PySem.W.Frag} {σ : L2.St} {b b' H : Hp} {ta tb te tx to : TE} {t u : TT} {x y z v : V} {r : R2} {k : VK} {D : Ends} {tu tw tz : TS} {g : TG} {ks : SK} {E : XK} {ke : XB} {oa : Addr} {b0 : Hp} {s : Rs}
theorem d_x (h : OA K b oa b0 s) (ho : Pe to σ b (.ref oa)) : Pe (tDGet to (tC (.str "x"))) σ b (.int s.x) := v_dget (key := .inr "x") ho v_c h.at_ (od_x s)
theorem d_y (h : OA K b oa b0 s) (ho : Pe to σ b (.ref oa)) : Pe (tDGet to (tC (.str "y"))) σ b (.int s.y) := v_dget (key := .inr "y") ho v_c h.at_ (od_y s)
theorem d_t (h : OA K b oa b0 s) (ho : Pe to σ b (.ref oa)) : Pe (tDGet to (tC (.str "t"))) σ b (.int s.t) := v_dget (key := .inr "t") ho v_c h.at_ (od_t s)
theorem d_vx (h : OA K b oa b0 s) (ho : Pe to σ b (.ref oa)) : Pe (tDGet to (tC (.str "vx"))) σ b (.int s.vx) := v_dget (key := .inr "vx") ho v_c h.at_ (od_vx s)
theorem d_vy (h : OA K b oa b0 s) (ho : Pe to σ b (.ref oa)) : Pe (tDGet to (tC (.str "vy"))) σ b (.int s.vy) := v_dget (key := .inr "vy") ho v_c h.at_ (od_vy s)
theorem d_j (h : OA K b oa b0 s) (ho : Pe to σ b (.ref oa)) : Pe (tDGet to (tC (.str "j"))) σ b (.bl s.j) := v_dget (key := .inr "j") ho v_c h.at_ (od_j s)
theorem s_oput {f : Str} {v : V} {s' : Rs} (h : OA K b oa b0 s) (hv : Pe te σ b v) (ho : Pe to σ b (.ref oa)) (e : putK (oneD s) (.inr f) v = oneD s') (hk : D.nx σ (oput b oa s')) : Cs (sDPut to (tC (.str f)) te) D σ b := s_dput (key := .inr f) hv ho v_c h.at_ (by show 6 < 100000; decide) (by rw [e]; exact hk)
theorem q_oput {f : Str} {v : V} {s' : Rs} (h : OA K b oa b0 s) (hv : Pe te σ b v) (ho : Pe to σ b (.ref oa)) (e : putK (oneD s) (.inr f) v = oneD s') (hk : Cs tz D σ (oput b oa s')) : Cs (tSeq (sDPut to (tC (.str f)) te) tz) D σ b := s_seq (s_oput h hv ho e hk)
theorem g_oput {f : Str} {v : V} {s' : Rs} (h : OA K b oa b0 s) (ho : Pe to σ b (.ref oa)) (e : putK (oneD s) (.inr f) v = oneD s') (hk : ks σ (oput b oa s')) : Cg (gSub to (tC (.str f)) rSetD) v σ b ks := g_dput (key := .inr f) ho v_c h.at_ (by show 6 < 100000; decide) (by rw [e]; exact hk)
end
/-! lists of pairs -/
def PairsB (b : Hp) (qs : List Addr) (zs : List (Int × Int)) : Prop := qs.length = zs.length ∧ ∀ (i : Nat) (q : Addr) (z : Int × Int), qs[i]? = some q → zs[i]? = some z → b q = some (.tup [.int z.1, .int z.2])
theorem PairsB.nil {b : Hp} : PairsB b [] [] := ⟨rfl, fun i q z h _ => by cases h⟩
theorem PairsB.ex {b b' : Hp} {qs : List Addr} {zs : List (Int × Int)} (h : PairsB b qs zs) (e : Ex b b') : PairsB b' qs zs := ⟨h.1, fun i q z h1 h2 => e _ _ (h.2 i q z h1 h2)⟩
theorem PairsB.mut {b : Hp} {qs : List Addr} {zs : List (Int × Int)} {p : Addr} {o : HO} (h : PairsB b qs zs) (hp : ∀ vs, b p ≠ some (.tup vs)) : PairsB (upd b p o) qs zs := ⟨h.1, fun i q z h1 h2 => by
  have := h.2 i q z h1 h2
  rw [upd_ne (fun e => hp _ (e ▸ this))]
  exact this⟩
theorem PairsB.snoc {b : Hp} {qs : List Addr} {zs : List (Int × Int)} {q : Addr} {z : Int × Int} (h : PairsB b qs zs) (hq : b q = some (.tup [.int z.1, .int z.2])) : PairsB b (qs ++ [q]) (zs ++ [z]) := by
  refine ⟨by rw [List.length_append, List.length_append, h.1]; rfl, fun i q' z' h1 h2 => ?_⟩
  by_cases hi : i < qs.length
  · rw [List.getElem?_append_left hi] at h1
    rw [List.getElem?_append_left (by rw [← h.1]; exact hi)] at h2
    exact h.2 i q' z' h1 h2
  · rw [List.getElem?_append_right (by omega)] at h1
    rw [List.getElem?_append_right (by rw [← h.1]; omega)] at h2
    have e0 : i - qs.length = 0 := by
      have := (List.getElem?_eq_some_iff.mp h1).1
      simp at this
      omega
    rw [e0] at h1
    rw [← h.1, e0] at h2
    have e1 : q = q' := Option.some.inj h1
    have e2 : z = z' := Option.some.inj h2
    rw [← e1, ← e2]
    exact hq
def dPair (z : Int × Int) : PyData := dPr z.1 z.2
section
variable {K : PySem.W.Frag} {b : Hp}
theorem dpa_pairs : ∀ (qs : List Addr) (zs : List (Int × Int)), PairsB b qs zs → DpAll K b (qs.map V.ref) (zs.map dPair)
  | [], [], _ => .nil
  | [], _ :: _, h => by cases h.1
  | _ :: _, [], h => by cases h.1
  | q :: qs, z :: zs, h => .cons (dp_pr (st_of (h.2 0 q z rfl rfl))) (dpa_pairs qs zs ⟨by simpa using h.1, fun i q' z' h1 h2 => h.2 (i + 1) q' z' (by simpa using h1) (by simpa using h2)⟩)
theorem dp_pairs {p : Addr} {qs : List Addr} {zs : List (Int × Int)} (h : SqL K b p (qs.map V.ref)) (hp : PairsB b qs zs) : Dp K b (.ref p) (.list (zs.map dPair)) := .lst h (dpa_pairs qs zs hp)
theorem sh_pairs (zs : List (Int × Int)) : SeqAt.shaped (.list (zs.map dPair)) = true := by
  unfold SeqAt.shaped
  have h1 : PyData.canLayAll0 (zs.map dPair) = true := canLay_map zs (fun _ _ => rfl)
  have h2 : PyData.depthAll (zs.map dPair) ≤ 1 := depthAll_map (g := dPair) 1 (fun a => by unfold dPair dPr; simp [PyData.depth, PyData.depthAll]) zs
  show (PyData.canLayAll0 (zs.map dPair) && decide (PyData.depth (.list (zs.map dPair)) ≤ 64)) = true
  rw [h1]
  have h3 : PyData.depth (.list (zs.map dPair)) ≤ 64 := by
    simp only [PyData.depth]
    omega
  simp [h3]
theorem eqv_pairs (l m : List (Int × Int)) : PyData.eqv (.list (l.map dPair)) (.list (m.map dPair)) = decide (l = m) := by
  show PyData.eqvAll (l.map dPair) (m.map dPair) = _
  exact eqvAll_map (fun a c => by
    unfold dPair
    rw [eqv_pr]
    congr 1
    exact propext ⟨fun h => Prod.ext h.1 h.2, fun h => ⟨congrArg _ h, congrArg _ h⟩⟩) l m
end

/-! ### the law's own runner -/
structure LA (K : PySem.W.Frag) (b0 : Hp) (ra la : Addr) (ps : List Addr) (W : Wd) : Prop where
  m : SqL K b0 ra (rowsV W.rows)
  l : LiftsPs K b0 la ps W.lifts
  g : GoodWd W
theorem LA.ex {K : PySem.W.Frag} {b b' : Hp} {ra la : Addr} {ps : List Addr} {W : Wd} (h : LA K b ra la ps W) (e : Ex b b') : LA K b' ra la ps W := ⟨ex_l e h.m, h.l.ex e, h.g⟩
def keyTab : List Str := ["r", "l", "jr", "lj", "", "j", "d", "rd", "lr", "ljrd"]
def keysM (more turn : Int) : Str := keyTab.getD (drawnZ more (300 + turn / (1 + more % 7)) % 10).toNat ""
theorem keyTab_ok : ∀ w ∈ keyTab, keysOk w = true ∧ w.cps.size < 100000 := by decide +kernel
theorem keysM_mem (more turn : Int) : keysM more turn ∈ keyTab := by
  have h0 : 0 ≤ drawnZ more (300 + turn / (1 + more % 7)) % 10 := Int.emod_nonneg _ (by decide)
  have h1 : drawnZ more (300 + turn / (1 + more % 7)) % 10 < 10 := Int.emod_lt_of_pos _ (by decide)
  unfold keysM
  rw [List.getD_eq_getElem?_getD, List.getElem?_eq_getElem (by show _ < 10; omega)]
  exact List.getElem_mem _
theorem keysM_ok (more turn : Int) : keysOk (keysM more turn) = true ∧ (keysM more turn).cps.size < 100000 := keyTab_ok _ (keysM_mem more turn)
section
variable {K : PySem.W.Frag} {σ : L2.St} {b : Hp} {vs : List V} {k : VK} {ke : XB} {E : XK}
def sb__law_keys (K : PySem.W.Frag) : Sb := fun vs b k _ => ∃ more turn, vs = [.int more, .int turn] ∧ k (.str (keysM more turn)) b
theorem len__law_keys : ∀ vs b k ke, sb__law_keys K vs b k ke → vs.length = (["more", "turn"] : List Str).length := fun _ _ _ _ ⟨_, _, e, _⟩ => e ▸ rfl
def sb__law_begin (K : PySem.W.Frag) : Sb := fun vs b k _ => ∃ ra rows w more, vs = [.ref ra, .int more] ∧ SqL K b ra (rowsV rows) ∧ GoodMap rows w ∧ k .non b ∧ ∀ l t p, freeM rows w l t = true → -12 ≤ t → t ≤ 160 → b p = none → k (.ref p) (upd b p (.tup [.int l, .int t]))
theorem len__law_begin : ∀ vs b k ke, sb__law_begin K vs b k ke → vs.length = (["rows", "more"] : List Str).length := fun _ _ _ _ ⟨_, _, _, _, e, _⟩ => e ▸ rfl
def sb__law_across (K : PySem.W.Frag) : Sb := fun vs b k _ => ∃ oa ra la ps b0 W s, vs = [.ref oa, .ref ra, .ref la] ∧ OA K b oa b0 s ∧ LA K b0 ra la ps W ∧ freeM W.rows W.w s.x s.y = true ∧ (0 ≤ s.t ∧ s.t < 1000000) ∧ (-3 ≤ s.vx ∧ s.vx ≤ 3) ∧ k .non (oput b oa (acrossM W s))
theorem len__law_across : ∀ vs b k ke, sb__law_across K vs b k ke → vs.length = (["one", "rows", "lifts"] : List Str).length := fun _ _ _ _ ⟨_, _, _, _, _, _, _, e, _⟩ => e ▸ rfl
def sb__law_down (K : PySem.W.Frag) : Sb := fun vs b k _ => ∃ oa ra la ps b0 W s d, vs = [.ref oa, .ref ra, .ref la, .bl d] ∧ OA K b oa b0 s ∧ LA K b0 ra la ps W ∧ freeM W.rows W.w s.x s.y = true ∧ (0 ≤ s.t ∧ s.t < 1000000) ∧ (-6 ≤ s.vy ∧ s.vy ≤ 6) ∧ k .non (oput b oa (downM W d s))
theorem len__law_down : ∀ vs b k ke, sb__law_down K vs b k ke → vs.length = (["one", "rows", "lifts", "drops"] : List Str).length := fun _ _ _ _ ⟨_, _, _, _, _, _, _, _, e, _⟩ => e ▸ rfl
def sb__law_tick (K : PySem.W.Frag) : Sb := fun vs b k _ => ∃ oa ra la ps b0 W s keys, vs = [.ref oa, .ref ra, .ref la, .str keys] ∧ OA K b oa b0 s ∧ LA K b0 ra la ps W ∧ freeM W.rows W.w s.x s.y = true ∧ (0 ≤ s.t ∧ s.t < 100000) ∧ GoodRs s ∧ k .non (oput b oa (tickM W s keys))
theorem len__law_tick : ∀ vs b k ke, sb__law_tick K vs b k ke → vs.length = (["one", "rows", "lifts", "keys"] : List Str).length := fun _ _ _ _ ⟨_, _, _, _, _, _, _, _, e, _⟩ => e ▸ rfl
end
def t__law_keys (K : PySem.W.Frag) (E : XK) : TS := (tSeq (tAsg (tCall (up (sb__law_drawn K)) [] E (tCons (tVar 0) (tCons (tOp (rAddU K) (tC (.int 300)) (tOp rFdivU (tVar 1) (tOp (rAddU K) (tC (.int 1)) (tOp rModI (tVar 0) (tC (.int 7)))))) tNil))) (gName 2)) (tRet (tOp (rIx K) (tLst (tCons (tC (.str "r")) (tCons (tC (.str "l")) (tCons (tC (.str "jr")) (tCons (tC (.str "lj")) (tCons (tC (.str "")) (tCons (tC (.str "j")) (tCons (tC (.str "d")) (tCons (tC (.str "rd")) (tCons (tC (.str "lr")) (tCons (tC (.str "ljrd")) tNil))))))))))) (tOp rModI (tVar 2) (tC (.int 10))))))
def t__law_begin (K : PySem.W.Frag) (E : XK) : TS := (tSeq (tAsg (tLst tNil) (gName 2)) (tSeq (tFor (iRng3 (tCons (tUn rNegI (tC (.int 12))) (tCons (tOp rSubU (tOp rMulU (tC (.int 8)) (tCB (rLenU K) (tCons (tVar 0) tNil))) (tC (.int 4))) (tCons (tC (.int 3)) tNil)))) (gName 3) (tFor (iRng3 (tCons (tC (.int 0)) (tCons (tOp rSubU (tOp rMulU (tC (.int 8)) (tCB (rLenU K) (tCons (tOp (rIx K) (tVar 0) (tC (.int 0))) tNil))) (tC (.int 5))) (tCons (tC (.int 2)) tNil)))) (gName 4) (tIfS (tB (tCall (up (sb__law_free K)) [] E (tCons (tVar 0) (tCons (tVar 4) (tCons (tVar 3) tNil))))) (tDrop (tBM K "list" rAppend (tVar 2) (tCons (tTup (tCons (tVar 4) (tCons (tVar 3) tNil))) tNil))) tNext))) (tRet (tIf (tTest (tOp (rNeU K) (tVar 2) (tLst tNil))) (tOp (rIx K) (tVar 2) (tOp rModI (tVar 1) (tCB (rLenU K) (tCons (tVar 2) tNil)))) (tC .non)))))
def t__law_across (K : PySem.W.Frag) (E : XK) : TS := (tSeq (tAsg (tIf (tTest (tOp rGtI (tDGet (tVar 0) (tC (.str "vx"))) (tC (.int 0)))) (tC (.int 1)) (tUn rNegI (tC (.int 1)))) (gName 3)) (tFor (iRng1 (tCons (tCB rAbs (tCons (tDGet (tVar 0) (tC (.str "vx"))) tNil)) tNil)) (gName 4) (tSeq (tAsg (tCall (up (sb__law_stands K)) [] E (tCons (tVar 1) (tCons (tVar 2) (tCons (tDGet (tVar 0) (tC (.str "x"))) (tCons (tDGet (tVar 0) (tC (.str "y"))) (tCons (tDGet (tVar 0) (tC (.str "t"))) (tCons (tC (.bl false)) tNil))))))) (gName 5)) (tIfS (tB (tCall (up (sb__law_free K)) [] E (tCons (tVar 1) (tCons (tOp (rAddU K) (tDGet (tVar 0) (tC (.str "x"))) (tVar 3)) (tCons (tDGet (tVar 0) (tC (.str "y"))) tNil))))) (tSeq (sDPut (tVar 0) (tC (.str "x")) (tOp (rAddU K) (tDGet (tVar 0) (tC (.str "x"))) (tVar 3))) (tIfS (tAnd (tB (tVar 5)) (tAnd (tTest (tOp rGeI (tDGet (tVar 0) (tC (.str "vy"))) (tC (.int 0)))) (tNot (tB (tCall (up (sb__law_stands K)) [] E (tCons (tVar 1) (tCons (tVar 2) (tCons (tDGet (tVar 0) (tC (.str "x"))) (tCons (tDGet (tVar 0) (tC (.str "y"))) (tCons (tDGet (tVar 0) (tC (.str "t"))) (tCons (tC (.bl false)) tNil))))))))))) (sDPut (tVar 0) (tC (.str "y")) (tOp (rAddU K) (tDGet (tVar 0) (tC (.str "y"))) (tCB rInt1 (tCons (tCall (up (sb__law_stands K)) [] E (tCons (tVar 1) (tCons (tVar 2) (tCons (tDGet (tVar 0) (tC (.str "x"))) (tCons (tOp (rAddU K) (tDGet (tVar 0) (tC (.str "y"))) (tC (.int 1))) (tCons (tDGet (tVar 0) (tC (.str "t"))) (tCons (tC (.bl false)) tNil))))))) tNil)))) tNext)) (tIfS (tAnd (tB (tVar 5)) (tB (tCall (up (sb__law_free K)) [] E (tCons (tVar 1) (tCons (tOp (rAddU K) (tDGet (tVar 0) (tC (.str "x"))) (tVar 3)) (tCons (tOp rSubU (tDGet (tVar 0) (tC (.str "y"))) (tC (.int 1))) tNil)))))) (tAsg (tTup (tCons (tOp (rAddU K) (tDGet (tVar 0) (tC (.str "x"))) (tVar 3)) (tCons (tOp rSubU (tDGet (tVar 0) (tC (.str "y"))) (tC (.int 1))) tNil))) (gTup K 2 (gCons (gSub (tVar 0) (tC (.str "x")) rSetD) (gCons (gSub (tVar 0) (tC (.str "y")) rSetD) gNil)))) (tSeq (sDPut (tVar 0) (tC (.str "vx")) (tC (.int 0))) tRetN))))))
def t__law_down (K : PySem.W.Frag) (E : XK) : TS := (tFor (iRng1 (tCons (tCB rAbs (tCons (tDGet (tVar 0) (tC (.str "vy"))) tNil)) tNil)) (gName 4) (tSeq (tIfS (tAnd (tTest (tOp rGtI (tDGet (tVar 0) (tC (.str "vy"))) (tC (.int 0)))) (tB (tCall (up (sb__law_stands K)) [] E (tCons (tVar 1) (tCons (tVar 2) (tCons (tDGet (tVar 0) (tC (.str "x"))) (tCons (tDGet (tVar 0) (tC (.str "y"))) (tCons (tDGet (tVar 0) (tC (.str "t"))) (tCons (tVar 3) tNil))))))))) (sDPut (tVar 0) (tC (.str "vy")) (tC (.int 0))) tNext) (tSeq (tIfS (tAnd (tTest (tOp rLtI (tDGet (tVar 0) (tC (.str "vy"))) (tC (.int 0)))) (tNot (tB (tCall (up (sb__law_free K)) [] E (tCons (tVar 1) (tCons (tDGet (tVar 0) (tC (.str "x"))) (tCons (tOp rSubU (tDGet (tVar 0) (tC (.str "y"))) (tC (.int 1))) tNil))))))) (sDPut (tVar 0) (tC (.str "vy")) (tC (.int 0))) tNext) (tSeq (tIfS (tTest (tOp (rEqU K) (tDGet (tVar 0) (tC (.str "vy"))) (tC (.int 0)))) tRetN tNext) (sDPut (tVar 0) (tC (.str "y")) (tOp (rAddU K) (tDGet (tVar 0) (tC (.str "y"))) (tIf (tTest (tOp rGtI (tDGet (tVar 0) (tC (.str "vy"))) (tC (.int 0)))) (tC (.int 1)) (tUn rNegI (tC (.int 1))))))))))
def t__law_tick (K : PySem.W.Frag) (E : XK) : TS := (tSeq (tAsg (tCall (up (sb__law_under K)) [] E (tCons (tVar 2) (tCons (tDGet (tVar 0) (tC (.str "x"))) (tCons (tDGet (tVar 0) (tC (.str "y"))) (tCons (tDGet (tVar 0) (tC (.str "t"))) tNil))))) (gName 4)) (tSeq (sDPut (tVar 0) (tC (.str "t")) (tOp (rAddU K) (tDGet (tVar 0) (tC (.str "t"))) (tC (.int 1)))) (tSeq (tIfS (tTest (tOp (rNeU K) (tVar 4) (tLst tNil))) (tSeq (tPar 5 6 (tCons (tCall (up (sb__law_lift_at K)) [] E (tCons (tOp (rIx K) (tVar 4) (tC (.int 0))) (tCons (tOp rSubU (tDGet (tVar 0) (tC (.str "t"))) (tC (.int 1))) tNil))) (tCons (tCall (up (sb__law_lift_at K)) [] E (tCons (tOp (rIx K) (tVar 4) (tC (.int 0))) (tCons (tDGet (tVar 0) (tC (.str "t"))) tNil))) tNil))) (tSeq (tPar 7 8 (tCons (tOp rSubU (tOp (rAddU K) (tDGet (tVar 0) (tC (.str "x"))) (tOp (rIx K) (tVar 6) (tC (.int 0)))) (tOp (rIx K) (tVar 5) (tC (.int 0)))) (tCons (tOp rSubU (tOp (rAddU K) (tDGet (tVar 0) (tC (.str "y"))) (tOp (rIx K) (tVar 6) (tC (.int 1)))) (tOp (rIx K) (tVar 5) (tC (.int 1)))) tNil))) (tIfS (tB (tCall (up (sb__law_free K)) [] E (tCons (tVar 1) (tCons (tVar 7) (tCons (tVar 8) tNil))))) (tAsg (tTup (tCons (tVar 7) (tCons (tVar 8) tNil))) (gTup K 2 (gCons (gSub (tVar 0) (tC (.str "x")) rSetD) (gCons (gSub (tVar 0) (tC (.str "y")) rSetD) gNil)))) tNext))) tNext) (tSeq (tAsg (tOp rSubU (tOp (rInU K) (tC (.str "r")) (tVar 3)) (tOp (rInU K) (tC (.str "l")) (tVar 3))) (gName 9)) (tSeq (tIfS (tTest (tOp (rEqU K) (tVar 9) (tC (.int 0)))) (tAsg (tOp rSubU (tOp rLtI (tDGet (tVar 0) (tC (.str "vx"))) (tC (.int 0))) (tOp rGtI (tDGet (tVar 0) (tC (.str "vx"))) (tC (.int 0)))) (gName 9)) tNext) (tSeq (sDPut (tVar 0) (tC (.str "vx")) (tOp (rIx K) (tCB (rSorted K) (tCons (tLst (tCons (tUn rNegI (tC (.int 3))) (tCons (tOp (rAddU K) (tDGet (tVar 0) (tC (.str "vx"))) (tVar 9)) (tCons (tC (.int 3)) tNil)))) tNil)) (tC (.int 1)))) (tSeq (tIfS (tAnd (tTest (tOp rGeI (tDGet (tVar 0) (tC (.str "vy"))) (tC (.int 0)))) (tB (tCall (up (sb__law_stands K)) [] E (tCons (tVar 1) (tCons (tVar 2) (tCons (tDGet (tVar 0) (tC (.str "x"))) (tCons (tDGet (tVar 0) (tC (.str "y"))) (tCons (tDGet (tVar 0) (tC (.str "t"))) (tCons (tOp (rInU K) (tC (.str "d")) (tVar 3)) tNil))))))))) (sDPut (tVar 0) (tC (.str "vy")) (tIf (tAnd (tTest (tOp (rInU K) (tC (.str "j")) (tVar 3))) (tNot (tB (tDGet (tVar 0) (tC (.str "j")))))) (tUn rNegI (tC (.int 6))) (tC (.int 0)))) (sDPut (tVar 0) (tC (.str "vy")) (tCB rMin2 (tCons (tC (.int 6)) (tCons (tOp (rAddU K) (tDGet (tVar 0) (tC (.str "vy"))) (tC (.int 1))) tNil))))) (tSeq (tDrop (tCall (up (sb__law_across K)) [] E (tCons (tVar 0) (tCons (tVar 1) (tCons (tVar 2) tNil))))) (tSeq (tDrop (tCall (up (sb__law_down K)) [] E (tCons (tVar 0) (tCons (tVar 1) (tCons (tVar 2) (tCons (tOp (rInU K) (tC (.str "d")) (tVar 3)) tNil)))))) (sDPut (tVar 0) (tC (.str "j")) (tOp (rInU K) (tC (.str "j")) (tVar 3))))))))))))
local macro_rules | `(tactic| walk_at "own") => `(tactic| first
  | ((with_reducible apply d_x) <;> walk_at "v")
  | ((with_reducible apply d_y) <;> walk_at "v")
  | ((with_reducible apply d_t) <;> walk_at "v")
  | ((with_reducible apply d_vx) <;> walk_at "v")
  | ((with_reducible apply d_vy) <;> walk_at "v")
  | ((with_reducible apply d_j) <;> walk_at "v"))
section
variable {K : PySem.W.Frag} {σ : L2.St} {b : Hp} {vs : List V} {k : VK} {ke : XB} {E : XK}
theorem s__law_keys {more turn : Int} : Ps (sb__law_keys K) [.int more, .int turn] b (.str (keysM more turn)) := fun k hk => ⟨more, turn, rfl, hk⟩
theorem p__law_keys (h : sb__law_keys K vs b k ke) (hE : ∀ c b' H', ke c b' → Ex b' H' → E c none H') : Cs (t__law_keys K E) { nx := fun _ b' => k .non b', rt := k } (start ["more", "turn", "here"] vs) b := by
  obtain ⟨more, turn, rfl, hk⟩ := h
  have m0 : 0 ≤ more % 7 := Int.emod_nonneg _ (by decide)
  have m1 : more % 7 < 7 := Int.emod_lt_of_pos _ (by decide)
  refine q_asgV (v := .int (drawnZ more (300 + turn / (1 + more % 7)))) (v_call (a_cons (v_var rfl) (a_cons (v_op v_c (v_op (v_var rfl) (v_op v_c (v_op (v_var rfl) v_c (r_mod (by decide))) r_add) (r_fdiv ⟨by omega, by omega⟩)) r_add) a_nil)) s__law_drawn) ?_
  have h0 : 0 ≤ drawnZ more (300 + turn / (1 + more % 7)) % 10 := Int.emod_nonneg _ (by decide)
  have h1 : drawnZ more (300 + turn / (1 + more % 7)) % 10 < 10 := Int.emod_lt_of_pos _ (by decide)
  refine s_retV (v_opN1 (n_lst (vs := keyTab.map V.str) (a_cons v_c (a_cons v_c (a_cons v_c (a_cons v_c (a_cons v_c (a_cons v_c (a_cons v_c (a_cons v_c (a_cons v_c (a_cons v_c a_nil)))))))))) (by show 10 ≤ 100000; decide)) (fun b1 _ => v_op (v_var rfl) v_c (r_mod (by decide))) (fun p b1 _ hp => r_iL (sq_of hp) ?_)) hk
  rw [at_getD (keyTab.map V.str) (V.str "") h0 (by rw [List.length_map]; show _ < ((10 : Nat) : Int); omega), List.getD_eq_getElem?_getD, List.getElem?_map]
  unfold keysM
  rw [List.getD_eq_getElem?_getD]
  cases keyTab[(drawnZ more (300 + turn / (1 + more % 7)) % 10).toNat]? <;> rfl
theorem p__law_begin (h : sb__law_begin K vs b k ke) (hE : ∀ c b' H', ke c b' → Ex b' H' → E c none H') : Cs (t__law_begin K E) { nx := fun _ b' => k .non b', rt := k } (start ["rows", "more", "places", "top", "left"] vs) b := by
  obtain ⟨ra, rows, w, more, rfl, hm, g, hk1, hk2⟩ := h
  have w1 := g.w1
  have w2 := g.w2
  have g1 := g.h1
  have g2 := g.h2
  refine Cs.weak ?_
  refine q_asgN (n_lst a_nil (by decide)) (fun f hf => ?_)
  have hm0 : SqL K (upd b f (.lst [])) ra (rowsV rows) := ex_l (Ex.new hf) hm
  refine s_seq (s_range3 (lo := -12) (hi := 8 * (rows.length : Int) - 4) (c := 3) (a_cons (v_un v_c u_neg) (a_cons (v_op (v_op v_c (v_h8 rfl hm0) r_mul8) v_c r_sub) (a_cons v_c a_nil))) (rgC (by omega) (by omega) (by omega))
    (fun i σ' b' => ∃ (v3 v4 : Option V) (qs : List Addr) (zs : List (Int × Int)), σ' = [some (.ref ra), some (.int more), some (.ref f), v3, v4] ∧ b' f = some (.lst (qs.map V.ref)) ∧ Ex b b' ∧ PairsB b' qs zs ∧ (∀ q ∈ qs, b q = none) ∧ (∀ z ∈ zs, freeM rows w z.1 z.2 = true ∧ -12 ≤ z.2 ∧ z.2 ≤ 160) ∧ zs.length ≤ i * 200 ∧ i ≤ 60)
    ⟨none, none, [], [], rfl, upd_same, Ex.new hf, .nil, (fun q hq => by cases hq), (fun z hz => by cases hz), by simp, by omega⟩ ?_ ?_)
  · rintro i σ' b' hi ⟨v3, v4, qs, zs, rfl, hb, e, hp, hq, hz, hl, hi2⟩
    have hti : -12 + (i : Int) * 3 < 8 * (rows.length : Int) - 4 := by
      have : (i : Int) < (if (-12 : Int) < 8 * (rows.length : Int) - 4 then (8 * (rows.length : Int) - 4 - -12 - 1) / 3 + 1 else 0) := by omega
      rw [if_pos (by omega)] at this
      omega
    refine g_name ?_
    refine s_range3 (lo := 0) (hi := 8 * (w : Int) - 5) (c := 2) (a_cons v_c (a_cons (v_op (v_op v_c (v_w8 rfl (ex_l e hm) g) r_mul8) v_c r_sub) (a_cons v_c a_nil))) (rgC (by omega) (by omega) (by omega))
      (fun j σ' b' => ∃ (v4 : Option V) (qs : List Addr) (zs : List (Int × Int)), σ' = [some (.ref ra), some (.int more), some (.ref f), some (.int (-12 + (i : Int) * 3)), v4] ∧ b' f = some (.lst (qs.map V.ref)) ∧ Ex b b' ∧ PairsB b' qs zs ∧ (∀ q ∈ qs, b q = none) ∧ (∀ z ∈ zs, freeM rows w z.1 z.2 = true ∧ -12 ≤ z.2 ∧ z.2 ≤ 160) ∧ zs.length ≤ i * 200 + j ∧ j ≤ 200)
      ⟨v4, qs, zs, rfl, hb, e, hp, hq, hz, by omega, by omega⟩ ?_ ?_
    · rintro j σ' b' hj ⟨v4, qs, zs, rfl, hb, e, hp, hq, hz, hl, hj2⟩
      have hlj : (j : Int) * 2 < 8 * (w : Int) - 5 := by
        have : (j : Int) < (if (0 : Int) < 8 * (w : Int) - 5 then (8 * (w : Int) - 5 - 0 - 1) / 2 + 1 else 0) := by omega
        rw [if_pos (by omega)] at this
        omega
      refine g_name ?_
      refine s_when (t_B (v_call (a_cons (v_var rfl) (a_cons (v_var rfl) (a_cons (v_var rfl) a_nil))) (s__law_free (ex_l e hm) g))) (fun c1 => ?_) (fun c1 => ⟨_, qs, zs, rfl, hb, e, hp, hq, hz, by omega, by omega⟩)
      refine s_drop (c_appendN (v_var rfl) (n_pair (v_var rfl) (v_var rfl)) hb (by rw [List.length_map, hp.1]; omega) (fun q hqn => ⟨_, qs ++ [q], zs ++ [(0 + (j : Int) * 2, -12 + (i : Int) * 3)], rfl, ?_, Ex.mut (e.trans (Ex.new hqn)) hf, ?_, ?_, ?_, ?_, by omega⟩))
      · rw [upd_same, List.map_append]
        rfl
      · refine ((hp.ex (Ex.new hqn)).snoc (z := (0 + (j : Int) * 2, -12 + (i : Int) * 3)) upd_same).mut (fun vs h => ?_)
        rw [upd_ne (ne_of_none hb hqn), hb] at h
        cases h
      · intro q2 hq2
        rcases List.mem_append.mp hq2 with h | h
        · exact hq q2 h
        · have : q2 = q := by simpa using h
          rw [this]
          exact ex_none e hqn
      · intro z hz2
        rcases List.mem_append.mp hz2 with h | h
        · exact hz z h
        · have : z = (0 + (j : Int) * 2, -12 + (i : Int) * 3) := by simpa using h
          rw [this]
          exact ⟨c1, by dsimp only; omega, by dsimp only; omega⟩
      · rw [List.length_append]
        show zs.length + 1 ≤ _
        omega
    · rintro σ' b' ⟨v4, qs, zs, rfl, hb, e, hp, hq, hz, hl, hj2⟩
      exact ⟨_, _, qs, zs, rfl, hb, e, hp, hq, hz, by omega, by omega⟩
  · rintro σ' b' ⟨v3, v4, qs, zs, rfl, hb, e, hp, hq, hz, hl, hi2⟩
    have ht : Pt (tTest (tOp (rNeU K) (tVar 2) (tLst tNil))) [some (.ref ra), some (.int more), some (.ref f), v3, v4] b' (!decide (zs = [])) := by
      refine t_is (t_test (v_opN (v_var rfl) (n_lst a_nil (by decide)) (fun q b1 e1 hq1 => r_neD (dp_pairs (ex_l e1 (sq_of hb)) (hp.ex e1)) (dp_nil (sq_of hq1)) (sh_pairs _) rfl))) ?_
      rw [eqv_list_nil]
      congr 2
      exact propext List.map_eq_nil_iff
    refine s_ret (c_if (kt := k) ht (fun c1 => ?_) (fun c1 => Pe.c v_c ⟨b, e, hk1⟩))
    have hne : zs ≠ [] := by
      intro h
      rw [h] at c1
      cases c1
    have hpos : 0 < zs.length := List.length_pos_iff.mpr hne
    have i0 := Int.emod_nonneg more (show (qs.length : Int) ≠ 0 by rw [hp.1]; omega)
    have i1 := Int.emod_lt_of_pos more (show 0 < (qs.length : Int) by rw [hp.1]; omega)
    have hix : (more % (qs.length : Int)).toNat < qs.length := by omega
    have hq1 : qs[(more % (qs.length : Int)).toNat]? = some qs[(more % (qs.length : Int)).toNat] := List.getElem?_eq_getElem hix
    have hz1 : zs[(more % (qs.length : Int)).toNat]? = some (zs[(more % (qs.length : Int)).toNat]'(by rw [← hp.1]; exact hix)) := List.getElem?_eq_getElem _
    have hpr := hp.2 _ _ _ hq1 hz1
    have hzz := hz _ (List.mem_of_getElem? hz1)
    have hqq := hq _ (List.mem_of_getElem? hq1)
    have at1 : atI (qs.map V.ref) (more % (qs.length : Int)) = some (.ref qs[(more % (qs.length : Int)).toNat]) := by
      have e := at_getD (qs.map V.ref) (V.ref 0) i0 (by rw [List.length_map]; omega)
      rw [e, List.getD_eq_getElem?_getD, List.getElem?_map, hq1]
      rfl
    refine Pe.c (v_op (v_var rfl) (v_op (v_var rfl) (v_is (v_cb (a_cons (v_var rfl) a_nil) (p_lenL (sq_of hb))) (by rw [List.length_map])) (r_mod (by omega))) (r_iL (sq_of hb) at1)) ⟨upd b qs[(more % (qs.length : Int)).toNat] (.tup [.int (zs[(more % (qs.length : Int)).toNat]'(by rw [← hp.1]; exact hix)).1, .int (zs[(more % (qs.length : Int)).toNat]'(by rw [← hp.1]; exact hix)).2]), ?_, hk2 _ _ _ hzz.1 hzz.2.1 hzz.2.2 hqq⟩
    intro c o hc
    by_cases ec : c = qs[(more % (qs.length : Int)).toNat]
    · rw [ec, upd_same] at hc
      rw [ec, hpr]
      exact hc
    · rw [upd_ne ec] at hc
      exact e c o hc
end

section
variable {K : PySem.W.Frag} {σ : L2.St} {b : Hp} {vs : List V} {k : VK} {ke : XB} {E : XK}
theorem a_is {ts : TA} {vs ws : List V} (h : Pa ts σ b vs) (e : vs = ws) : Pa ts σ b ws := e ▸ h
theorem free_rng {W : Wd} (g : GoodWd W) {l t : Int} (h : freeM W.rows W.w l t = true) : -100000 ≤ l ∧ l ≤ 100000 := by
  have := free_in h
  have := g.map.w2
  omega
theorem v_stands {ra la oa : Addr} {ps : List Addr} {W : Wd} {b0 : Hp} {s : Rs} {l t time : Int} {d : Bool} {ts : TA} (o : OA K b oa b0 s) (h : LA K b0 ra la ps W) (hl : -100000 ≤ l ∧ l ≤ 100000) (ht : 0 ≤ time ∧ time < 1000000) (hs : Pa ts σ b [.ref ra, .ref la, .int l, .int t, .int time, .bl d]) : Pe (tCall (up (sb__law_stands K)) [] E ts) σ b (.bl (floorM W l t time d)) :=
  v_call hs (s__law_stands (h.ex o.ex).m (h.ex o.ex).l h.g hl ht)
theorem v_lfree {ra la oa : Addr} {ps : List Addr} {W : Wd} {b0 : Hp} {s : Rs} {l t : Int} {ts : TA} (o : OA K b oa b0 s) (h : LA K b0 ra la ps W) (hs : Pa ts σ b [.ref ra, .int l, .int t]) : Pe (tCall (up (sb__law_free K)) [] E ts) σ b (.bl (freeM W.rows W.w l t)) :=
  v_call hs (s__law_free (h.ex o.ex).m h.g.map)
theorem p__law_across (h : sb__law_across K vs b k ke) (hE : ∀ c b' H', ke c b' → Ex b' H' → E c none H') : Cs (t__law_across K E) { nx := fun _ b' => k .non b', rt := k } (start ["one", "rows", "lifts", "by", "step", "stood"] vs) b := by
  obtain ⟨oa, ra, la, ps, b0, W, s, rfl, h, hA, hf, ht, hv, hk⟩ := h
  refine q_asgV (v := .int (if 0 < s.vx then 1 else -1)) (v_is (v_if (x := V.int 1) (y := V.int (-1)) (c := decide (0 < s.vx)) (by walk_at "v") (fun _ => by walk_at "v") (fun _ => by walk_at "v")) (by by_cases q : 0 < s.vx <;> simp [q])) ?_
  unfold acrossM at hk
  generalize (if 0 < s.vx then (1 : Int) else -1) = d at hk
  refine s_range1 (n := (s.vx.natAbs : Int)) (a_cons (v_is (by walk_at "v") (by rw [abs_nat])) a_nil) (by omega) (fun i σ' b' => ∃ (v4 v5 : Option V) (c : Rs), σ' = [some (.ref oa), some (.ref ra), some (.ref la), some (.int d), v4, v5] ∧ b' = oput b oa c ∧ acrossGo W d (s.vx.natAbs - i) c = acrossGo W d s.vx.natAbs s ∧ freeM W.rows W.w c.x c.y = true ∧ c.t = s.t)
    ⟨none, none, s, rfl, (oput_self h).symm, rfl, hf, rfl⟩ ?_ ?_
  · rintro i σ' b' hi ⟨v4, v5, c, rfl, rfl, hc, hfc, htc⟩
    have h1 := h.put c
    have e1 : s.vx.natAbs - i = (s.vx.natAbs - (i + 1)) + 1 := by omega
    rw [e1, acrossGo_succ] at hc
    have ht1 : 0 ≤ c.t ∧ c.t < 1000000 := by rw [htc]; exact ht
    refine g_name ?_
    refine q_asgV (v := .bl (floorM W c.x c.y c.t false)) (v_stands h1 hA (free_rng hA.g hfc) ht1 (by walk_at "v")) ?_
    have hst := step_keep W d c
    refine s_if (c := freeM W.rows W.w (c.x + d) c.y) (t_B (v_lfree h1 hA (by walk_at "v"))) (fun c1 => ?_) (fun c1 => ?_)
    · refine q_oput h1 (v := .int (c.x + d)) (by walk_at "v") (v_var rfl) (op_x _ _) ?_
      rw [oput_oput]
      have h2 := h.put { c with x := c.x + d }
      clear h1
      refine s_when (c := floorM W c.x c.y c.t false && (decide (0 ≤ c.vy) && !floorM W (c.x + d) c.y c.t false)) (t_is (t_and (t_B (v_var rfl)) (fun _ => t_and (by walk_at "v") (fun _ => t_not (t_B (v_stands h2 hA (free_rng hA.g c1) ht1 (a_is (by walk_at "v") (by rfl))))))) (by rfl)) (fun c2 => ?_) (fun c2 => ?_)
      · refine s_oput h2 (v := .int (c.y + bI (floorM W (c.x + d) (c.y + 1) c.t false))) (v_is (v_op (d_y h2 (v_var rfl)) (v_cb (a_cons (v_stands (l := c.x + d) (t := c.y + 1) (time := c.t) (d := false) h2 hA (free_rng hA.g c1) ht1 (a_is (by walk_at "v") (by rfl))) a_nil) p_intB) r_add) (by rfl)) (v_var rfl) (op_y _ _) ?_
        rw [oput_oput]
        have e : stepM W d c = some { c with x := c.x + d, y := c.y + bI (floorM W (c.x + d) (c.y + 1) c.t false) } := by
          unfold stepM
          rw [if_pos c1, if_pos c2]
          cases floorM W (c.x + d) (c.y + 1) c.t false
          · rw [if_neg Bool.false_ne_true]
            show _ = some { c with x := c.x + d, y := c.y + 0 }
            rw [Int.add_zero]
          · rw [if_pos rfl]
            rfl
        rw [e] at hc
        have hs := hst _ e
        exact ⟨_, _, _, rfl, rfl, hc, hs.2.2.2.2.1, hs.2.2.1.trans htc⟩
      · have e : stepM W d c = some { c with x := c.x + d } := by
          unfold stepM
          rw [if_pos c1, if_neg (by rw [c2]; decide)]
        rw [e] at hc
        have hs := hst _ e
        exact ⟨_, _, _, rfl, rfl, hc, hs.2.2.2.2.1, hs.2.2.1.trans htc⟩
    · refine s_if (c := floorM W c.x c.y c.t false && freeM W.rows W.w (c.x + d) (c.y - 1)) (t_and (t_B (v_var rfl)) (fun _ => t_B (v_lfree h1 hA (by walk_at "v")))) (fun c2 => ?_) (fun c2 => ?_)
      · have e : stepM W d c = some { c with x := c.x + d, y := c.y - 1 } := by
          unfold stepM
          rw [if_neg (by rw [c1]; decide), if_pos c2]
        rw [e] at hc
        have hs := hst _ e
        refine s_asgT (vs := [.int (c.x + d), .int (c.y - 1)]) (n_pair (by walk_at "v") (by walk_at "v")) rfl (gs_cons (g_oput h1 (v_var rfl) (op_x _ _) ?_))
        refine gs_cons (g_oput (h1.put _) (v_var rfl) (op_y _ _) (gs_nil ?_))
        rw [oput_oput, oput_oput]
        exact ⟨_, _, _, rfl, rfl, hc, hs.2.2.2.2.1, hs.2.2.1.trans htc⟩
      · have e : stepM W d c = none := by
          unfold stepM
          rw [if_neg (by rw [c1]; decide), if_neg (by rw [c2]; decide)]
        rw [e] at hc
        refine q_oput h1 (v := .int 0) v_c (v_var rfl) (op_vx _ _) (s_retN ?_)
        rw [oput_oput]
        dsimp only at hc
        rw [hc]
        exact hk
  · rintro σ' b' ⟨v4, v5, c, rfl, rfl, hc, hfc, htc⟩
    have e1 : s.vx.natAbs - ((s.vx.natAbs : Int)).toNat = 0 := by omega
    rw [e1] at hc
    have e2 : c = acrossGo W d s.vx.natAbs s := by rw [← hc]; rfl
    rw [e2]
    exact hk
theorem p__law_down (h : sb__law_down K vs b k ke) (hE : ∀ c b' H', ke c b' → Ex b' H' → E c none H') : Cs (t__law_down K E) { nx := fun _ b' => k .non b', rt := k } (start ["one", "rows", "lifts", "drops", "step"] vs) b := by
  obtain ⟨oa, ra, la, ps, b0, W, s, dr, rfl, h, hA, hf, ht, hv, hk⟩ := h
  unfold downM at hk
  have hd := dir s.vy
  have hds : (0 < (if 0 < s.vy then (1 : Int) else -1)) ↔ 0 < s.vy := by
    split <;> omega
  generalize (if 0 < s.vy then (1 : Int) else -1) = d at hk hd hds
  refine s_range1 (n := (s.vy.natAbs : Int)) (a_cons (v_is (by walk_at "v") (by rw [abs_nat])) a_nil) (by omega) (fun i σ' b' => ∃ (v4 : Option V) (c : Rs), σ' = [some (.ref oa), some (.ref ra), some (.ref la), some (.bl dr), v4] ∧ b' = oput b oa c ∧ downGo W dr d (s.vy.natAbs - i) c = downGo W dr d s.vy.natAbs s ∧ freeM W.rows W.w c.x c.y = true ∧ c.t = s.t ∧ c.vy = s.vy)
    ⟨none, s, rfl, (oput_self h).symm, rfl, hf, rfl, rfl⟩ ?_ ?_
  · rintro i σ' b' hi ⟨v4, c, rfl, rfl, hc, hfc, htc, hvc⟩
    have h1 := h.put c
    have e1 : s.vy.natAbs - i = (s.vy.natAbs - (i + 1)) + 1 := by omega
    rw [e1, downGo_succ] at hc
    have ht1 : 0 ≤ c.t ∧ c.t < 1000000 := by rw [htc]; exact ht
    refine g_name ?_
    have fin : ∀ {v4 : Option V}, stopM W dr d c = true → Cs (tSeq (tIfS (tTest (tOp (rEqU K) (tDGet (tVar 0) (tC (.str "vy"))) (tC (.int 0)))) tRetN tNext) (sDPut (tVar 0) (tC (.str "y")) (tOp (rAddU K) (tDGet (tVar 0) (tC (.str "y"))) (tIf (tTest (tOp rGtI (tDGet (tVar 0) (tC (.str "vy"))) (tC (.int 0)))) (tC (.int 1)) (tUn rNegI (tC (.int 1)))))))
        { nx := fun σ' b' => ∃ (v4 : Option V) (c : Rs), σ' = [some (.ref oa), some (.ref ra), some (.ref la), some (.bl dr), v4] ∧ b' = oput b oa c ∧ downGo W dr d (s.vy.natAbs - (i + 1)) c = downGo W dr d s.vy.natAbs s ∧ freeM W.rows W.w c.x c.y = true ∧ c.t = s.t ∧ c.vy = s.vy, rt := k,
          bk := fun _ b' => k .non b', ct := fun σ' b' => ∃ (v4 : Option V) (c : Rs), σ' = [some (.ref oa), some (.ref ra), some (.ref la), some (.bl dr), v4] ∧ b' = oput b oa c ∧ downGo W dr d (s.vy.natAbs - (i + 1)) c = downGo W dr d s.vy.natAbs s ∧ freeM W.rows W.w c.x c.y = true ∧ c.t = s.t ∧ c.vy = s.vy } [some (.ref oa), some (.ref ra), some (.ref la), some (.bl dr), v4] (oput b oa { c with vy := 0 }) := by
      intro v4 q
      have h2 := h.put { c with vy := 0 }
      refine q_when (c := true) (t_is (by walk_at "v") (by rfl)) (fun _ => s_retN ?_) (fun z => by cases z)
      rw [if_pos q] at hc
      rw [hc]
      exact hk
    by_cases hpos : 0 < s.vy
    · have hst : stopM W dr d c = floorM W c.x c.y c.t dr := by
        unfold stopM
        rw [if_pos (hds.mpr hpos)]
      refine q_when (c := stopM W dr d c) (t_is (t_and (by walk_at "v") (fun _ => t_B (v_stands h1 hA (free_rng hA.g hfc) ht1 (by walk_at "v")))) (by rw [hst, decide_eq_true (by rw [hvc]; exact hpos), Bool.true_and])) (fun c1 => ?_) (fun c1 => ?_)
      · refine s_oput h1 (v := .int 0) v_c (v_var rfl) (op_vy _ _) ?_
        rw [oput_oput]
        have h2 := h.put { c with vy := 0 }
        refine q_when (c := false) (t_is (t_and (d := true) (by walk_at "v") (fun z => absurd z (by show ¬ decide ((0 : Int) < 0) = true; decide))) (by rfl)) (fun z => by cases z) (fun _ => fin c1)
      · refine q_when (c := false) (t_is (t_and (d := true) (by walk_at "v") (fun z => absurd (of_decide_eq_true z) (by rw [hvc]; omega))) (by rw [decide_eq_false (by rw [hvc]; omega), Bool.false_and])) (fun z => by cases z) (fun _ => ?_)
        refine q_when (c := false) (t_is (by walk_at "v") (decide_eq_false (by rw [hvc]; omega))) (fun z => by cases z) (fun _ => ?_)
        rw [if_neg (by rw [c1]; decide)] at hc
        have ed : d = 1 := by
          have := hds.mpr hpos
          omega
        refine s_oput h1 (v := .int (c.y + d)) (v_op (by walk_at "v") (v_is (v_if (x := V.int 1) (y := V.int (-1)) (c := decide (0 < c.vy)) (by walk_at "v") (fun _ => by walk_at "v") (fun _ => by walk_at "v")) (by rw [decide_eq_true (by rw [hvc]; exact hpos), if_pos rfl, ed])) r_add) (v_var rfl) (op_y _ _) ⟨_, { c with y := c.y + d }, rfl, oput_oput, hc, stop_free W dr d hd c c1, htc, hvc⟩
    · have hneg : s.vy < 0 := by omega
      have hst : stopM W dr d c = !freeM W.rows W.w c.x (c.y - 1) := by
        unfold stopM
        rw [if_neg (fun z => hpos (hds.mp z))]
      refine q_when (c := false) (t_is (t_and (d := true) (by walk_at "v") (fun z => absurd (of_decide_eq_true z) (by rw [hvc]; omega))) (by rw [decide_eq_false (by rw [hvc]; omega), Bool.false_and])) (fun z => by cases z) (fun _ => ?_)
      refine q_when (c := stopM W dr d c) (t_is (t_and (by walk_at "v") (fun _ => t_not (t_B (v_lfree h1 hA (by walk_at "v"))))) (by rw [hst, decide_eq_true (by rw [hvc]; exact hneg), Bool.true_and])) (fun c1 => ?_) (fun c1 => ?_)
      · refine s_oput h1 (v := .int 0) v_c (v_var rfl) (op_vy _ _) ?_
        rw [oput_oput]
        exact fin c1
      · refine q_when (c := false) (t_is (by walk_at "v") (decide_eq_false (by rw [hvc]; omega))) (fun z => by cases z) (fun _ => ?_)
        rw [if_neg (by rw [c1]; decide)] at hc
        have ed : d = -1 := by
          have : ¬ 0 < d := fun z => hpos (hds.mp z)
          omega
        refine s_oput h1 (v := .int (c.y + d)) (v_op (by walk_at "v") (v_is (v_if (x := V.int 1) (y := V.int (-1)) (c := decide (0 < c.vy)) (by walk_at "v") (fun _ => by walk_at "v") (fun _ => by walk_at "v")) (by rw [decide_eq_false (by rw [hvc]; omega), if_neg Bool.false_ne_true, ed])) r_add) (v_var rfl) (op_y _ _) ⟨_, { c with y := c.y + d }, rfl, oput_oput, hc, stop_free W dr d hd c c1, htc, hvc⟩
  · rintro σ' b' ⟨v4, c, rfl, rfl, hc, hfc, htc, hvc⟩
    have e1 : s.vy.natAbs - ((s.vy.natAbs : Int)).toNat = 0 := by omega
    rw [e1] at hc
    have e2 : c = downGo W dr d s.vy.natAbs s := by rw [← hc]; rfl
    rw [e2]
    exact hk
theorem c_oacross {oa ra la : Addr} {ps : List Addr} {b0 : Hp} {W : Wd} {s : Rs} {ts : TA} (h : OA K b oa b0 s) (hA : LA K b0 ra la ps W) (hf : freeM W.rows W.w s.x s.y = true) (ht : 0 ≤ s.t ∧ s.t < 1000000) (hv : -3 ≤ s.vx ∧ s.vx ≤ 3) (hs : Pa ts σ b [.ref oa, .ref ra, .ref la]) (hk : k .non (oput b oa (acrossM W s))) : Ce (tCall (up (sb__law_across K)) [] E ts) σ b k :=
  c_call0 (Pa.c hs ⟨oa, ra, la, ps, b0, W, s, rfl, h, hA, hf, ht, hv, hk⟩)
theorem c_odown {oa ra la : Addr} {ps : List Addr} {b0 : Hp} {W : Wd} {s : Rs} {ts : TA} {d : Bool} (h : OA K b oa b0 s) (hA : LA K b0 ra la ps W) (hf : freeM W.rows W.w s.x s.y = true) (ht : 0 ≤ s.t ∧ s.t < 1000000) (hv : -6 ≤ s.vy ∧ s.vy ≤ 6) (hs : Pa ts σ b [.ref oa, .ref ra, .ref la, .bl d]) (hk : k .non (oput b oa (downM W d s))) : Ce (tCall (up (sb__law_down K)) [] E ts) σ b k :=
  c_call0 (Pa.c hs ⟨oa, ra, la, ps, b0, W, s, d, rfl, h, hA, hf, ht, hv, hk⟩)
theorem c_otick {oa ra la : Addr} {ps : List Addr} {b0 : Hp} {W : Wd} {s : Rs} {ts : TA} {keys : Str} (h : OA K b oa b0 s) (hA : LA K b0 ra la ps W) (hf : freeM W.rows W.w s.x s.y = true) (ht : 0 ≤ s.t ∧ s.t < 100000) (g : GoodRs s) (hs : Pa ts σ b [.ref oa, .ref ra, .ref la, .str keys]) (hk : k .non (oput b oa (tickM W s keys))) : Ce (tCall (up (sb__law_tick K)) [] E ts) σ b k :=
  c_call0 (Pa.c hs ⟨oa, ra, la, ps, b0, W, s, keys, rfl, h, hA, hf, ht, g, hk⟩)
end

section
variable {K : PySem.W.Frag} {σ : L2.St} {b : Hp} {vs : List V} {k : VK} {ke : XB} {E : XK}
theorem b2i_bI (c : Bool) : PyProof.Rows.b2i c = bI c := by cases c <;> rfl
theorem p__law_tick (h : sb__law_tick K vs b k ke) (hE : ∀ c b' H', ke c b' → Ex b' H' → E c none H') : Cs (t__law_tick K E) { nx := fun _ b' => k .non b', rt := k } (start ["one", "rows", "lifts", "keys", "under", "old", "new", "left", "top", "push"] vs) b := by
  obtain ⟨oa, ra, la, ps, b0, W, s, keys, rfl, h, hA, hf, ht, g, hk⟩ := h
  have hA1 := hA.ex h.ex
  have cv := carry_vx W s
  have cf := carry_free W s hf
  refine q_asgN (n_call (by walk_at "v") (s__law_under hA1.l hA.g (free_rng hA.g hf) ⟨by omega, by omega⟩)) (fun u hu => ?_)
  have hlen : ps.length = W.lifts.length := hA.l.2.1
  generalize hux : underIx W s.x s.y s.t = ux
  have hu2 : (upd b u (.lst ((ux.map fun i => ps.getD i 0).map V.ref))) u = some (.lst ((ux.map fun i => ps.getD i 0).map V.ref)) := upd_same
  have e2 : Ex b (upd b u (.lst ((ux.map fun i => ps.getD i 0).map V.ref))) := Ex.new hu
  generalize upd b u (.lst ((ux.map fun i => ps.getD i 0).map V.ref)) = b2 at hu2 e2
  have h2 := h.of e2
  refine q_oput h2 (v := .int (s.t + 1)) (by walk_at "v") (v_var rfl) (op_t _ _) ?_
  have h3 := h2.put { s with t := s.t + 1 }
  have hA3 := hA.ex h3.ex
  have nuo : u ≠ oa := ne_of hu2 h2.at_ (by intro z; cases z)
  have hu3 : (oput b2 oa { s with t := s.t + 1 }) u = some (.lst ((ux.map fun i => ps.getD i 0).map V.ref)) := by
    unfold oput
    rw [upd_ne nuo]
    exact hu2
  have hLu : LiftsPs K (oput b2 oa { s with t := s.t + 1 }) u (ux.map fun i => ps.getD i 0) (underL W s.x s.y s.t) := by
    rw [← hux]
    rw [← hux] at hu3
    exact underPs hA3.l (sq_of hu3)
  have hue : (underL W s.x s.y s.t = []) ↔ ux = [] := by
    rw [← hux, ← List.length_eq_zero_iff, ← List.length_eq_zero_iff]
    have := hLu.2.1
    rw [List.length_map, ← hux] at this
    omega
  refine s_cut (fun σ' b' => ∃ v5 v6 v7 v8 v9 : Option V, σ' = [some (.ref oa), some (.ref ra), some (.ref la), some (.str keys), some (.ref u), v5, v6, v7, v8, v9] ∧ Ex (oput b oa (carryM W s)) b') ?_ ?_
  · have fin : ∀ z : Rs, carryM W s = z → Ex (oput b oa (carryM W s)) (oput b2 oa z) := fun z e => by
      rw [e]
      exact ex_upd e2
    refine s_when (t_liftsNe (v_var rfl) hLu) (fun c1 => ?_) (fun c1 => ⟨_, _, _, _, _, rfl, fin _ ?_⟩)
    · have hne : ux ≠ [] := fun q => by
        rw [decide_eq_true (hue.mpr q)] at c1
        cases c1
      cases ux with
      | nil => exact absurd rfl hne
      | cons i r =>
        obtain ⟨L, hLi, hfind⟩ := find_cons hux
        have hlt : i < W.lifts.length := (List.getElem?_eq_some_iff.mp hLi).1
        have gL : GoodLift L := hA.g.lifts _ (List.mem_of_getElem? hLi)
        have hpi : ps[i]? = some (ps.getD i 0) := by
          rw [List.getD_eq_getElem?_getD, List.getElem?_eq_getElem (by omega)]
          rfl
        have hpp : SqT K (oput b2 oa { s with t := s.t + 1 }) (ps.getD i 0) (liftV L) := hA3.l.2.2 i _ L hpi hLi
        have i0 : ∀ {b' : Hp}, Ex (oput b2 oa { s with t := s.t + 1 }) b' → Pr (rIx K) (.ref u) (.int 0) b' (.ref (ps.getD i 0)) := fun e => r_iL (ex_l e (sq_of hu3)) (at_zero _ _)
        refine q_parC (ca_cons (Pn.c (n_call (a_cons (v_op (v_var rfl) v_c (i0 (Ex.refl _))) (a_cons (v_op (d_t h3 (v_var rfl)) v_c r_sub) a_nil)) (s__law_lift_at hpp gL ⟨by dsimp only; omega, by dsimp only; omega⟩)) (fun q1 hq1 => ca_cons (Pn.c (n_call (a_cons (v_op (v_var rfl) v_c (i0 (Ex.new hq1))) (a_cons (d_t (h3.of (Ex.new hq1)) (v_var rfl)) a_nil)) (s__law_lift_at (ex_t (Ex.new hq1) hpp) gL ⟨by dsimp only; omega, by dsimp only; omega⟩)) (fun q2 hq2 => ca_nil ⟨_, _, rfl, ?_⟩)))))
        have et : ({ s with t := s.t + 1 } : Rs).t - 1 = s.t := by dsimp only; omega
        rw [et] at hq2 ⊢
        have e4 : Ex (oput b2 oa { s with t := s.t + 1 }) (upd (upd (oput b2 oa { s with t := s.t + 1 }) q1 (.tup [.int (placeX L s.t), .int (placeY L s.t)])) q2 (.tup [.int (placeX L (s.t + 1)), .int (placeY L (s.t + 1))])) := (Ex.new hq1).trans (Ex.new hq2)
        have t1 : (upd (upd (oput b2 oa { s with t := s.t + 1 }) q1 (.tup [.int (placeX L s.t), .int (placeY L s.t)])) q2 (.tup [.int (placeX L (s.t + 1)), .int (placeY L (s.t + 1))])) q1 = some (.tup [.int (placeX L s.t), .int (placeY L s.t)]) := by
          rw [upd_ne (ne_of_none upd_same hq2)]
          exact upd_same
        have t2 : (upd (upd (oput b2 oa { s with t := s.t + 1 }) q1 (.tup [.int (placeX L s.t), .int (placeY L s.t)])) q2 (.tup [.int (placeX L (s.t + 1)), .int (placeY L (s.t + 1))])) q2 = some (.tup [.int (placeX L (s.t + 1)), .int (placeY L (s.t + 1))]) := upd_same
        generalize (upd (upd (oput b2 oa { s with t := s.t + 1 }) q1 (.tup [.int (placeX L s.t), .int (placeY L s.t)])) q2 (.tup [.int (placeX L (s.t + 1)), .int (placeY L (s.t + 1))])) = b4 at e4 t1 t2
        have h4 := h3.of e4
        refine q_par (v := .int (s.x + placeX L (s.t + 1) - placeX L s.t)) (w := .int (s.y + placeY L (s.t + 1) - placeY L s.t)) (a_cons (v_op (v_op (d_x h4 (v_var rfl)) (v_op (v_var rfl) v_c (r_iT (st_of t2) rfl)) r_add) (v_op (v_var rfl) v_c (r_iT (st_of t1) rfl)) r_sub) (a_cons (v_op (v_op (d_y h4 (v_var rfl)) (v_op (v_var rfl) v_c (r_iT (st_of t2) rfl)) r_add) (v_op (v_var rfl) v_c (r_iT (st_of t1) rfl)) r_sub) a_nil)) ?_
        refine s_when (c := freeM W.rows W.w (s.x + placeX L (s.t + 1) - placeX L s.t) (s.y + placeY L (s.t + 1) - placeY L s.t)) (t_B (v_lfree h4 hA (a_cons (v_var rfl) (a_cons (v_var rfl) (a_cons (v_var rfl) a_nil))))) (fun c2 => ?_) (fun c2 => ⟨_, _, _, _, _, rfl, (fin { s with t := s.t + 1 } ?_).trans e4⟩)
        · refine s_asgT (vs := [.int (s.x + placeX L (s.t + 1) - placeX L s.t), .int (s.y + placeY L (s.t + 1) - placeY L s.t)]) (n_pair (v_var rfl) (v_var rfl)) rfl (gs_cons (g_oput h4 (v_var rfl) (op_x _ _) ?_))
          refine gs_cons (g_oput (h4.put _) (v_var rfl) (op_y _ _) (gs_nil ?_))
          rw [oput_oput]
          refine ⟨_, _, _, _, _, rfl, ?_⟩
          have ec : carryM W s = { s with t := s.t + 1, x := s.x + placeX L (s.t + 1) - placeX L s.t, y := s.y + placeY L (s.t + 1) - placeY L s.t } := by
            unfold carryM
            rw [hfind]
            dsimp only
            rw [if_pos c2]
          have ee : Ex (oput (oput b2 oa { s with t := s.t + 1 }) oa (carryM W s)) (oput b4 oa (carryM W s)) := ex_upd e4
          rw [oput_oput] at ee
          have := (fin _ rfl).trans ee
          rw [ec] at this ⊢
          exact this
        · unfold carryM
          rw [hfind]
          dsimp only
          rw [if_neg (by rw [c2]; decide)]
    · have : ux = [] := by
        have : underL W s.x s.y s.t = [] := by simpa using c1
        exact hue.mp this
      rw [this] at hux
      unfold carryM
      rw [find_nil hux]
  rintro σ' b' ⟨v5, v6, v7, v8, v9, rfl, e⟩
  refine Cs.mono e ?_
  clear e h3 hA3 hu3 hLu hue hux h2 e2 hu2 nuo hu
  have h3 := h.put (carryM W s)
  unfold tickM at hk
  have gvx := cv.1
  have gvy := cv.2.1
  have ht2 := cv.2.2.2
  generalize carryM W s = c at h3 hk cf gvx gvy ht2
  refine q_asgV (v := .int (bI (hasK 114 keys) - bI (hasK 108 keys))) (v_is (v_op (v_op v_c (v_var rfl) (r_inK key_r)) (v_op v_c (v_var rfl) (r_inK key_l)) r_subB) (by rw [b2i_bI, b2i_bI])) ?_
  refine s_cut (fun σ' b' => σ' = [some (.ref oa), some (.ref ra), some (.ref la), some (.str keys), some (.ref u), v5, v6, v7, v8, some (.int (pushM c keys))] ∧ oput b oa c = b') ?_ ?_
  · refine s_when (c := decide (bI (hasK 114 keys) - bI (hasK 108 keys) = 0)) (by walk_at "v") (fun c1 => s_asgV (v := .int (bI (decide (c.vx < 0)) - bI (decide (0 < c.vx)))) (v_is (v_op (v_op (d_vx h3 (v_var rfl)) v_c r_lt) (v_op (d_vx h3 (v_var rfl)) v_c r_gt) r_subB) (by rw [b2i_bI, b2i_bI])) ⟨?_, rfl⟩) (fun c1 => ⟨?_, rfl⟩)
    · unfold pushM
      rw [if_pos (of_decide_eq_true c1)]
      rfl
    · unfold pushM
      rw [if_neg (of_decide_eq_false c1)]
      rfl
  rintro σ' b' ⟨rfl, rfl⟩
  refine q_oput h3 (v := .int (clampM (c.vx + pushM c keys))) (v_sort3 (a_cons (v_un v_c u_neg) (a_cons (v_op (d_vx h3 (v_var rfl)) (v_var rfl) r_add) (a_cons v_c a_nil)))) (v_var rfl) (op_vx _ _) ?_
  rw [oput_oput]
  have cr := clamp_rng (c.vx + pushM c keys)
  have h4 := h.put { c with vx := clampM (c.vx + pushM c keys) }
  have hd : ({ c with vx := clampM (c.vx + pushM c keys) } : Rs) = speedM c keys := rfl
  rw [hd] at h4 ⊢
  have sp : (speedM c keys).x = c.x ∧ (speedM c keys).y = c.y ∧ (speedM c keys).t = c.t ∧ (speedM c keys).vy = c.vy ∧ (speedM c keys).j = c.j := ⟨rfl, rfl, rfl, rfl, rfl⟩
  have vx4 : -3 ≤ (speedM c keys).vx ∧ (speedM c keys).vx ≤ 3 := cr
  have f4 : freeM W.rows W.w (speedM c keys).x (speedM c keys).y = true := cf
  have hl := leap_vy W (speedM c keys) keys (by rw [sp.2.2.2.1, gvy]; exact g.vy.1)
  have lx := leap_xy W (speedM c keys) keys
  have ht3 : 0 ≤ (speedM c keys).t ∧ (speedM c keys).t < 1000000 := by rw [sp.2.2.1, ht2]; omega
  generalize speedM c keys = z at h4 hk hl lx f4 ht3 vx4
  clear sp hd cr h3
  refine s_cut (fun σ' b' => σ' = [some (.ref oa), some (.ref ra), some (.ref la), some (.str keys), some (.ref u), v5, v6, v7, v8, some (.int (pushM c keys))] ∧ oput b oa (leapM W z keys) = b') ?_ ?_
  · unfold leapM
    refine s_if (c := floorM W z.x z.y z.t (hasK 100 keys) && decide (0 ≤ z.vy)) (t_is (t_and (by walk_at "v") (fun _ => t_B (v_stands h4 hA (free_rng hA.g f4) ht3 (a_cons (v_var rfl) (a_cons (v_var rfl) (a_cons (d_x h4 (v_var rfl)) (a_cons (d_y h4 (v_var rfl)) (a_cons (d_t h4 (v_var rfl)) (a_cons (v_op v_c (v_var rfl) (r_inK key_d)) a_nil))))))))) (by rw [Bool.and_comm])) (fun c1 => ?_) (fun c1 => ?_)
    · rw [if_pos c1]
      exact s_oput h4 (v := .int (if (hasK 106 keys && !z.j) = true then -6 else 0)) (v_is (v_if (x := V.int (-6)) (y := V.int 0) (c := hasK 106 keys && !z.j) (t_and (t_test (v_op v_c (v_var rfl) (r_inK key_j))) (fun _ => t_not (t_B (d_j h4 (v_var rfl))))) (fun _ => by walk_at "v") (fun _ => by walk_at "v")) (by split <;> rfl)) (v_var rfl) (op_vy _ _) ⟨rfl, oput_oput.symm⟩
    · rw [if_neg (by rw [c1]; decide)]
      exact s_oput h4 (v := .int (if z.vy + 1 < 6 then z.vy + 1 else 6)) (by walk_at "v") (v_var rfl) (op_vy _ _) ⟨rfl, oput_oput.symm⟩
  rintro σ' b' ⟨rfl, rfl⟩
  have h5 := h.put (leapM W z keys)
  have f5 : freeM W.rows W.w (leapM W z keys).x (leapM W z keys).y = true := by rw [lx.1, lx.2]; exact f4
  have t5 : 0 ≤ (leapM W z keys).t ∧ (leapM W z keys).t < 1000000 := by rw [hl.2.2.2]; exact ht3
  have vx5 : -3 ≤ (leapM W z keys).vx ∧ (leapM W z keys).vx ≤ 3 := by rw [hl.2.2.1]; exact vx4
  have vy5 : -6 ≤ (leapM W z keys).vy ∧ (leapM W z keys).vy ≤ 6 := ⟨hl.1, hl.2.1⟩
  generalize leapM W z keys = y at h5 hk f5 t5 vx5 vy5
  have ak := across_keep W (if 0 < y.vx then 1 else -1) y.vx.natAbs y f5
  refine q_drop (c_oacross h5 hA f5 t5 vx5 (by walk_at "v") ?_)
  rw [oput_oput]
  have h6 := h.put (acrossM W y)
  refine q_drop (c_odown (d := hasK 100 keys) h6 hA ak.1 (by have := ak.2.1; unfold acrossM; rw [this]; exact t5) (by have := ak.2.2.1; unfold acrossM; rw [this]; exact vy5) (a_cons (v_var rfl) (a_cons (v_var rfl) (a_cons (v_var rfl) (a_cons (v_op v_c (v_var rfl) (r_inK key_d)) a_nil)))) ?_)
  rw [oput_oput]
  refine s_oput (h.put _) (v := .bl (hasK 106 keys)) (v_op v_c (v_var rfl) (r_inK key_j)) (v_var rfl) (op_j _ _) ?_
  rw [oput_oput]
  exact hk
end
/-! ### run -/
def orb (W : Wd) (s0 : Rs) (kf : Nat → Str) : Nat → Rs
  | 0 => s0
  | n + 1 => tickM W (orb W s0 kf n) (kf n)
theorem orb_congr (W : Wd) (s0 : Rs) {kf kg : Nat → Str} {n : Nat} (h : ∀ i, i < n → kf i = kg i) : ∀ m, m ≤ n → orb W s0 kf m = orb W s0 kg m
  | 0, _ => rfl
  | m + 1, hm => by
    show tickM W (orb W s0 kf m) (kf m) = tickM W (orb W s0 kg m) (kg m)
    rw [orb_congr W s0 h m (by omega), h m (by omega)]
def rs0 (l t : Int) : Rs := ⟨0, l, t, 0, 0, false⟩
theorem orb_good (W : Wd) (l t : Int) (kf : Nat → Str) (h : freeM W.rows W.w l t = true) : ∀ n, GoodRs (orb W (rs0 l t) kf n) ∧ freeM W.rows W.w (orb W (rs0 l t) kf n).x (orb W (rs0 l t) kf n).y = true ∧ (orb W (rs0 l t) kf n).t = n
  | 0 => ⟨⟨by show (-3 : Int) ≤ 0 ∧ (0 : Int) ≤ 3; decide, by show (-6 : Int) ≤ 0 ∧ (0 : Int) ≤ 6; decide⟩, h, rfl⟩
  | n + 1 => by
    have ih := orb_good W l t kf h n
    have := tick_good W _ (kf n) ih.1 ih.2.1
    refine ⟨this.1, this.2.1, ?_⟩
    show (tickM W (orb W (rs0 l t) kf n) (kf n)).t = _
    rw [this.2.2.1, ih.2.2]
    rfl
def trace (W : Wd) (s0 : Rs) (kf : Nat → Str) (n : Nat) : List (Int × Int) := (List.range n).map fun i => ((orb W s0 kf (i + 1)).x, (orb W s0 kf (i + 1)).y)
theorem trace_succ (W : Wd) (s0 : Rs) (kf : Nat → Str) (n : Nat) : trace W s0 kf (n + 1) = trace W s0 kf n ++ [((orb W s0 kf (n + 1)).x, (orb W s0 kf (n + 1)).y)] := by
  unfold trace
  rw [List.range_succ, List.map_append]
  rfl
def kfOf (ks : List Str) (i : Nat) : Str := ks.getD i ""
section
variable {K : PySem.W.Frag} {σ : L2.St} {b : Hp} {vs : List V} {k : VK} {ke : XB} {E : XK}
def sb_run (K : PySem.W.Frag) : Sb := fun vs b k _ => ∃ wa W l t ra ks, vs = [.ref wa, .int l, .int t, .ref ra] ∧ CR K ∧ WAt K b wa W ∧ (-400 ≤ l ∧ l ≤ 400) ∧ (-400 ≤ t ∧ t ≤ 400) ∧ freeM W.rows W.w l t = true ∧ SqL K b ra (ks.map V.str) ∧ (∀ w ∈ ks, keysOk w = true ∧ w.cps.size < 100000) ∧ ks.length < 1000 ∧
  ∀ p qs b', b p = none → Ex b b' → b' p = some (.lst (qs.map V.ref)) → PairsB b' qs (trace W (rs0 l t) (kfOf ks) ks.length) → (∀ q ∈ qs, b q = none) → k (.ref p) b'
theorem len_run : ∀ vs b k ke, sb_run K vs b k ke → vs.length = (["world", "left", "top", "rows"] : List Str).length := fun _ _ _ _ ⟨_, _, _, _, _, _, e, _⟩ => e ▸ rfl
end
def t_run (K : PySem.W.Frag) (E : XK) : TS := (tSeq (tAsg (tMake (He.ga K "Runner") (up (sb_Runner___init__ K)) [] E (tCons (tVar 0) (tCons (tVar 1) (tCons (tVar 2) tNil)))) (gName 4)) (tSeq (tAsg (tLst tNil) (gName 5)) (tSeq (tFor (iList K (tVar 3)) (gName 6) (tSeq (tDrop (tMeth (He.ga K "Runner") "tick" (up (sb_Runner_tick K)) [] E (tVar 4) (tCons (tVar 6) tNil))) (tDrop (tBM K "list" rAppend (tVar 5) (tCons (tMeth (He.ga K "Runner") "at" (up (sb_Runner_at K)) [] E (tVar 4) tNil) tNil))))) (tRet (tVar 5)))))
section
variable {K : PySem.W.Frag} {σ : L2.St} {b : Hp} {vs : List V} {k : VK} {ke : XB} {E : XK}
theorem p_run (h : sb_run K vs b k ke) (hE : ∀ c b' H', ke c b' → Ex b' H' → E c none H') : Cs (t_run K E) { nx := fun _ b' => k .non b', rt := k } (start ["world", "left", "top", "rows", "runner", "found", "keys"] vs) b := by
  obtain ⟨wa, W, l, t, ra, ks, rfl, cr, hW, hl, ht, hf, hks, hok, hn, hk⟩ := h
  refine q_asgC (c_runner (by walk_at "v") cr hW hl ht hf (fun x dx b1 e1 hx hR => ?_))
  refine q_asgN (n_lst a_nil (by decide)) (fun f hfn => ?_)
  have hfb := ex_none e1 hfn
  have hxf : x ≠ f := ne_of_none hR.ins hfn
  refine s_seq (s_list (v_var rfl) (ex_l (e1.trans (Ex.new hfn)) hks) (fun i σ' b' => ∃ (v6 : Option V) (qs : List Addr), σ' = [some (.ref wa), some (.int l), some (.int t), some (.ref ra), some (.ref x), some (.ref f), v6] ∧ b' f = some (.lst (qs.map V.ref)) ∧ Ex b b' ∧ RA K b' x dx wa b W (orb W (rs0 l t) (kfOf ks) i) ∧ PairsB b' qs (trace W (rs0 l t) (kfOf ks) i) ∧ (∀ q ∈ qs, b q = none))
    ⟨none, [], rfl, upd_same, e1.trans (Ex.new hfn), hR.of (Ex.new hfn), .nil, (fun q hq => by cases hq)⟩ (fun i σ' b' _ ⟨_, _, _, _, e, _⟩ => ex_l e hks) ?_ ?_)
  · rintro i y σ' b' hi ⟨v6, qs, rfl, hb, e, hr, hp, hq⟩
    obtain ⟨keys, hki, rfl⟩ : ∃ keys, ks[i]? = some keys ∧ y = V.str keys := by
      rw [List.getElem?_map] at hi
      cases e : ks[i]? with
      | none => rw [e] at hi; cases hi
      | some p => rw [e] at hi; exact ⟨p, rfl, (Option.some.inj hi).symm⟩
    have hkm := hok keys (List.mem_of_getElem? hki)
    have hkf : kfOf ks i = keys := by
      unfold kfOf
      rw [List.getD_eq_getElem?_getD, hki]
      rfl
    have hlt : i < ks.length := (List.getElem?_eq_some_iff.mp hki).1
    have og := orb_good W l t (kfOf ks) hf i
    refine g_name ?_
    refine q_drop (c_tick hr og.1 (v_var rfl) (by walk_at "v") hkm.2 hkm.1 ?_)
    have hr2 := hr.put (tickM W (orb W (rs0 l t) (kfOf ks) i) keys)
    have eo : tickM W (orb W (rs0 l t) (kfOf ks) i) keys = orb W (rs0 l t) (kfOf ks) (i + 1) := by
      show _ = tickM W (orb W (rs0 l t) (kfOf ks) i) (kfOf ks i)
      rw [hkf]
    rw [eo] at hr2 ⊢
    have nfx : f ≠ x := hxf.symm
    have hb2 : (rput K b' x dx wa (orb W (rs0 l t) (kfOf ks) (i + 1))) f = some (.lst (qs.map V.ref)) := by
      unfold rput
      rw [upd_ne nfx]
      exact hb
    have e2 : Ex b (rput K b' x dx wa (orb W (rs0 l t) (kfOf ks) (i + 1))) := Ex.mut e hx
    have hp2 : PairsB (rput K b' x dx wa (orb W (rs0 l t) (kfOf ks) (i + 1))) qs (trace W (rs0 l t) (kfOf ks) i) := hp.mut (fun vs z => by rw [hr.ins] at z; cases z)
    refine s_drop (c_appendN (v_var rfl) (x_at hr2 (v_var rfl)) hb2 ?_ (fun q hqn => ⟨_, qs ++ [q], rfl, ?_, Ex.mut (e2.trans (Ex.new hqn)) hfb, ?_, ?_, ?_⟩))
    · rw [List.length_map, hp.1]
      unfold trace
      rw [List.length_map, List.length_range]
      omega
    · rw [upd_same, List.map_append]
      rfl
    · refine ⟨cr, ?_, Ex.mut (e2.trans (Ex.new hqn)) hfb, hx, hW⟩
      rw [upd_ne hxf, upd_ne (ne_of_none hr2.ins hqn)]
      exact hr2.ins
    · rw [trace_succ]
      refine ((hp2.ex (Ex.new hqn)).snoc (z := ((orb W (rs0 l t) (kfOf ks) (i + 1)).x, (orb W (rs0 l t) (kfOf ks) (i + 1)).y)) upd_same).mut (fun vs h => ?_)
      rw [upd_ne (ne_of_none hb2 hqn), hb2] at h
      cases h
    · intro q2 hq2
      rcases List.mem_append.mp hq2 with h | h
      · exact hq q2 h
      · have : q2 = q := by simpa using h
        rw [this]
        exact ex_none e2 hqn
  · rintro σ' b' ⟨v6, qs, rfl, hb, e, hr, hp, hq⟩
    rw [List.length_map] at hp
    exact s_retV (v_var rfl) (hk f qs b' hfb e hb hp hq)
end

/-! ### tapes: words read -/
def isFig (c : Nat) : Bool := decide (c ∈ ("0123456789" : Str).cps.toList)
abbrev sO (l : List Nat) : Str := ⟨l.toArray⟩
def okP (pre rest : List Nat) : Bool := (decide ((1 : Int) ≤ (pre.length : Int)) && decide ((pre.length : Int) ≤ 4)) && ((!decide (pre.getD 0 0 = 48)) && (!decide (rest = [])))
def keysOf (rest : List Nat) : List Nat := if rest = [46] then [] else rest
def partM (L : List Nat) : Option (List Str) :=
  if okP (L.takeWhile isFig) (L.dropWhile isFig) = true then (if keysOk (sO (keysOf (L.dropWhile isFig))) = true then some (List.replicate (NumText.digitsVal (L.takeWhile isFig)) (sO (keysOf (L.dropWhile isFig)))) else none) else none
def readStep (acc : Option (List Str)) (w : Str) : Option (List Str) := acc.bind fun f => (partM w.cps.toList).bind fun q => if (f ++ q).length ≤ 5000 then some (f ++ q) else none
def wordsOf (w : Str) : List Str := if w = "" then [] else Txt.split w " "
def readM (w : Str) : Option (List Str) := (wordsOf w).foldl readStep (some [])
section
variable {K : PySem.W.Frag} {σ : L2.St} {b : Hp} {vs : List V} {k : VK} {ke : XB} {E : XK}
abbrev ExK (K : PySem.W.Frag) : Prop := PySem.W.exmOne K (.ref (He.ga K "BadKeys")) (.ref (He.ga K "BadKeys")) = some true
def sb_need (K : PySem.W.Frag) : Sb := fun vs b k ke => ∃ g, vs = [.bl g] ∧ (g = true → k .non b) ∧ (g = false → ke (.ref (He.ga K "BadText")) b)
theorem len_need : ∀ vs b k ke, sb_need K vs b k ke → vs.length = (["good"] : List Str).length := fun _ _ _ _ ⟨_, e, _⟩ => e ▸ rfl
def sb_part (K : PySem.W.Frag) : Sb := fun vs b k ke => ∃ w : Str, vs = [.str w] ∧ w.cps.toList.length ≤ 1000 ∧ ExK K ∧ (∀ q p, partM w.cps.toList = some q → b p = none → q.length ≤ 9999 → k (.ref p) (upd b p (.lst (q.map V.str)))) ∧ (partM w.cps.toList = none → ke (.ref (He.ga K "BadText")) b)
theorem len_part : ∀ vs b k ke, sb_part K vs b k ke → vs.length = (["word"] : List Str).length := fun _ _ _ _ ⟨_, e, _⟩ => e ▸ rfl
def sb_read (K : PySem.W.Frag) : Sb := fun vs b k ke => ∃ v, vs = [v] ∧ ((∃ n, (∀ H, Ex b H → TyX K H v (.type n)) ∧ kitB n "str" = some false ∧ ke (.ref (He.ga K "BadText")) b) ∨
  ∃ w : Str, v = .str w ∧ w.length ≤ 90000 ∧ (∀ x ∈ wordsOf w, x.cps.toList.length ≤ 1000) ∧ ExK K ∧ (∀ q, readM w = some q → ∀ p b', Ex b b' → b p = none → b' p = some (.lst (q.map V.str)) → k (.ref p) b') ∧ (readM w = none → ∀ b', Ex b b' → ke (.ref (He.ga K "BadText")) b'))
theorem len_read : ∀ vs b k ke, sb_read K vs b k ke → vs.length = (["text"] : List Str).length := fun _ _ _ _ ⟨_, e, _⟩ => e ▸ rfl
end
def t_need (K : PySem.W.Frag) (E : XK) : TS := (tIfS (tNot (tB (tVar 0))) (tRaise (.ref (He.ga K "BadText")) E) tNext)
def t_part (K : PySem.W.Frag) (E : XK) : TS := (tSeq (tAsg (tC (.str "")) (gName 1)) (tSeq (tWhile (tAnd (tTest (tOp (rNeU K) (tSl (rSlU K) (tVar 0) tNoPart (tPart (tC (.int 1)))) (tC (.str "")))) (tTest (tOp (rInU K) (tOp (rIx K) (tVar 0) (tC (.int 0))) (tC (.str "0123456789"))))) (tPar 1 0 (tCons (tOp (rAddU K) (tVar 1) (tOp (rIx K) (tVar 0) (tC (.int 0)))) (tCons (tSl (rSlU K) (tVar 0) (tPart (tC (.int 1))) tNoPart) tNil)))) (tSeq (tDrop (tCall (up (sb_need K)) [] E (tCons (tAndV (tChain rLeI rLeI (tC (.int 1)) (tCB (rLenU K) (tCons (tVar 1) tNil)) (tC (.int 4))) (tAndV (tOp (rNeU K) (tOp (rIx K) (tVar 1) (tC (.int 0))) (tC (.str "0"))) (tOp (rNeU K) (tVar 0) (tC (.str ""))))) tNil))) (tSeq (tAsg (tIf (tTest (tOp (rEqU K) (tVar 0) (tC (.str ".")))) (tC (.str "")) (tVar 0)) (gName 2)) (tSeq (tAsg (tC (.bl true)) (gName 3)) (tSeq (tTry1 K (up (sb_need_keys K)) (He.ga K "BadKeys") (tCons (tVar 2) tNil) (tAsg (tC (.bl false)) (gName 3)) E) (tSeq (tDrop (tCall (up (sb_need K)) [] E (tCons (tVar 3) tNil))) (tRet (tOp rMulU (tLst (tCons (tVar 2) tNil)) (tCB rIntStr (tCons (tVar 1) tNil)))))))))))
def t_read (K : PySem.W.Frag) (E : XK) : TS := (tSeq (tDrop (tCall (up (sb_need K)) [] E (tCons (tCB (rIsi K) (tCons (tVar 0) (tCons (tC (.ty "str")) tNil))) tNil))) (tSeq (tAsg (tLst tNil) (gName 1)) (tSeq (tFor (iList K (tIf (tTest (tOp (rNeU K) (tVar 0) (tC (.str "")))) (tM1 rSplit (tVar 0) (tC (.str " "))) (tLst tNil))) (gName 2) (tSeq (tAsg (tOp (rAddU K) (tVar 1) (tCall (up (sb_part K)) [] E (tCons (tVar 2) tNil))) (gName 1)) (tDrop (tCall (up (sb_need K)) [] E (tCons (tOp rLeI (tCB (rLenU K) (tCons (tVar 1) tNil)) (tC (.int 5000))) tNil))))) (tRet (tVar 1)))))
section
variable {K : PySem.W.Frag} {σ : L2.St} {b : Hp} {vs : List V} {k : VK} {ke : XB} {E : XK} {te : TE}
theorem p_need (h : sb_need K vs b k ke) (hE : ∀ c b' H', ke c b' → Ex b' H' → E c none H') : Cs (t_need K E) { nx := fun _ b' => k .non b', rt := k } (start ["good"] vs) b := by
  obtain ⟨g, rfl, h1, h2⟩ := h
  refine s_when (t_not (t_B (v_var rfl))) (fun c => s_raise hE (h2 ?_)) (fun c => h1 ?_)
  · cases g <;> simp_all
  · cases g <;> simp_all
theorem c_need {ta : TA} {g : Bool} {kk : VK} {ke : XB} (hE : ∀ c b' H', ke c b' → Ex b' H' → E c none H') (h : Pa ta σ b [.bl g]) (h1 : g = true → kk .non b) (h2 : g = false → ke (.ref (He.ga K "BadText")) b) : Ce (tCall (up (sb_need K)) [] E ta) σ b kk := c_call hE (Pa.c h ⟨g, rfl, h1, h2⟩)
theorem sO_app (l : List Nat) (c : Nat) : sO l ++ (⟨#[c]⟩ : Str) = sO (l ++ [c]) := TL.ext_tl (by rw [TL.tl_append])
theorem cut_first (c : Nat) (l : List Nat) : cutS (sO (c :: l)) none (some 1) = ⟨#[c]⟩ := by
  unfold cutS
  have e : HT.sIx (sO (c :: l)).length (sO (c :: l)).length (some 1) = 1 := by
    have hl : (sO (c :: l)).length = l.length + 1 := by simp [Str.length]
    rw [hl]
    unfold HT.sIx
    simp
  have e0 : HT.sIx (sO (c :: l)).length 0 none = 0 := rfl
  rw [e, e0]
  rfl
theorem cut_none : cutS (sO []) none (some 1) = "" := by kernel_rfl
theorem cut_rest (c : Nat) (l : List Nat) : cutS (sO (c :: l)) (some 1) none = sO l := by
  unfold cutS
  have hl : (sO (c :: l)).length = l.length + 1 := by simp [Str.length]
  have e : HT.sIx (sO (c :: l)).length 0 (some 1) = 1 := by
    rw [hl]
    unfold HT.sIx
    simp
  have e0 : HT.sIx (sO (c :: l)).length (sO (c :: l)).length none = l.length + 1 := by rw [hl]; rfl
  rw [e, e0]
  show (⟨(l.take (l.length + 1 - 1)).toArray⟩ : Str) = sO l
  rw [Nat.add_sub_cancel, List.take_length]
theorem sO_ne (l : List Nat) : (!decide (sO l = "")) = !decide (l = []) := by
  cases l with
  | nil => rfl
  | cons c l =>
    have h : sO (c :: l) ≠ "" := fun z => by
      have := congrArg TL.tl z
      cases this
    rw [decide_eq_false h, decide_eq_false (List.cons_ne_nil c l)]
theorem sO_eq (l m : List Nat) : decide (sO l = sO m) = decide (l = m) := by
  by_cases h : l = m
  · rw [h]; simp
  · have h2 : sO l ≠ sO m := fun z => h (by simpa using congrArg TL.tl z)
    rw [decide_eq_false h, decide_eq_false h2]
theorem tw_all : ∀ {l : List Nat}, (∀ c ∈ l, isFig c = true) → l.takeWhile isFig = l ∧ l.dropWhile isFig = []
  | [], _ => ⟨rfl, rfl⟩
  | c :: l, h => by
    have hc := h c (List.mem_cons_self ..)
    have ih := tw_all (l := l) fun x hx => h x (List.mem_cons_of_mem _ hx)
    rw [List.takeWhile_cons_of_pos hc, List.dropWhile_cons_of_pos hc, ih.1, ih.2]
    exact ⟨rfl, rfl⟩
theorem fig_rng {c : Nat} (h : isFig c = true) : 48 ≤ c ∧ c ≤ 57 := by
  unfold isFig at h
  have h := of_decide_eq_true h
  rw [show ("0123456789" : Str).cps.toList = [48, 49, 50, 51, 52, 53, 54, 55, 56, 57] by kernel_rfl] at h
  simp only [List.mem_cons, List.not_mem_nil, or_false] at h
  omega
theorem val_le : ∀ (l : List Nat) (a : Nat), (∀ c ∈ l, isFig c = true) → l.foldl (fun acc c => acc * 10 + (c - 48)) a + 1 ≤ (a + 1) * 10 ^ l.length
  | [], a, _ => by simp
  | c :: l, a, hc => by
    have h9 := fig_rng (hc c (List.mem_cons_self ..))
    have ih := val_le l (a * 10 + (c - 48)) (fun x hx => hc x (List.mem_cons_of_mem _ hx))
    rw [List.foldl_cons, List.length_cons, Nat.pow_succ]
    have h2 : (a * 10 + (c - 48) + 1) * 10 ^ l.length ≤ (a + 1) * 10 * 10 ^ l.length := Nat.mul_le_mul_right _ (by omega)
    have h3 : (a + 1) * (10 ^ l.length * 10) = (a + 1) * 10 * 10 ^ l.length := by
      rw [Nat.mul_comm (10 ^ l.length) 10, ← Nat.mul_assoc]
    omega
theorem val_small {pre : List Nat} (hp : ∀ c ∈ pre, isFig c = true) (h4 : pre.length ≤ 4) : NumText.digitsVal pre ≤ 9999 := by
  have h5 := val_le pre 0 hp
  have h6 : (10 : Nat) ^ pre.length ≤ 10 ^ 4 := Nat.pow_le_pow_right (by decide) h4
  have h7 : NumText.digitsVal pre = pre.foldl (fun acc c => acc * 10 + (c - 48)) 0 := rfl
  rw [h7]
  omega
theorem rep_flat {α β : Type} (f : α → β) (x : α) : ∀ n : Nat, (List.replicate n [f x]).flatten = (List.replicate n x).map f
  | 0 => rfl
  | n + 1 => by rw [List.replicate_succ, List.flatten_cons, rep_flat f x n]; rfl
theorem okP_rng {pre rest : List Nat} (g : okP pre rest = true) : 1 ≤ pre.length ∧ pre.length ≤ 4 ∧ pre.getD 0 0 ≠ 48 ∧ rest ≠ [] := by
  unfold okP at g
  simp only [Bool.and_eq_true, decide_eq_true_eq, Bool.not_eq_true', decide_eq_false_iff_not] at g
  exact ⟨by omega, by omega, g.2.1, g.2.2⟩
def t_part2 (K : PySem.W.Frag) (E : XK) : TS := (tSeq (tDrop (tCall (up (sb_need K)) [] E (tCons (tAndV (tChain rLeI rLeI (tC (.int 1)) (tCB (rLenU K) (tCons (tVar 1) tNil)) (tC (.int 4))) (tAndV (tOp (rNeU K) (tOp (rIx K) (tVar 1) (tC (.int 0))) (tC (.str "0"))) (tOp (rNeU K) (tVar 0) (tC (.str ""))))) tNil))) (tSeq (tAsg (tIf (tTest (tOp (rEqU K) (tVar 0) (tC (.str ".")))) (tC (.str "")) (tVar 0)) (gName 2)) (tSeq (tAsg (tC (.bl true)) (gName 3)) (tSeq (tTry1 K (up (sb_need_keys K)) (He.ga K "BadKeys") (tCons (tVar 2) tNil) (tAsg (tC (.bl false)) (gName 3)) E) (tSeq (tDrop (tCall (up (sb_need K)) [] E (tCons (tVar 3) tNil))) (tRet (tOp rMulU (tLst (tCons (tVar 2) tNil)) (tCB rIntStr (tCons (tVar 1) tNil)))))))))
theorem len_sO (l : List Nat) : (sO l).length = l.length := by simp [Str.length]
theorem part_end {L pre rest : List Nat} {D : Ends} (hD : D.rt = k) (hE : ∀ c b' H', ke c b' → Ex b' H' → E c none H') (hX : ExK K) (h1 : ∀ q p, partM L = some q → b p = none → q.length ≤ 9999 → k (.ref p) (upd b p (.lst (q.map V.str)))) (h2 : partM L = none → ke (.ref (He.ga K "BadText")) b)
    (e1 : L.takeWhile isFig = pre) (e2 : L.dropWhile isFig = rest) (hp : ∀ c ∈ pre, isFig c = true) (hpl : pre.length ≤ 1000) (hrl : rest.length ≤ 1000) : Cs (t_part2 K E) D [some (.str (sO rest)), some (.str (sO pre)), none, none] b := by
  have ep : partM L = if okP pre rest = true then (if keysOk (sO (keysOf rest)) = true then some (List.replicate (NumText.digitsVal pre) (sO (keysOf rest))) else none) else none := by
    unfold partM
    rw [e1, e2]
  have lp : (sO pre).length ≤ 100000 := by rw [len_sO]; omega
  refine q_drop (c_need (g := okP pre rest) hE (a_cons (v_is (v_andV (v_chain v_c (v_cb (a_cons (v_var (i := 1) rfl) a_nil) (p_lenS lp)) r_le (fun _ => v_c) (fun _ => r_le)) (fun c1 => v_andV (v_op (v_op (v_var (i := 1) rfl) v_c (r_iS (c := pre.getD 0 0) lp ?_)) v_c r_neT) (fun _ => v_op (v_var (i := 0) rfl) v_c r_neT))) ?_) a_nil) (fun g1 => ?_) (fun g0 => h2 (by rw [ep, if_neg (by rw [g0]; decide)])))
  · have h0 : 0 < pre.length := by
      rw [len_sO] at c1
      simp only [Bool.and_eq_true, decide_eq_true_eq] at c1
      omega
    rw [show (sO pre).cps.toList = pre by simp, at_getD pre 0 (by decide) (by omega)]
    rfl
  · have h3 : decide ((⟨#[pre.getD 0 0]⟩ : Str) = "0") = decide (pre.getD 0 0 = 48) := by
      have := sO_eq [pre.getD 0 0] [48]
      rw [show (sO [48]) = "0" by kernel_rfl] at this
      rw [show (⟨#[pre.getD 0 0]⟩ : Str) = sO [pre.getD 0 0] from rfl, this]
      simp
    unfold okP
    rw [len_sO, h3, sO_ne rest]
  obtain ⟨q1, q4, -, -⟩ := okP_rng g1
  have ek : (if decide (sO rest = ".") = true then V.str "" else V.str (sO rest)) = V.str (sO (keysOf rest)) := by
    have := sO_eq rest [46]
    rw [show (sO [46]) = "." by kernel_rfl] at this
    rw [this]
    unfold keysOf
    by_cases z : rest = [46]
    · rw [if_pos (decide_eq_true z), if_pos z]
      rfl
    · rw [if_neg (by rw [decide_eq_false z]; decide), if_neg z]
  refine q_asgV (v_is (v_if (t_test (v_op (v_var rfl) v_c r_eqT)) (fun _ => v_c) (fun _ => v_var rfl)) ek) ?_
  refine q_asgV v_c ?_
  have hkz : (sO (keysOf rest)).cps.size < 100000 := by
    have : (keysOf rest).length ≤ 1000 := by
      unfold keysOf
      split
      · decide
      · exact hrl
    simp
    omega
  have fin : ∀ g : Bool, keysOk (sO (keysOf rest)) = g → Cs (tSeq (tDrop (tCall (up (sb_need K)) [] E (tCons (tVar 3) tNil))) (tRet (tOp rMulU (tLst (tCons (tVar 2) tNil)) (tCB rIntStr (tCons (tVar 1) tNil))))) D [some (.str (sO rest)), some (.str (sO pre)), some (.str (sO (keysOf rest))), some (.bl g)] b := fun g hg => by
    refine q_drop (c_need (g := g) hE (a_cons (v_var rfl) a_nil) (fun g2 => ?_) (fun g0 => h2 (by rw [ep, if_pos g1, if_neg (by rw [hg, g0]; decide)])))
    have hv := val_small hp q4
    have hi : PySem.intText? (sO pre) = some ((NumText.digitsVal pre : Nat) : Int) := SX.int_S (List.all_eq_true.mpr fun c hc => by
      have := fig_rng (hp c hc)
      simp
      omega) (fun z => by rw [z] at q1; exact absurd q1 (by decide)) (by omega)
    refine s_retW (c_op (Pn.c (n_lst (vs := [.str (sO (keysOf rest))]) (a_cons (v_var rfl) a_nil) (by show 1 ≤ 100000; decide)) fun q hq => Pe.c (v_cb (z := .int ((NumText.digitsVal pre : Nat) : Int)) (a_cons (v_var rfl) a_nil) (fun H a Q qq => ⟨sO pre, _, rfl, hi, by rw [len_sO]; omega, qq H a⟩)) (cr_rep upd_same (by omega) (by omega) (by show 1 * _ ≤ 100000; rw [Int.toNat_natCast]; omega) fun p hp2 => ?_)))
    have hpn : b p = none := ex_none (Ex.new hq) hp2
    have npq : p ≠ q := fun z => by rw [z, upd_same] at hp2; cases hp2
    refine ⟨upd b p (.lst ((List.replicate (NumText.digitsVal pre) (sO (keysOf rest))).map V.str)), ?_, hD ▸ h1 _ p (by rw [ep, if_pos g1, if_pos (hg.trans g2)]) hpn (by rw [List.length_replicate]; exact hv)⟩
    rw [Int.toNat_natCast, rep_flat V.str]
    exact Ex.swap hq hpn npq
  refine s_seq (s_try1 (ke := fun c b' => c = Value.ref (He.ga K "BadKeys") ∧ b' = b ∧ keysOk (sO (keysOf rest)) = false) (a_cons (v_var rfl) a_nil) ⟨_, _, rfl, .str _ hkz, fun g2 => fin true g2, fun g0 => ⟨rfl, rfl, g0⟩⟩ (fun c b' ⟨ec, eb, g0⟩ => ?_))
  subst ec eb
  exact ⟨hX, s_asgV v_c (fin false g0)⟩
theorem p_part (h : sb_part K vs b k ke) (hE : ∀ c b' H', ke c b' → Ex b' H' → E c none H') : Cs (t_part K E) { nx := fun _ b' => k .non b', rt := k } (start ["word", "many", "keys", "is_good"] vs) b := by
  obtain ⟨w, rfl, hl, hX, h1, h2⟩ := h
  obtain ⟨L, rfl⟩ : ∃ L, w = sO L := ⟨w.cps.toList, rfl⟩
  have eL : (sO L).cps.toList = L := by simp
  rw [eL] at hl h1 h2
  refine q_asgV v_c ?_
  show Cs (tSeq _ (t_part2 K E)) _ _ _
  refine s_seq (s_while (fun m σ' b' => ∃ pre rest, L = pre ++ rest ∧ (∀ c ∈ pre, isFig c = true) ∧ m = rest.length ∧ b = b' ∧ σ' = [some (.str (sO rest)), some (.str (sO pre)), none, none]) L.length ⟨[], L, rfl, (fun c hc => by cases hc), rfl, rfl, rfl⟩ ?_)
  rintro m σ' b' ⟨pre, rest, eq, hp, rfl, rfl, rfl⟩
  have hpl : pre.length ≤ 1000 := by rw [eq, List.length_append] at hl; omega
  have hrl : rest.length ≤ 1000 := by rw [eq, List.length_append] at hl; omega
  cases rest with
  | nil =>
    refine Pt.c (c := false) (t_is (t_and (t_test (v_op (v_is (v_slS (v_var rfl) o_none (o_some v_c) (by decide)) (congrArg V.str cut_none)) v_c r_neT)) (d := false) (fun c => by cases c)) rfl) ?_
    rw [List.append_nil] at eq
    subst eq
    exact part_end rfl hE hX h1 h2 (tw_all hp).1 (tw_all hp).2 hp hpl (by decide)
  | cons c l =>
    have lr : (sO (c :: l)).length ≤ 100000 := by rw [len_sO]; omega
    have t1 : (!decide ((⟨#[c]⟩ : Str) = "")) = true := by
      have := sO_ne [c]
      rw [show (⟨#[c]⟩ : Str) = sO [c] from rfl, this]
      rfl
    have ac : atI (sO (c :: l)).cps.toList 0 = some c := by
      rw [show (sO (c :: l)).cps.toList = c :: l by simp, at_getD (c :: l) 0 (by decide) (by rw [List.length_cons]; omega)]
      rfl
    have tt : Pt (tAnd (tTest (tOp (rNeU K) (tSl (rSlU K) (tVar 0) tNoPart (tPart (tC (.int 1)))) (tC (.str "")))) (tTest (tOp (rInU K) (tOp (rIx K) (tVar 0) (tC (.int 0))) (tC (.str "0123456789"))))) [some (.str (sO (c :: l))), some (.str (sO pre)), none, none] b (isFig c) :=
      t_is (t_and (t_test (v_op (v_is (v_slS (v_var rfl) o_none (o_some v_c) lr) (congrArg V.str (cut_first c l))) v_c r_neT)) (fun _ => t_test (v_op (v_op (v_var rfl) v_c (r_iS (c := c) lr ac)) v_c r_in))) (by rw [t1, Bool.true_and]; rfl)
    refine Pt.c tt ?_
    cases hf : isFig c with
    | true =>
      rw [if_pos rfl]
      refine s_par (v := .str (sO (pre ++ [c]))) (w := .str (sO l)) (a_cons (v_is (v_op (v_var rfl) (v_op (v_var rfl) v_c (r_iS (c := c) lr ac)) (r_addS (by rw [len_sO]; show pre.length + 1 ≤ 100000; omega))) (congrArg V.str (sO_app pre c))) (a_cons (v_is (v_slS (v_var rfl) (o_some v_c) o_none lr) (congrArg V.str (cut_rest c l))) a_nil)) ?_
      exact ⟨l.length, by simp, pre ++ [c], l, by rw [eq]; simp, fun x hx => (List.mem_append.mp hx).elim (hp x) (fun z => by rw [List.mem_singleton.mp z]; exact hf), rfl, rfl, rfl⟩
    | false =>
      rw [if_neg (by decide)]
      have hc : ¬ isFig c = true := by rw [hf]; decide
      have e1 : L.takeWhile isFig = pre := by
        rw [eq, List.takeWhile_append_of_pos hp, List.takeWhile_cons_of_neg hc, List.append_nil]
      have e2 : L.dropWhile isFig = c :: l := by
        rw [eq, List.dropWhile_append_of_pos hp, List.dropWhile_cons_of_neg hc]
      exact part_end rfl hE hX h1 h2 e1 e2 hp hpl hrl
theorem n_if {t : TT} {ta tb : TE} {c : Bool} {o : HO} (h : Pt t σ b c) (h1 : c = true → Pn ta σ b o) (h2 : c = false → Pn tb σ b o) : Pn (tIf t ta tb) σ b o := fun H a Q q => h H a _ fun H1 a1 => by
  cases c with
  | true =>
    show ta σ H1 Q
    exact h1 rfl H1 a1 Q q
  | false =>
    show tb σ H1 Q
    exact h2 rfl H1 a1 Q q
theorem n_split {ta tb : TE} {w s : Str} (h : Pe ta σ b (.str w)) (h2 : Pe tb σ b (.str s)) (hs : (s.length == 0) = false) (hw : w.length ≤ 90000) : Pn (tM1 rSplit ta tb) σ b (.lst ((Txt.split w s).map V.str)) := fun H a Q q =>
  h H a _ fun H1 a1 => ⟨⟨w, rfl⟩, h2 H1 a1 _ fun H2 a2 => ⟨w, s, rfl, rfl, hs, sz_of (by omega), fun p hp => q p _ (ex_none a2 hp) (ex_upd a2)⟩⟩
theorem p_read (h : sb_read K vs b k ke) (hE : ∀ c b' H', ke c b' → Ex b' H' → E c none H') : Cs (t_read K E) { nx := fun _ b' => k .non b', rt := k } (start ["text", "found", "word"] vs) b := by
  obtain ⟨v, rfl, ⟨n, hT, hk, h⟩ | ⟨w, rfl, hw, hws, hX, h1, h2⟩⟩ := h
  · exact q_drop (c_need (g := false) hE (a_cons (v_cb (a_cons (v_var rfl) (a_cons v_c a_nil)) (p_isi hT hk)) a_nil) (fun z => by cases z) (fun _ => h))
  refine q_drop (c_need (g := true) hE (a_cons (v_cb (a_cons (v_var rfl) (a_cons v_c a_nil)) (p_isi (n := "str") (fun H _ => .base (.str w)) (by decide +kernel))) a_nil) (fun _ => ?_) (fun z => by cases z))
  refine q_asgN (n_lst (vs := []) a_nil (by show 0 ≤ 100000; decide)) (fun f0 hf0 => ?_)
  have it : Pn (tIf (tTest (tOp (rNeU K) (tVar 0) (tC (.str "")))) (tM1 rSplit (tVar 0) (tC (.str " "))) (tLst tNil)) [some (.str w), some (.ref f0), none] (upd b f0 (.lst [])) (.lst ((wordsOf w).map V.str)) := by
    refine n_if (t_test (v_op (v_var rfl) v_c r_neT)) (fun c => ?_) (fun c => ?_)
    · have e : w ≠ "" := fun z => by rw [z] at c; cases c
      unfold wordsOf
      rw [if_neg e]
      exact n_split (v_var rfl) v_c (by decide +kernel) hw
    · have e : w = "" := by
        by_cases z : w = ""
        · exact z
        · rw [decide_eq_false z] at c; cases c
      unfold wordsOf
      rw [if_pos e]
      exact n_lst (vs := []) a_nil (by show 0 ≤ 100000; decide)
  refine s_seq (s_listN it (fun p i σ' b' => ∃ f acc v2, σ' = [some (.str w), some (.ref f), v2] ∧ b' f = some (.lst (acc.map V.str)) ∧ b f = none ∧ Ex b b' ∧ SqL K b' p ((wordsOf w).map V.str) ∧ acc.length ≤ 5000 ∧ ((wordsOf w).take i).foldl readStep (some []) = some acc)
    (fun p hp => ⟨f0, [], none, rfl, by rw [upd_ne (fun z => by rw [← z, upd_same] at hp; cases hp)]; exact upd_same, hf0, (Ex.new hf0).trans (Ex.new hp), sq_of upd_same, by decide, rfl⟩) (fun p i σ' b' _ ⟨_, _, _, _, _, _, _, h, _⟩ => h) ?_ (fun p σ' b' hp ⟨f, acc, v2, e, hf, hn, eb, _, _, hacc⟩ => ?_))
  · rintro p i x σ' b' hp hi ⟨f, acc, v2, rfl, hf, hn, eb, hl, ha5, hacc⟩
    obtain ⟨y, hy, rfl⟩ : ∃ y, (wordsOf w)[i]? = some y ∧ V.str y = x := by
      rw [List.getElem?_map] at hi
      cases e : (wordsOf w)[i]? with
      | none => rw [e] at hi; cases hi
      | some y => rw [e] at hi; exact ⟨y, rfl, Option.some.inj hi⟩
    have hst : ((wordsOf w).take (i + 1)).foldl readStep (some []) = readStep (some acc) y := by
      rw [List.take_succ, hy, List.foldl_append, hacc]
      rfl
    have hbad : readStep (some acc) y = none → readM w = none := fun z => by
      have key : ∀ l : List Str, l.foldl readStep none = none := fun l => by
        induction l with
        | nil => rfl
        | cons c l ih => exact ih
      unfold readM
      rw [← List.take_append_drop (i + 1) (wordsOf w), List.foldl_append, hst, z, key]
    refine g_name (q_asgC (c_op (Pe.c (v_var rfl) (c_call hE (Pa.c (a_cons (v_var rfl) a_nil) ⟨y, rfl, hws y (List.mem_of_getElem? hy), hX, fun q p2 hq hp2 hz => ?_, fun hq => h2 (hbad (by unfold readStep; rw [hq]; rfl)) b' eb⟩)))))
    refine cr_cat (by rw [upd_ne (ne_of_none hf hp2)]; exact hf) upd_same (by rw [List.length_map, List.length_map]; omega) (fun p3 hp3 => ?_)
    have e3 : Ex b' (upd (upd b' p2 (.lst (q.map V.str))) p3 (.lst (acc.map V.str ++ q.map V.str))) := (Ex.new hp2).trans (Ex.new hp3)
    refine s_drop (c_need (g := decide (((acc ++ q).length : Int) ≤ 5000)) hE (a_cons (v_is (v_op (v_cb (a_cons (v_var rfl) a_nil) (p_lenL (sq_of upd_same))) v_c r_le) ?_) a_nil) (fun g1 => ?_) (fun g0 => ?_))
    · rw [← List.map_append, List.length_map]
    · have hle : (acc ++ q).length ≤ 5000 := by
        have := of_decide_eq_true g1
        omega
      refine ⟨p3, acc ++ q, _, rfl, by rw [List.map_append]; exact upd_same, ex_none (eb.trans (Ex.new hp2)) hp3, eb.trans e3, ex_l e3 hl, hle, ?_⟩
      rw [hst]
      unfold readStep
      rw [hq]
      exact if_pos hle
    · have hgt : ¬ (acc ++ q).length ≤ 5000 := fun z => by
        have := of_decide_eq_false g0
        omega
      refine h2 (hbad ?_) _ (eb.trans e3)
      unfold readStep
      rw [hq]
      exact if_neg hgt
  · subst e
    rw [List.length_map, List.take_length] at hacc
    exact s_retV (v_var rfl) (h1 acc hacc f b' eb hn hf)
end

/-! ### tapes: words written -/
def gstep (acc : List (Nat × Str)) (k : Str) : List (Nat × Str) := match acc.getLast? with
  | some g => if g.2 = k then acc.dropLast ++ [(g.1 + 1, k)] else acc ++ [(1, k)]
  | none => acc ++ [(1, k)]
def grpM (rows : List Str) : List (Nat × Str) := rows.foldl gstep []
def wordM (p : Nat × Str) : Str := Str.ofString (toString ((p.1 : Nat) : Int)) ++ (if p.2 = "" then (("." : Str)) else p.2)
def writtenM (rows : List Str) : Str := Txt.join " " ((grpM rows).map wordM)
theorem gstep_new (acc : List (Nat × Str)) (k : Str) (h : ∀ g, acc.getLast? = some g → g.2 ≠ k) : gstep acc k = acc ++ [(1, k)] := by
  unfold gstep
  cases e : acc.getLast? with
  | none => rfl
  | some g => exact if_neg (h g e)
theorem gstep_old (acc : List (Nat × Str)) (n : Nat) (k : Str) : gstep (acc ++ [(n, k)]) k = acc ++ [(n + 1, k)] := by
  unfold gstep
  rw [List.getLast?_append, List.getLast?_singleton]
  simp
theorem grp_run (acc : List (Nat × Str)) (k : Str) (h : ∀ g, acc.getLast? = some g → g.2 ≠ k) : ∀ m : Nat, (List.replicate (m + 1) k).foldl gstep acc = acc ++ [(m + 1, k)]
  | 0 => by
    show gstep acc k = _
    rw [gstep_new acc k h]
  | m + 1 => by
    rw [List.replicate_succ', List.foldl_append, grp_run acc k h m]
    exact gstep_old acc (m + 1) k
/-- how a group grows: the last one, or a new one -/
theorem gstep_cases (acc : List (Nat × Str)) (k : Str) : (∃ pre n, acc = pre ++ [(n, k)] ∧ gstep acc k = pre ++ [(n + 1, k)]) ∨ ((∀ g, acc.getLast? = some g → g.2 ≠ k) ∧ gstep acc k = acc ++ [(1, k)]) := by
  cases e : acc.getLast? with
  | none =>
    refine .inr ⟨(fun g z => by cases z), ?_⟩
    exact gstep_new acc k (fun g z => by rw [e] at z; cases z)
  | some g =>
    by_cases hk : g.2 = k
    · refine .inl ⟨acc.dropLast, g.1, ?_, ?_⟩
      · have hne : acc ≠ [] := fun z => by rw [z] at e; cases e
        have h2 : acc.getLast hne = g := by
          rw [List.getLast?_eq_getLast hne] at e
          exact Option.some.inj e
        have h3 := List.dropLast_concat_getLast hne
        rw [h2] at h3
        rw [← h3, ← hk]
        simp
      · unfold gstep
        rw [e]
        exact if_pos hk
    · refine .inr ⟨(fun g' z => by cases z; exact hk), ?_⟩
      exact gstep_new acc k (fun g' z => by rw [e] at z; cases z; exact hk)
theorem grp_len (rows : List Str) : (grpM rows).length ≤ rows.length := by
  have key : ∀ (l : List Str) (acc : List (Nat × Str)), (l.foldl gstep acc).length ≤ acc.length + l.length := by
    intro l
    induction l with
    | nil => intro acc; simp
    | cons c l ih =>
      intro acc
      have h1 := ih (gstep acc c)
      have h2 : (gstep acc c).length ≤ acc.length + 1 := by
        rcases gstep_cases acc c with ⟨pre, n, e1, e2⟩ | ⟨_, e2⟩
        · rw [e2, e1]; simp
        · rw [e2]; simp
      rw [List.foldl_cons, List.length_cons]
      omega
  have := key rows []
  simpa [grpM] using this
/-- tuples in a base -/
def TupsB {α : Type} (f : α → List V) (b : Hp) (qs : List Addr) (zs : List α) : Prop := qs.length = zs.length ∧ ∀ (i : Nat) (q : Addr) (z : α), qs[i]? = some q → zs[i]? = some z → b q = some (.tup (f z))
section
variable {α : Type} {f : α → List V} {b b' : Hp} {qs : List Addr} {zs : List α} {q : Addr} {z : α}
theorem TupsB.nil : TupsB f b [] [] := ⟨rfl, fun i q z h _ => by cases h⟩
theorem TupsB.ex (h : TupsB f b qs zs) (e : Ex b b') : TupsB f b' qs zs := ⟨h.1, fun i q z h1 h2 => e _ _ (h.2 i q z h1 h2)⟩
theorem TupsB.mut {p : Addr} {o : HO} (h : TupsB f b qs zs) (hp : ∀ vs, b p ≠ some (.tup vs)) : TupsB f (upd b p o) qs zs := ⟨h.1, fun i q z h1 h2 => by
  have h3 := h.2 i q z h1 h2
  rw [upd_ne (fun e => hp _ (e ▸ h3))]
  exact h3⟩
theorem TupsB.snoc (h : TupsB f b qs zs) (hq : b q = some (.tup (f z))) : TupsB f b (qs ++ [q]) (zs ++ [z]) := by
  refine ⟨by rw [List.length_append, List.length_append, h.1]; rfl, fun i q' z' h1 h2 => ?_⟩
  by_cases hi : i < qs.length
  · rw [List.getElem?_append_left hi] at h1
    rw [List.getElem?_append_left (by rw [← h.1]; exact hi)] at h2
    exact h.2 i q' z' h1 h2
  · rw [List.getElem?_append_right (by omega)] at h1
    rw [List.getElem?_append_right (by rw [← h.1]; omega), ← h.1] at h2
    cases hj : i - qs.length with
    | zero =>
      rw [hj] at h1 h2
      have e1 : q = q' := Option.some.inj h1
      have e2 : z = z' := Option.some.inj h2
      rw [← e1, ← e2]
      exact hq
    | succ j =>
      rw [hj] at h1
      cases h1
theorem TupsB.last {pre : List α} {n : α} (h : TupsB f b qs (pre ++ [n])) : ∃ qp q, qs = qp ++ [q] ∧ TupsB f b qp pre ∧ b q = some (.tup (f n)) := by
  have hne : qs ≠ [] := fun z => by
    have := h.1
    rw [z] at this
    simp at this
  refine ⟨qs.dropLast, qs.getLast hne, (List.dropLast_concat_getLast hne).symm, ?_, ?_⟩
  · have hl : qs.dropLast.length = pre.length := by
      rw [List.length_dropLast, h.1]
      simp
    refine ⟨hl, fun i q z h1 h2 => ?_⟩
    have hi : i < qs.dropLast.length := (List.getElem?_eq_some_iff.mp h1).1
    refine h.2 i q z ?_ ?_
    · rw [← List.dropLast_concat_getLast hne, List.getElem?_append_left hi]
      exact h1
    · rw [List.getElem?_append_left (by omega)]
      exact h2
  · refine h.2 pre.length _ n ?_ (by simp)
    have hl : qs.length = pre.length + 1 := by rw [h.1]; simp
    rw [List.getLast_eq_getElem, List.getElem?_eq_getElem (by omega)]
    simp [hl]
end
def fG (g : Nat × Str) : List V := [.int (g.1 : Int), .str g.2]
def dG (g : Nat × Str) : PyData := .tuple [.int (g.1 : Int), .str g.2]
section
variable {K : PySem.W.Frag} {b : Hp}
theorem dpa_tups : ∀ (qs : List Addr) (zs : List (Nat × Str)), TupsB fG b qs zs → DpAll K b (qs.map V.ref) (zs.map dG)
  | [], [], _ => .nil
  | [], _ :: _, h => by cases h.1
  | _ :: _, [], h => by cases h.1
  | q :: qs, z :: zs, h => .cons (.tup (st_of (h.2 0 q z rfl rfl)) (.cons (.int _) (.cons (.str _) .nil))) (dpa_tups qs zs ⟨by have := h.1; simpa using this, fun i q' z' h1 h2 => h.2 (i + 1) q' z' h1 h2⟩)
theorem sh_grp (zs : List (Nat × Str)) (h : ∀ z ∈ zs, PyData.strOk z.2 = true) : SeqAt.shaped (.list (zs.map dG)) = true := by
  unfold SeqAt.shaped
  have h1 : PyData.canLayAll0 (zs.map dG) = true := canLay_map zs fun z hz => by
    show ((PyData.int (z.1 : Int)).canLay0 && ((PyData.str z.2).canLay0 && true)) = true
    rw [show (PyData.str z.2).canLay0 = true from h z hz]
    rfl
  have h2 : PyData.depthAll (zs.map dG) ≤ 1 := depthAll_map 1 (fun z => by
    show PyData.depth (.tuple [.int (z.1 : Int), .str z.2]) ≤ 1
    simp [PyData.depth, PyData.depthAll]) zs
  show (PyData.canLayAll0 (zs.map dG) && decide (PyData.depth (.list (zs.map dG)) ≤ 64)) = true
  rw [h1]
  have h3 : PyData.depth (.list (zs.map dG)) ≤ 64 := by
    simp only [PyData.depth]
    omega
  simp [h3]
end

/-! ### tapes: written, walked -/
theorem keysOk_chars {w : Str} (h : keysOk w = true) : w.cps.toList.length ≤ 4 ∧ ∀ c ∈ w.cps.toList, c = 108 ∨ c = 106 ∨ c = 114 ∨ c = 100 := by
  unfold keysOk at h
  have h := of_decide_eq_true h
  rw [h]
  refine ⟨Nat.le_trans (List.length_filter_le _ _) (by decide), fun c hc => ?_⟩
  have := (List.mem_filter.mp hc).1
  simpa using this
theorem keysOk_sz {w : Str} (h : keysOk w = true) : w.cps.size < 100000 := by
  have := (keysOk_chars h).1
  rw [Array.length_toList] at this
  omega
theorem keysOk_str {w : Str} (h : keysOk w = true) : PyData.strOk w = true := by
  unfold PyData.strOk
  rw [Array.all_eq_true_iff_forall_mem]
  intro c hc
  have := (keysOk_chars h).2 c (by simpa using hc)
  have h2 : c < 1114112 := by omega
  simpa using h2
theorem grp_mem (ks : List Str) : ∀ g ∈ grpM ks, 1 ≤ g.1 ∧ g.2 ∈ ks := by
  have key : ∀ (l : List Str) (acc : List (Nat × Str)), (∀ k ∈ l, k ∈ ks) → (∀ g ∈ acc, 1 ≤ g.1 ∧ g.2 ∈ ks) → ∀ g ∈ l.foldl gstep acc, 1 ≤ g.1 ∧ g.2 ∈ ks := by
    intro l
    induction l with
    | nil => intro acc _ h; exact h
    | cons c l ih =>
      intro acc hl h
      refine ih (gstep acc c) (fun k hk => hl k (List.mem_cons_of_mem _ hk)) fun g hg => ?_
      rcases gstep_cases acc c with ⟨pre, n, e1, e2⟩ | ⟨_, e2⟩
      · rw [e2] at hg
        rcases List.mem_append.mp hg with z | z
        · exact h g (by rw [e1]; exact List.mem_append_left _ z)
        · rw [List.mem_singleton.mp z]
          exact ⟨by omega, hl c (List.mem_cons_self ..)⟩
      · rw [e2] at hg
        rcases List.mem_append.mp hg with z | z
        · exact h g z
        · rw [List.mem_singleton.mp z]
          exact ⟨Nat.le_refl 1, hl c (List.mem_cons_self ..)⟩
  exact key ks [] (fun k hk => hk) (fun g hg => by cases hg)
def expandM (gs : List (Nat × Str)) : List Str := gs.flatMap fun g => List.replicate g.1 g.2
theorem expand_grp (ks : List Str) : expandM (grpM ks) = ks := by
  have key : ∀ (l : List Str) (acc : List (Nat × Str)), expandM (l.foldl gstep acc) = expandM acc ++ l := by
    intro l
    induction l with
    | nil => intro acc; simp
    | cons c l ih =>
      intro acc
      rw [List.foldl_cons, ih]
      have e : expandM (gstep acc c) = expandM acc ++ [c] := by
        rcases gstep_cases acc c with ⟨pre, n, e1, e2⟩ | ⟨_, e2⟩
        · rw [e2, e1]
          unfold expandM
          rw [List.flatMap_append, List.flatMap_append, List.append_assoc]
          simp [List.replicate_succ']
        · rw [e2]
          unfold expandM
          rw [List.flatMap_append]
          simp
      rw [e, List.append_assoc]
      rfl
  have := key ks []
  simpa [grpM, expandM] using this
theorem expand_len (gs : List (Nat × Str)) : (expandM gs).length = (gs.map (·.1)).sum := by
  unfold expandM
  induction gs with
  | nil => rfl
  | cons g gs ih => rw [List.flatMap_cons, List.length_append, ih, List.length_replicate, List.map_cons, List.sum_cons]
theorem le_sum : ∀ (l : List Nat) (n : Nat), n ∈ l → n ≤ l.sum
  | c :: l, n, h => by
    rw [List.sum_cons]
    rcases List.mem_cons.mp h with z | z
    · omega
    · have := le_sum l n z
      omega
theorem grp_le (ks : List Str) : ∀ g ∈ grpM ks, g.1 ≤ ks.length := fun g hg => by
  have h1 := expand_len (grpM ks)
  rw [expand_grp] at h1
  rw [h1]
  exact le_sum _ _ (List.mem_map.mpr ⟨g, hg, rfl⟩)
theorem log_small {n : Nat} (h : n ≤ 100000) : n.log2 < 1920 := by
  by_cases z : n = 0
  · rw [z]; decide
  · refine (Nat.log2_lt z).mpr (Nat.lt_of_le_of_lt h ?_)
    have : (2 : Nat) ^ 17 ≤ 2 ^ 1920 := Nat.pow_le_pow_right (by decide) (by decide)
    have h2 : 100000 < (2 : Nat) ^ 17 := by decide
    omega
theorem word_tl (g : Nat × Str) : (wordM g).cps.toList = TL.numL g.1 ++ (if g.2 = "" then [46] else g.2.cps.toList) := by
  unfold wordM
  rw [show (Str.ofString (toString ((g.1 : Nat) : Int)) ++ (if g.2 = "" then (("." : Str)) else g.2)).cps.toList = TL.tl (Str.ofString (toString ((g.1 : Nat) : Int)) ++ (if g.2 = "" then (("." : Str)) else g.2)) from rfl, TL.tl_append, TL.tl_num]
  split <;> rfl
theorem word_len {g : Nat × Str} (h : g.1 < 10000) (hk : keysOk g.2 = true) : (wordM g).cps.toList.length ≤ 8 := by
  rw [word_tl, List.length_append]
  have h1 : (TL.numL g.1).length ≤ 4 := TL.numL_len (by decide) h
  have h2 := (keysOk_chars hk).1
  split
  · show _ + 1 ≤ 8; omega
  · omega
section
variable {K : PySem.W.Frag} {σ : L2.St} {b : Hp} {vs : List V} {k : VK} {ke : XB} {E : XK} {te tl : TE}
def sb_written (K : PySem.W.Frag) : Sb := fun vs b k ke => ∃ (a : Addr) (xs : List V), vs = [.ref a] ∧ SqL K b a xs ∧ xs.length ≤ 1000 ∧ ((∃ ks : List Str, xs = ks.map V.str ∧ (∀ w ∈ ks, keysOk w = true) ∧ k (.str (writtenM ks)) b) ∨
  ∃ (i : Nat) (x : V), xs[i]? = some x ∧ KeysIs K b x false ∧ (∀ j : Nat, j < i → ∃ w : Str, xs[j]? = some (V.str w) ∧ keysOk w = true) ∧ ke (.ref (He.ga K "BadKeys")) b)
theorem len_written : ∀ vs b k ke, sb_written K vs b k ke → vs.length = (["rows"] : List Str).length := fun _ _ _ _ ⟨_, _, e, _⟩ => e ▸ rfl
def sb__law_written (K : PySem.W.Frag) : Sb := fun vs b k _ => ∃ (a : Addr) (ks : List Str), vs = [.ref a] ∧ SqL K b a (ks.map V.str) ∧ ks.length ≤ 1000 ∧ (∀ w ∈ ks, keysOk w = true) ∧ k (.str (writtenM ks)) b
theorem len__law_written : ∀ vs b k ke, sb__law_written K vs b k ke → vs.length = (["rows"] : List Str).length := fun _ _ _ _ ⟨_, _, e, _⟩ => e ▸ rfl
abbrev tapeKs : List Str := ["r", "l", "jr", "lj", "", "j", "d", "lr", "ljrd", ""]
def sb__law_tape (K : PySem.W.Frag) : Sb := fun vs b k _ => ∃ more many : Int, vs = [.int more, .int many] ∧ 0 ≤ more ∧ (0 ≤ many ∧ many ≤ 100) ∧ ∀ ks : List Str, (∀ w ∈ ks, w ∈ tapeKs) → ks.length ≤ many.toNat → ∀ p b', Ex b b' → b p = none → b' p = some (.lst (ks.map V.str)) → k (.ref p) b'
theorem len__law_tape : ∀ vs b k ke, sb__law_tape K vs b k ke → vs.length = (["more", "many"] : List Str).length := fun _ _ _ _ ⟨_, _, e, _⟩ => e ▸ rfl
theorem tapeKs_ok : ∀ w ∈ tapeKs, keysOk w = true := by decide +kernel
theorem p_strInt {n : Nat} (h : n ≤ 100000) : Pc rStrInt [.int (n : Int)] b (.str (Str.ofString (toString ((n : Nat) : Int)))) := fun H a Q q => ⟨_, rfl, by rw [Int.natAbs_natCast]; exact log_small h, q H a⟩
theorem v_join {ta tb : TE} {p : Addr} {w : Str} {ys : List Str} (h : Pe ta σ b (.str w)) (hl : Pe tb σ b (.ref p)) (hx : SqL K b p (ys.map V.str)) (hz : (ys.map (·.length)).sum + ys.length * w.length ≤ 16777216) : Pe (tM1 (rJoin K) ta tb) σ b (.str (Txt.join w ys)) := fun H a Q q =>
  h H a _ fun H1 a1 => ⟨⟨w, rfl⟩, hl H1 a1 _ fun H2 a2 => ⟨w, p, ys, rfl, rfl, .inl (ex_l a2 hx), hz, q H2 a2⟩⟩
/-- a comprehension over pairs, each value pure -/
theorem n_lcT {a : Addr} {xs ys : List V} {vs : List Nat} {i j : Nat} (h : Pe tl σ b (.ref a)) (hx : SqL K b a xs) (hz : xs.length < 100000) (hl : ys.length = xs.length) (hw : ∀ x y, wipe (((wipe σ vs).set i (some x)).set j (some y)) vs = wipe σ vs)
    (he : ∀ (n : Nat) (x : V) (b1 : Hp), xs[n]? = some x → Ex b b1 → ∃ (p : Addr) (v w y : V), x = .ref p ∧ SqT K b1 p [v, w] ∧ ys[n]? = some y ∧ Pe te (((wipe σ vs).set i (some v)).set j (some w)) b1 y) : Pn (tLc (iList K tl) (gTup K 2 (gCons (gName i) (gCons (gName j) gNil))) tYes te vs) σ b (.lst ys) := fun H e Q q =>
  c_lcL (k := fun w b2 => ∃ p, b p = none ∧ w = .ref p ∧ b2 = upd b p (.lst ys)) h hx (fun Dl n acc b' => b' = upd b Dl (.lst acc) ∧ acc = ys.take n) (fun Dl hD => ⟨rfl, rfl⟩)
    (fun Dl n acc b' hD ⟨e1, e2⟩ => ⟨by rw [e1]; exact upd_same, by rw [e1]; exact ex_l (Ex.new hD) hx, by rw [e2, List.length_take]; omega⟩)
    (fun Dl n x acc b' hD hi ⟨e1, e2⟩ => by
      have eb : Ex b b' := by rw [e1]; exact Ex.new hD
      obtain ⟨p, v, w, y, ex, hp, hy, hv⟩ := he n x b' hi eb
      subst ex
      refine g_tup hp rfl (gs_name (gs_name (gs_nil ⟨hw v w, t_yes.c ?_⟩)))
      show Ce te _ b' _
      refine hv.c ⟨by rw [e1]; exact upd_same, by rw [e1, upd_upd], ?_⟩
      rw [e2, List.take_succ, hy]
      rfl)
    (fun Dl acc b' hD ⟨e1, e2⟩ => ⟨Dl, hD, rfl, by rw [e1, e2, List.take_of_length_le (by omega)]⟩) H e Q fun w b2 H' ⟨p, hp, e1, e2⟩ a2 => by rw [e1]; exact q p H' hp (e2 ▸ a2)
end
def t_written (K : PySem.W.Frag) (E : XK) : TS := (tSeq (tFor (iList K (tVar 0)) (gName 1) (tDrop (tCall (up (sb_need_keys K)) [] E (tCons (tVar 1) tNil)))) (tSeq (tAsg (tLst tNil) (gName 2)) (tSeq (tFor (iList K (tVar 0)) (gName 1) (tIfS (tAnd (tTest (tOp (rNeU K) (tVar 2) (tLst tNil))) (tTest (tOp (rEqU K) (tOp (rIx K) (tOp (rIx K) (tVar 2) (tUn rNegI (tC (.int 1)))) (tC (.int 1))) (tVar 1)))) (tAsg (tTup (tCons (tOp (rAddU K) (tOp (rIx K) (tOp (rIx K) (tVar 2) (tUn rNegI (tC (.int 1)))) (tC (.int 0))) (tC (.int 1))) (tCons (tVar 1) tNil))) (gSub (tVar 2) (tUn rNegI (tC (.int 1))) rSetL)) (tDrop (tBM K "list" rAppend (tVar 2) (tCons (tTup (tCons (tC (.int 1)) (tCons (tVar 1) tNil))) tNil))))) (tRet (tM1 (rJoin K) (tC (.str " ")) (tLc (iList K (tVar 2)) (gTup K 2 (gCons (gName 3) (gCons (gName 1) gNil))) tYes (tOp (rAddU K) (tCB rStrInt (tCons (tVar 3) tNil)) (tIf (tTest (tOp (rNeU K) (tVar 1) (tC (.str "")))) (tVar 1) (tC (.str ".")))) [3, 1]))))))
def t__law_tape (K : PySem.W.Frag) (E : XK) : TS := (tSeq (tAsg (tLst tNil) (gName 2)) (tSeq (tFor (iRng1 (tCons (tOp rModI (tVar 0) (tC (.int 9))) tNil)) (gName 3) (tSeq (tAsg (tCall (up (sb__law_drawn K)) [] E (tCons (tVar 0) (tCons (tVar 3) tNil))) (gName 4)) (tAsg (tOp (rAddU K) (tVar 2) (tOp rMulU (tLst (tCons (tOp (rIx K) (tLst (tCons (tC (.str "r")) (tCons (tC (.str "l")) (tCons (tC (.str "jr")) (tCons (tC (.str "lj")) (tCons (tC (.str "")) (tCons (tC (.str "j")) (tCons (tC (.str "d")) (tCons (tC (.str "lr")) (tCons (tC (.str "ljrd")) (tCons (tC (.str "")) tNil))))))))))) (tOp rModI (tVar 4) (tC (.int 10)))) tNil)) (tOp (rAddU K) (tC (.int 1)) (tOp rModI (tOp rFdivU (tVar 4) (tC (.int 16))) (tC (.int 9)))))) (gName 2)))) (tRet (tSl (rSlU K) (tVar 2) tNoPart (tPart (tVar 1))))))
def t__law_written (K : PySem.W.Frag) (E : XK) : TS := (tSeq (tPar 1 2 (tCons (tLst tNil) (tCons (tC (.int 0)) tNil))) (tSeq (tWhile (tTest (tOp rLtI (tVar 2) (tCB (rLenU K) (tCons (tVar 0) tNil)))) (tSeq (tAsg (tVar 2) (gName 3)) (tSeq (tWhile (tAnd (tTest (tOp rLtI (tVar 3) (tCB (rLenU K) (tCons (tVar 0) tNil)))) (tTest (tOp (rEqU K) (tOp (rIx K) (tVar 0) (tVar 3)) (tOp (rIx K) (tVar 0) (tVar 2))))) (tAsg (tOp (rAddU K) (tVar 3) (tC (.int 1))) (gName 3))) (tSeq (tDrop (tBM K "list" rAppend (tVar 1) (tCons (tOp (rAddU K) (tCB rStrInt (tCons (tOp rSubU (tVar 3) (tVar 2)) tNil)) (tIf (tTest (tOp (rNeU K) (tOp (rIx K) (tVar 0) (tVar 2)) (tC (.str "")))) (tOp (rIx K) (tVar 0) (tVar 2)) (tC (.str ".")))) tNil))) (tAsg (tVar 3) (gName 2)))))) (tRet (tM1 (rJoin K) (tC (.str " ")) (tVar 1)))))
section
variable {K : PySem.W.Frag} {σ : L2.St} {b : Hp} {vs : List V} {k : VK} {ke : XB} {E : XK} {te tl : TE}
theorem ix_last {n : Nat} : ixN (n + 1) (-1) = some n := by
  unfold ixN
  simp
  constructor <;> omega
theorem at_last {α : Type} (l : List α) (x : α) : atI (l ++ [x]) (-1) = some x := by
  unfold atI
  rw [List.length_append]
  show (ixN (l.length + 1) (-1)).bind (fun j => (l ++ [x])[j]?) = some x
  rw [ix_last]
  simp
theorem word_eq {g : Nat × Str} : Str.ofString (toString ((g.1 : Nat) : Int)) ++ (if g.2 = "" then (("." : Str)) else g.2) = wordM g := rfl
theorem v_word {ta tb : TE} {n : Nat} {w : Str} (h1 : Pe ta σ b (.int (n : Int))) (h2 : Pe tb σ b (.str w)) (hn : n ≤ 9999) (hk : keysOk w = true) : Pe (tOp (rAddU K) (tCB rStrInt (tCons ta tNil)) (tIf (tTest (tOp (rNeU K) tb (tC (.str "")))) tb (tC (.str ".")))) σ b (.str (wordM (n, w))) := by
  have e : (if (!decide (w = "")) = true then V.str w else V.str ".") = V.str (if w = "" then (("." : Str)) else w) := by
    by_cases z : w = ""
    · rw [decide_eq_true z, if_pos z]; rfl
    · rw [decide_eq_false z, if_neg z]; rfl
  refine v_is (v_op (v_cb (a_cons h1 a_nil) (p_strInt (by omega))) (v_is (v_if (t_test (v_op h2 v_c r_neT)) (fun _ => h2) (fun _ => v_c)) e) (r_addS ?_)) (congrArg V.str (word_eq (g := (n, w))))
  have h3 : (Str.ofString (toString ((n : Nat) : Int))).length ≤ 4 := by
    rw [TL.len_tl, TL.tl_num]
    exact TL.numL_len (by decide) (by omega)
  have h4 := (keysOk_chars hk).1
  have h5 : (if w = "" then (("." : Str)) else w).length ≤ 4 := by
    split
    · decide +kernel
    · rw [TL.len_tl]; exact h4
  omega
theorem sum_len {ks : List Str} (hk : ∀ w ∈ ks, keysOk w = true) (hl : ks.length ≤ 1000) : (((grpM ks).map wordM).map (·.length)).sum + ((grpM ks).map wordM).length * (" " : Str).length ≤ 16777216 := by
  have hg := grp_len ks
  have key : ∀ l : List Str, (∀ w ∈ l, w.length ≤ 8) → (l.map (·.length)).sum ≤ 8 * l.length := by
    intro l
    induction l with
    | nil => intro _; simp
    | cons c l ih =>
      intro h
      have h1 := h c (List.mem_cons_self ..)
      have h2 := ih fun w hw => h w (List.mem_cons_of_mem _ hw)
      rw [List.map_cons, List.sum_cons, List.length_cons]
      omega
  have h8 := key ((grpM ks).map wordM) fun w hw => by
    obtain ⟨g, hg1, rfl⟩ := List.mem_map.mp hw
    have h1 := grp_le ks g hg1
    have h2 := hk g.2 (grp_mem ks g hg1).2
    rw [TL.len_tl]
    exact word_len (by omega) h2
  have hs : (" " : Str).length = 1 := by decide +kernel
  rw [hs]
  rw [List.length_map] at h8 ⊢
  omega
theorem p_written (h : sb_written K vs b k ke) (hE : ∀ c b' H', ke c b' → Ex b' H' → E c none H') : Cs (t_written K E) { nx := fun _ b' => k .non b', rt := k } (start ["rows", "keys", "found", "many"] vs) b := by
  obtain ⟨a, xs, rfl, hx, hl, ⟨ks, rfl, hk, h1⟩ | ⟨i, x, hi, hb, hg, h1⟩⟩ := h
  · rw [List.length_map] at hl
    refine s_seq (s_list (v_var rfl) hx (fun i σ' b' => ∃ v1 : Option V, σ' = [some (.ref a), v1, none, none] ∧ b = b') ⟨_, rfl, rfl⟩ (fun i σ' b' _ ⟨_, _, e⟩ => e ▸ hx) ?_ ?_)
    · rintro i x σ' b' hi ⟨v1, rfl, rfl⟩
      obtain ⟨w, hw, rfl⟩ : ∃ w ∈ ks, V.str w = x := List.mem_map.mp (List.mem_of_getElem? hi)
      exact g_name (s_drop (c_call hE (Pa.c (a_cons (v_var rfl) a_nil) ⟨_, true, rfl, (hk w hw) ▸ .str w (keysOk_sz (hk w hw)), fun _ => ⟨_, rfl, rfl⟩, fun z => by cases z⟩)))
    rintro σ' b' ⟨v1, rfl, rfl⟩
    refine q_asgN (n_lst (vs := []) a_nil (by show 0 ≤ 100000; decide)) (fun f hf => ?_)
    refine s_seq (s_list (K := K) (v_var rfl) (ex_l (Ex.new hf) hx) (fun i σ' b' => ∃ (v1 : Option V) (qs : List Addr), σ' = [some (.ref a), v1, some (.ref f), none] ∧ b' f = some (.lst (qs.map V.ref)) ∧ TupsB fG b' qs (grpM (ks.take i)) ∧ Ex b b') ⟨_, [], rfl, upd_same, .nil, Ex.new hf⟩ (fun i σ' b' _ ⟨_, _, _, _, _, e⟩ => ex_l e hx) ?_ ?_)
    · rintro i x σ' b' hi ⟨v1, qs, rfl, hfb, ht, eb⟩
      obtain ⟨w, hwi, rfl⟩ : ∃ w, ks[i]? = some w ∧ V.str w = x := by
        rw [List.getElem?_map] at hi
        cases e : ks[i]? with
        | none => rw [e] at hi; cases hi
        | some w => rw [e] at hi; exact ⟨w, rfl, Option.some.inj hi⟩
      have hi1 : i < ks.length := (List.getElem?_eq_some_iff.mp hwi).1
      have hst : grpM (ks.take (i + 1)) = gstep (grpM (ks.take i)) w := by
        unfold grpM
        rw [List.take_succ, hwi, List.foldl_append]
        rfl
      have hgl : (grpM (ks.take i)).length ≤ 1000 := by
        have := grp_len (ks.take i)
        rw [List.length_take] at this
        omega
      have hok : ∀ g ∈ grpM (ks.take i), PyData.strOk g.2 = true := fun g hg => keysOk_str (hk _ (List.take_subset _ _ (grp_mem _ g hg).2))
      have ne : ∀ σ2 : L2.St, σ2[2]? = some (some (.ref f)) → Pt (tTest (tOp (rNeU K) (tVar 2) (tLst tNil))) σ2 b' (!decide (grpM (ks.take i) = [])) := fun σ2 h2 => by
        refine t_is (t_test (v_opN (v_var h2) (n_lst (vs := []) a_nil (by decide)) (fun q b1 e hq => r_neD (.lst (ex_l e (sq_of hfb)) (dpa_ex e (dpa_tups qs _ ht))) (dp_nil (sq_of hq)) (sh_grp _ hok) rfl))) ?_
        rw [eqv_list_nil]
        congr 2
        exact propext List.map_eq_nil_iff
      refine g_name ?_
      rcases gstep_cases (grpM (ks.take i)) w with ⟨pre, n, e1, e2⟩ | ⟨hnew, e2⟩
      · rw [e1] at ht
        obtain ⟨qp, q, eq, hp, hq⟩ := ht.last
        subst eq
        rw [List.map_append] at hfb
        have hql : (qp.map V.ref).length ≤ 1000 := by
          have := hp.1
          rw [e1, List.length_append] at hgl
          rw [List.length_map]
          omega
        have la : ∀ σ2 : L2.St, σ2[2]? = some (some (.ref f)) → Pe (tOp (rIx K) (tVar 2) (tUn rNegI (tC (.int 1)))) σ2 b' (.ref q) := fun σ2 h2 => v_op (v_var h2) (v_un v_c u_neg) (r_iL (sq_of hfb) (at_last _ _))
        refine s_if (c := true) (t_is (t_and (ne _ rfl) (fun _ => t_test (v_op (v_op (la _ rfl) v_c (r_iT (st_of hq) rfl)) (v_var rfl) r_eqT))) ?_) (fun _ => ?_) (fun z => by cases z)
        · rw [e1, decide_eq_false (by simp)]
          simp
        refine s_asg (Pn.c (n_tup (vs := [.int ((n + 1 : Nat) : Int), .str w]) (a_cons (v_is (v_op (v_op (la _ rfl) v_c (r_iT (st_of hq) rfl)) v_c r_add) (by simp)) (a_cons (v_var rfl) a_nil)) (by show 2 ≤ 100000; decide)) (fun p hp2 => ?_))
        have nfp : f ≠ p := ne_of_none hfb hp2
        have ep : Ex b' (upd b' p (.tup [.int ((n + 1 : Nat) : Int), .str w])) := Ex.new hp2
        refine g_subL (xs := qp.map V.ref ++ [.ref q]) (j := (qp.map V.ref).length) (v_var rfl) (v_un v_c u_neg) (by rw [upd_ne nfp]; exact hfb) (by rw [List.length_append]; exact ix_last) ?_
        refine ⟨_, qp ++ [p], rfl, ?_, ?_, Ex.mut (eb.trans ep) hf⟩
        · rw [upd_same, List.map_append, List.set_append_right _ _ (Nat.le_refl _), Nat.sub_self]
          rfl
        · rw [hst, e2]
          refine TupsB.snoc ((hp.ex ep).mut fun vs z => ?_) ?_
          · rw [upd_ne nfp, hfb] at z
            cases z
          · rw [upd_ne (Ne.symm nfp), upd_same]
            rfl
      · have hgf : Pt (tAnd (tTest (tOp (rNeU K) (tVar 2) (tLst tNil))) (tTest (tOp (rEqU K) (tOp (rIx K) (tOp (rIx K) (tVar 2) (tUn rNegI (tC (.int 1)))) (tC (.int 1))) (tVar 1)))) ([some (.ref a), v1, some (.ref f), none].set 1 (some (.str w))) b' false := by
          cases hgs : (grpM (ks.take i)).getLast? with
          | none =>
            have e0 : grpM (ks.take i) = [] := List.getLast?_eq_none_iff.mp hgs
            refine t_is (t_and (d := false) (ne _ rfl) (fun c => ?_)) ?_
            · rw [e0] at c; cases c
            · rw [e0]; rfl
          | some g =>
            obtain ⟨pre, e1⟩ : ∃ pre, grpM (ks.take i) = pre ++ [g] := by
              have hne : grpM (ks.take i) ≠ [] := fun z => by rw [z] at hgs; cases hgs
              refine ⟨(grpM (ks.take i)).dropLast, ?_⟩
              rw [List.getLast?_eq_getLast hne] at hgs
              rw [← Option.some.inj hgs, List.dropLast_concat_getLast]
            have ht2 := ht
            rw [e1] at ht2
            obtain ⟨qp, q, eq, hp, hq⟩ := ht2.last
            have hfb2 := hfb
            rw [eq, List.map_append] at hfb2
            refine t_is (t_and (ne _ rfl) (fun _ => t_test (v_op (v_op (v_op (v_var rfl) (v_un v_c u_neg) (r_iL (sq_of hfb2) (at_last _ _))) v_c (r_iT (st_of hq) rfl)) (v_var rfl) r_eqT))) ?_
            rw [decide_eq_false (hnew g hgs), Bool.and_false]
        refine s_if hgf (fun z => by cases z) (fun _ => ?_)
        refine s_drop (c_appendN (v_var rfl) (n_tup (vs := [.int 1, .str w]) (a_cons v_c (a_cons (v_var rfl) a_nil)) (by show 2 ≤ 100000; decide)) hfb (by rw [List.length_map, ht.1]; omega) (fun p hp2 => ?_))
        have nfp : f ≠ p := ne_of_none hfb hp2
        have ep : Ex b' (upd b' p (.tup [.int 1, .str w])) := Ex.new hp2
        refine ⟨_, qs ++ [p], rfl, by rw [upd_same, List.map_append]; rfl, ?_, Ex.mut (eb.trans ep) hf⟩
        rw [hst, e2]
        refine TupsB.snoc ((ht.ex ep).mut fun vs z => ?_) ?_
        · rw [upd_ne nfp, hfb] at z
          cases z
        · rw [upd_ne (Ne.symm nfp), upd_same]
          rfl
    · rintro σ' b' ⟨v1, qs, rfl, hfb, ht, eb⟩
      rw [List.length_map, List.take_length] at ht
      have hgl := grp_len ks
      refine s_retW (Pe.c (v_joinN v_c (fun b1 e1 => n_lcT (K := K) (ys := ((grpM ks).map wordM).map V.str) (v_var rfl) (ex_l e1 (sq_of hfb)) (by rw [List.length_map, ht.1]; omega) (by rw [List.length_map, List.length_map, List.length_map, ht.1]) (fun x y => rfl) (fun n x b2 hn e2 => ?_)) rfl (sum_len hk hl)) ⟨b, eb, h1⟩)
      obtain ⟨q, hq, rfl⟩ : ∃ q, qs[n]? = some q ∧ V.ref q = x := by
        rw [List.getElem?_map] at hn
        cases e : qs[n]? with
        | none => rw [e] at hn; cases hn
        | some w => rw [e] at hn; exact ⟨w, rfl, Option.some.inj hn⟩
      have hn1 : n < (grpM ks).length := by rw [← ht.1]; exact (List.getElem?_eq_some_iff.mp hq).1
      have hgn : (grpM ks)[n]? = some (grpM ks)[n] := List.getElem?_eq_getElem hn1
      have hm : (grpM ks)[n] ∈ grpM ks := List.getElem_mem hn1
      refine ⟨q, _, _, .str (wordM (grpM ks)[n]), rfl, st_of (e2 _ _ (e1 _ _ (ht.2 n q _ hq hgn))), by rw [List.getElem?_map, List.getElem?_map, hgn]; rfl, ?_⟩
      exact v_word (v_var rfl) (v_var rfl) (Nat.le_trans (grp_le ks _ hm) (by omega)) (hk _ (grp_mem ks _ hm).2)
  · refine s_seq (s_list (v_var rfl) hx (fun j σ' b' => ∃ v1 : Option V, σ' = [some (.ref a), v1, none, none] ∧ b = b' ∧ j ≤ i) ⟨_, rfl, rfl, Nat.zero_le _⟩ (fun j σ' b' _ ⟨_, _, e, _⟩ => e ▸ hx) ?_ (fun σ' b' ⟨_, _, _, hji⟩ => absurd (List.getElem?_eq_some_iff.mp hi).1 (by omega)))
    rintro j y σ' b' hj ⟨v1, rfl, rfl, hji⟩
    by_cases e : j = i
    · subst e
      rw [hi] at hj
      cases hj
      exact g_name (s_drop (c_call hE (Pa.c (a_cons (v_var rfl) a_nil) ⟨_, false, rfl, hb, (fun z => by cases z), fun _ => h1⟩)))
    · obtain ⟨w, hw, hok⟩ := hg j (by omega)
      rw [hw] at hj
      cases hj
      exact g_name (s_drop (c_call hE (Pa.c (a_cons (v_var rfl) a_nil) ⟨_, true, rfl, hok ▸ .str w (keysOk_sz hok), fun _ => ⟨_, rfl, rfl, by omega⟩, fun z => by cases z⟩)))
end

/-! ### the law's own texts and tapes -/
section
variable {K : PySem.W.Frag} {σ : L2.St} {b : Hp} {vs : List V} {k : VK} {ke : XB} {E : XK} {te tl : TE}
theorem take_run {ks : List Str} {n m : Nat} {w : Str} (h : ∀ i, n ≤ i → i < m → ks[i]? = some w) (hnm : n ≤ m) (hm : m ≤ ks.length) : ks.take m = ks.take n ++ List.replicate (m - n) w := by
  apply List.ext_getElem?
  intro i
  by_cases h1 : i < n
  · rw [List.getElem?_append_left (by rw [List.length_take]; omega), List.getElem?_take_of_lt (by omega), List.getElem?_take_of_lt h1]
  · by_cases h2 : i < m
    · rw [List.getElem?_append_right (by rw [List.length_take]; omega), List.getElem?_take_of_lt h2, h i (by omega) h2, List.length_take, List.getElem?_replicate, if_pos (by omega)]
    · rw [List.getElem?_eq_none (by rw [List.length_take]; omega), List.getElem?_eq_none (by rw [List.length_append, List.length_take, List.length_replicate]; omega)]
theorem str_at {ks : List Str} {i : Nat} (h : i < ks.length) : atI (ks.map V.str) (i : Int) = some (.str (ks.getD i "")) := by
  rw [at_getD (ks.map V.str) (.str "") (by omega) (by rw [List.length_map]; omega), Int.toNat_natCast, List.getD_eq_getElem?_getD, List.getElem?_map, List.getD_eq_getElem?_getD]
  cases ks[i]? <;> rfl
theorem getD_some {ks : List Str} {i : Nat} (h : i < ks.length) : ks[i]? = some (ks.getD i "") := by
  rw [List.getD_eq_getElem?_getD, List.getElem?_eq_getElem h]
  rfl
theorem p__law_written (h : sb__law_written K vs b k ke) (hE : ∀ c b' H', ke c b' → Ex b' H' → E c none H') : Cs (t__law_written K E) { nx := fun _ b' => k .non b', rt := k } (start ["rows", "words", "at", "end"] vs) b := by
  obtain ⟨a, ks, rfl, hx, hl, hk, h1⟩ := h
  refine q_parC (ca_cons (Pn.c (n_lst (vs := []) a_nil (by show 0 ≤ 100000; decide)) fun wl hw => ca_consP v_c (ca_nil ⟨_, _, rfl, ?_⟩)))
  have hx0 := ex_l (Ex.new (o := .lst []) hw) hx
  refine s_seq (s_while (fun m σ' b' => ∃ (n : Nat) (v3 : Option V), σ' = [some (.ref a), some (.ref wl), some (.int (n : Int)), v3] ∧ n ≤ ks.length ∧ m = ks.length - n ∧ b' wl = some (.lst (((grpM (ks.take n)).map wordM).map V.str)) ∧ Ex b b' ∧ (∀ g, (grpM (ks.take n)).getLast? = some g → n < ks.length → g.2 ≠ ks.getD n "")) ks.length ⟨0, none, rfl, Nat.zero_le _, rfl, upd_same, Ex.new hw, fun g z => by cases z⟩ ?_)
  rintro m σ' b' ⟨n, v3, rfl, hn, rfl, hwl, eb, hlast⟩
  have hxb := ex_l eb hx
  refine Pt.c (t_test (v_op (v_var rfl) (v_cb (a_cons (v_var rfl) a_nil) (p_lenL hxb)) r_lt)) ?_
  rw [List.length_map]
  by_cases hlt : n < ks.length
  · rw [decide_eq_true (by omega), if_pos rfl]
    refine q_asgV (v_var rfl) ?_
    refine s_seq (s_while (fun m2 σ' b2 => ∃ e : Nat, σ' = [some (.ref a), some (.ref wl), some (.int (n : Int)), some (.int (e : Int))] ∧ n ≤ e ∧ e ≤ ks.length ∧ m2 = ks.length - e ∧ b' = b2 ∧ ∀ i, n ≤ i → i < e → ks[i]? = some (ks.getD n "")) (ks.length - n) ⟨n, rfl, Nat.le_refl _, hn, rfl, rfl, fun i h1 h2 => by omega⟩ ?_)
    rintro m2 σ' b2 ⟨e, rfl, hne, hel, rfl, rfl, hrun⟩
    have kn : keysOk (ks.getD n "") = true := hk _ (List.mem_of_getElem? (getD_some hlt))
    -- behind the inner loop
    have done : n < e → (e < ks.length → ks.getD e "" ≠ ks.getD n "") → Cs (tSeq (tDrop (tBM K "list" rAppend (tVar 1) (tCons (tOp (rAddU K) (tCB rStrInt (tCons (tOp rSubU (tVar 3) (tVar 2)) tNil)) (tIf (tTest (tOp (rNeU K) (tOp (rIx K) (tVar 0) (tVar 2)) (tC (.str "")))) (tOp (rIx K) (tVar 0) (tVar 2)) (tC (.str ".")))) tNil))) (tAsg (tVar 3) (gName 2)))
        { nx := fun σ2 b2 => ∃ m', m' < ks.length - n ∧ ∃ (n : Nat) (v3 : Option V), σ2 = [some (.ref a), some (.ref wl), some (.int (n : Int)), v3] ∧ n ≤ ks.length ∧ m' = ks.length - n ∧ b2 wl = some (.lst (((grpM (ks.take n)).map wordM).map V.str)) ∧ Ex b b2 ∧ (∀ g, (grpM (ks.take n)).getLast? = some g → n < ks.length → g.2 ≠ ks.getD n ""), rt := k,
          ct := fun σ2 b2 => ∃ m', m' < ks.length - n ∧ ∃ (n : Nat) (v3 : Option V), σ2 = [some (.ref a), some (.ref wl), some (.int (n : Int)), v3] ∧ n ≤ ks.length ∧ m' = ks.length - n ∧ b2 wl = some (.lst (((grpM (ks.take n)).map wordM).map V.str)) ∧ Ex b b2 ∧ (∀ g, (grpM (ks.take n)).getLast? = some g → n < ks.length → g.2 ≠ ks.getD n ""),
          bk := fun σ' b' => Cs (tRet (tM1 (rJoin K) (tC (.str " ")) (tVar 1))) { nx := fun _ b' => k .non b', rt := k } σ' b' } [some (.ref a), some (.ref wl), some (.int (n : Int)), some (.int (e : Int))] b' := fun hlt2 hend => by
      have eg : grpM (ks.take e) = grpM (ks.take n) ++ [(e - n, ks.getD n "")] := by
        have h3 := take_run hrun hne hel
        unfold grpM
        rw [h3, List.foldl_append]
        have h4 := grp_run (grpM (ks.take n)) (ks.getD n "") (fun g hg => hlast g hg hlt) (e - n - 1)
        rw [show e - n - 1 + 1 = e - n by omega] at h4
        exact h4
      refine q_drop (c_append (v_var rfl) (v_word (n := e - n) (w := ks.getD n "") (v_is (v_op (v_var rfl) (v_var rfl) r_sub) (congrArg V.int (by omega))) (v_op (v_var rfl) (v_var rfl) (r_iL hxb (str_at hlt))) (by omega) kn) hwl (by have := grp_len (ks.take n); rw [List.length_take] at this; rw [List.length_map, List.length_map]; omega) ?_)
      refine s_asgV (v_var rfl) ⟨ks.length - e, by omega, e, _, rfl, hel, rfl, ?_, Ex.mut eb hw, fun g hg hlt3 => ?_⟩
      · rw [upd_same, eg, List.map_append, List.map_append]
        rfl
      · rw [eg, List.getLast?_append, List.getLast?_singleton] at hg
        cases hg
        exact fun z => hend hlt3 z.symm
    by_cases he : e < ks.length
    · have tt : Pt (tAnd (tTest (tOp rLtI (tVar 3) (tCB (rLenU K) (tCons (tVar 0) tNil)))) (tTest (tOp (rEqU K) (tOp (rIx K) (tVar 0) (tVar 3)) (tOp (rIx K) (tVar 0) (tVar 2))))) [some (.ref a), some (.ref wl), some (.int (n : Int)), some (.int (e : Int))] b' (decide (ks.getD e "" = ks.getD n "")) :=
        t_is (t_and (t_test (v_op (v_var rfl) (v_cb (a_cons (v_var rfl) a_nil) (p_lenL hxb)) r_lt)) (fun _ => t_test (v_op (v_op (v_var rfl) (v_var rfl) (r_iL hxb (str_at he))) (v_op (v_var rfl) (v_var rfl) (r_iL hxb (str_at hlt))) r_eqT))) (by rw [List.length_map, decide_eq_true (by omega : (e : Int) < (ks.length : Int)), Bool.true_and])
      refine Pt.c tt ?_
      by_cases hq : ks.getD e "" = ks.getD n ""
      · rw [decide_eq_true hq, if_pos rfl]
        refine s_asgV (v_is (v_op (v_var rfl) v_c r_add) (show V.int ((e : Int) + 1) = V.int ((e + 1 : Nat) : Int) by simp)) ⟨ks.length - (e + 1), by omega, e + 1, rfl, by omega, by omega, rfl, rfl, fun i h1 h2 => ?_⟩
        by_cases hi : i < e
        · exact hrun i h1 hi
        · have : i = e := by omega
          subst this
          rw [getD_some he, hq]
      · rw [decide_eq_false hq, if_neg (by decide)]
        have hne2 : n < e := by
          rcases Nat.lt_or_ge n e with z | z
          · exact z
          · have : e = n := by omega
            rw [this] at hq
            exact absurd rfl hq
        exact done hne2 (fun _ => hq)
    · have tt : Pt (tAnd (tTest (tOp rLtI (tVar 3) (tCB (rLenU K) (tCons (tVar 0) tNil)))) (tTest (tOp (rEqU K) (tOp (rIx K) (tVar 0) (tVar 3)) (tOp (rIx K) (tVar 0) (tVar 2))))) [some (.ref a), some (.ref wl), some (.int (n : Int)), some (.int (e : Int))] b' false :=
        t_is (t_and (d := false) (t_test (v_op (v_var rfl) (v_cb (a_cons (v_var rfl) a_nil) (p_lenL hxb)) r_lt)) (fun c => by rw [List.length_map] at c; have := of_decide_eq_true c; omega)) (by rw [Bool.and_false])
      refine Pt.c tt ?_
      rw [if_neg (by decide)]
      exact done (by omega) (fun z => absurd z he)
  · rw [decide_eq_false (by omega), if_neg (by decide)]
    have en : n = ks.length := by omega
    subst en
    rw [List.take_length] at hwl
    refine s_retW (Pe.c (v_join (v_c) (v_var rfl) (sq_of hwl) (sum_len hk hl)) ⟨b, eb, h1⟩)
theorem p__law_tape (h : sb__law_tape K vs b k ke) (hE : ∀ c b' H', ke c b' → Ex b' H' → E c none H') : Cs (t__law_tape K E) { nx := fun _ b' => k .non b', rt := k } (start ["more", "many", "found", "j", "here"] vs) b := by
  obtain ⟨more, many, rfl, h0, hm, h1⟩ := h
  have r0 : 0 ≤ more % 9 := Int.emod_nonneg _ (by decide)
  have r1 : more % 9 < 9 := Int.emod_lt_of_pos _ (by decide)
  refine q_asgN (n_lst (vs := []) a_nil (by show 0 ≤ 100000; decide)) (fun f0 hf0 => ?_)
  refine s_seq (s_range1 (n := more % 9) (a_cons (v_op (v_var rfl) v_c (r_mod (by decide))) a_nil) (by omega) (fun i σ' b' => ∃ (f : Addr) (ks : List Str) (v3 v4 : Option V), σ' = [some (.int more), some (.int many), some (.ref f), v3, v4] ∧ b' f = some (.lst (ks.map V.str)) ∧ Ex b b' ∧ b f = none ∧ (∀ w ∈ ks, w ∈ tapeKs) ∧ ks.length ≤ 9 * i) ⟨f0, [], _, _, rfl, upd_same, Ex.new hf0, hf0, (fun w hw => by cases hw), by decide⟩ ?_ ?_)
  · rintro i σ' b' hi ⟨f, ks, v3, v4, rfl, hf, eb, hn, hks, hlen⟩
    refine g_name (q_asgV (v_call (a_cons (v_var rfl) (a_cons (v_var rfl) a_nil)) s__law_drawn) ?_)
    generalize hz : drawnZ more (i : Int) = here
    have z0 : 0 ≤ here := by rw [← hz]; exact drawn_ge _ _
    have a0 : 0 ≤ here % 10 := Int.emod_nonneg _ (by decide)
    have a1 : here % 10 < 10 := Int.emod_lt_of_pos _ (by decide)
    have c0 : 0 ≤ here / 16 % 9 := Int.emod_nonneg _ (by decide)
    have c1 : here / 16 % 9 < 9 := Int.emod_lt_of_pos _ (by decide)
    have hw : atI (tapeKs.map V.str) (here % 10) = some (.str (tapeKs.getD (here % 10).toNat "")) := by
      have := str_at (ks := tapeKs) (i := (here % 10).toNat) (by show _ < 10; omega)
      rw [Int.toNat_of_nonneg a0] at this
      exact this
    have hmem : tapeKs.getD (here % 10).toNat "" ∈ tapeKs := List.mem_of_getElem? (getD_some (by show _ < 10; omega))
    refine s_asgC (c_op (Pe.c (v_var rfl) (c_op (Pn.c (n_lst (vs := [.str (tapeKs.getD (here % 10).toNat "")]) (a_cons (v_opN1 (n_lst (vs := [.str "r", .str "l", .str "jr", .str "lj", .str "", .str "j", .str "d", .str "lr", .str "ljrd", .str ""]) (by walk_at "v") (by show 10 ≤ 100000; decide)) (fun _ _ => v_op (v_var rfl) v_c (r_mod (by decide))) (fun p b1 _ hp => r_iL (sq_of hp) hw)) a_nil) (by show 1 ≤ 100000; decide)) fun q hq => Pe.c (v_op v_c (v_op (v_op (v_var rfl) v_c (r_fdiv ⟨by decide, by decide⟩)) v_c (r_mod (by decide))) r_add) (cr_rep upd_same (by omega) (by omega) (by show 1 * _ ≤ 100000; omega) fun q2 hq2 => ?_)))))
    have nq : f ≠ q := ne_of_none hf hq
    have e2 : Ex b' (upd (upd b' q (.lst [.str (tapeKs.getD (here % 10).toNat "")])) q2 (.lst (List.replicate (1 + here / 16 % 9).toNat [V.str (tapeKs.getD (here % 10).toNat "")]).flatten)) := (Ex.new hq).trans (Ex.new hq2)
    refine cr_cat (e2 _ _ hf) upd_same (by rw [List.length_map, rep_flat V.str, List.length_map, List.length_replicate]; omega) (fun q3 hq3 => ?_)
    refine ⟨q3, ks ++ List.replicate (1 + here / 16 % 9).toNat (tapeKs.getD (here % 10).toNat ""), _, _, rfl, ?_, eb.trans (e2.trans (Ex.new hq3)), ex_none (eb.trans e2) hq3, fun w hw2 => ?_, ?_⟩
    · rw [upd_same, List.map_append, rep_flat V.str]
    · rcases List.mem_append.mp hw2 with z | z
      · exact hks w z
      · rw [(List.mem_replicate.mp z).2]
        exact hmem
    · rw [List.length_append, List.length_replicate]
      omega
  · rintro σ' b' ⟨f, ks, v3, v4, rfl, hf, eb, hn, hks, hlen⟩
    refine s_ret (Pn.c (n_slL (v_var rfl) o_none (o_some (v_var rfl)) (sq_of hf)) fun p hp => ?_)
    have ec : cutV (ks.map V.str) none (some many) = (ks.take many.toNat).map V.str := by
      unfold cutV
      have e0 : HT.sIx (ks.map V.str).length 0 none = 0 := rfl
      rw [e0, List.drop_zero, Nat.sub_zero]
      have es : HT.sIx (ks.map V.str).length (ks.map V.str).length (some many) = min many.toNat ks.length := by
        unfold HT.sIx
        simp only [List.length_map]
        rw [if_neg (by omega)]
      rw [es, List.map_take]
      by_cases z : many.toNat ≤ ks.length
      · rw [Nat.min_eq_left z]
      · rw [Nat.min_eq_right (by omega), List.take_of_length_le (by rw [List.length_map]; exact Nat.le_refl _), List.take_of_length_le (by rw [List.length_map]; omega)]
    rw [ec]
    exact h1 (ks.take many.toNat) (fun w hw => hks w (List.take_subset _ _ hw)) (by rw [List.length_take]; omega) p _ (eb.trans (Ex.new hp)) (ex_none eb hp) upd_same
end

/-! ### frames -/
structure CF (K : PySem.W.Frag) : Prop where
  cl : Cls K (He.ga K "Frames")
  runner : NoAttr K (He.ga K "Frames") "runner"
  rest : NoAttr K (He.ga K "Frames") "rest"
def ff (ra : Addr) (r : Int) : List (Str × V) := [("runner", .ref ra), ("rest", .int r)]
theorem ff_runner (ra : Addr) (r : Int) : (ff ra r).lookup ("runner" : Str) = some (.ref ra) := by kernel_rfl
theorem ff_rest (ra : Addr) (r : Int) : (ff ra r).lookup ("rest" : Str) = some (.int r) := by kernel_rfl
theorem pff_rest (ra : Addr) (r i : Int) : putF "rest" (.int i) (ff ra r) = ff ra i := by kernel_rfl
theorem ff_go (ra : Addr) (r : Int) : (ff ra r).lookup ("go_by" : Str) = none := by kernel_rfl
theorem ff_left (ra : Addr) (r : Int) : (ff ra r).lookup ("left_over" : Str) = none := by kernel_rfl
def ticksM (W : Wd) (keys : Str) : Nat → Rs → Rs
  | 0, s => s
  | n + 1, s => tickM W (ticksM W keys n s) keys
theorem ticks_add (W : Wd) (keys : Str) (m : Nat) : ∀ (n : Nat) (s : Rs), ticksM W keys (m + n) s = ticksM W keys n (ticksM W keys m s)
  | 0, s => rfl
  | n + 1, s => by
    show tickM W (ticksM W keys (m + n) s) keys = tickM W (ticksM W keys n (ticksM W keys m s)) keys
    rw [ticks_add W keys m n s]
abbrev FreeRs (W : Wd) (s : Rs) : Prop := GoodRs s ∧ freeM W.rows W.w s.x s.y = true
theorem ticks_good (W : Wd) (keys : Str) : ∀ (n : Nat) (s : Rs), FreeRs W s → FreeRs W (ticksM W keys n s)
  | 0, _, h => h
  | n + 1, s, h => by
    have h1 := ticks_good W keys n s h
    have h2 := tick_good W (ticksM W keys n s) keys h1.1 h1.2
    exact ⟨h2.1, h2.2.1⟩
theorem keysIs_str {K : PySem.W.Frag} {b : Hp} {v : V} {r : Bool} (h : KeysIs K b v r) (hr : r = true) : ∃ w : Str, v = .str w ∧ w.cps.size < 100000 ∧ keysOk w = true := by
  cases h with
  | str w hz => exact ⟨w, rfl, hz, hr⟩
  | other => cases hr
theorem countIs_int {K : PySem.W.Frag} {b : Hp} {v : V} {lo hi : Int} {r : Bool} (h : CountIs K b lo hi v r) (hr : r = true) : ∃ n, v = .int n ∧ lo ≤ n ∧ n ≤ hi := by
  cases h with
  | int n =>
    simp only [Bool.and_eq_true, decide_eq_true_eq] at hr
    exact ⟨n, rfl, hr.1, hr.2⟩
  | other => cases hr
section
variable {K : PySem.W.Frag} {σ : L2.St} {b : Hp} {vs : List V} {k : VK} {ke : XB} {E : XK} {te to : TE} {ts : TA}
def sb_Frames___init__ (K : PySem.W.Frag) : Sb := fun vs b k _ => ∃ x dx ra, vs = [.ref x, .ref ra] ∧ CF K ∧ b x = some (.ins (He.ga K "Frames") dx []) ∧ k .non (upd b x (.ins (He.ga K "Frames") dx (ff ra 0)))
theorem len_Frames___init__ : ∀ vs b k ke, sb_Frames___init__ K vs b k ke → vs.length = (["self", "runner"] : List Str).length := fun _ _ _ _ ⟨_, _, _, e, _⟩ => e ▸ rfl
def sb_Frames_left_over (K : PySem.W.Frag) : Sb := fun vs b k _ => ∃ fa fdx ra r, vs = [.ref fa] ∧ CF K ∧ b fa = some (.ins (He.ga K "Frames") fdx (ff ra r)) ∧ k (.int r) b
theorem len_Frames_left_over : ∀ vs b k ke, sb_Frames_left_over K vs b k ke → vs.length = (["self"] : List Str).length := fun _ _ _ _ ⟨_, _, _, _, e, _⟩ => e ▸ rfl
def sb_Frames_go_by (K : PySem.W.Frag) : Sb := fun vs b k ke => ∃ fa fdx ra dx wa b0 W s r v kv r1, vs = [.ref fa, v, kv] ∧ CF K ∧ b fa = some (.ins (He.ga K "Frames") fdx (ff ra r)) ∧ CountIs K b 0 10000 v r1 ∧
  (r1 = false → ke (.ref (He.ga K "BadTime")) b) ∧ (r1 = true → ∃ r2, KeysIs K b kv r2 ∧ (r2 = false → ke (.ref (He.ga K "BadKeys")) b) ∧ (r2 = true → RA K b ra dx wa b0 W s ∧ FreeRs W s ∧ 0 ≤ r ∧ r < 20 ∧
    ∀ n keys, v = .int n → kv = .str keys → k (.int ((r + n) / 20)) (upd (rput K b ra dx wa (ticksM W keys ((r + n) / 20).toNat s)) fa (.ins (He.ga K "Frames") fdx (ff ra ((r + n) % 20))))))
theorem len_Frames_go_by : ∀ vs b k ke, sb_Frames_go_by K vs b k ke → vs.length = (["self", "time", "keys"] : List Str).length := fun _ _ _ _ ⟨_, _, _, _, _, _, _, _, _, _, _, _, e, _⟩ => e ▸ rfl
def sb__law_pieces (K : PySem.W.Frag) : Sb := fun vs b k _ => ∃ time more : Int, vs = [.int time, .int more] ∧ (0 ≤ time ∧ time ≤ 1000) ∧ 0 ≤ more ∧ ∀ ps : List Int, (∀ p ∈ ps, 0 ≤ p ∧ p ≤ 1000) → ps.sum = time → ps.length ≤ 41 → ∀ p b', Ex b b' → b p = none → b' p = some (.lst (ps.map V.int)) → k (.ref p) b'
theorem len__law_pieces : ∀ vs b k ke, sb__law_pieces K vs b k ke → vs.length = (["time", "more"] : List Str).length := fun _ _ _ _ ⟨_, _, e, _⟩ => e ▸ rfl
end
def t_Frames___init__ (K : PySem.W.Frag) (E : XK) : TS := (tSeq (sFld K (tVar 0) (tVar 1) "runner") (sFld K (tVar 0) (tC (.int 0)) "rest"))
def t_Frames_left_over (K : PySem.W.Frag) (E : XK) : TS := (tRet (tFld K (tVar 0) "rest"))
def t_Frames_go_by (K : PySem.W.Frag) (E : XK) : TS := (tSeq (tIfS (tNot (tB (tCall (up (sb_is_count K)) [] E (tCons (tVar 1) (tCons (tC (.int 0)) (tCons (tC (.int 10000)) tNil)))))) (tRaise (.ref (He.ga K "BadTime")) E) tNext) (tSeq (tDrop (tCall (up (sb_need_keys K)) [] E (tCons (tVar 2) tNil))) (tSeq (tAsg (tOp (rAddU K) (tFld K (tVar 0) "rest") (tVar 1)) (gName 3)) (tSeq (tFor (iRng1 (tCons (tOp rFdivU (tVar 3) (tC (.int 20))) tNil)) (gName 4) (tDrop (tMeth (He.ga K "Runner") "tick" (up (sb_Runner_tick K)) [] E (tFld K (tVar 0) "runner") (tCons (tVar 2) tNil)))) (tSeq (sFld K (tVar 0) (tOp rModI (tVar 3) (tC (.int 20))) "rest") (tRet (tOp rFdivU (tVar 3) (tC (.int 20)))))))))
def t__law_pieces (K : PySem.W.Frag) (E : XK) : TS := (tSeq (tPar 2 3 (tCons (tLst tNil) (tCons (tC (.int 0)) tNil))) (tSeq (tWhile (tAnd (tTest (tOp rGtI (tVar 0) (tC (.int 0)))) (tTest (tOp rLtI (tVar 3) (tC (.int 40))))) (tSeq (tAsg (tCB rMin2 (tCons (tVar 0) (tCons (tOp rModI (tCall (up (sb__law_drawn K)) [] E (tCons (tVar 1) (tCons (tVar 3) tNil))) (tOp (rIx K) (tLst (tCons (tC (.int 5)) (tCons (tC (.int 30)) (tCons (tC (.int 120)) tNil)))) (tOp rModI (tVar 1) (tC (.int 3))))) tNil))) (gName 4)) (tSeq (tDrop (tBM K "list" rAppend (tVar 2) (tCons (tVar 4) tNil))) (tPar 0 3 (tCons (tOp rSubU (tVar 0) (tVar 4)) (tCons (tOp (rAddU K) (tVar 3) (tC (.int 1))) tNil)))))) (tRet (tOp (rAddU K) (tVar 2) (tLst (tCons (tVar 0) tNil))))))
section
variable {K : PySem.W.Frag} {σ : L2.St} {b : Hp} {vs : List V} {k : VK} {ke : XB} {E : XK} {te to : TE} {ts : TA}
theorem p_Frames___init__ (h : sb_Frames___init__ K vs b k ke) (hE : ∀ c b' H', ke c b' → Ex b' H' → E c none H') : Cs (t_Frames___init__ K E) { nx := fun _ b' => k .non b', rt := k } (start ["self", "runner"] vs) b := by
  obtain ⟨x, dx, ra, rfl, cf, hx, hk⟩ := h
  refine q_fldV (v_var rfl) (v_var rfl) hx cf.cl cf.runner (by show 0 < 1000; decide) ?_
  refine s_fldV v_c (v_var rfl) upd_same cf.cl cf.rest (by show 1 < 1000; decide) ?_
  rw [upd_upd]
  have e : putF "rest" (V.int 0) (putF "runner" (V.ref ra) []) = ff ra 0 := by kernel_rfl
  rw [e]
  exact hk
theorem p_Frames_left_over (h : sb_Frames_left_over K vs b k ke) (hE : ∀ c b' H', ke c b' → Ex b' H' → E c none H') : Cs (t_Frames_left_over K E) { nx := fun _ b' => k .non b', rt := k } (start ["self"] vs) b := by
  obtain ⟨fa, fdx, ra, r, rfl, cf, hf, hk⟩ := h
  exact s_retV (v_fld (v_var rfl) hf cf.cl cf.rest (ff_rest ra r)) hk
theorem ins_ne {x y : Addr} {C C' dx dx' : Addr} {fs fs' : List (Str × V)} (h1 : b x = some (.ins C dx fs)) (h2 : b y = some (.ins C' dx' fs')) (hl : fs.length ≠ fs'.length) : x ≠ y := fun z => by
  rw [z, h2] at h1
  cases h1
  exact hl rfl
theorem p_Frames_go_by (h : sb_Frames_go_by K vs b k ke) (hE : ∀ c b' H', ke c b' → Ex b' H' → E c none H') : Cs (t_Frames_go_by K E) { nx := fun _ b' => k .non b', rt := k } (start ["self", "time", "keys", "whole", "tick"] vs) b := by
  obtain ⟨fa, fdx, ra, dx, wa, b0, W, s, r, v, kv, r1, rfl, cf, hf, hc, h1, h2⟩ := h
  cases r1 with
  | false => exact q_when (c := true) (t_is (t_not (t_B (v_call (a_cons (v_var rfl) (a_cons v_c (a_cons v_c a_nil))) (s_count hc)))) rfl) (fun _ => s_raise hE (h1 rfl)) (fun z => by cases z)
  | true =>
  obtain ⟨r2, hkv, h3, h4⟩ := h2 rfl
  refine q_when (c := false) (t_is (t_not (t_B (v_call (a_cons (v_var rfl) (a_cons v_c (a_cons v_c a_nil))) (s_count hc)))) rfl) (fun z => by cases z) (fun _ => ?_)
  cases r2 with
  | false => exact q_drop (c_call hE (Pa.c (a_cons (v_var rfl) a_nil) ⟨kv, false, rfl, hkv, (fun z => by cases z), h3⟩))
  | true =>
  obtain ⟨hR, hg, hr0, hr1, hk⟩ := h4 rfl
  obtain ⟨n, rfl, hn0, hn1⟩ := countIs_int hc rfl
  obtain ⟨keys, rfl, hz, hok⟩ := keysIs_str hkv rfl
  have q0 : 0 ≤ (r + n) / 20 := by omega
  have q1 : (r + n) / 20 < 1000 := by omega
  refine q_drop (c_call hE (Pa.c (a_cons (v_var rfl) a_nil) ⟨_, true, rfl, hkv, fun _ => ?_, (fun z => by cases z)⟩))
  refine q_asgV (v_op (v_fld (v_var rfl) hf cf.cl cf.rest (ff_rest ra r)) (v_var rfl) r_add) ?_
  have hne : fa ≠ ra := ins_ne hf hR.ins (by show 2 ≠ 7; decide)
  refine s_seq (s_range1 (n := (r + n) / 20) (a_cons (v_op (v_var rfl) v_c (r_fdiv ⟨by decide, by decide⟩)) a_nil) (by omega) (fun i σ' b' => b' = rput K b ra dx wa (ticksM W keys i s) ∧ ∃ v4 : Option V, σ' = [some (.ref fa), some (.int n), some (.str keys), some (.int (r + n)), v4]) ⟨(rput_self hR).symm, _, rfl⟩ ?_ ?_)
  · rintro i σ' b' hi ⟨rfl, v4, rfl⟩
    have hRi := hR.put (ticksM W keys i s)
    have hfi : rput K b ra dx wa (ticksM W keys i s) fa = some (.ins (He.ga K "Frames") fdx (ff ra r)) := by
      unfold rput
      rw [upd_ne hne]
      exact hf
    refine g_name (s_drop (c_tick hRi (ticks_good W keys i s hg).1 (v_fld (v_var rfl) hfi cf.cl cf.runner (ff_runner ra r)) (a_cons (v_var rfl) a_nil) hz hok ?_))
    exact ⟨rput_rput, _, rfl⟩
  · rintro σ' b' ⟨rfl, v4, rfl⟩
    have hfi : rput K b ra dx wa (ticksM W keys ((r + n) / 20).toNat s) fa = some (.ins (He.ga K "Frames") fdx (ff ra r)) := by
      unfold rput
      rw [upd_ne hne]
      exact hf
    refine q_fldV (v_op (v_var rfl) v_c (r_mod (by decide))) (v_var rfl) hfi cf.cl cf.rest (by show 2 < 1000; decide) ?_
    rw [pff_rest]
    exact s_retV (v_op (v_var rfl) v_c (r_fdiv ⟨by decide, by decide⟩)) (hk n keys rfl rfl)
theorem p__law_pieces (h : sb__law_pieces K vs b k ke) (hE : ∀ c b' H', ke c b' → Ex b' H' → E c none H') : Cs (t__law_pieces K E) { nx := fun _ b' => k .non b', rt := k } (start ["time", "more", "found", "turn", "piece"] vs) b := by
  obtain ⟨time, more, rfl, ht, hm, hk⟩ := h
  refine q_parC (ca_cons (Pn.c (n_lst (vs := []) a_nil (by show 0 ≤ 100000; decide)) fun f hf => ca_consP v_c (ca_nil ⟨_, _, rfl, ?_⟩)))
  have c0 : 0 ≤ more % 3 := Int.emod_nonneg _ (by decide)
  have c1 : more % 3 < 3 := Int.emod_lt_of_pos _ (by decide)
  refine s_seq (s_while (fun m σ' b' => ∃ (t : Int) (u : Nat) (ps : List Int) (v4 : Option V), σ' = [some (.int t), some (.int more), some (.ref f), some (.int (u : Int)), v4] ∧ b' f = some (.lst (ps.map V.int)) ∧ Ex b b' ∧ ps.length = u ∧ u ≤ 40 ∧ m = 40 - u ∧ 0 ≤ t ∧ t ≤ 1000 ∧ ps.sum + t = time ∧ ∀ p ∈ ps, 0 ≤ p ∧ p ≤ 1000) 40 ⟨time, 0, [], none, rfl, upd_same, Ex.new hf, rfl, by decide, rfl, ht.1, ht.2, by simp, fun p hp => by cases hp⟩ ?_)
  rintro m σ' b' ⟨t, u, ps, v4, rfl, hfb, eb, hl, hu, rfl, t0, t1, hsum, hps⟩
  refine Pt.c (t_and (t_test (v_op (v_var rfl) v_c r_gt)) (fun _ => t_test (v_op (v_var rfl) v_c r_lt))) ?_
  cases hc : (decide (0 < t) && decide ((u : Int) < 40)) with
  | true =>
    simp only [Bool.and_eq_true, decide_eq_true_eq] at hc
    rw [if_pos rfl]
    have hmem : atI [V.int 5, V.int 30, V.int 120] (more % 3) = some (.int (if more % 3 = 0 then 5 else if more % 3 = 1 then 30 else 120)) := by
      have : more % 3 = 0 ∨ more % 3 = 1 ∨ more % 3 = 2 := by omega
      rcases this with z | z | z <;> rw [z] <;> rfl
    have hpos : 0 < (if more % 3 = 0 then (5 : Int) else if more % 3 = 1 then 30 else 120) := by
      split
      · decide
      · split <;> decide
    refine q_asgV (v_cb (a_cons (v_var rfl) (a_cons (v_op (v_call (a_cons (v_var rfl) (a_cons (v_var rfl) a_nil)) s__law_drawn) (v_opN1 (n_lst (vs := [.int 5, .int 30, .int 120]) (by walk_at "v") (by show 3 ≤ 100000; decide)) (fun _ _ => v_op (v_var rfl) v_c (r_mod (by decide))) (fun p b1 _ hp => r_iL (sq_of hp) hmem)) (r_mod hpos)) a_nil)) p_min2) ?_
    generalize hq : drawnZ more (u : Int) % (if more % 3 = 0 then (5 : Int) else if more % 3 = 1 then 30 else 120) = q
    have hq0 : 0 ≤ q := by rw [← hq]; exact Int.emod_nonneg _ (by omega)
    generalize hp : (if q < t then q else t) = piece
    have p0 : 0 ≤ piece ∧ piece ≤ t := by
      rw [← hp]
      split <;> omega
    refine q_drop (c_append (v_var rfl) (v_var rfl) hfb (by rw [List.length_map]; omega) ?_)
    refine s_par (a_cons (v_op (v_var rfl) (v_var rfl) r_sub) (a_cons (v_is (v_op (v_var rfl) v_c r_add) (show V.int ((u : Int) + 1) = V.int ((u + 1 : Nat) : Int) by simp)) a_nil)) ⟨40 - (u + 1), by omega, t - piece, u + 1, ps ++ [piece], _, rfl, by rw [upd_same, List.map_append]; rfl, Ex.mut eb hf, by rw [List.length_append, hl]; rfl, by omega, rfl, by omega, by omega, by rw [List.sum_append]; simp; omega, fun p hp2 => ?_⟩
    rcases List.mem_append.mp hp2 with z | z
    · exact hps p z
    · rw [List.mem_singleton.mp z]
      omega
  | false =>
    rw [if_neg (by decide)]
    refine s_ret (c_op (Pe.c (v_var rfl) (Pn.c (n_lst (vs := [.int t]) (a_cons (v_var rfl) a_nil) (by show 1 ≤ 100000; decide)) fun q hq => cr_cat (by rw [upd_ne (ne_of_none hfb hq)]; exact hfb) upd_same (by rw [List.length_map]; show _ + 1 ≤ 100000; omega) fun q2 hq2 => ?_)))
    have e2 : Ex b' (upd (upd b' q (.lst [.int t])) q2 (.lst (ps.map V.int ++ [.int t]))) := (Ex.new hq).trans (Ex.new hq2)
    refine hk (ps ++ [t]) (fun p hp => ?_) (by rw [List.sum_append]; simp; omega) (by rw [List.length_append, hl]; show u + 1 ≤ 41; omega) q2 _ (eb.trans e2) (ex_none (eb.trans (Ex.new hq)) hq2) (by rw [upd_same, List.map_append]; rfl)
    rcases List.mem_append.mp hp with z | z
    · exact hps p z
    · rw [List.mem_singleton.mp z]
      omega
end

/-! ### the word of a refusal (eight classes) -/
open Hx
def t__law_word (K : PySem.W.Frag) (D a : Addr) : TS := (tSeq (tAsg (tLst (tCons (tCB (rIsE K D a) (tCons (tVar 0) (tCons (tC (.ref (He.ga K "BadKeys"))) tNil))) (tCons (tCB (rIsE K D a) (tCons (tVar 0) (tCons (tC (.ref (He.ga K "BadLift"))) tNil))) (tCons (tCB (rIsE K D a) (tCons (tVar 0) (tCons (tC (.ref (He.ga K "BadMap"))) tNil))) (tCons (tCB (rIsE K D a) (tCons (tVar 0) (tCons (tC (.ref (He.ga K "BadPlace"))) tNil))) tNil))))) (gName 1)) (tSeq (tAsg (tOp (rAddU K) (tVar 1) (tLst (tCons (tCB (rIsE K D a) (tCons (tVar 0) (tCons (tC (.ref (He.ga K "BadText"))) tNil))) (tCons (tCB (rIsE K D a) (tCons (tVar 0) (tCons (tC (.ref (He.ga K "BadTime"))) tNil))) (tCons (tCB (rIsE K D a) (tCons (tVar 0) (tCons (tC (.ref (He.ga K "BadCourse"))) tNil))) (tCons (tCB (rIsE K D a) (tCons (tVar 0) (tCons (tC (.ref (He.ga K "Nothing"))) tNil))) tNil)))))) (gName 1)) (tSeq (tIfS (tOr (tTest (tOp (rNeU K) (tCB (rSum K) (tCons (Hx.tFlags K (tVar 1)) tNil)) (tC (.int 1)))) (tNot (tB (tCB (rIsE K D a) (tCons (tVar 0) (tCons (tC (.ty "ValueError")) tNil)))))) (tRet (tTup (tCons (tC (.str "refused")) (tCons (tC (.str "other")) tNil)))) tNext) (tSeq (tAsg (tLst (tCons (tC (.str "BadKeys")) (tCons (tC (.str "BadLift")) (tCons (tC (.str "BadMap")) (tCons (tC (.str "BadPlace")) (tCons (tC (.str "BadText")) (tCons (tC (.str "BadTime")) (tCons (tC (.str "BadCourse")) (tCons (tC (.str "Nothing")) tNil))))))))) (gName 2)) (tRet (tTup (tCons (tC (.str "refused")) (tCons (tOp (rIx K) (tVar 2) (tBM K "list" (rIndex K) (tVar 1) (tCons (tC (.bl true)) tNil))) tNil))))))))
abbrev nW : Nat := 8
def words6 : List Str := ["BadKeys", "BadLift", "BadMap", "BadPlace", "BadText", "BadTime", "BadCourse", "Nothing"]
structure WF (K : PySem.W.Frag) (D : Addr) (i : Nat) : Prop where
  hi : i < nW
  is_ : ∀ j, j < nW → PySem.W.kitOne K (.ref D) (.ref (He.ga K (words6.getD j ""))) = some (decide (j = i))
  ve : PySem.W.kitOne K (.ref D) (.type "ValueError") = some true
  ex : ExcC K D
def wordEnds (b : Hp) (w : Str) : Ends := { nx := fun _ _ => False, rt := fun v b2 => ∃ q, v = .ref q ∧ Ex b b2 ∧ b q = none ∧ b2 q = some (.tup (refV w)) }
section
variable {K : PySem.W.Frag} {b : Hp}
theorem p__law_word {D a : Addr} {i : Nat} (F : WF K D i) : Cs (t__law_word K D a) (wordEnds b (words6.getD i "")) (start ["e", "flags", "words", "flag"] [.ref a]) b := by
  have f0 := F.is_ 0 (by decide)
  have f1 := F.is_ 1 (by decide)
  have f2 := F.is_ 2 (by decide)
  have f3 := F.is_ 3 (by decide)
  have f4 := F.is_ 4 (by decide)
  have f5 := F.is_ 5 (by decide)
  have f6 := F.is_ 6 (by decide)
  have f7 := F.is_ 7 (by decide)
  have hi : i < 8 := F.hi
  refine q_asgN (n_lst (vs := [.bl (decide (0 = i)), .bl (decide (1 = i)), .bl (decide (2 = i)), .bl (decide (3 = i))]) (a_cons (v_cb (a_cons (v_var rfl) (a_cons v_c a_nil)) (p_isE f0)) (a_cons (v_cb (a_cons (v_var rfl) (a_cons v_c a_nil)) (p_isE f1)) (a_cons (v_cb (a_cons (v_var rfl) (a_cons v_c a_nil)) (p_isE f2)) (a_cons (v_cb (a_cons (v_var rfl) (a_cons v_c a_nil)) (p_isE f3)) a_nil)))) (by show 4 ≤ 100000; decide)) (fun p hp => ?_)
  refine q_asgC (c_op (Pe.c (v_var rfl) (Pn.c (n_lst (vs := [.bl (decide (4 = i)), .bl (decide (5 = i)), .bl (decide (6 = i)), .bl (decide (7 = i))]) (a_cons (v_cb (a_cons (v_var rfl) (a_cons v_c a_nil)) (p_isE f4)) (a_cons (v_cb (a_cons (v_var rfl) (a_cons v_c a_nil)) (p_isE f5)) (a_cons (v_cb (a_cons (v_var rfl) (a_cons v_c a_nil)) (p_isE f6)) (a_cons (v_cb (a_cons (v_var rfl) (a_cons v_c a_nil)) (p_isE f7)) a_nil)))) (by show 4 ≤ 100000; decide)) (fun r hr => cr_cat (Ex.new hr _ _ upd_same) upd_same (by show 4 + 4 ≤ 100000; decide) (fun f hf => ?_)))))
  have e0 : Ex b (upd (upd (upd b p (.lst [.bl (decide (0 = i)), .bl (decide (1 = i)), .bl (decide (2 = i)), .bl (decide (3 = i))])) r (.lst [.bl (decide (4 = i)), .bl (decide (5 = i)), .bl (decide (6 = i)), .bl (decide (7 = i))])) f (.lst ([.bl (decide (0 = i)), .bl (decide (1 = i)), .bl (decide (2 = i)), .bl (decide (3 = i))] ++ [.bl (decide (4 = i)), .bl (decide (5 = i)), .bl (decide (6 = i)), .bl (decide (7 = i))]))) := ((Ex.new hp).trans (Ex.new hr)).trans (Ex.new hf)
  have hx : SqL K (upd (upd (upd b p (.lst [.bl (decide (0 = i)), .bl (decide (1 = i)), .bl (decide (2 = i)), .bl (decide (3 = i))])) r (.lst [.bl (decide (4 = i)), .bl (decide (5 = i)), .bl (decide (6 = i)), .bl (decide (7 = i))])) f (.lst ([.bl (decide (0 = i)), .bl (decide (1 = i)), .bl (decide (2 = i)), .bl (decide (3 = i))] ++ [.bl (decide (4 = i)), .bl (decide (5 = i)), .bl (decide (6 = i)), .bl (decide (7 = i))]))) f (([0, 1, 2, 3, 4, 5, 6, 7].map fun j => decide (j = i)).map V.bl) := sq_of upd_same
  generalize (upd (upd (upd b p (.lst [.bl (decide (0 = i)), .bl (decide (1 = i)), .bl (decide (2 = i)), .bl (decide (3 = i))])) r (.lst [.bl (decide (4 = i)), .bl (decide (5 = i)), .bl (decide (6 = i)), .bl (decide (7 = i))])) f (.lst ([.bl (decide (0 = i)), .bl (decide (1 = i)), .bl (decide (2 = i)), .bl (decide (3 = i))] ++ [.bl (decide (4 = i)), .bl (decide (5 = i)), .bl (decide (6 = i)), .bl (decide (7 = i))]))) = b2 at e0 hx
  have cs : i = 0 ∨ i = 1 ∨ i = 2 ∨ i = 3 ∨ i = 4 ∨ i = 5 ∨ i = 6 ∨ i = 7 := by omega
  have hs : (([0, 1, 2, 3, 4, 5, 6, 7].map fun j => decide (j = i)).map fun c : Bool => (if c then (1 : Int) else 0)).sum = 1 := by
    rcases cs with z | z | z | z | z | z | z | z <;> subst z <;> rfl
  have hj : ([0, 1, 2, 3, 4, 5, 6, 7].map fun j => decide (j = i))[i]? = some true := by
    rcases cs with z | z | z | z | z | z | z | z <;> subst z <;> rfl
  have hn : ∀ m, m < i → ([0, 1, 2, 3, 4, 5, 6, 7].map fun j => decide (j = i))[m]? = some false := by
    intro m hm
    have hm8 : m < 8 := by omega
    rw [List.getElem?_map]
    have e : [0, 1, 2, 3, 4, 5, 6, 7][m]? = some m := by
      have h2 : m = 0 ∨ m = 1 ∨ m = 2 ∨ m = 3 ∨ m = 4 ∨ m = 5 ∨ m = 6 := by omega
      rcases h2 with y | y | y | y | y | y | y <;> subst y <;> rfl
    rw [e]
    show some (decide (m = i)) = some false
    rw [decide_eq_false (by omega)]
  refine q_when (c := false) (t_is (t_or (t_test (v_op (v_sumN (ns := ([0, 1, 2, 3, 4, 5, 6, 7].map fun j => decide (j = i)).map fun c : Bool => (if c then (1 : Int) else 0)) (n_flags (v_var rfl) hx) (by rw [List.map_map, List.map_map]; rfl)) v_c r_neI)) (fun _ => t_not (t_B (v_cb (a_cons (v_var rfl) (a_cons v_c a_nil)) (p_isET F.ve))))) (by rw [hs]; rfl)) (fun z => by cases z) (fun _ => ?_)
  refine q_asgN (n_lst (vs := words6.map V.str) (a_cons v_c (a_cons v_c (a_cons v_c (a_cons v_c (a_cons v_c (a_cons v_c (a_cons v_c (a_cons v_c a_nil)))))))) (by show 8 ≤ 100000; decide)) (fun wl hwl => ?_)
  have hw : SqL K (upd b2 wl (.lst (words6.map V.str))) wl (words6.map V.str) := sq_of upd_same
  refine s_ret (Pn.c (n_tup (vs := refV (words6.getD i "")) (a_cons v_c (a_cons (v_op (v_var rfl) (v_index (v_var rfl) (ex_l (Ex.new hwl) hx) hj hn) (r_iL hw ?_)) a_nil)) (by show 2 ≤ 100000; decide)) (fun q hq => ⟨q, rfl, e0.trans ((Ex.new hwl).trans (Ex.new hq)), ex_none (e0.trans (Ex.new hwl)) hq, upd_same⟩))
  rw [at_getD (words6.map V.str) (V.str "") (by omega) (by rw [List.length_map]; show _ < ((8 : Nat) : Int); omega), List.getD_eq_getElem?_getD, List.getElem?_map, Int.toNat_natCast, List.getD_eq_getElem?_getD]
  cases words6[i]? <;> rfl
end
/-! ### what is computed of the classes -/
def excB (K : PySem.W.Frag) (D : Addr) : Bool :=
  decide (PySem.W.findIn K (.ref D) "__getattribute__" = some (some (.builtin "BaseException.__getattribute__"))) && (decide (PySem.W.findIn K (.ref D) "__getattr__" = some none) && (decide (PySem.W.subIn K (.ref D) (.type "BaseException") = some true) && (PySem.W.hasDictIn K D && (decide (PySem.W.findIn K (.ref D) "__class__" = some (some (.builtin "object.__class__"))) && (decide (PySem.W.specialIn K (.builtin "object.__class__") "__get__" = some (some (.builtin "getset_descriptor.__get__"))) && (decide (PySem.W.takesIn K (.builtin "object.__class__") = some true) && decide (PySem.W.mroIn K D (.type "object") = some true)))))))
theorem excB_ok {K : PySem.W.Frag} {D : Addr} (h : excB K D = true) : ExcC K D := by
  unfold excB at h
  simp only [Bool.and_eq_true, decide_eq_true_eq] at h
  obtain ⟨h1, h2, h3, h4, h5, h6, h7, h8⟩ := h
  exact ⟨h1, h2, h3, h4, h5, h6, h7, h8⟩
def exB (K : PySem.W.Frag) : Bool := !decide ((He.cT K ("law", none)).2 = (He.cT K ("_law_trails_bad", none)).2) && (List.range nW).all fun i => ((List.range nW).all fun j => decide (PySem.W.kitOne K (.ref (He.ga K (words6.getD i ""))) (.ref (He.ga K (words6.getD j ""))) = some (decide (j = i)))) && (decide (PySem.W.kitOne K (.ref (He.ga K (words6.getD i ""))) (.type "ValueError") = some true) && (excB K (He.ga K (words6.getD i "")) && (decide (PySem.W.exmOne K (.ref (He.ga K (words6.getD i ""))) (.ref (He.ga K "RunError")) = some true) && decide (PySem.W.exmOne K (.ref (He.ga K (words6.getD i ""))) (.ref (He.ga K (words6.getD i ""))) = some true))))
/-- the six classes -/
structure FX (K : PySem.W.Frag) : Prop where
  w : ∀ i, i < nW → WF K (He.ga K (words6.getD i "")) i
  m : ∀ i, i < nW → PySem.W.exmOne K (.ref (He.ga K (words6.getD i ""))) (.ref (He.ga K "RunError")) = some true
  s : ∀ i, i < nW → PySem.W.exmOne K (.ref (He.ga K (words6.getD i ""))) (.ref (He.ga K (words6.getD i ""))) = some true
theorem fx_of {K : PySem.W.Frag} (h : exB K = true) : FX K := by
  unfold exB at h
  have h := (Bool.and_eq_true_iff.mp h).2
  rw [List.all_eq_true] at h
  have key : ∀ i, i < nW → _ := fun i hi => h i (List.mem_range.mpr hi)
  simp only [Bool.and_eq_true, decide_eq_true_eq, List.all_eq_true, List.mem_range] at key
  exact ⟨fun i hi => ⟨hi, (key i hi).1, (key i hi).2.1, excB_ok (key i hi).2.2.1⟩, fun i hi => (key i hi).2.2.2.1, fun i hi => (key i hi).2.2.2.2⟩
def WokN (K : PySem.W.Frag) (D : Addr) (w : Str) : Prop := ∃ i, WF K D i ∧ w = words6.getD i ""
section
variable {K : PySem.W.Frag} {b2 H2 : Hp} {k : VK} {E : XK}
/-- a refusal by the class of the number i: the word is told -/
theorem told_ref {CS : Addr} (F : FX K) (hE : ∀ D w b2 H2, WokN K D w → PySem.W.exmOne K (.ref D) (.ref (He.ga K "RunError")) = some true → (∀ q b3, Ex b2 b3 → b2 q = none → b3 q = some (.tup (refV w)) → k (.ref q) b3) → Ex b2 H2 → E (.ref D) none H2) (i : Nat) (hi : i < nW)
    (hk : ∀ q b3, Ex b2 b3 → b2 q = none → b3 q = some (.tup (refV (words6.getD i ""))) → k (.ref q) b3) (e : Ex b2 H2) : E (.ref (He.ga K (words6.getD i ""))) none H2 :=
  hE _ _ b2 H2 ⟨i, F.w i hi, rfl⟩ (F.m i hi) hk e
end
/-! ### the tables of the lambdas -/
abbrev TL (K : PySem.W.Frag) : List (Addr × Str) := [((He.cT K ("law", none)).2, (("law" : Str) ++ ".<locals>.") ++ "<lambda>"), ((He.cT K ("_law_trails_bad", none)).2, (("_law_trails_bad" : Str) ++ ".<locals>.") ++ "<lambda>")]
def TLok (K : PySem.W.Frag) : Prop := (He.cT K ("law", none)).2 ≠ (He.cT K ("_law_trails_bad", none)).2
theorem tlok_of {K : PySem.W.Frag} (h : exB K = true) : TLok K := by
  unfold exB at h
  have h := (Bool.and_eq_true_iff.mp h).1
  simp only [Bool.not_eq_true', decide_eq_false_iff_not] at h
  exact h
theorem tl_mem_law (K : PySem.W.Frag) : ((He.cT K ("law", none)).2, (("law" : Str) ++ ".<locals>.") ++ "<lambda>") ∈ TL K := List.mem_cons_self ..
theorem tl_mem__law_trails_bad (K : PySem.W.Frag) : ((He.cT K ("_law_trails_bad", none)).2, (("_law_trails_bad" : Str) ++ ".<locals>.") ++ "<lambda>") ∈ TL K := List.mem_cons_of_mem _ (List.mem_cons_self ..)
theorem tl_one_law (K : PySem.W.Frag) (hN : TLok K) : ∀ p ∈ TL K, p.1 = (He.cT K ("law", none)).2 → p.2 = (("law" : Str) ++ ".<locals>.") ++ "<lambda>" := fun p hp e => by
  rcases List.mem_cons.mp hp with z | z
  · rw [z]
  · rw [List.mem_singleton.mp z] at e
    exact absurd e.symm hN
theorem tl_one__law_trails_bad (K : PySem.W.Frag) (hN : TLok K) : ∀ p ∈ TL K, p.1 = (He.cT K ("_law_trails_bad", none)).2 → p.2 = (("_law_trails_bad" : Str) ++ ".<locals>.") ++ "<lambda>" := fun p hp e => by
  rcases List.mem_cons.mp hp with z | z
  · rw [z] at e
    exact absurd e hN
  · rw [List.mem_singleton.mp z]
theorem tl_start {K : PySem.W.Frag} {H : Hp} (h2 : H (He.cT K ("_law_trails_bad", none)).2 = some (.tbl #[])) (h1 : H (He.cT K ("law", none)).2 = some (.tbl #[])) : LamX.Tabs (TL K) H := fun p hp => by
  rcases List.mem_cons.mp hp with z | z
  · rw [z]
    exact LamX.TabS.nil h1
  · rw [List.mem_singleton.mp z]
    exact LamX.TabS.nil h2

/-! ### data made on the way; steps that only tables see -/
open Hx LamX
def tyN : PyData → String
  | .none => "NoneType"
  | .bool _ => "bool"
  | .int _ => "int"
  | .str _ => "str"
  | .list _ => "list"
  | .tuple _ => "tuple"
  | .dict _ => "dict"
section
variable {K : PySem.W.Frag} {T : List (Addr × Str)} {σ : L2.St} {b b' b1 b2 H : Hp} {ta tb te tx : TE} {t u : TT} {x y z v : V} {r : R2} {k : VK} {D : Ends} {tu tw tz : TS} {g : TG} {ks : SK} {E : XK} {ke : XB} {d e : PyData} {ds es : List PyData} {xs vs : List V}
theorem dp_ty (h : Dp K b v d) : ∀ H, Ex b H → TyX K H v (.type (tyN d)) := fun H a => by
  cases h with
  | non => exact .base .non
  | bl c => exact .base (.bl c)
  | int i => exact .base (.int i)
  | str s => exact .base (.str s)
  | lst h1 h2 => exact sql_ty (ex_l a h1)
  | tup h1 h2 => exact sqt_ty (ex_t a h1)
theorem noT_t {a : Addr} (h : SqT K H a xs) : SqT K (noT H) a xs := by
  rcases h with (h | ⟨o, h⟩) | h
  · exact .inl (.inl (noT_at h (fun _ z => by cases z)))
  · exact .inl (.inr ⟨o, noT_at h (fun _ z => by cases z)⟩)
  · exact .inr h
mutual
theorem dp_noT : ∀ {v : V} {d : PyData}, Dp K b v d → Dp K (noT b) v d
  | _, _, .non => .non
  | _, _, .bl c => .bl c
  | _, _, .int i => .int i
  | _, _, .str s => .str s
  | _, _, .lst h1 h2 => .lst (noT_l h1) (dpa_noT h2)
  | _, _, .tup h1 h2 => .tup (noT_t h1) (dpa_noT h2)
theorem dpa_noT : ∀ {vs : List V} {ds : List PyData}, DpAll K b vs ds → DpAll K (noT b) vs ds
  | _, _, .nil => .nil
  | _, _, .cons h1 h2 => .cons (dp_noT h1) (dpa_noT h2)
end
/-! steps -/
structure Sp1 (T : List (Addr × Str)) (b b' : Hp) : Prop where
  ex : Ex (noT b) b'
  tb : Tabs T b'
theorem Sp1.of (e : Ex b b') (t : Tabs T b) : Sp1 T b b' := ⟨(noT_ex b).trans e, t.ext e⟩
theorem Sp1.rfl' (t : Tabs T b) : Sp1 T b b := .of (Ex.refl b) t
theorem noT_mono (e : Ex (noT b) b') : Ex (noT b) (noT b') := fun a o h => noT_at (e a o h) (fun ps z => noT_nt b a ps (z ▸ h))
theorem Sp1.trans (s : Sp1 T b b1) (s2 : Sp1 T b1 b2) : Sp1 T b b2 := ⟨(noT_mono s.ex).trans s2.ex, s2.tb⟩
theorem Sp1.on (s : Sp1 T b b1) (e : Ex b1 b2) : Sp1 T b b2 := ⟨s.ex.trans e, s.tb.ext e⟩
theorem Sp1.mut {l : Addr} {ys : List V} (s : Sp1 T b b1) (hl : noT b l = none) (h1 : b1 l = some (.lst xs)) : Sp1 T b (upd b1 l (.lst ys)) :=
  ⟨Ex.mut s.ex hl, Tabs.put s.tb h1 (fun _ z => by cases z) (fun c q z => by unfold CodeO at z; cases z)⟩
theorem Sp1.fresh {p : Addr} (s : Sp1 T b b1) (hp : b1 p = none) : noT b p = none := ex_none s.ex hp
theorem Sp1.dp (s : Sp1 T b b') (h : Dp K b v d) : Dp K b' v d := dp_ex s.ex (dp_noT h)
theorem Sp1.dpa (s : Sp1 T b b') (h : DpAll K b vs ds) : DpAll K b' vs ds := dpa_ex s.ex (dpa_noT h)
theorem Sp1.ls {a : Addr} (s : Sp1 T b b') (h : SqL K b a xs) : SqL K b' a xs := ex_l s.ex (noT_l h)
theorem Sp1.tp {a : Addr} (s : Sp1 T b b') (h : SqT K b a xs) : SqT K b' a xs := ex_t s.ex (noT_t h)
theorem Sp1.lst {a : Addr} (s : Sp1 T b b') (h : b a = some (.lst xs)) : b' a = some (.lst xs) := s.ex _ _ (noT_at h (fun _ z => by cases z))
theorem Sp1.none {a : Addr} {o : HO} (h : b a = none) : noT b a = none := by unfold noT; rw [h]
theorem wat_noT {wa : Addr} {W : Wd} (h : WAt K b wa W) : WAt K (noT b) wa W := by
  obtain ⟨dx, ra, la, h1, h2, ps, h3, h4, h5⟩ := h.ins
  exact ⟨h.cw, ⟨dx, ra, la, noT_at h1 (fun _ z => by cases z), noT_l h2, ps, noT_l h3, h4, fun i p L a c => noT_t (h5 i p L a c)⟩, h.good⟩
theorem Sp1.wt {wa : Addr} {W : Wd} (s : Sp1 T b b') (h : WAt K b wa W) : WAt K b' wa W := (wat_noT h).ex s.ex
/-! ### expressions that make data -/
abbrev KD (K : PySem.W.Frag) (b : Hp) (d : PyData) : VK := fun v b' => Ex b b' ∧ Dp K b' v d
abbrev KDa (K : PySem.W.Frag) (b : Hp) (ds : List PyData) : List V → Hp → Prop := fun vs b' => Ex b b' ∧ DpAll K b' vs ds
theorem cd_pe (h : Pe te σ b v) (hd : Dp K b v d) : Ce te σ b (KD K b d) := h.c ⟨Ex.refl b, hd⟩
theorem cd_var {i : Nat} (h : σ[i]? = some (some v)) (hd : Dp K b v d) : Ce (tVar i) σ b (KD K b d) := cd_pe (v_var h) hd
theorem cd_non : Ce (tC .non) σ b (KD K b .none) := cd_pe v_c .non
theorem cd_bl {c : Bool} : Ce (tC (.bl c)) σ b (KD K b (.bool c)) := cd_pe v_c (.bl c)
theorem cd_int {i : Int} : Ce (tC (.int i)) σ b (KD K b (.int i)) := cd_pe v_c (.int i)
theorem cd_str {w : Str} : Ce (tC (.str w)) σ b (KD K b (.str w)) := cd_pe v_c (.str w)
theorem cd_neg {i : Int} : Ce (tUn rNegI (tC (.int i))) σ b (KD K b (.int (-i))) := cd_pe (v_un v_c u_neg) (.int _)
theorem cda_nil : Ca tNil σ b (KDa K b []) := ca_nil ⟨Ex.refl b, .nil⟩
theorem cda_cons {tr : TA} (h : Ce ta σ b (KD K b d)) (hr : ∀ b1, Ex b b1 → Ca tr σ b1 (KDa K b1 ds)) : Ca (tCons ta tr) σ b (KDa K b (d :: ds)) := ca_cons (Ce.mono h fun v b1 ⟨e1, hd⟩ => fun H a Q q => hr b1 e1 H a Q fun vs b2 H' ⟨e2, ha⟩ a' => q vs b2 H' ⟨e1.trans e2, .cons (dp_ex e2 hd) ha⟩ a')
theorem dpa_len : ∀ {vs : List V} {ds : List PyData}, DpAll K b vs ds → vs.length = ds.length
  | _, _, .nil => rfl
  | _, _, .cons _ h => by rw [List.length_cons, List.length_cons, dpa_len h]
theorem dpa_get : ∀ {vs : List V} {ds : List PyData} {i : Nat} {d : PyData}, DpAll K b vs ds → ds[i]? = some d → ∃ v, vs[i]? = some v ∧ Dp K b v d
  | _, _, 0, _, .cons h1 _, e => ⟨_, rfl, Option.some.inj e ▸ h1⟩
  | _, _, i + 1, _, .cons _ h2, e => dpa_get (i := i) h2 e
theorem dpa_get2 : ∀ {vs : List V} {ds : List PyData} {i : Nat} {v : V}, DpAll K b vs ds → vs[i]? = some v → ∃ d, ds[i]? = some d ∧ Dp K b v d
  | _, _, 0, _, .cons h1 _, e => ⟨_, rfl, Option.some.inj e ▸ h1⟩
  | _, _, i + 1, _, .cons _ h2, e => dpa_get2 (i := i) h2 e
/-- .. a new list, told as an object -/
theorem cl_lst {ts : TA} (h : Ca ts σ b (KDa K b ds)) (hz : ds.length ≤ 100000) : Ce (tLst ts) σ b (fun v b' => ∃ p xs, v = .ref p ∧ b p = none ∧ b' p = some (.lst xs) ∧ Ex b b' ∧ DpAll K b' xs ds) := c_lst (fun H a Q q => h H a Q fun vs b1 H' ⟨e1, ha⟩ a' => q vs b1 H' ⟨by rw [dpa_len ha]; exact hz, fun p hp => ⟨p, vs, rfl, ex_none e1 hp, upd_same, e1.trans (Ex.new hp), dpa_ex (Ex.new hp) ha⟩⟩ a')
theorem cd_lst {ts : TA} (h : Ca ts σ b (KDa K b ds)) (hz : ds.length ≤ 100000) : Ce (tLst ts) σ b (KD K b (.list ds)) := Ce.mono (cl_lst h hz) fun v b' ⟨p, xs, e, _, hp, ex, ha⟩ => ⟨ex, e ▸ .lst (sq_of hp) ha⟩
theorem cd_tup {ts : TA} (h : Ca ts σ b (KDa K b ds)) (hz : ds.length ≤ 100000) : Ce (tTup ts) σ b (KD K b (.tuple ds)) := c_tup (fun H a Q q => h H a Q fun vs b1 H' ⟨e1, ha⟩ a' => q vs b1 H' ⟨by rw [dpa_len ha]; exact hz, fun p hp => ⟨e1.trans (Ex.new hp), .tup (st_of upd_same) (dpa_ex (Ex.new hp) ha)⟩⟩ a')
theorem dpa_rep (h : DpAll K b xs ds) : ∀ n : Nat, DpAll K b (List.replicate n xs).flatten (List.replicate n ds).flatten
  | 0 => .nil
  | n + 1 => by
    rw [List.replicate_succ, List.flatten_cons, List.replicate_succ, List.flatten_cons]
    exact dpa_app h (dpa_rep h n)
where
  dpa_app : ∀ {xs ys : List V} {ds es : List PyData}, DpAll K b xs ds → DpAll K b ys es → DpAll K b (xs ++ ys) (ds ++ es)
    | _, _, _, _, .nil, h => h
    | _, _, _, _, .cons h1 h2, h => .cons h1 (dpa_app h2 h)
theorem dpa_app : ∀ {xs ys : List V} {ds es : List PyData}, DpAll K b xs ds → DpAll K b ys es → DpAll K b (xs ++ ys) (ds ++ es)
  | _, _, _, _, .nil, h => h
  | _, _, _, _, .cons h1 h2, h => .cons h1 (dpa_app h2 h)
/-- [..] * n -/
theorem cd_rep {ts : TA} {n : Int} (h : Ca ts σ b (KDa K b ds)) (hn : 0 ≤ n ∧ n < 100000) (hz : ds.length ≤ 100000) (hz2 : ds.length * n.toNat ≤ 100000) : Ce (tOp rMulU (tLst ts) (tC (.int n))) σ b (KD K b (.list (List.replicate n.toNat ds).flatten)) :=
  c_op (Ce.mono (cl_lst h hz) fun v b1 ⟨p, xs, e, _, hp, ex, ha⟩ => by
    subst e
    exact Pe.c v_c (cr_rep hp (by omega) (by omega) (by rw [dpa_len ha]; exact hz2) fun q hq => ⟨ex.trans (Ex.new hq), .lst (sq_of upd_same) (dpa_ex (Ex.new hq) (dpa_rep ha n.toNat))⟩))
/-! comparisons of data -/
theorem ct_neD (h1 : Ce ta σ b (fun v b1 => Sp1 T b b1 ∧ Dp K b1 v d)) (h2 : ∀ b1, Sp1 T b b1 → Ce tb σ b1 (KD K b1 e)) (s1 : SeqAt.shaped d = true) (s2 : SeqAt.shaped e = true) : Ct (tTest (tOp (rNeU K) ta tb)) σ b (fun c b' => Sp1 T b b' ∧ c = !PyData.eqv d e) :=
  ct_test (c_op (Ce.mono h1 fun v b1 ⟨p1, d1⟩ => Ce.mono (h2 b1 p1) fun w b2 ⟨e2, d2⟩ => Pr.c (r_neD (dp_ex e2 d1) d2 s1 s2) ⟨_, rfl, p1.on e2, rfl⟩))
/-! a list walked that was made on the way -/
theorem s_listD {tl : TE} (h : Ce tl σ b (KD K b (.list ds))) (Pv : Addr → List V → Nat → SK) (h0 : ∀ a xs b1, Ex b b1 → SqL K b1 a xs → DpAll K b1 xs ds → Pv a xs 0 σ b1) (hl : ∀ a xs i σ' b', Pv a xs i σ' b' → SqL K b' a xs)
    (hs : ∀ a xs i x d σ' b', xs[i]? = some x → ds[i]? = some d → xs.length = ds.length → Pv a xs i σ' b' → Cg g x σ' b' fun σ2 b2 => Cs tu { D with nx := Pv a xs (i + 1), ct := Pv a xs (i + 1), bk := D.nx } σ2 b2) (hd : ∀ a xs σ' b', Pv a xs ds.length σ' b' → D.nx σ' b') : Cs (tFor (iList K tl) g tu) D σ b := fun H e D' l =>
  h H e _ fun v b1 H1 ⟨eb, hv⟩ e1 => by
    cases hv with
    | @lst a xs _ hx ha =>
      have hln := dpa_len ha
      refine ⟨a, rfl, ⟨xs, ex_l e1 hx⟩, for_list (B.lift (Pv a xs)) ⟨b1, e1, h0 a xs b1 eb hx ha⟩ (fun i σ' H' hi ⟨b', e', p⟩ => ex_l e' (hl a xs i σ' b' p)) (fun i x σ' H' hi ⟨b', e', p⟩ => ?_) fun σ' H' ⟨b', e', p⟩ => l.nx σ' b' H' (hd a xs σ' b' (hln ▸ p)) e'⟩
      obtain ⟨d, hd2, _⟩ := dpa_get2 ha hi
      exact hs a xs i x d σ' b' hi hd2 hln p H' e' _ fun σ2 b2 H2 h2 e2 => h2 H2 e2 _ (dle_loop l)
/-! x.append(..), the item made on the way -/
theorem c_appendC {l : Addr} {ys : List V} (ho : Pe ta σ b (.ref l)) (hy : SqL K b l ys) (hv : Ce te σ b fun v b1 => ∃ xs, b1 l = some (.lst xs) ∧ xs.length < 100000 ∧ k .non (upd b1 l (.lst (xs ++ [v])))) : Ce (tBM K "list" rAppend ta (tCons te tNil)) σ b k := fun H e Q q =>
  ho H e _ fun H1 e1 => ⟨Or.inl ⟨rfl, ys, ex_l e1 hy⟩, hv H1 e1 _ fun v b2 H2 ⟨xs, hl, hz, hk⟩ e2 => ⟨l, xs, v, rfl, rfl, e2 l _ hl, sz_lt hz, q _ _ _ hk (ex_upd e2)⟩⟩
/-! ### told -/
abbrev dRef (w : Str) : PyData := .tuple [.str "refused", .str w]
theorem c_lamT {CS : Addr} {Wok : Addr → Str → Prop} {t : XK → TE} (hT : Tabs T b)
    (h : ∀ b1, Sp1 T b b1 → ∀ E : XK, (∀ D w b2 H2, Wok D w → PySem.W.exmOne K (.ref D) (.ref CS) = some true → (∀ q b3, Ex b2 b3 → b2 q = none → b3 q = some (.tup (refV w)) → k (.ref q) b3) → Ex b2 H2 → E (.ref D) none H2) → Ce (t E) σ b1 k) :
    Ce (tLam T (TTn K CS Wok) t) σ b k := c_lam hT fun b1 eN t1 E hE => h b1 ⟨fun a o ha => eN a o (noT_ex b a o ha) (fun ps z => noT_nt b a ps (z ▸ ha)), t1⟩ E hE
end

/-! ### data that are no maps, lifts, places, keys -/
open Hx LamX
section
variable {K : PySem.W.Frag} {T : List (Addr × Str)} {σ : L2.St} {b b' b1 b2 H : Hp} {ta tb te tx : TE} {t u : TT} {x y z v v1 v2 : V} {r : R2} {k : VK} {D : Ends} {tu tw tz : TS} {g : TG} {ks : SK} {E : XK} {ke : XB} {d e d1 d2 : PyData} {ds es : List PyData} {xs vs : List V}
theorem dpa_strs : ∀ {rows : List Str} {xs : List V}, DpAll K b xs (rows.map PyData.str) → xs = rowsV rows
  | [], _, .nil => rfl
  | r :: rows, _, .cons h1 h2 => by
    cases h1
    rw [dpa_strs h2]
    rfl
theorem bm_other (h : Dp K b v d) (hk : kitB (tyN d) "list" = some false) : BadMapV K b v := .other (tyN d) (dp_ty h) hk
theorem bm_texts (rows : List Str) (h : Dp K b v (.list (rows.map PyData.str))) (hz : rows.length < 1000) (hr : ∀ r ∈ rows, r.length < 1000) (no : mapOk rows = false) : BadMapV K b v := by
  cases h with
  | lst h1 h2 =>
    have e := dpa_strs h2
    subst e
    exact .texts _ rows h1 hz hr no
def isStrD : PyData → Bool
  | .str _ => true
  | _ => false
def isStrV : V → Bool
  | .str _ => true
  | _ => false
theorem strDV (h : Dp K b v d) : isStrV v = isStrD d ∧ kitB (tyN d) "str" = some (isStrV v) := by
  cases h with
  | non => exact ⟨rfl, show kitB "NoneType" "str" = some false by decide +kernel⟩
  | bl c => exact ⟨rfl, show kitB "bool" "str" = some false by decide +kernel⟩
  | int i => exact ⟨rfl, show kitB "int" "str" = some false by decide +kernel⟩
  | str s => exact ⟨rfl, show kitB "str" "str" = some true by decide +kernel⟩
  | lst h1 h2 => exact ⟨rfl, show kitB "list" "str" = some false by decide +kernel⟩
  | tup h1 h2 => exact ⟨rfl, show kitB "tuple" "str" = some false by decide +kernel⟩
theorem all_strDV : ∀ {xs : List V} {ds : List PyData}, DpAll K b xs ds → xs.all isStrV = ds.all isStrD
  | _, _, .nil => rfl
  | _, _, .cons h1 h2 => by rw [List.all_cons, List.all_cons, (strDV h1).1, all_strDV h2]
theorem dpa_mem : ∀ {xs : List V} {ds : List PyData}, DpAll K b xs ds → ∀ x ∈ xs, ∃ d ∈ ds, Dp K b x d
  | _, _, .cons h1 h2, x, hx => by
    rcases List.mem_cons.mp hx with e | e
    · exact ⟨_, List.mem_cons_self .., e ▸ h1⟩
    · obtain ⟨d, hd, hp⟩ := dpa_mem h2 x e
      exact ⟨d, List.mem_cons_of_mem _ hd, hp⟩
theorem bm_mixed (h : Dp K b v (.list ds)) (hz : ds.length < 1000) (no : ds.all isStrD = false) : BadMapV K b v := by
  cases h with
  | lst h1 h2 =>
    refine .mixed _ _ isStrV h1 (by rw [dpa_len h2]; exact hz) (fun x hx => ?_) (by rw [all_strDV h2]; exact no)
    obtain ⟨d, _, hd⟩ := dpa_mem h2 x hx
    exact ⟨tyN d, dp_ty hd, (strDV hd).2⟩
/-! lifts -/
def cntD (lo hi : Int) : PyData → Bool
  | .int i => decide (lo ≤ i) && decide (i ≤ hi)
  | _ => false
theorem cnt_dp {lo hi : Int} (h : Dp K b v d) : CountIs K b lo hi v (cntD lo hi d) := by
  have ty := dp_ty h
  cases h with
  | non => exact .other "NoneType" ty (.inl (by decide +kernel))
  | bl c => exact .other "bool" ty (.inr ⟨by decide +kernel, by decide +kernel⟩)
  | int i => exact .int i
  | str s => exact .other "str" ty (.inl (by decide +kernel))
  | lst h1 h2 => exact .other "list" ty (.inl (by decide +kernel))
  | tup h1 h2 => exact .other "tuple" ty (.inl (by decide +kernel))
def isWay : PyData → Bool
  | .str w => decide (w = "across") || decide (w = "up")
  | _ => false
def sixD (d0 d1 d2 d3 d4 d5 : PyData) : Bool := !isWay d0 || !((cntD 0 400 d1 && cntD 0 400 d2) && (cntD 1 400 d3 && (cntD 1 400 d4 && cntD 1 100 d5)))
def badLiftD : PyData → Bool
  | .tuple ds => !decide (ds.length = 6) || sixD (ds.getD 0 .none) (ds.getD 1 .none) (ds.getD 2 .none) (ds.getD 3 .none) (ds.getD 4 .none) (ds.getD 5 .none)
  | _ => true
theorem in_way (w : Str) (h1 : w ≠ "across") (h2 : w ≠ "up") : inV (.str w) [.str "across", .str "up"] = false := by
  show (eqV (.str "across") (.str w) || (eqV (.str "up") (.str w) || false)) = false
  have e1 : eqV (.str "across") (.str w) = false := beq_eq_false_iff_ne.mpr (Ne.symm h1)
  have e2 : eqV (.str "up") (.str w) = false := beq_eq_false_iff_ne.mpr (Ne.symm h2)
  rw [e1, e2]
  rfl
theorem six_bad {a : Addr} {x0 x1 x2 x3 x4 x5 : V} {d0 d1 d2 d3 d4 d5 : PyData} (h1 : SqT K b a [x0, x1, x2, x3, x4, x5]) (q0 : Dp K b x0 d0) (q1 : Dp K b x1 d1) (q2 : Dp K b x2 d2) (q3 : Dp K b x3 d3) (q4 : Dp K b x4 d4) (q5 : Dp K b x5 d5) (hs : sixD d0 d1 d2 d3 d4 d5 = true) : BadLiftV K b (.ref a) := by
  by_cases hw : isStrD d0 = true
  · cases q0 with
    | str w =>
      by_cases e1 : w = "across"
      · subst e1
        refine .six a true _ _ _ _ _ _ _ _ _ _ h1 (cnt_dp q1) (cnt_dp q2) (cnt_dp q3) (cnt_dp q4) (cnt_dp q5) ?_
        unfold sixD at hs
        rw [show isWay (.str "across") = true by decide +kernel, Bool.not_true, Bool.false_or] at hs
        exact Bool.not_eq_true' _ ▸ hs
      · by_cases e2 : w = "up"
        · subst e2
          refine .six a false _ _ _ _ _ _ _ _ _ _ h1 (cnt_dp q1) (cnt_dp q2) (cnt_dp q3) (cnt_dp q4) (cnt_dp q5) ?_
          unfold sixD at hs
          rw [show isWay (.str "up") = true by decide +kernel, Bool.not_true, Bool.false_or] at hs
          exact Bool.not_eq_true' _ ▸ hs
        · exact .way a w _ _ _ _ _ h1 (in_way w e1 e2)
    | non => cases hw
    | bl c => cases hw
    | int i => cases hw
    | lst _ _ => cases hw
    | tup _ _ => cases hw
  · exact .first a _ _ _ _ _ _ (tyN d0) h1 (dp_ty q0) (by rw [(strDV q0).2, (strDV q0).1]; exact congrArg some (Bool.eq_false_iff.mpr hw))
theorem bad_lift (h : Dp K b v d) (hb : badLiftD d = true) : BadLiftV K b v := by
  have ty := dp_ty h
  cases h with
  | non => exact .other "NoneType" ty (by decide +kernel)
  | bl c => exact .other "bool" ty (by decide +kernel)
  | int i => exact .other "int" ty (by decide +kernel)
  | str s => exact .other "str" ty (by decide +kernel)
  | lst h1 h2 => exact .other "list" ty (by decide +kernel)
  | @tup a xs ds h1 h2 =>
    by_cases hl : ds.length = 6
    · obtain ⟨d0, d1, d2, d3, d4, d5, rfl⟩ : ∃ d0 d1 d2 d3 d4 d5, ds = [d0, d1, d2, d3, d4, d5] := by
        match ds, hl with
        | [d0, d1, d2, d3, d4, d5], _ => exact ⟨d0, d1, d2, d3, d4, d5, rfl⟩
      have hs : sixD d0 d1 d2 d3 d4 d5 = true := hb
      cases h2 with
      | cons q0 h2 =>
      cases h2 with
      | cons q1 h2 =>
      cases h2 with
      | cons q2 h2 =>
      cases h2 with
      | cons q3 h2 =>
      cases h2 with
      | cons q4 h2 =>
      cases h2 with
      | cons q5 h2 =>
      cases h2
      exact six_bad h1 q0 q1 q2 q3 q4 q5 hs
    · exact .len a xs h1 (by rw [dpa_len h2]; exact hl)
/-! places, keys -/
def placeD (W : Wd) : PyData → PyData → Bool
  | .int l, .int t => ((decide (-400 ≤ l) && decide (l ≤ 400)) && (decide (-400 ≤ t) && decide (t ≤ 400))) && freeM W.rows W.w l t
  | _, _ => false
theorem notint_cnt {lo hi : Int} (h : Dp K b v d) (hn : ∀ i, d ≠ .int i) : CountIs K b lo hi v false := by
  have e : cntD lo hi d = false := by
    cases d <;> first | rfl | exact absurd rfl (hn _)
  have := cnt_dp (lo := lo) (hi := hi) h
  rw [e] at this
  exact this
theorem place_dp {W : Wd} (h1 : Dp K b v1 d1) (h2 : Dp K b v2 d2) : PlaceIs K b W v1 v2 (placeD W d1 d2) := by
  cases h1 with
  | int l =>
    cases h2 with
    | int t => exact .whole l t
    | non => exact .top (.int l) (notint_cnt .non (fun i z => by cases z))
    | bl c => exact .top (.int l) (notint_cnt (.bl c) (fun i z => by cases z))
    | str w => exact .top (.int l) (notint_cnt (.str w) (fun i z => by cases z))
    | lst q1 q2 => exact .top (.int l) (notint_cnt (.lst q1 q2) (fun i z => by cases z))
    | tup q1 q2 => exact .top (.int l) (notint_cnt (.tup q1 q2) (fun i z => by cases z))
  | non => exact .left (notint_cnt .non (fun i z => by cases z))
  | bl c => exact .left (notint_cnt (.bl c) (fun i z => by cases z))
  | str w => exact .left (notint_cnt (.str w) (fun i z => by cases z))
  | lst q1 q2 => exact .left (notint_cnt (.lst q1 q2) (fun i z => by cases z))
  | tup q1 q2 => exact .left (notint_cnt (.tup q1 q2) (fun i z => by cases z))
def keysD : PyData → Bool
  | .str w => keysOk w
  | _ => false
def keysSz : PyData → Bool
  | .str w => decide (w.cps.size < 100000)
  | _ => true
theorem keys_dp (h : Dp K b v d) (hz : keysSz d = true) : KeysIs K b v (keysD d) := by
  have ty := dp_ty h
  cases h with
  | non => exact .other "NoneType" ty (by decide +kernel)
  | bl c => exact .other "bool" ty (by decide +kernel)
  | int i => exact .other "int" ty (by decide +kernel)
  | str s => exact .str s (of_decide_eq_true hz)
  | lst h1 h2 => exact .other "list" ty (by decide +kernel)
  | tup h1 h2 => exact .other "tuple" ty (by decide +kernel)
/-! ### told, refused -/
theorem cd_told (hT : LamX.Tabs (TL K) b) (F : FX K) (i : Nat) (hi : i < nW) {t : XK → TE} (h : ∀ b1, Sp1 (TL K) b b1 → ∀ E : XK, (∀ c b2 H2, (c = Value.ref (He.ga K (words6.getD i "")) ∧ Ex b1 b2) → Ex b2 H2 → E c none H2) → Ce (t E) σ b1 (fun _ _ => False)) :
    Ce (LamX.tLam (TL K) (Hx.TTn K (He.ga K "RunError") (WokN K)) t) σ b (fun v b' => Sp1 (TL K) b b' ∧ Dp K b' v (dRef (words6.getD i ""))) :=
  c_lamT hT fun b1 s1 E hE => Ce.mono (h b1 s1 E fun c b2 H2 ⟨ec, e12⟩ e => by
    rw [ec]
    exact hE _ _ b2 H2 ⟨i, F.w i hi, rfl⟩ (F.m i hi) (fun q b3 e3 hq h3 => ⟨s1.on (e12.trans e3), .tup (st_of h3) (.cons (.str _) (.cons (.str _) .nil))⟩) e) fun _ _ f => f.elim
theorem ra_st {ra dx wa : Addr} {b0 : Hp} {W : Wd} {s : Rs} (st : Sp1 T b b') (h : RA K b ra dx wa b0 W s) : RA K b' ra dx wa (noT b0) W s := by
  refine ⟨h.cr, st.ex _ _ (noT_at h.ins (fun _ z => by cases z)), fun a o ha => ?_, ?_, wat_noT h.wo⟩
  · exact st.ex a o (noT_at (h.ex a o (noT_ex b0 a o ha)) (fun ps z => noT_nt b0 a ps (z ▸ ha)))
  · unfold noT
    rw [h.no]
end

/-! ### a list that grows beside what is known -/
open Hx LamX
local macro_rules | `(tactic| walk_at "d") => `(tactic| first
  | (with_reducible exact cd_non)
  | (with_reducible exact cd_bl)
  | (with_reducible exact cd_int)
  | (with_reducible exact cd_str)
  | (with_reducible exact cd_neg)
  | (with_reducible exact cda_nil)
  | ((with_reducible apply cda_cons) <;> walk_at "d")
  | ((with_reducible apply cd_lst) <;> walk_at "d")
  | ((with_reducible apply cd_tup) <;> walk_at "d")
  | (with_reducible assumption)
  | ((with_reducible intro _ _); walk_at "d")
  | (simp only [List.length_cons, List.length_nil]; decide)
  | decide)
theorem _root_.B.Ct.mono {t : TT} {σ : L2.St} {b : Hp} {k k' : Bool → Hp → Prop} (h : B.Ct t σ b k) (hk : ∀ c b', k c b' → k' c b') : B.Ct t σ b k' := fun H a Q q => h H a Q fun v b2 H' hv e => q v b2 H' (hk v b2 hv) e
section
variable {K : PySem.W.Frag} {T : List (Addr × Str)} {σ : L2.St} {b b' b1 b2 H : Hp} {ta tb te tx : TE} {t u : TT} {x y z v v1 v2 : V} {r : R2} {k : VK} {D : Ends} {tu tw tz : TS} {g : TG} {ks : SK} {E : XK} {ke : XB} {d e d1 d2 : PyData} {ds es : List PyData} {xs ys vs : List V} {l : Addr}
def del (l : Addr) (b : Hp) : Hp := fun x => if x = l then none else b x
theorem del_ex : Ex (del l b) b := fun a o h => by
  unfold del at h
  split at h
  · cases h
  · exact h
theorem del_at {a : Addr} {o : HO} (h : b a = some o) (n : a ≠ l) : del l b a = some o := by
  unfold del
  rw [if_neg n]
  exact h
theorem del_l : del l b l = none := if_pos rfl
theorem del_mono (e : Ex b b1) (hl : b l = none) : Ex b (del l b1) := fun a o h => del_at (e a o h) (ne_of_none h hl)
theorem del_under {o : HO} : Ex (del l b) (upd b l o) := fun a q h => by
  have n : a ≠ l := fun z => by
    rw [z, del_l] at h
    cases h
  rw [upd_ne n]
  exact del_ex a q h
theorem del_t {a : Addr} (hl : b l = some (.lst ys)) (h : SqT K b a xs) : SqT K (del l b) a xs := by
  rcases h with (h | ⟨o, h⟩) | h
  · exact .inl (.inl (del_at h (fun z => by rw [z, hl] at h; cases h)))
  · exact .inl (.inr ⟨o, del_at h (fun z => by rw [z, hl] at h; cases h)⟩)
  · exact .inr h
theorem del_tabs (hl : b l = some (.lst ys)) (h : LamX.Tabs T b) : LamX.Tabs T (del l b) := fun p hp => by
  obtain ⟨ps, h1, h2, h3⟩ := h p hp
  refine ⟨ps, del_at h1 (fun z => by rw [z, hl] at h1; cases h1), h2, fun pos cv hc => ?_⟩
  obtain ⟨c, e1, e2⟩ := h3 pos cv hc
  exact ⟨c, e1, del_at e2 (fun z => by rw [z, hl] at e2; unfold LamX.CodeO at e2; cases e2)⟩
mutual
def noL : PyData → Bool
  | .list _ => false
  | .tuple ds => noLs ds
  | .dict _ => false
  | _ => true
def noLs : List PyData → Bool
  | [] => true
  | d :: ds => noL d && noLs ds
end
mutual
theorem del_dp (hl : b l = some (.lst ys)) : ∀ {v : V} {d : PyData}, Dp K b v d → noL d = true → Dp K (del l b) v d
  | _, _, .non, _ => .non
  | _, _, .bl c, _ => .bl c
  | _, _, .int i, _ => .int i
  | _, _, .str s, _ => .str s
  | _, _, .lst _ _, n => by
    unfold noL at n
    cases n
  | _, _, .tup h1 h2, n => .tup (del_t hl h1) (del_dpa hl h2 (by unfold noL at n; exact n))
theorem del_dpa (hl : b l = some (.lst ys)) : ∀ {vs : List V} {ds : List PyData}, DpAll K b vs ds → noLs ds = true → DpAll K (del l b) vs ds
  | _, _, .nil, _ => .nil
  | _, _, .cons h1 h2, n => by
    unfold noLs at n
    have n2 := Bool.and_eq_true_iff.mp n
    exact .cons (del_dp hl h1 n2.1) (del_dpa hl h2 n2.2)
end
/-- .. a new list, and the base without it -/
theorem cl_lst2 {ts : TA} (h : Ca ts σ b (KDa K b ds)) (hz : ds.length ≤ 100000) : Ce (tLst ts) σ b (fun v b' => ∃ p xs b1, v = .ref p ∧ Ex b b1 ∧ b1 p = none ∧ b' = upd b1 p (.lst xs) ∧ DpAll K b1 xs ds) := c_lst (fun H a Q q => h H a Q fun vs b1 H' ⟨e1, ha⟩ a' => q vs b1 H' ⟨by rw [dpa_len ha]; exact hz, fun p hp => ⟨p, vs, b1, rfl, e1, hp, rfl, ha⟩⟩ a')
/-- a list of data walked that was made on the way -/
theorem s_listD2 {tl : TE} (h : Ce tl σ b (fun v b' => ∃ p xs b1, v = .ref p ∧ Ex b b1 ∧ b1 p = none ∧ b' = upd b1 p (.lst xs) ∧ DpAll K b1 xs ds)) (Pv : Addr → List V → Nat → SK) (h0 : ∀ a xs b1, Ex b b1 → b1 a = none → DpAll K b1 xs ds → Pv a xs 0 σ (upd b1 a (.lst xs))) (hl : ∀ a xs i σ' b', Pv a xs i σ' b' → SqL K b' a xs)
    (hs : ∀ a xs i x d σ' b', xs[i]? = some x → ds[i]? = some d → Pv a xs i σ' b' → Cg g x σ' b' fun σ2 b2 => Cs tu { D with nx := Pv a xs (i + 1), ct := Pv a xs (i + 1), bk := D.nx } σ2 b2) (hd : ∀ a xs σ' b', Pv a xs ds.length σ' b' → D.nx σ' b') : Cs (tFor (iList K tl) g tu) D σ b := fun H e D' l =>
  h H e _ fun v b2 H1 ⟨a, xs, b1, ev, eb, hn, e2, ha⟩ e1 => by
    subst ev e2
    have hln := dpa_len ha
    refine ⟨a, rfl, ⟨xs, sq_of (e1 a _ upd_same)⟩, for_list (B.lift (Pv a xs)) ⟨_, e1, h0 a xs b1 eb hn ha⟩ (fun i σ' H' hi ⟨b', e', p⟩ => ex_l e' (hl a xs i σ' b' p)) (fun i x σ' H' hi ⟨b', e', p⟩ => ?_) fun σ' H' ⟨b', e', p⟩ => l.nx σ' b' H' (hd a xs σ' b' (hln ▸ p)) e'⟩
    obtain ⟨d, hd2, _⟩ := dpa_get2 ha hi
    exact hs a xs i x d σ' b' hi hd2 p H' e' _ fun σ2 b2 H2 h2 e2 => h2 H2 e2 _ (dle_loop l)
/-- tuples put together -/
abbrev KT (K : PySem.W.Frag) (b : Hp) (xs : List V) : VK := fun v b' => ∃ p, v = .ref p ∧ Ex b b' ∧ SqT K b' p xs
theorem kt_n {xs : List V} (h : Pn te σ b (.tup xs)) : Ce te σ b (KT K b xs) := h.c fun p hp => ⟨p, rfl, Ex.new hp, st_of upd_same⟩
theorem kt_cat (h1 : Ce ta σ b (KT K b xs)) (h2 : ∀ b1, Ex b b1 → Ce tb σ b1 (KT K b1 ys)) (hx : xs ≠ []) (hz : xs.length + ys.length ≤ 100000) : Ce (tOp (rAddU K) ta tb) σ b (KT K b (xs ++ ys)) :=
  c_op (Ce.mono h1 fun v b1 ⟨p, ev, e1, hp⟩ => Ce.mono (h2 b1 e1) fun w b2 ⟨q, ew, e2, hq⟩ => fun H a Q qq => by
    subst ev ew
    refine .inr (.inr (.inr ⟨p, q, xs, ys, rfl, rfl, ex_t a (ex_t e2 hp), ex_t a hq, hx, sz_of hz, fun z => ?_, fun _ r hr => ?_⟩))
    · subst z
      exact qq _ b2 H ⟨p, rfl, e1.trans e2, by rw [List.append_nil]; exact ex_t e2 hp⟩ a
    · exact qq _ _ _ ⟨r, rfl, (e1.trans e2).trans (Ex.new (ex_none a hr)), st_of upd_same⟩ (ex_upd a))
theorem kt_dp (h : Ce te σ b (KT K b xs)) (hd : ∀ b1, Ex b b1 → DpAll K b1 xs ds) : Ce te σ b (KD K b (.tuple ds)) := Ce.mono h fun v b1 ⟨p, ev, e1, hp⟩ => ⟨e1, ev ▸ .tup hp (hd b1 e1)⟩
/-- a method of an object made on the way -/
theorem c_methC {sb : Sb} {E : XK} {ts : TA} {C : Addr} {m : Str} {ke : XB} (hE : ∀ c b' H', ke c b' → Ex b' H' → E c none H') (h : Ce ta σ b fun v b1 => ∃ a dx fs, v = .ref a ∧ b1 a = some (.ins C dx fs) ∧ fs.lookup m = none ∧ Ca ts σ b1 fun vs b2 => sb (.ref a :: vs) b2 k ke) : Ce (tMeth C m (up sb) [] E ta ts) σ b k := fun H e Q q =>
  h H e _ fun v b1 H1 ⟨a, dx, fs, ev, ha, hl, hv⟩ e1 => by
    subst ev
    exact ⟨a, dx, fs, rfl, e1 a _ ha, hl, hv H1 e1 _ fun vs b2 H2 h2 e2 => by
      rw [List.append_nil]
      exact ⟨b2, k, ke, e2, h2, q, hE⟩⟩
/-- rows, lifts of data -/
theorem rows_dp {rows : List Str} (h : Dp K b v (.list (rows.map PyData.str))) : ∃ a, v = .ref a ∧ SqL K b a (rowsV rows) := by
  cases h with
  | lst h1 h2 =>
    have e := dpa_strs h2
    subst e
    exact ⟨_, rfl, h1⟩
theorem lift_dp {c : Bool} {i1 i2 i3 i4 i5 : Int} (h : Dp K b v (.tuple [.str (wayS c), .int i1, .int i2, .int i3, .int i4, .int i5])) : ∃ p, v = .ref p ∧ SqT K b p (liftV ⟨c, i1, i2, i3, i4, i5⟩) := by
  cases h with
  | tup h1 h2 =>
    cases h2 with
    | cons q0 h2 =>
    cases h2 with
    | cons q1 h2 =>
    cases h2 with
    | cons q2 h2 =>
    cases h2 with
    | cons q3 h2 =>
    cases h2 with
    | cons q4 h2 =>
    cases h2 with
    | cons q5 h2 =>
    cases h2
    cases q0; cases q1; cases q2; cases q3; cases q4; cases q5
    exact ⟨_, rfl, h1⟩
theorem lifts_dp1 {c : Bool} {i1 i2 i3 i4 i5 : Int} (h : Dp K b v (.list [.tuple [.str (wayS c), .int i1, .int i2, .int i3, .int i4, .int i5]])) : ∃ la, v = .ref la ∧ LiftsAt K b la [⟨c, i1, i2, i3, i4, i5⟩] := by
  cases h with
  | lst h1 h2 =>
    cases h2 with
    | cons q h2 =>
    cases h2
    obtain ⟨p, e, hp⟩ := lift_dp q
    subst e
    refine ⟨_, rfl, [p], h1, rfl, fun i q L a c => ?_⟩
    match i, a, c with
    | 0, a, c =>
      have e1 : p = q := Option.some.inj a
      have e2 : _ = L := Option.some.inj c
      subst e1 e2
      exact hp
/-! ### a list of what was told -/
structure SL (K : PySem.W.Frag) (T : List (Addr × Str)) (b : Hp) (p : Addr) (ws : List V) (ds : List PyData) (b' : Hp) : Prop where
  sp : Sp1 T b b'
  no : noT b p = none
  at_ : b' p = some (.lst ws)
  dp : DpAll K (del p b') ws ds
  nl : noLs ds = true
theorem noLs_app : ∀ {ds es : List PyData}, noLs ds = true → noLs es = true → noLs (ds ++ es) = true
  | [], _, _, h => h
  | d :: ds, es, h, h2 => by
    unfold noLs at h
    have q := Bool.and_eq_true_iff.mp h
    show noLs (d :: (ds ++ es)) = true
    unfold noLs
    rw [q.1, noLs_app q.2 h2]
    rfl
theorem sl_new (h : Ce te σ b (fun v b' => Sp1 T b b' ∧ Dp K b' v d)) (hd : noL d = true) : Ce (tLst (tCons te tNil)) σ b (fun v b' => ∃ p w, v = .ref p ∧ SL K T b p [w] [d] b') :=
  c_lst (ca_cons (Ce.mono h fun w b1 ⟨s1, d1⟩ => ca_nil ⟨by show 1 ≤ 100000; decide, fun p hp => ⟨p, w, rfl, s1.on (Ex.new hp), s1.fresh hp, upd_same, .cons (dp_ex (fun a o ha => del_at (Ex.new hp a o ha) (ne_of_none ha hp)) d1) .nil, by unfold noLs; rw [hd]; rfl⟩⟩))
theorem sl_app {p : Addr} {ws : List V} (S : SL K T b p ws ds b') (ho : Pe ta σ b' (.ref p)) (h : Ce te σ b' (fun v b2 => Sp1 T b' b2 ∧ Dp K b2 v d)) (hd : noL d = true) (hz : ws.length < 100000) (hk : ∀ w b2, SL K T b p (ws ++ [w]) (ds ++ [d]) b2 → k .non b2) : Ce (tBM K "list" rAppend ta (tCons te tNil)) σ b' k := by
  refine c_appendC (ys := ws) ho (sq_of S.at_) (Ce.mono h fun w b2 ⟨s2, d2⟩ => ?_)
  have h2 : b2 p = some (.lst ws) := s2.lst S.at_
  refine ⟨ws, h2, hz, hk w _ ⟨(S.sp.trans s2).mut S.no h2, S.no, upd_same, ?_, noLs_app S.nl (by unfold noLs; rw [hd]; rfl)⟩⟩
  have e : Ex (del p b2) (del p (upd b2 p (.lst (ws ++ [w])))) := fun a o ha => del_at (del_under a o ha) (fun z => by rw [z, del_l] at ha; cases ha)
  refine dpa_app (dpa_ex e (del_dpa h2 ?_ S.nl)) (.cons (dp_ex e (del_dp h2 d2 hd)) .nil)
  exact s2.dpa (dpa_ex del_ex S.dp)
/-- .. and held against data -/
theorem sl_ne {p : Addr} {ws : List V} (S : SL K T b p ws ds b') (ho : Pe ta σ b' (.ref p)) (h : Ce tb σ b' (KD K b' e)) (s1 : SeqAt.shaped (.list ds) = true) (s2 : SeqAt.shaped e = true) : Ct (tTest (tOp (rNeU K) ta tb)) σ b' (fun c b2 => Sp1 T b b2 ∧ c = !PyData.eqv (.list ds) e) :=
  ct_test (c_op (Pe.c ho (Ce.mono h fun w b2 ⟨e2, d2⟩ => Pr.c (r_neD (.lst (sq_of (e2 _ _ S.at_)) (dpa_ex (del_ex.trans e2) S.dp)) d2 s1 s2) ⟨_, rfl, S.sp.on e2, rfl⟩)))
end

/-! ### more rules: lists walked, told values, step comprehensions -/
open Hx LamX
section
variable {K : PySem.W.Frag} {T : List (Addr × Str)} {σ : L2.St} {b b' b1 b2 H : Hp} {ta tb te tx tl : TE} {t u : TT} {x y z v v1 v2 : V} {r : R2} {k : VK} {D : Ends} {tu tw tz : TS} {g : TG} {ks : SK} {E : XK} {ke : XB} {xs ys vs : List V} {ds : List PyData}
theorem s_listC {Pre : Addr → List V → Hp → Prop} (h : Ce tl σ b (fun v b1 => ∃ a xs, v = .ref a ∧ SqL K b1 a xs ∧ Pre a xs b1)) (Pv : Addr → List V → Nat → SK) (h0 : ∀ a xs b1, SqL K b1 a xs → Pre a xs b1 → Pv a xs 0 σ b1) (hl : ∀ a xs i σ' b', Pv a xs i σ' b' → SqL K b' a xs)
    (hs : ∀ a xs (i : Nat) x σ' b', xs[i]? = some x → Pv a xs i σ' b' → Cg g x σ' b' fun σ2 b2 => Cs tu { D with nx := Pv a xs (i + 1), ct := Pv a xs (i + 1), bk := D.nx } σ2 b2) (hd : ∀ a xs σ' b', Pv a xs xs.length σ' b' → D.nx σ' b') : Cs (tFor (iList K tl) g tu) D σ b := fun H e D' l =>
  h H e _ fun v b1 H1 ⟨a, xs, ev, hx, hp⟩ e1 => by
    subst ev
    exact ⟨a, rfl, ⟨xs, ex_l e1 hx⟩, for_list (B.lift (Pv a xs)) ⟨b1, e1, h0 a xs b1 hx hp⟩ (fun i σ' H' hi ⟨b', e', p⟩ => ex_l e' (hl a xs i σ' b' p)) (fun i x σ' H' hi ⟨b', e', p⟩ =>
      hs a xs i x σ' b' hi p H' e' _ fun σ2 b2 H2 h2 e2 => h2 H2 e2 _ (dle_loop l)) fun σ' H' ⟨b', e', p⟩ => l.nx σ' b' H' (hd a xs σ' b' p) e'⟩
/-- told, and it was no refusal -/
theorem c_toldOk {CS : Addr} {Wok : Addr → Str → Prop} {t : XK → TE} (hT : Tabs T b) (h : ∀ b1, Sp1 T b b1 → ∀ E : XK, Ce (t E) σ b1 k) : Ce (tLam T (TTn K CS Wok) t) σ b k := c_lamT hT fun b1 s1 E _ => h b1 s1 E
/-- lists of new lists -/
def LsB (b : Hp) (qs : List Addr) (ls : List (List V)) : Prop := qs.length = ls.length ∧ ∀ (i : Nat) (q : Addr) (l : List V), qs[i]? = some q → ls[i]? = some l → b q = some (.lst l)
theorem LsB.ex {qs : List Addr} {ls : List (List V)} (h : LsB b qs ls) (e : Ex b b') : LsB b' qs ls := ⟨h.1, fun i q z h1 h2 => e _ _ (h.2 i q z h1 h2)⟩
theorem LsB.st {qs : List Addr} {ls : List (List V)} (h : LsB b qs ls) (s : Sp1 T b b') : LsB b' qs ls := ⟨h.1, fun i q z h1 h2 => s.lst (h.2 i q z h1 h2)⟩
theorem cls_nil : Ca tNil σ b (fun vs b' => ∃ qs, vs = qs.map V.ref ∧ Ex b b' ∧ LsB b' qs []) := ca_nil ⟨[], rfl, Ex.refl b, rfl, fun i q l h _ => by cases h⟩
theorem cls_cons {tr : TA} {l : List V} {ls : List (List V)} (h : Pn ta σ b (.lst l)) (hr : ∀ b1, Ex b b1 → Ca tr σ b1 (fun vs b' => ∃ qs, vs = qs.map V.ref ∧ Ex b1 b' ∧ LsB b' qs ls)) : Ca (tCons ta tr) σ b (fun vs b' => ∃ qs, vs = qs.map V.ref ∧ Ex b b' ∧ LsB b' qs (l :: ls)) :=
  ca_cons (Pn.c h fun p hp => fun H a Q q => hr _ (Ex.new hp) H a Q fun vs b2 H' ⟨qs, ev, e2, hL⟩ a' => q _ b2 H' ⟨p :: qs, by rw [ev]; rfl, (Ex.new hp).trans e2, by rw [List.length_cons, List.length_cons, hL.1], fun i q' l' h1 h2 => by
    cases i with
    | zero =>
      have e1 : p = q' := Option.some.inj h1
      have e3 : l = l' := Option.some.inj h2
      rw [← e1, ← e3]
      exact e2 _ _ upd_same
    | succ i => exact hL.2 i q' l' h1 h2⟩ a')
/-- a comprehension over a range by steps -/
theorem lc_rangeC {lo c : Int} {n : Nat} {g : TG} {tt : TT} {te : TE} {vs : List Nat} {σ : L2.St} {H1 : Hp} {D : Addr} {Qd : Hp → Prop} (Pv : Nat → Hp → Prop) (h0 : Pv 0 (upd H1 D (.lst [])))
    (hs : ∀ (i : Nat) H, i < n → Pv i H → g (.int (lo + (i : Nat) * c)) (wipe σ vs) H fun σ2 H2 => wipe σ2 vs = wipe σ vs ∧ tt σ2 H2 fun q H3 =>
      if q = true then te σ2 H3 fun y H4 => ∃ acc, H4 D = some (.lst acc) ∧ acc.length < sizeLine ∧ Pv (i + 1) (upd H4 D (.lst (acc ++ [y]))) else Pv (i + 1) H3) (hd : ∀ H, Pv n H → Qd H) :
    ∃ W : Nat → Nat → Hp → Prop, (∃ m, W 0 m (upd H1 D (.lst []))) ∧ ∀ i m H, W i m H →
      ((Itc lo c n).stop i H ∧ Qd H) ∨ ((Itc lo c n).go i H ∧ ∃ Nx : Hp → Prop, (∀ H', Nx H' → ∃ m', m' < m ∧ W (i + 1) m' H') ∧ ∀ x H', (Itc lo c n).yld i H x H' → g x (wipe σ vs) H' fun σ2 H2 => wipe σ2 vs = wipe σ vs ∧ tt σ2 H2 fun q H3 =>
        if q = true then te σ2 H3 fun y H4 => ∃ acc, H4 D = some (.lst acc) ∧ acc.length < sizeLine ∧ Nx (upd H4 D (.lst (acc ++ [y]))) else Nx H3) := by
  refine ⟨fun i m H => (m = n - i ∧ i ≤ n) ∧ Pv i H, ⟨n, ⟨by simp, Nat.zero_le _⟩, h0⟩, fun i m H w => ?_⟩
  obtain ⟨⟨em, hi⟩, p⟩ := w
  rcases Nat.lt_or_ge i n with hlt | hge
  · exact .inr ⟨hlt, Pv (i + 1), fun H' p' => ⟨n - (i + 1), by omega, ⟨rfl, hlt⟩, p'⟩, fun x H' yy => by
      obtain ⟨e1, e2⟩ := yy
      subst e1 e2
      exact hs i _ hlt p⟩
  · have e : i = n := by omega
    subst e
    exact .inl ⟨Nat.le_refl _, hd H p⟩
theorem c_lcR3 {ts : TA} {lo hi c : Int} {n : Nat} {vs : List Nat} (h : Pa ts σ b [.int lo, .int hi, .int c]) (hr : RgC lo hi c n) (Pv : Addr → Nat → List V → Hp → Prop) (h0 : ∀ Dl, b Dl = none → Pv Dl 0 [] (upd b Dl (.lst [])))
    (hq : ∀ Dl i acc b', b Dl = none → Pv Dl i acc b' → b' Dl = some (.lst acc) ∧ acc.length < 100000)
    (hs : ∀ Dl (i : Nat) acc b', b Dl = none → i < n → Pv Dl i acc b' → Cg g (.int (lo + (i : Nat) * c)) (wipe σ vs) b' fun σ2 b2 => wipe σ2 vs = wipe σ vs ∧ Ct t σ2 b2 fun c b3 => if c = true then Ce te σ2 b3 fun y b4 => b4 Dl = some (.lst acc) ∧ Pv Dl (i + 1) (acc ++ [y]) (upd b4 Dl (.lst (acc ++ [y]))) else Pv Dl (i + 1) acc b3)
    (hd : ∀ Dl acc b', b Dl = none → Pv Dl n acc b' → k (.ref Dl) b') : Ce (tLc (iRng3 ts) g t te vs) σ b k := fun H e Q q =>
  h H e _ fun H1 e1 => ⟨lo, hi, c, n, rfl, hr, fun Dl hD => lc_rangeC (lo := lo) (c := c) (n := n) (fun i H' => ∃ acc b', Ex b' H' ∧ Pv Dl i acc b') ⟨[], _, ex_upd e1, h0 Dl (ex_none e1 hD)⟩
    (fun i H' hi ⟨acc, b', e', p⟩ => hs Dl i acc b' (ex_none e1 hD) hi p H' e' _ fun σ2 b2 H2 h2 e2 => ⟨h2.1, h2.2 H2 e2 _ fun c b3 H3 h3 e3 => by
        cases c with
        | true =>
          refine (show Ce te σ2 b3 _ from h3) H3 e3 _ fun y b4 H4 h4 e4 => ⟨acc, e4 Dl _ h4.1, sz_lt (hq Dl i acc b' (ex_none e1 hD) p).2, acc ++ [y], _, ex_upd e4, h4.2⟩
        | false => exact ⟨acc, b3, e3, h3⟩⟩)
    fun H' ⟨acc, b', e', p⟩ => q _ b' H' (hd Dl acc b' (ex_none e1 hD) p) e'⟩
theorem c_join {w : Str} (h : Pe ta σ b (.str w)) (hl : Ce tb σ b fun v b1 => ∃ (p : Addr) (ys : List Str), v = .ref p ∧ SqL K b1 p (ys.map V.str) ∧ (ys.map (·.length)).sum + ys.length * w.length ≤ 16777216 ∧ k (.str (Txt.join w ys)) b1) : Ce (tM1 (rJoin K) ta tb) σ b k := fun H a Q q =>
  h H a _ fun H1 a1 => ⟨⟨w, rfl⟩, hl H1 a1 _ fun v b2 H2 ⟨p, ys, ev, hx, hz, hk⟩ a2 => ⟨w, p, ys, rfl, by rw [ev], .inl (ex_l a2 hx), hz, q _ b2 H2 hk a2⟩⟩
end

/-! ### trails: what they refuse -/
section
variable {K : PySem.W.Frag} {σ : L2.St} {b b' : Hp} {vs : List V} {k : VK} {ke : XB} {E : XK} {te tl : TE}
theorem KeysIs.ex {v : V} {r : Bool} (h : KeysIs K b v r) (e : Ex b b') : KeysIs K b' v r := by
  cases h with
  | str w hz => exact .str w hz
  | other n h hk => exact .other n (fun H a => h H (e.trans a)) hk
theorem CountIs.ex {lo hi : Int} {v : V} {r : Bool} (h : CountIs K b lo hi v r) (e : Ex b b') : CountIs K b' lo hi v r := by
  cases h with
  | int n => exact .int n
  | other n h hk => exact .other n (fun H a => h H (e.trans a)) hk
theorem PlaceIs.ex {W : Wd} {v1 v2 : V} {r : Bool} (h : PlaceIs K b W v1 v2 r) (e : Ex b b') : PlaceIs K b' W v1 v2 r := by
  cases h with
  | whole l t => exact .whole l t
  | left h => exact .left (h.ex e)
  | top h h2 => exact .top (h.ex e) (h2.ex e)
/-- a list whose first bad keys lie at i -/
def KeysBad (K : PySem.W.Frag) (b : Hp) (xs : List V) : Prop := ∃ (i : Nat) (x : V), xs[i]? = some x ∧ KeysIs K b x false ∧ ∀ j : Nat, j < i → ∃ w : Str, xs[j]? = some (V.str w) ∧ keysOk w = true
theorem KeysBad.ex {xs : List V} (h : KeysBad K b xs) (e : Ex b b') : KeysBad K b' xs := by
  obtain ⟨i, x, h1, h2, h3⟩ := h
  exact ⟨i, x, h1, h2.ex e, h3⟩
abbrev KeysAll (xs : List V) : Prop := ∃ ks : List Str, xs = ks.map V.str ∧ ∀ w ∈ ks, keysOk w = true
/-- how steps are refused -/
inductive StepsBad (K : PySem.W.Frag) (b : Hp) (ke : XB) (wa : Addr) (v1 v2 : V) (ra : Addr) : Prop where
  | place (W : Wd) (hW : WAt K b wa W) (h : PlaceIs K b W v1 v2 false) (hk : ∀ b', Ex b b' → ke (.ref (He.ga K "BadPlace")) b') : StepsBad K b ke wa v1 v2 ra
  | keys (W : Wd) (xs : List V) (hW : WAt K b wa W) (h : PlaceIs K b W v1 v2 true) (hx : SqL K b ra xs) (hb : KeysBad K b xs) (hk : ∀ b', Ex b b' → ke (.ref (He.ga K "BadKeys")) b') : StepsBad K b ke wa v1 v2 ra
def sb_steps (K : PySem.W.Frag) : Sb := fun vs b k ke => ∃ wa v1 v2 ra, vs = [.ref wa, v1, v2, .ref ra] ∧ CR K ∧ (StepsBad K b ke wa v1 v2 ra ∨ ∃ W ks, WAt K b wa W ∧ PlaceIs K b W v1 v2 true ∧ SqL K b ra ((ks : List Str).map V.str) ∧ ks.length ≤ 1000 ∧ (∀ w ∈ ks, keysOk w = true) ∧ ∀ p b', Ex b b' → k (.ref p) b')
theorem len_steps : ∀ vs b k ke, sb_steps K vs b k ke → vs.length = (["world", "left", "top", "rows"] : List Str).length := fun _ _ _ _ ⟨_, _, _, _, e, _⟩ => e ▸ rfl
def sbBad (K : PySem.W.Frag) : Sb := fun vs b _ ke => ∃ wa v1 v2 ra, vs = [.ref wa, v1, v2, .ref ra] ∧ CR K ∧ StepsBad K b ke wa v1 v2 ra
def sb_landings (K : PySem.W.Frag) : Sb := sbBad K
def sb_flights (K : PySem.W.Frag) : Sb := sbBad K
def sb_reach (K : PySem.W.Frag) : Sb := sbBad K
theorem len_landings : ∀ vs b k ke, sb_landings K vs b k ke → vs.length = (["world", "left", "top", "rows"] : List Str).length := fun _ _ _ _ ⟨_, _, _, _, e, _⟩ => e ▸ rfl
theorem len_flights : ∀ vs b k ke, sb_flights K vs b k ke → vs.length = (["world", "left", "top", "rows"] : List Str).length := fun _ _ _ _ ⟨_, _, _, _, e, _⟩ => e ▸ rfl
theorem len_reach : ∀ vs b k ke, sb_reach K vs b k ke → vs.length = (["world", "left", "top", "rows"] : List Str).length := fun _ _ _ _ ⟨_, _, _, _, e, _⟩ => e ▸ rfl
/-- two lists of keys: a bad place, bad ones in the first, or none there and bad ones in the second -/
def sb_apart (K : PySem.W.Frag) : Sb := fun vs b _ ke => ∃ (wa : Addr) (v1 v2 : V) (oa pa : Addr) (xs ys : List V) (W : Wd), vs = [.ref wa, v1, v2, .ref oa, .ref pa] ∧ CR K ∧ WAt K b wa W ∧ SqL K b oa xs ∧ SqL K b pa ys ∧ xs.length ≤ 10 ∧ ys.length ≤ 10 ∧
  ((PlaceIs K b W v1 v2 false ∧ ∀ b', Ex b b' → ke (.ref (He.ga K "BadPlace")) b') ∨ (PlaceIs K b W v1 v2 true ∧ (KeysBad K b xs ∨ (KeysAll xs ∧ KeysBad K b ys)) ∧ ∀ b', Ex b b' → ke (.ref (He.ga K "BadKeys")) b'))
theorem len_apart : ∀ vs b k ke, sb_apart K vs b k ke → vs.length = (["world", "left", "top", "one", "other"] : List Str).length := fun _ _ _ _ ⟨_, _, _, _, _, _, _, _, e, _⟩ => e ▸ rfl
end
def t_steps (K : PySem.W.Frag) (E : XK) : TS := (tSeq (tAsg (tMake (He.ga K "Runner") (up (sb_Runner___init__ K)) [] E (tCons (tVar 0) (tCons (tVar 1) (tCons (tVar 2) tNil)))) (gName 4)) (tSeq (tFor (iList K (tVar 3)) (gName 5) (tDrop (tCall (up (sb_need_keys K)) [] E (tCons (tVar 5) tNil)))) (tSeq (tAsg (tLst (tCons (tTup (tCons (tMeth (He.ga K "Runner") "at" (up (sb_Runner_at K)) [] E (tVar 4) tNil) (tCons (tMeth (He.ga K "Runner") "is_standing" (up (sb_Runner_is_standing K)) [] E (tVar 4) tNil) tNil))) tNil)) (gName 6)) (tSeq (tFor (iList K (tVar 3)) (gName 5) (tSeq (tDrop (tMeth (He.ga K "Runner") "tick" (up (sb_Runner_tick K)) [] E (tVar 4) (tCons (tVar 5) tNil))) (tDrop (tBM K "list" rAppend (tVar 6) (tCons (tTup (tCons (tMeth (He.ga K "Runner") "at" (up (sb_Runner_at K)) [] E (tVar 4) tNil) (tCons (tMeth (He.ga K "Runner") "is_standing" (up (sb_Runner_is_standing K)) [] E (tVar 4) tNil) tNil))) tNil))))) (tRet (tVar 6))))))
def t_landings (K : PySem.W.Frag) (E : XK) : TS := (tSeq (tAsg (tCall (up (sb_steps K)) [] E (tCons (tVar 0) (tCons (tVar 1) (tCons (tVar 2) (tCons (tVar 3) tNil))))) (gName 4)) (tRet (tLc (iRng2 (tCons (tC (.int 1)) (tCons (tCB (rLenU K) (tCons (tVar 4) tNil)) tNil))) (gName 5) (tAnd (tB (tOp (rIx K) (tOp (rIx K) (tVar 4) (tVar 5)) (tC (.int 1)))) (tNot (tB (tOp (rIx K) (tOp (rIx K) (tVar 4) (tOp rSubU (tVar 5) (tC (.int 1)))) (tC (.int 1)))))) (tVar 5) [5])))
def t_flights (K : PySem.W.Frag) (E : XK) : TS := (tSeq (tAsg (tCall (up (sb_steps K)) [] E (tCons (tVar 0) (tCons (tVar 1) (tCons (tVar 2) (tCons (tVar 3) tNil))))) (gName 4)) (tSeq (tPar 5 6 (tCons (tLst tNil) (tCons (tC .non) tNil))) (tSeq (tFor (iEnum K (tCons (tVar 4) tNil)) (gTup K 2 (gCons (gName 7) (gCons (gTup K 2 (gCons (gName 8) (gCons (gName 9) gNil))) gNil))) (tSeq (tIfS (tAnd (tNot (tB (tVar 9))) (tTest (tOp rIsNone (tVar 6) (tC .non)))) (tAsg (tVar 7) (gName 6)) tNext) (tIfS (tAnd (tTest (tOp rNotNone (tVar 6) (tC .non))) (tOr (tB (tVar 9)) (tTest (tOp (rEqU K) (tVar 7) (tOp rSubU (tCB (rLenU K) (tCons (tVar 4) tNil)) (tC (.int 1))))))) (tSeq (tAsg (tIf (tB (tVar 9)) (tOp rSubU (tVar 7) (tC (.int 1))) (tVar 7)) (gName 10)) (tSeq (tAsg (tLc (iList K (tSl (rSlU K) (tVar 4) (tPart (tCB rMax2 (tCons (tC (.int 0)) (tCons (tOp rSubU (tVar 6) (tC (.int 1))) tNil)))) (tPart (tOp (rAddU K) (tVar 10) (tC (.int 1)))))) (gName 12) tYes (tOp (rIx K) (tOp (rIx K) (tVar 12) (tC (.int 0))) (tC (.int 1))) [12]) (gName 11)) (tSeq (tDrop (tBM K "list" rAppend (tVar 5) (tCons (tTup (tCons (tVar 6) (tCons (tVar 10) (tCons (tOp rSubU (tOp (rIx K) (tVar 11) (tC (.int 0))) (tCB (rMin K) (tCons (tVar 11) tNil))) tNil)))) tNil))) (tAsg (tC .non) (gName 6))))) tNext))) (tRet (tVar 5)))))
def t_reach (K : PySem.W.Frag) (E : XK) : TS := (tSeq (tAsg (tLc (iList K (tCall (up (sb_steps K)) [] E (tCons (tVar 0) (tCons (tVar 1) (tCons (tVar 2) (tCons (tVar 3) tNil)))))) (gTup K 2 (gCons (gName 7) (gCons (gName 8) gNil))) tYes (tVar 7) [7, 8]) (gName 4)) (tSeq (tPar 5 6 (tCons (tLc (iList K (tVar 4)) (gName 7) tYes (tOp (rIx K) (tVar 7) (tC (.int 0))) [7]) (tCons (tLc (iList K (tVar 4)) (gName 7) tYes (tOp (rIx K) (tVar 7) (tC (.int 1))) [7]) tNil))) (tRet (tTup (tCons (tCB (rMin K) (tCons (tVar 5) tNil)) (tCons (tCB (rMax K) (tCons (tVar 5) tNil)) (tCons (tCB (rMin K) (tCons (tVar 6) tNil)) (tCons (tCB (rMax K) (tCons (tVar 6) tNil)) tNil))))))))
def t_apart (K : PySem.W.Frag) (E : XK) : TS := (tSeq (tAsg (tCB rMax2 (tCons (tCB (rLenU K) (tCons (tVar 3) tNil)) (tCons (tCB (rLenU K) (tCons (tVar 4) tNil)) tNil))) (gName 5)) (tSeq (tAsg (tCall (up (sb_steps K)) [] E (tCons (tVar 0) (tCons (tVar 1) (tCons (tVar 2) (tCons (tOp (rAddU K) (tCB (rListA K) (tCons (tVar 3) tNil)) (tOp rMulU (tLst (tCons (tC (.str "")) tNil)) (tOp rSubU (tVar 5) (tCB (rLenU K) (tCons (tVar 3) tNil))))) tNil))))) (gName 6)) (tSeq (tAsg (tCall (up (sb_steps K)) [] E (tCons (tVar 0) (tCons (tVar 1) (tCons (tVar 2) (tCons (tOp (rAddU K) (tCB (rListA K) (tCons (tVar 4) tNil)) (tOp rMulU (tLst (tCons (tC (.str "")) tNil)) (tOp rSubU (tVar 5) (tCB (rLenU K) (tCons (tVar 4) tNil))))) tNil))))) (gName 7)) (tSeq (tFor (iRng1 (tCons (tOp (rAddU K) (tVar 5) (tC (.int 1))) tNil)) (gName 8) (tIfS (tTest (tOp (rNeU K) (tOp (rIx K) (tOp (rIx K) (tVar 6) (tVar 8)) (tC (.int 0))) (tOp (rIx K) (tOp (rIx K) (tVar 7) (tVar 8)) (tC (.int 0))))) (tRet (tVar 8)) tNext)) (tRet (tC .non))))))
section
variable {K : PySem.W.Frag} {σ : L2.St} {b b' : Hp} {vs : List V} {k : VK} {ke : XB} {E : XK} {te tl : TE} {ts : TA}
/-- Runner(..), refused -/
theorem c_runnerBad {wa : Addr} {W : Wd} {v1 v2 : V} (hE : ∀ c b' H', ke c b' → Ex b' H' → E c none H') (h : Pa ts σ b [.ref wa, v1, v2]) (cr : CR K) (hW : WAt K b wa W) (hp : PlaceIs K b W v1 v2 false) (hk : ∀ b', Ex b b' → ke (.ref (He.ga K "BadPlace")) b') : Ce (tMake (He.ga K "Runner") (up (sb_Runner___init__ K)) [] E ts) σ b k :=
  c_make hE (Pa.c h fun x dx hx hdx hne => by
    have e : Ex b (upd (upd b dx (.own x)) x (.ins (He.ga K "Runner") dx [])) := (Ex.new hdx).trans (Ex.new (by rw [upd_ne hne.symm]; exact hx))
    exact ⟨x, dx, wa, W, v1, v2, false, rfl, cr, upd_same, hW.ex e, hp.ex e, (fun z => by cases z), fun _ => hk _ e⟩)
theorem place_ints {W : Wd} {v1 v2 : V} {r : Bool} (h : PlaceIs K b W v1 v2 r) (hr : r = true) : ∃ l t, v1 = .int l ∧ v2 = .int t ∧ (-400 ≤ l ∧ l ≤ 400) ∧ (-400 ≤ t ∧ t ≤ 400) ∧ freeM W.rows W.w l t = true := by
  cases h with
  | whole l t =>
    simp only [Bool.and_eq_true, decide_eq_true_eq] at hr
    exact ⟨l, t, rfl, rfl, hr.1.1, hr.1.2, hr.2⟩
  | left => cases hr
  | top => cases hr
theorem p_steps (h : sb_steps K vs b k ke) (hE : ∀ c b' H', ke c b' → Ex b' H' → E c none H') : Cs (t_steps K E) { nx := fun _ b' => k .non b', rt := k } (start ["world", "left", "top", "rows", "runner", "keys", "found"] vs) b := by
  obtain ⟨wa, v1, v2, ra, rfl, cr, hb | ⟨W, ks, hW, hp, hx, hl, hok, hk⟩⟩ := h
  · cases hb with
    | place W hW h hk => exact q_asgC (c_runnerBad hE (a_cons (v_var rfl) (a_cons (v_var rfl) (a_cons (v_var rfl) a_nil))) cr hW h hk)
    | keys W xs hW h hx hb hk =>
      obtain ⟨l, t, rfl, rfl, hl, ht, hf⟩ := place_ints h rfl
      refine q_asgC (c_runnerC (W := W) cr (Pa.c (a_cons (v_var rfl) (a_cons (v_var rfl) (a_cons (v_var rfl) a_nil))) ⟨wa, l, t, rfl, hW, hl, ht, hf, fun x dx b2 e2 _ hR => ?_⟩))
      have hx2 := ex_l e2 hx
      obtain ⟨i, y, hi, hy, hg⟩ := hb.ex e2
      refine s_seq (s_list (v_var rfl) hx2 (fun j σ' b' => ∃ v5 : Option V, σ' = [some (.ref wa), some (.int l), some (.int t), some (.ref ra), some (.ref x), v5, none] ∧ b2 = b' ∧ j ≤ i) ⟨_, rfl, rfl, Nat.zero_le _⟩ (fun j σ' b' _ ⟨_, _, e, _⟩ => e ▸ hx2) ?_ (fun σ' b' ⟨_, _, _, hji⟩ => absurd (List.getElem?_eq_some_iff.mp hi).1 (by omega)))
      rintro j z σ' b' hj ⟨v5, rfl, rfl, hji⟩
      by_cases e : j = i
      · subst e
        rw [hi] at hj
        cases hj
        exact g_name (s_drop (c_call hE (Pa.c (a_cons (v_var rfl) a_nil) ⟨_, false, rfl, hy, (fun z => by cases z), fun _ => hk _ e2⟩)))
      · obtain ⟨w, hw, hok⟩ := hg j (by omega)
        rw [hw] at hj
        cases hj
        exact g_name (s_drop (c_call hE (Pa.c (a_cons (v_var rfl) a_nil) ⟨_, true, rfl, hok ▸ .str w (keysOk_sz hok), fun _ => ⟨_, rfl, rfl, by omega⟩, fun z => by cases z⟩)))
  · obtain ⟨l, t, rfl, rfl, hll, htt, hf⟩ := place_ints hp rfl
    refine q_asgC (c_runnerC (W := W) cr (Pa.c (a_cons (v_var rfl) (a_cons (v_var rfl) (a_cons (v_var rfl) a_nil))) ⟨wa, l, t, rfl, hW, hll, htt, hf, fun x dx b2 e2 hxn hR => ?_⟩))
    have hx2 := ex_l e2 hx
    have mem : ∀ {j : Nat} {z : V}, (ks.map V.str)[j]? = some z → ∃ w ∈ ks, V.str w = z := fun h => List.mem_map.mp (List.mem_of_getElem? h)
    refine s_seq (s_list (v_var rfl) hx2 (fun j σ' b' => ∃ v5 : Option V, σ' = [some (.ref wa), some (.int l), some (.int t), some (.ref ra), some (.ref x), v5, none] ∧ b2 = b') ⟨_, rfl, rfl⟩ (fun j σ' b' _ ⟨_, _, e⟩ => e ▸ hx2) ?_ ?_)
    · rintro j z σ' b' hj ⟨v5, rfl, rfl⟩
      obtain ⟨w, hw, rfl⟩ := mem hj
      exact g_name (s_drop (c_call hE (Pa.c (a_cons (v_var rfl) a_nil) ⟨_, true, rfl, (hok w hw) ▸ .str w (keysOk_sz (hok w hw)), fun _ => ⟨_, rfl, rfl⟩, fun z => by cases z⟩)))
    rintro σ' b' ⟨v5, rfl, rfl⟩
    have s0 : FreeRs W ⟨0, l, t, 0, 0, false⟩ := ⟨⟨⟨show (-3 : Int) ≤ 0 by decide, show (0 : Int) ≤ 3 by decide⟩, ⟨show (-6 : Int) ≤ 0 by decide, show (0 : Int) ≤ 6 by decide⟩⟩, hf⟩
    have item : ∀ (σ2 : L2.St) (b3 b0 : Hp) (s : Rs) (kk : VK), σ2[4]? = some (some (.ref x)) → RA K b3 x dx wa b0 W s → (∀ q b4, Ex b3 b4 → kk (.ref q) b4) → Ce (tTup (tCons (tMeth (He.ga K "Runner") "at" (up (sb_Runner_at K)) [] E (tVar 4) tNil) (tCons (tMeth (He.ga K "Runner") "is_standing" (up (sb_Runner_is_standing K)) [] E (tVar 4) tNil) tNil))) σ2 b3 kk := fun σ2 b3 b0 s kk h4 hR hq =>
      c_tup (ca_cons (Pn.c (x_at hR (v_var h4)) fun q hq1 => ca_consP (x_standing (hR.of (Ex.new hq1)) (v_var h4)) (ca_nil ⟨by show 2 ≤ 100000; decide, fun q2 hq2 => hq _ _ ((Ex.new hq1).trans (Ex.new hq2))⟩)))
    refine q_asgC (c_lst (ca_cons (item _ _ _ _ _ rfl hR fun q b4 e4 => ca_nil ⟨by show 1 ≤ 100000; decide, fun f hf2 => ?_⟩)))
    have e25 := e4.trans (Ex.new (o := .lst [.ref q]) hf2)
    have nfx : x ≠ f := ne_of_none (e4 _ _ hR.ins) hf2
    refine s_seq (s_list (K := K) (v_var rfl) (ex_l e25 hx2) (fun j σ' b' => ∃ (v5 : Option V) (ys : List V) (s : Rs) (b0 : Hp), σ' = [some (.ref wa), some (.int l), some (.int t), some (.ref ra), some (.ref x), v5, some (.ref f)] ∧ b' f = some (.lst ys) ∧ ys.length = j + 1 ∧ RA K b' x dx wa b0 W s ∧ FreeRs W s ∧ b0 f = none ∧ Ex b b0) ⟨_, [.ref q], _, _, rfl, upd_same, rfl, hR.of e25, s0, ?_, ?_⟩ (fun j σ' b' _ ⟨_, _, _, _, _, _, _, hR, _, _, e0⟩ => ex_l hR.ex (ex_l e0 hx)) ?_ ?_)
    · exact ex_none (e2.trans e4) hf2
    · exact Ex.refl b
    · rintro j z σ' b' hj ⟨v5, ys, s, b0, rfl, hfb, hyl, hRb, hs, hn0, e0⟩
      obtain ⟨w, hw, rfl⟩ := mem hj
      have hj1 : j < ks.length := by
        have := (List.getElem?_eq_some_iff.mp hj).1
        rw [List.length_map] at this
        exact this
      refine g_name (q_drop (c_tick hRb hs.1 (v_var rfl) (a_cons (v_var rfl) a_nil) (keysOk_sz (hok w hw)) (hok w hw) ?_))
      have hR2 := hRb.put (tickM W s w)
      have hs2 : FreeRs W (tickM W s w) := ticks_good W w 1 s hs
      have hfb2 : rput K b' x dx wa (tickM W s w) f = some (.lst ys) := by
        unfold rput
        rw [upd_ne (fun z => by rw [z, hRb.ins] at hfb; cases hfb)]
        exact hfb
      refine s_drop (c_appendC (ys := ys) (v_var rfl) (sq_of hfb2) (item _ _ _ _ _ rfl hR2 fun q2 b6 e6 => ⟨ys, e6 _ _ hfb2, by omega, ?_⟩))
      have hR6 := hR2.of e6
      have nx : x ≠ f := fun z => by
        have h := hRb.ins
        rw [z, hfb] at h
        cases h
      exact ⟨_, ys ++ [.ref q2], _, b0, rfl, upd_same, by rw [List.length_append, hyl]; rfl, ⟨cr, by rw [upd_ne nx]; exact hR6.ins, Ex.mut hR6.ex hn0, hR6.no, hR6.wo⟩, hs2, hn0, e0⟩
    · rintro σ' b' ⟨v5, ys, s, b0, rfl, hfb, hyl, hRb, hs, hn0, e0⟩
      exact s_retV (v_var rfl) (hk f b' (e0.trans hRb.ex))
theorem p_landings (h : sb_landings K vs b k ke) (hE : ∀ c b' H', ke c b' → Ex b' H' → E c none H') : Cs (t_landings K E) { nx := fun _ b' => k .non b', rt := k } (start ["world", "left", "top", "rows", "found", "at"] vs) b := by
  obtain ⟨wa, v1, v2, ra, rfl, cr, h⟩ := h
  exact q_asgC (c_call hE (Pa.c (a_cons (v_var rfl) (a_cons (v_var rfl) (a_cons (v_var rfl) (a_cons (v_var rfl) a_nil)))) ⟨wa, v1, v2, ra, rfl, cr, .inl h⟩))
theorem p_flights (h : sb_flights K vs b k ke) (hE : ∀ c b' H', ke c b' → Ex b' H' → E c none H') : Cs (t_flights K E) { nx := fun _ b' => k .non b', rt := k } (start ["world", "left", "top", "rows", "row", "found", "begun", "at", "place", "stands", "last", "here", "one"] vs) b := by
  obtain ⟨wa, v1, v2, ra, rfl, cr, h⟩ := h
  exact q_asgC (c_call hE (Pa.c (a_cons (v_var rfl) (a_cons (v_var rfl) (a_cons (v_var rfl) (a_cons (v_var rfl) a_nil)))) ⟨wa, v1, v2, ra, rfl, cr, .inl h⟩))
theorem c_lcF {g : TG} {t : TT} {xs : List Nat} (h : Ce tl σ b (fun _ _ => False)) : Ce (tLc (iList K tl) g t te xs) σ b k := fun H e Q q => h H e _ fun v b1 H1 f _ => f.elim
theorem p_reach (h : sb_reach K vs b k ke) (hE : ∀ c b' H', ke c b' → Ex b' H' → E c none H') : Cs (t_reach K E) { nx := fun _ b' => k .non b', rt := k } (start ["world", "left", "top", "rows", "row", "lefts", "tops", "place", "stands"] vs) b := by
  obtain ⟨wa, v1, v2, ra, rfl, cr, h⟩ := h
  exact q_asgC (c_lcF (c_call hE (Pa.c (a_cons (v_var rfl) (a_cons (v_var rfl) (a_cons (v_var rfl) (a_cons (v_var rfl) a_nil)))) ⟨wa, v1, v2, ra, rfl, cr, .inl h⟩)))
theorem cr_cat0 {l m : Addr} {xs : List V} (h1 : b l = some (.lst xs)) (h2 : b m = some (.lst [])) (hz : xs.length ≤ 100000) (hk : ∀ p, b p = none → k (.ref p) (upd b p (.lst xs))) : Cr (rAddU K) (.ref l) (.ref m) b k := cr_cat h1 h2 (by rw [List.length_nil]; omega) fun p hp => by
  rw [List.append_nil]
  exact hk p hp
/-- list(xs) + [""] * n -/
theorem c_pad {ta tb : TE} {p : Addr} {xs : List V} {n : Int} (h1 : Pn ta σ b (.lst xs)) (hz : xs.length ≤ 10) (hn : 0 ≤ n ∧ n ≤ 10) (h2 : ∀ b1, Ex b b1 → Pe tb σ b1 (.int n)) (hk : ∀ p b', Ex b b' → b' p = some (.lst (xs ++ (List.replicate n.toNat (V.str "")))) → k (.ref p) b') : Ce (tOp (rAddU K) ta (tOp rMulU (tLst (tCons (tC (.str "")) tNil)) tb)) σ b k :=
  c_op (Pn.c h1 fun p1 hp1 => c_op (Pn.c (n_lst (vs := [.str ""]) (a_cons v_c a_nil) (by show 1 ≤ 100000; decide)) fun p2 hp2 => Pe.c (h2 _ ((Ex.new hp1).trans (Ex.new hp2))) (cr_rep upd_same (by omega) (by omega) (by show 1 * _ ≤ 100000; omega) fun p3 hp3 => cr_cat ((Ex.new hp3) _ _ ((Ex.new hp2) _ _ upd_same)) upd_same (by
    rw [rep_flat (fun x : V => x), List.map_id', List.length_replicate]
    omega) fun p4 hp4 => hk p4 _ ((Ex.new hp1).trans ((Ex.new hp2).trans ((Ex.new hp3).trans (Ex.new hp4)))) (by
      rw [upd_same, rep_flat (fun x : V => x), List.map_id']))))
theorem keysBad_app {xs zs : List V} (h : KeysBad K b xs) : KeysBad K b (xs ++ zs) := by
  obtain ⟨i, x, h1, h2, h3⟩ := h
  have hi := (List.getElem?_eq_some_iff.mp h1).1
  refine ⟨i, x, by rw [List.getElem?_append_left hi]; exact h1, h2, fun j hj => ?_⟩
  obtain ⟨w, h4, h5⟩ := h3 j hj
  exact ⟨w, by rw [List.getElem?_append_left (by omega)]; exact h4, h5⟩
theorem p_apart (h : sb_apart K vs b k ke) (hE : ∀ c b' H', ke c b' → Ex b' H' → E c none H') : Cs (t_apart K E) { nx := fun _ b' => k .non b', rt := k } (start ["world", "left", "top", "one", "other", "many", "first", "second", "at"] vs) b := by
  obtain ⟨wa, v1, v2, oa, pa, xs, ys, W, rfl, cr, hW, hx, hy, lx, ly, h⟩ := h
  refine q_asgV (v_cb (a_cons (v_cb (a_cons (v_var rfl) a_nil) (p_lenL hx)) (a_cons (v_cb (a_cons (v_var rfl) a_nil) (p_lenL hy)) a_nil)) p_max2) ?_
  generalize hm : (if (ys.length : Int) > (xs.length : Int) then (ys.length : Int) else (xs.length : Int)) = many
  have m0 : (xs.length : Int) ≤ many ∧ (ys.length : Int) ≤ many ∧ many ≤ 10 := by
    rw [← hm]
    split <;> omega
  have pad : ∀ (i : Nat) (a : Addr) (zs : List V) (σ2 : L2.St) (b2 : Hp) (kk : VK), σ2[i]? = some (some (.ref a)) → σ2[5]? = some (some (.int many)) → SqL K b2 a zs → zs.length ≤ 10 → (zs.length : Int) ≤ many → (∀ p b', Ex b2 b' → b' p = some (.lst (zs ++ (List.replicate (many - (zs.length : Int)).toNat (V.str "")))) → kk (.ref p) b') → Ce (tOp (rAddU K) (tCB (rListA K) (tCons (tVar i) tNil)) (tOp rMulU (tLst (tCons (tC (.str "")) tNil)) (tOp rSubU (tVar 5) (tCB (rLenU K) (tCons (tVar i) tNil))))) σ2 b2 kk := fun i a zs σ2 b2 kk hi h5 hz l1 l2 hk =>
    c_pad (p := 0) (n_list (a_cons (v_var hi) a_nil) hz) l1 ⟨by omega, by omega⟩ (fun b1 e1 => v_op (v_var h5) (v_cb (a_cons (v_var hi) a_nil) (p_lenL (ex_l e1 hz))) r_sub) hk
  refine q_asgC (c_call hE (ca_consP (v_var rfl) (ca_consP (v_var rfl) (ca_consP (v_var rfl) (ca_cons (pad 3 oa xs _ _ _ rfl rfl hx lx m0.1 fun p b1 e1 hp => ca_nil ⟨wa, v1, v2, p, rfl, cr, ?_⟩))))))
  rcases h with ⟨h1, h2⟩ | ⟨h1, h2, h3⟩
  · exact .inl (.place W (hW.ex e1) (h1.ex e1) fun b' e' => h2 b' (e1.trans e'))
  · rcases h2 with h2 | ⟨⟨ks, rfl, hok⟩, h2⟩
    · exact .inl (.keys W _ (hW.ex e1) (h1.ex e1) (sq_of hp) (keysBad_app (h2.ex e1)) fun b' e' => h3 b' (e1.trans e'))
    · refine .inr ⟨W, ks ++ List.replicate (many - ((ks.map V.str).length : Int)).toNat ("" : Str), hW.ex e1, h1.ex e1, ?_, ?_, fun w hw => ?_, fun p2 b2 e2 => ?_⟩
      · rw [List.map_append, List.map_replicate]
        exact sq_of hp
      · rw [List.length_map] at lx
        rw [List.length_append, List.length_replicate]
        omega
      · rcases List.mem_append.mp hw with z | z
        · exact hok w z
        · rw [(List.mem_replicate.mp z).2]
          decide +kernel
      · have e02 := e1.trans e2
        refine q_asgC (c_call hE (ca_consP (v_var rfl) (ca_consP (v_var rfl) (ca_consP (v_var rfl) (ca_cons (pad 4 pa ys _ _ _ rfl rfl (ex_l e02 hy) ly m0.2.1 fun p3 b3 e3 hp3 => ca_nil ⟨wa, v1, v2, p3, rfl, cr, .inl (.keys W _ (hW.ex (e02.trans e3)) (h1.ex (e02.trans e3)) (sq_of hp3) (keysBad_app (h2.ex (e02.trans e3))) fun b' e' => h3 b' ((e02.trans e3).trans e'))⟩))))))
end

/-! ### units, courses -/
open Hx LamX
def unitD : PyData → Bool
  | .tuple [d1, d2] => cntD (-400) 400 d1 && cntD (-400) 400 d2
  | _ => false
section
variable {K : PySem.W.Frag} {σ : L2.St} {b b' : Hp} {vs : List V} {k : VK} {ke : XB} {E : XK} {te tl : TE} {ts : TA} {t : TT}
def sb_is_unit (K : PySem.W.Frag) : Sb := fun vs b k _ => ∃ v d, vs = [v] ∧ Dp K b v d ∧ (∀ ds, d = .tuple ds → ds.length < 1000) ∧ k (.bl (unitD d)) b
theorem len_is_unit : ∀ vs b k ke, sb_is_unit K vs b k ke → vs.length = (["thing"] : List Str).length := fun _ _ _ _ ⟨_, _, e, _⟩ => e ▸ rfl
/-- a comprehension over a tuple, each value pure -/
theorem n_lcTu {a : Addr} {xs ys : List V} {vs : List Nat} {j : Nat} (h : Pe tl σ b (.ref a)) (hx : SqT K b a xs) (hz : xs.length < 100000) (hl : ys.length = xs.length) (hw : ∀ x, wipe ((wipe σ vs).set j (some x)) vs = wipe σ vs)
    (he : ∀ (n : Nat) (x : V) (b1 : Hp), xs[n]? = some x → Ex b b1 → ∃ y, ys[n]? = some y ∧ Pe te ((wipe σ vs).set j (some x)) b1 y) : Pn (tLc (iTup K tl) (gName j) tYes te vs) σ b (.lst ys) := fun H e Q q =>
  h H e _ fun H1 e1 => ⟨a, rfl, ⟨xs, ex_t e1 hx⟩, fun Dl hD => lc_tup (xs := xs) (fun i H' => Ex (upd b Dl (.lst (ys.take i))) H') (ex_upd e1)
    (fun i H' hi e' => ex_t (fun c o hc => e' c o (by rw [upd_ne (ne_of_none hc (ex_none e1 hD))]; exact hc)) hx)
    (fun i x H' hi e' => by
      have hD0 := ex_none e1 hD
      obtain ⟨y, hy, hv⟩ := he i x (upd b Dl (.lst (ys.take i))) hi (Ex.new hD0)
      refine ⟨hw x, ?_⟩
      show te _ H' _
      refine hv H' e' _ fun H2 e2 => ⟨ys.take i, e2 Dl _ upd_same, sz_lt (by rw [List.length_take]; omega), ?_⟩
      have e3 := ex_upd (p := Dl) (o := .lst (ys.take i ++ [y])) e2
      rw [upd_upd] at e3
      rw [List.take_succ, hy]
      exact e3)
    fun H' e' => q Dl H' (ex_none e1 hD) (by rw [List.take_of_length_le (by omega)] at e'; exact e')⟩
end
def t_is_unit (K : PySem.W.Frag) (E : XK) : TS := (tRet (tAndV (tCB (rIsi K) (tCons (tVar 0) (tCons (tC (.ty "tuple")) tNil))) (tAndV (tOp (rEqU K) (tCB (rLenU K) (tCons (tVar 0) tNil)) (tC (.int 2))) (tCB (rAll K) (tCons (tLc (iTup K (tVar 0)) (gName 1) tYes (tCall (up (sb_is_count K)) [] E0 (tCons (tVar 1) (tCons (tOp rSubU (tC (.int 0)) (tC (.int 400))) (tCons (tC (.int 400)) tNil)))) [1]) tNil)))))
section
variable {K : PySem.W.Frag} {σ : L2.St} {b b' : Hp} {vs : List V} {k : VK} {ke : XB} {E : XK} {te tl : TE} {ts : TA} {t : TT}
theorem p_is_unit (h : sb_is_unit K vs b k ke) (hE : ∀ c b' H', ke c b' → Ex b' H' → E c none H') : Cs (t_is_unit K E) { nx := fun _ b' => k .non b', rt := k } (start ["thing", "one"] vs) b := by
  obtain ⟨v, d, rfl, hd, hz, hk⟩ := h
  have ty := dp_ty hd
  have no : kitB (tyN d) "tuple" = some false → unitD d = false → Cs (t_is_unit K E) { nx := fun _ b' => k .non b', rt := k } (start ["thing", "one"] [v]) b := fun h1 h2 => by
    refine s_retV (v_is (v_andV (d := false) (v_cb (a_cons (v_var rfl) (a_cons v_c a_nil)) (p_isi ty h1)) (fun z => by cases z)) ?_) hk
    rw [h2]
    rfl
  cases hd with
  | non => exact no (by decide +kernel) rfl
  | bl c => exact no (show kitB "bool" "tuple" = some false by decide +kernel) rfl
  | int i => exact no (show kitB "int" "tuple" = some false by decide +kernel) rfl
  | str w => exact no (show kitB "str" "tuple" = some false by decide +kernel) rfl
  | lst h1 h2 => exact no (show kitB "list" "tuple" = some false by decide +kernel) rfl
  | @tup a xs ds h1 h2 =>
    have hl := dpa_len h2
    have hz2 := hz ds rfl
    have isT : Pe (tCB (rIsi K) (tCons (tVar 0) (tCons (tC (.ty "tuple")) tNil))) (start ["thing", "one"] [V.ref a]) b (.bl true) := v_cb (a_cons (v_var rfl) (a_cons v_c a_nil)) (p_isi ty (show kitB "tuple" "tuple" = some true by decide +kernel))
    by_cases h2l : ds.length = 2
    · obtain ⟨d1, d2, rfl⟩ : ∃ d1 d2, ds = [d1, d2] := by
        match ds, h2l with
        | [d1, d2], _ => exact ⟨d1, d2, rfl⟩
      cases h2 with
      | @cons x1 xs1 _ _ q1 h2 =>
      cases h2 with
      | @cons x2 xs2 _ _ q2 h2 =>
      cases h2
      refine s_retV (v_is (v_andV isT (fun _ => v_andV (d := unitD (.tuple [d1, d2])) (v_op (v_cb (a_cons (v_var rfl) a_nil) (p_lenT h1)) v_c r_eqI) (fun _ => v_is (v_allN (bs := [cntD (-400) 400 d1, cntD (-400) 400 d2]) (n_lcTu (K := K) (ys := [.bl (cntD (-400) 400 d1), .bl (cntD (-400) 400 d2)]) (v_var rfl) h1 (by show 2 < 100000; decide) rfl (fun x => rfl) (fun n x b1 hn e1 => ?_)) rfl) ?_))) ?_) hk
      · match n, hn with
        | 0, hn => cases hn; exact ⟨_, rfl, v_call (a_cons (v_var rfl) (a_cons (v_is (v_op v_c v_c r_sub) rfl) (a_cons v_c a_nil))) (s_count (cnt_dp (dp_ex e1 q1)))⟩
        | 1, hn => cases hn; exact ⟨_, rfl, v_call (a_cons (v_var rfl) (a_cons (v_is (v_op v_c v_c r_sub) rfl) (a_cons v_c a_nil))) (s_count (cnt_dp (dp_ex e1 q2)))⟩
        | _ + 2, hn => cases hn
      · show V.bl (cntD (-400) 400 d1 && (cntD (-400) 400 d2 && true)) = _
        rw [Bool.and_true]
        rfl
      · rfl
    · have hu : unitD (.tuple ds) = false := by
        match ds, h2l with
        | [], _ => rfl
        | [_], _ => rfl
        | [_, _], h => exact absurd rfl h
        | _ :: _ :: _ :: _, _ => rfl
      refine s_retV (v_is (v_andV isT (fun _ => v_andV (d := false) (v_op (v_cb (a_cons (v_var rfl) a_nil) (p_lenT h1)) v_c r_eqI) (fun z => ?_))) ?_) hk
      · have := of_decide_eq_true z
        omega
      · rw [hu, Bool.and_false]
        rfl
end
/-! ### the class -/
structure CC (K : PySem.W.Frag) : Prop where
  cl : Cls K (He.ga K "Course")
  runner : NoAttr K (He.ga K "Course") "runner"
  begun : NoAttr K (He.ga K "Course") "begun"
  things : NoAttr K (He.ga K "Course") "things"
  goal : NoAttr K (He.ga K "Course") "goal"
  rows : NoAttr K (He.ga K "Course") "rows"
  gone : NoAttr K (He.ga K "Course") "gone_back"
  got : NoAttr K (He.ga K "Course") "got"
  reached : NoAttr K (He.ga K "Course") "reached"
def cfl (ra bt th gq rw gb gd : Addr) : List (Str × V) := [("runner", .ref ra), ("begun", .ref bt), ("things", .ref th), ("goal", .ref gq), ("rows", .ref rw), ("gone_back", .ref gb), ("got", .ref gd), ("reached", .non)]
section
variable (ra bt th gq rw gb gd x : Addr)
theorem cfl_runner : (cfl ra bt th gq rw gb gd).lookup ("runner" : Str) = some (.ref ra) := by kernel_rfl
theorem cfl_begun : (cfl ra bt th gq rw gb gd).lookup ("begun" : Str) = some (.ref bt) := by kernel_rfl
theorem cfl_things : (cfl ra bt th gq rw gb gd).lookup ("things" : Str) = some (.ref th) := by kernel_rfl
theorem cfl_goal : (cfl ra bt th gq rw gb gd).lookup ("goal" : Str) = some (.ref gq) := by kernel_rfl
theorem cfl_rows : (cfl ra bt th gq rw gb gd).lookup ("rows" : Str) = some (.ref rw) := by kernel_rfl
theorem cfl_gone : (cfl ra bt th gq rw gb gd).lookup ("gone_back" : Str) = some (.ref gb) := by kernel_rfl
theorem cfl_got : (cfl ra bt th gq rw gb gd).lookup ("got" : Str) = some (.ref gd) := by kernel_rfl
theorem cfl_reached : (cfl ra bt th gq rw gb gd).lookup ("reached" : Str) = some .non := by kernel_rfl
theorem cput_gone : putF "gone_back" (.ref x) (cfl ra bt th gq rw gb gd) = cfl ra bt th gq rw x gd := by kernel_rfl
theorem cput_runner : putF "runner" (.ref x) (cfl ra bt th gq rw gb gd) = cfl x bt th gq rw gb gd := by kernel_rfl
theorem cput_rows : putF "rows" (.ref x) (cfl ra bt th gq rw gb gd) = cfl ra bt th gq x gb gd := by kernel_rfl
theorem cput_got : putF "got" (.ref x) (cfl ra bt th gq rw gb gd) = cfl ra bt th gq rw gb x := by kernel_rfl
theorem cput_reached : putF "reached" .non (cfl ra bt th gq rw gb gd) = cfl ra bt th gq rw gb gd := by kernel_rfl
theorem cfl_none {m : Str} (h : ([("runner" : Str), "begun", "things", "goal", "rows", "gone_back", "got", "reached"].all fun n => !(m == n)) = true) : (cfl ra bt th gq rw gb gd).lookup m = none := by
  simp only [List.all_cons, List.all_nil, Bool.and_true, Bool.and_eq_true, Bool.not_eq_true'] at h
  obtain ⟨h1, h2, h3, h4, h5, h6, h7, h8⟩ := h
  unfold cfl
  rw [List.lookup_cons, h1, List.lookup_cons, h2, List.lookup_cons, h3, List.lookup_cons, h4, List.lookup_cons, h5, List.lookup_cons, h6, List.lookup_cons, h7, List.lookup_cons, h8]
  rfl
end
def coverM (s : Rs) (u : Int × Int) : Bool := (decide (s.x ≤ u.1) && decide (u.1 < s.x + 6)) && (decide (s.y ≤ u.2) && decide (u.2 < s.y + 10))
/-- where a course lies, and what it is like -/
structure C8 where
  ca : Addr
  cd : Addr
  ra : Addr
  rd : Addr
  wa : Addr
  bt : Addr
  th : Addr
  gq : Addr
  rw : Addr
  gb : Addr
  gd : Addr
  W : Wd
  l : Int
  t : Int
  qs : List Addr
  us : List (Int × Int)
  g : Int × Int
  s : Rs
  rows : List Str
  gone : List Str
structure CAt (K : PySem.W.Frag) (b0 : Hp) (c : C8) (b : Hp) : Prop where
  ex : Ex b0 b
  nc : b0 c.ca = none
  nr : b0 c.ra = none
  nw : b0 c.rw = none
  o : WAt K b0 c.wa c.W
  bt : SqT K b0 c.bt [.ref c.wa, .int c.l, .int c.t]
  th : SqL K b0 c.th (c.qs.map V.ref)
  ln : c.qs.length = c.us.length
  tu : ∀ (i : Nat) (q : Addr) (u : Int × Int), c.qs[i]? = some q → c.us[i]? = some u → SqT K b0 q [.int u.1, .int u.2]
  gq : SqT K b0 c.gq [.int c.g.1, .int c.g.2]
  gb : b0 c.gb = some (.lst (c.gone.map V.str))
  gd : b0 c.gd = some (.dK [])
  ic : b c.ca = some (.ins (He.ga K "Course") c.cd (cfl c.ra c.bt c.th c.gq c.rw c.gb c.gd))
  ir : b c.ra = some (.ins (He.ga K "Runner") c.rd (rf c.wa c.s))
  iw : b c.rw = some (.lst (c.rows.map V.str))
  cc : CC K
  cr : CR K
  few : c.us.length ≤ 20
  fr : FreeRs c.W c.s
abbrev NoCov (c : C8) (s : Rs) : Prop := (∀ u ∈ c.us, coverM s u = false) ∧ coverM s c.g = false
section
variable {K : PySem.W.Frag} {b0 b b' : Hp} {c : C8}
theorem CAt.of (h : CAt K b0 c b) (e : Ex b b') : CAt K b0 c b' := { h with ex := h.ex.trans e, ic := e _ _ h.ic, ir := e _ _ h.ir, iw := e _ _ h.iw }
theorem CAt.run (h : CAt K b0 c b) : RA K b c.ra c.rd c.wa b0 c.W c.s := ⟨h.cr, h.ir, h.ex, h.nr, h.o⟩
theorem CAt.car (h : CAt K b0 c b) : c.ca ≠ c.ra := ins_ne h.ic h.ir (by show 8 ≠ 7; decide)
theorem CAt.caw (h : CAt K b0 c b) : c.ca ≠ c.rw := fun z => by
  have := h.ic
  rw [z, h.iw] at this
  cases this
theorem CAt.rw_ (h : CAt K b0 c b) : c.ra ≠ c.rw := fun z => by
  have := h.ir
  rw [z, h.iw] at this
  cases this
theorem CAt.tick (h : CAt K b0 c b) {s' : Rs} (hs : FreeRs c.W s') : CAt K b0 { c with s := s' } (rput K b c.ra c.rd c.wa s') := { h with
  ex := Ex.mut h.ex h.nr
  ic := by
    show rput K b c.ra c.rd c.wa s' c.ca = _
    unfold rput
    rw [upd_ne h.car]
    exact h.ic
  ir := upd_same
  iw := by
    show rput K b c.ra c.rd c.wa s' c.rw = _
    unfold rput
    rw [upd_ne (Ne.symm h.rw_)]
    exact h.iw
  fr := hs }
theorem CAt.app (h : CAt K b0 c b) (w : Str) : CAt K b0 { c with rows := c.rows ++ [w] } (upd b c.rw (.lst (c.rows.map V.str ++ [.str w]))) := { h with
  ex := Ex.mut h.ex h.nw
  ic := by
    show upd b c.rw _ c.ca = _
    rw [upd_ne h.caw]
    exact h.ic
  ir := by
    show upd b c.rw _ c.ra = _
    rw [upd_ne h.rw_]
    exact h.ir
  iw := by
    show upd b c.rw _ c.rw = some (.lst ((c.rows ++ [w]).map V.str))
    rw [upd_same, List.map_append]
    rfl }
/-- a new list in the place of what was gone back -/
theorem CAt.gone_ (h : CAt K b0 c b) {p : Addr} {ws : List Str} (hp : b p = none) : CAt K (upd b0 p (.lst (ws.map V.str))) { c with gb := p, gone := ws } (upd (upd b p (.lst (ws.map V.str))) c.ca (.ins (He.ga K "Course") c.cd (cfl c.ra c.bt c.th c.gq c.rw p c.gd))) := by
  have hp0 := ex_none h.ex hp
  have e0 : Ex b0 (upd b0 p (.lst (ws.map V.str))) := Ex.new hp0
  have npc : c.ca ≠ p := ne_of_none h.ic hp
  have npr : c.ra ≠ p := ne_of_none h.ir hp
  have npw : c.rw ≠ p := ne_of_none h.iw hp
  have nc : upd b0 p (.lst (ws.map V.str)) c.ca = none := by rw [upd_ne npc]; exact h.nc
  exact { h with
    ex := Ex.mut (ex_upd h.ex) nc
    nc := nc
    nr := by show upd b0 p _ c.ra = none; rw [upd_ne npr]; exact h.nr
    nw := by show upd b0 p _ c.rw = none; rw [upd_ne npw]; exact h.nw
    o := h.o.ex e0
    bt := ex_t e0 h.bt
    th := ex_l e0 h.th
    tu := fun i q u h1 h2 => ex_t e0 (h.tu i q u h1 h2)
    gq := ex_t e0 h.gq
    gb := upd_same
    gd := e0 _ _ h.gd
    ic := upd_same
    ir := by show upd (upd b p _) c.ca _ c.ra = _; rw [upd_ne (Ne.symm h.car), upd_ne npr]; exact h.ir
    iw := by show upd (upd b p _) c.ca _ c.rw = _; rw [upd_ne (Ne.symm h.caw), upd_ne npw]; exact h.iw }
end

/-! ### courses, walked -/
section
variable {K : PySem.W.Frag} {σ : L2.St} {b0 b b' : Hp} {vs : List V} {k : VK} {ke : XB} {E : XK} {te tl : TE} {ts : TA} {t : TT} {c : C8}
def sb_Course_covers (K : PySem.W.Frag) : Sb := fun vs b k _ => ∃ b0 c q x y, vs = [.ref (c : C8).ca, .ref q] ∧ CAt K b0 c b ∧ SqT K b q [.int x, .int y] ∧ k (.bl (coverM c.s (x, y))) b
theorem len_Course_covers : ∀ vs b k ke, sb_Course_covers K vs b k ke → vs.length = (["self", "unit"] : List Str).length := fun _ _ _ _ ⟨_, _, _, _, _, e, _⟩ => e ▸ rfl
def sb_Course_look (K : PySem.W.Frag) : Sb := fun vs b k _ => ∃ b0 c, vs = [.ref (c : C8).ca] ∧ CAt K b0 c b ∧ NoCov c c.s ∧ ∀ p b', Ex b b' → b' p = some (.lst []) → k (.ref p) b'
theorem len_Course_look : ∀ vs b k ke, sb_Course_look K vs b k ke → vs.length = (["self"] : List Str).length := fun _ _ _ _ ⟨_, _, e, _⟩ => e ▸ rfl
def sb_Course_go (K : PySem.W.Frag) : Sb := fun vs b k _ => ∃ b0 c, ∃ w : Str, vs = [.ref (c : C8).ca, .str w] ∧ CAt K b0 c b ∧ keysOk w = true ∧ c.rows.length < 1000 ∧ NoCov c (tickM c.W c.s w) ∧ ∀ p b', CAt K b0 { c with s := tickM c.W c.s w, rows := c.rows ++ [w] } b' → b' p = some (.lst []) → k (.ref p) b'
theorem len_Course_go : ∀ vs b k ke, sb_Course_go K vs b k ke → vs.length = (["self", "keys"] : List Str).length := fun _ _ _ _ ⟨_, _, _, e, _⟩ => e ▸ rfl
def sb_Course_tick (K : PySem.W.Frag) : Sb := fun vs b k ke => ∃ b0 c v r, vs = [.ref (c : C8).ca, v] ∧ CAt K b0 c b ∧ KeysIs K b v r ∧ (r = false → ke (.ref (He.ga K "BadKeys")) b) ∧ (r = true → c.rows.length < 1000 ∧ ∀ w : Str, v = .str w → NoCov c (tickM c.W c.s w) ∧
  ∀ p b0' gb' b', Ex b0 b0' → CAt K b0' { c with s := tickM c.W c.s w, rows := c.rows ++ [w], gb := gb', gone := [] } b' → b' p = some (.lst []) → k (.ref p) b')
theorem len_Course_tick : ∀ vs b k ke, sb_Course_tick K vs b k ke → vs.length = (["self", "keys"] : List Str).length := fun _ _ _ _ ⟨_, _, _, _, e, _⟩ => e ▸ rfl
abbrev rsB (c : C8) : Rs := ⟨0, c.l, c.t, 0, 0, false⟩
def sb_Course_back (K : PySem.W.Frag) : Sb := fun vs b k ke => ∃ b0 c v r, vs = [.ref (c : C8).ca, v] ∧ CAt K b0 c b ∧ CountIs K b 1 (c.rows.length : Int) v r ∧ (r = false → ke (.ref (He.ga K "Nothing")) b) ∧ (r = true → v = .int (c.rows.length : Int) ∧ NoCov c (rsB c) ∧ c.rows.length ≤ 100 ∧ c.gone.length ≤ 100 ∧ (-400 ≤ c.l ∧ c.l ≤ 400) ∧ (-400 ≤ c.t ∧ c.t ≤ 400) ∧ freeM c.W.rows c.W.w c.l c.t = true ∧
  ∀ b0' ra' rd' rw' gb' gd' b', Ex b0 b0' → CAt K b0' { c with s := rsB c, rows := [], gone := c.rows ++ c.gone, ra := ra', rd := rd', rw := rw', gb := gb', gd := gd' } b' → k .non b')
theorem len_Course_back : ∀ vs b k ke, sb_Course_back K vs b k ke → vs.length = (["self", "ticks"] : List Str).length := fun _ _ _ _ ⟨_, _, _, _, e, _⟩ => e ▸ rfl
def sb_Course_again (K : PySem.W.Frag) : Sb := fun vs b _ ke => ∃ b0 c, vs = [.ref (c : C8).ca] ∧ CAt K b0 c b ∧ c.gone = [] ∧ ke (.ref (He.ga K "Nothing")) b
theorem len_Course_again : ∀ vs b k ke, sb_Course_again K vs b k ke → vs.length = (["self"] : List Str).length := fun _ _ _ _ ⟨_, _, e, _⟩ => e ▸ rfl
def sb_Course_clock (K : PySem.W.Frag) : Sb := fun vs b k _ => ∃ b0 c, vs = [.ref (c : C8).ca] ∧ CAt K b0 c b ∧ k (.int (c.rows.length : Int)) b
theorem len_Course_clock : ∀ vs b k ke, sb_Course_clock K vs b k ke → vs.length = (["self"] : List Str).length := fun _ _ _ _ ⟨_, _, e, _⟩ => e ▸ rfl
def sb_Course_left_over (K : PySem.W.Frag) : Sb := fun vs b k _ => ∃ b0 c, vs = [.ref (c : C8).ca] ∧ CAt K b0 c b ∧ ∀ p, b p = none → k (.ref p) (upd b p (.lst ((List.range c.us.length).map fun i => V.int (i : Nat))))
theorem len_Course_left_over : ∀ vs b k ke, sb_Course_left_over K vs b k ke → vs.length = (["self"] : List Str).length := fun _ _ _ _ ⟨_, _, e, _⟩ => e ▸ rfl
def sb_Course_done (K : PySem.W.Frag) : Sb := fun vs b k _ => ∃ b0 c, vs = [.ref (c : C8).ca] ∧ CAt K b0 c b ∧ k .non b
theorem len_Course_done : ∀ vs b k ke, sb_Course_done K vs b k ke → vs.length = (["self"] : List Str).length := fun _ _ _ _ ⟨_, _, e, _⟩ => e ▸ rfl
def sb_Course_tape (K : PySem.W.Frag) : Sb := fun vs b k _ => ∃ b0 c, vs = [.ref (c : C8).ca] ∧ CAt K b0 c b ∧ c.rows.length ≤ 1000 ∧ (∀ w ∈ c.rows, keysOk w = true) ∧ k (.str (writtenM c.rows)) b
theorem len_Course_tape : ∀ vs b k ke, sb_Course_tape K vs b k ke → vs.length = (["self"] : List Str).length := fun _ _ _ _ ⟨_, _, e, _⟩ => e ▸ rfl
end
def t_Course_covers (K : PySem.W.Frag) (E : XK) : TS := (tSeq (tAsg (tMeth (He.ga K "Runner") "at" (up (sb_Runner_at K)) [] E (tFld K (tVar 0) "runner") tNil) (gTup K 2 (gCons (gName 2) (gCons (gName 3) gNil)))) (tRet (tAndV (tChain rLeI rLtI (tVar 2) (tOp (rIx K) (tVar 1) (tC (.int 0))) (tOp (rAddU K) (tVar 2) (tC (.int 6)))) (tChain rLeI rLtI (tVar 3) (tOp (rIx K) (tVar 1) (tC (.int 1))) (tOp (rAddU K) (tVar 3) (tC (.int 10)))))))
def t_Course_look (K : PySem.W.Frag) (E : XK) : TS := (tSeq (tAsg (tLc (iEnum K (tCons (tFld K (tVar 0) "things") tNil)) (gTup K 2 (gCons (gName 2) (gCons (gName 3) gNil))) (tAnd (tB (tDNotIn (tVar 2) (tFld K (tVar 0) "got"))) (tB (tMeth (He.ga K "Course") "covers" (up (sb_Course_covers K)) [] E0 (tVar 0) (tCons (tVar 3) tNil)))) (tVar 2) [2, 3]) (gName 1)) (tSeq (tFor (iList K (tVar 1)) (gName 2) (sDPut (tFld K (tVar 0) "got") (tVar 2) (tMeth (He.ga K "Runner") "clock" (up (sb_Runner_clock K)) [] E (tFld K (tVar 0) "runner") tNil))) (tSeq (tIfS (tAnd (tTest (tOp rIsNone (tFld K (tVar 0) "reached") (tC .non))) (tB (tMeth (He.ga K "Course") "covers" (up (sb_Course_covers K)) [] E (tVar 0) (tCons (tFld K (tVar 0) "goal") tNil)))) (sFld K (tVar 0) (tMeth (He.ga K "Runner") "clock" (up (sb_Runner_clock K)) [] E (tFld K (tVar 0) "runner") tNil) "reached") tNext) (tRet (tVar 1)))))
def t_Course_go (K : PySem.W.Frag) (E : XK) : TS := (tSeq (tDrop (tMeth (He.ga K "Runner") "tick" (up (sb_Runner_tick K)) [] E (tFld K (tVar 0) "runner") (tCons (tVar 1) tNil))) (tSeq (tDrop (tBM K "list" rAppend (tFld K (tVar 0) "rows") (tCons (tVar 1) tNil))) (tRet (tMeth (He.ga K "Course") "look" (up (sb_Course_look K)) [] E (tVar 0) tNil))))
def t_Course_tick (K : PySem.W.Frag) (E : XK) : TS := (tSeq (tDrop (tCall (up (sb_need_keys K)) [] E (tCons (tVar 1) tNil))) (tSeq (sFld K (tVar 0) (tLst tNil) "gone_back") (tRet (tMeth (He.ga K "Course") "go" (up (sb_Course_go K)) [] E (tVar 0) (tCons (tVar 1) tNil)))))
def t_Course_back (K : PySem.W.Frag) (E : XK) : TS := (tSeq (tIfS (tNot (tB (tCall (up (sb_is_count K)) [] E (tCons (tVar 1) (tCons (tC (.int 1)) (tCons (tCB (rLenU K) (tCons (tFld K (tVar 0) "rows") tNil)) tNil)))))) (tRaise (.ref (He.ga K "Nothing")) E) tNext) (tSeq (tAsg (tSl (rSlU K) (tFld K (tVar 0) "rows") tNoPart (tPart (tOp rSubU (tCB (rLenU K) (tCons (tFld K (tVar 0) "rows") tNil)) (tVar 1)))) (gName 2)) (tSeq (sFld K (tVar 0) (tOp (rAddU K) (tSl (rSlU K) (tFld K (tVar 0) "rows") (tPart (tOp rSubU (tCB (rLenU K) (tCons (tFld K (tVar 0) "rows") tNil)) (tVar 1))) tNoPart) (tFld K (tVar 0) "gone_back")) "gone_back") (tSeq (tAsg (tFld K (tVar 0) "begun") (gTup K 3 (gCons (gName 3) (gCons (gName 4) (gCons (gName 5) gNil))))) (tSeq (sFld K (tVar 0) (tMake (He.ga K "Runner") (up (sb_Runner___init__ K)) [] E (tCons (tVar 3) (tCons (tVar 4) (tCons (tVar 5) tNil)))) "runner") (tSeq (sFld K (tVar 0) (tLst tNil) "rows") (tSeq (sFld K (tVar 0) tDNewK "got") (tSeq (sFld K (tVar 0) (tC .non) "reached") (tSeq (tDrop (tMeth (He.ga K "Course") "look" (up (sb_Course_look K)) [] E (tVar 0) tNil)) (tFor (iList K (tVar 2)) (gName 6) (tDrop (tMeth (He.ga K "Course") "go" (up (sb_Course_go K)) [] E (tVar 0) (tCons (tVar 6) tNil)))))))))))))
def t_Course_again (K : PySem.W.Frag) (E : XK) : TS := (tSeq (tIfS (tTest (tOp (rEqU K) (tFld K (tVar 0) "gone_back") (tLst tNil))) (tRaise (.ref (He.ga K "Nothing")) E) tNext) (tSeq (tAsg (tOp (rIx K) (tFld K (tVar 0) "gone_back") (tC (.int 0))) (gName 1)) (tSeq (sFld K (tVar 0) (tSl (rSlU K) (tFld K (tVar 0) "gone_back") (tPart (tC (.int 1))) tNoPart) "gone_back") (tRet (tMeth (He.ga K "Course") "go" (up (sb_Course_go K)) [] E (tVar 0) (tCons (tVar 1) tNil))))))
def t_Course_clock (K : PySem.W.Frag) (E : XK) : TS := (tRet (tCB (rLenU K) (tCons (tFld K (tVar 0) "rows") tNil)))
def t_Course_left_over (K : PySem.W.Frag) (E : XK) : TS := (tRet (tLc (iRng1 (tCons (tCB (rLenU K) (tCons (tFld K (tVar 0) "things") tNil)) tNil)) (gName 1) (tB (tDNotIn (tVar 1) (tFld K (tVar 0) "got"))) (tVar 1) [1]))
def t_Course_done (K : PySem.W.Frag) (E : XK) : TS := (tSeq (tIfS (tOr (tTest (tOp rIsNone (tFld K (tVar 0) "reached") (tC .non))) (tTest (tOp rLtI (tCB rLenD (tCons (tFld K (tVar 0) "got") tNil)) (tCB (rLenU K) (tCons (tFld K (tVar 0) "things") tNil))))) (tRet (tC .non)) tNext) (tRet (tCB (rMax K) (tCons (tOp (rAddU K) (tLst (tCons (tFld K (tVar 0) "reached") tNil)) (tLc (iKeys (tFld K (tVar 0) "got")) (gName 1) tYes (tDGet (tFld K (tVar 0) "got") (tVar 1)) [1])) tNil))))
def t_Course_tape (K : PySem.W.Frag) (E : XK) : TS := (tRet (tCall (up (sb_written K)) [] E (tCons (tFld K (tVar 0) "rows") tNil)))
section
variable {K : PySem.W.Frag} {σ : L2.St} {b0 b b' : Hp} {vs : List V} {k : VK} {ke : XB} {E : XK} {ta te tl tb : TE} {ts : TA} {t : TT} {c : C8}
theorem cf_runner (h : CAt K b0 c b) (ho : Pe ta σ b (.ref c.ca)) : Pe (tFld K ta "runner") σ b (.ref c.ra) := v_fld ho h.ic h.cc.cl h.cc.runner (cfl_runner ..)
theorem cf_rows (h : CAt K b0 c b) (ho : Pe ta σ b (.ref c.ca)) : Pe (tFld K ta "rows") σ b (.ref c.rw) := v_fld ho h.ic h.cc.cl h.cc.rows (cfl_rows ..)
theorem cf_things (h : CAt K b0 c b) (ho : Pe ta σ b (.ref c.ca)) : Pe (tFld K ta "things") σ b (.ref c.th) := v_fld ho h.ic h.cc.cl h.cc.things (cfl_things ..)
theorem cf_goal (h : CAt K b0 c b) (ho : Pe ta σ b (.ref c.ca)) : Pe (tFld K ta "goal") σ b (.ref c.gq) := v_fld ho h.ic h.cc.cl h.cc.goal (cfl_goal ..)
theorem cf_gone (h : CAt K b0 c b) (ho : Pe ta σ b (.ref c.ca)) : Pe (tFld K ta "gone_back") σ b (.ref c.gb) := v_fld ho h.ic h.cc.cl h.cc.gone (cfl_gone ..)
theorem cf_got (h : CAt K b0 c b) (ho : Pe ta σ b (.ref c.ca)) : Pe (tFld K ta "got") σ b (.ref c.gd) := v_fld ho h.ic h.cc.cl h.cc.got (cfl_got ..)
theorem cf_begun (h : CAt K b0 c b) (ho : Pe ta σ b (.ref c.ca)) : Pe (tFld K ta "begun") σ b (.ref c.bt) := v_fld ho h.ic h.cc.cl h.cc.begun (cfl_begun ..)
theorem cf_reached (h : CAt K b0 c b) (ho : Pe ta σ b (.ref c.ca)) : Pe (tFld K ta "reached") σ b .non := v_fld ho h.ic h.cc.cl h.cc.reached (cfl_reached ..)
theorem p_Course_covers (h : sb_Course_covers K vs b k ke) (hE : ∀ c b' H', ke c b' → Ex b' H' → E c none H') : Cs (t_Course_covers K E) { nx := fun _ b' => k .non b', rt := k } (start ["self", "unit", "left", "top"] vs) b := by
  obtain ⟨b0, c, q, x, y, rfl, hC, hq, hk⟩ := h
  refine q_asgT (K := K) (x_at hC.run (cf_runner hC (v_var rfl))) rfl (gs_name (gs_name (gs_nil ?_)))
  exact s_retV (v_andV (v_chain (v_var rfl) (v_op (v_var rfl) v_c (r_iT hq rfl)) r_le (fun _ => v_op (v_var rfl) v_c r_add) (fun _ => r_lt)) (fun _ => v_chain (v_var rfl) (v_op (v_var rfl) v_c (r_iT hq rfl)) r_le (fun _ => v_op (v_var rfl) v_c r_add) (fun _ => r_lt))) hk
theorem x_covers (h : CAt K b0 c b) (ho : Pe ta σ b (.ref c.ca)) {q : Addr} {x y : Int} (hq : SqT K b q [.int x, .int y]) (hv : Pe te σ b (.ref q)) : Pe (tMeth (He.ga K "Course") "covers" (up (sb_Course_covers K)) [] E ta (tCons te tNil)) σ b (.bl (coverM c.s (x, y))) :=
  v_meth ho h.ic (cfl_none _ _ _ _ _ _ _ (by decide +kernel)) (a_cons hv a_nil) (fun k hk => ⟨b0, c, q, x, y, rfl, h, hq, hk⟩)
theorem v_notIn0 {p : Addr} {n : Int} (h : Pe ta σ b (.int n)) (hd : Pe tb σ b (.ref p)) (hp : b p = some (.dK [])) : Pe (tDNotIn ta tb) σ b (.bl true) := fun H a Q q =>
  h H a _ fun H1 a1 => hd H1 a1 _ fun H2 a2 => ⟨p, _, rfl, DGet.k (k := .inl n) (a2 p _ hp), q H2 a2⟩
/-- a comprehension over enumerate(..) that takes none -/
theorem c_lcE0 {a : Addr} {xs : List V} {vs : List Nat} {i j : Nat} (h : Pa ts σ b [.ref a]) (hx : SqL K b a xs) (hw : ∀ x y, wipe (((wipe σ vs).set i (some x)).set j (some y)) vs = wipe σ vs)
    (ht : ∀ (n : Nat) (x : V) (b1 : Hp), xs[n]? = some x → Ex b b1 → Pt t (((wipe σ vs).set i (some (.int (n : Int)))).set j (some x)) b1 false) (hk : ∀ p b', Ex b b' → b' p = some (.lst []) → k (.ref p) b') : Ce (tLc (iEnum K ts) (gTup K 2 (gCons (gName i) (gCons (gName j) gNil))) t te vs) σ b k := fun H e Q q =>
  h H e _ fun H1 e1 => ⟨a, xs, rfl, ex_l e1 hx, fun D hD => ⟨fun n m H' => (m = xs.length - n ∧ n ≤ xs.length) ∧ Ex (upd b D (.lst [])) H', ⟨xs.length, ⟨by simp, Nat.zero_le _⟩, ex_upd e1⟩, fun n m H' w => by
    obtain ⟨⟨em, hn⟩, e'⟩ := w
    have hD0 := ex_none e1 hD
    have eb : Ex b H' := (Ex.new hD0).trans e'
    have q2 := ex_l eb hx
    rcases Nat.lt_or_ge n xs.length with hlt | hge
    · refine .inr ⟨⟨xs, xs[n], q2, by simp [hlt]⟩, fun H2 => Ex (upd b D (.lst [])) H2, fun H2 p2 => ⟨xs.length - (n + 1), by omega, ⟨rfl, hlt⟩, p2⟩, fun w H2 yy => ?_⟩
      obtain ⟨T, x, rfl, hT, rfl, hy⟩ := yy
      refine ⟨T, [.int (n : Nat), x], rfl, st_of upd_same, rfl, ⟨_, _, rfl, ⟨_, _, rfl, rfl, hw _ _, ?_⟩⟩⟩
      refine ht n x (upd b D (.lst [])) (hy xs q2) (Ex.new hD0) _ (e'.trans (Ex.new hT)) _ fun H3 e3 => ?_
      rw [if_neg (by decide)]
      exact e3
    · have en : n = xs.length := by omega
      subst en
      exact .inl ⟨⟨xs, q2, Nat.le_refl _⟩, q _ _ H' (hk D _ (Ex.new hD0) upd_same) e'⟩⟩⟩
theorem p_Course_look (h : sb_Course_look K vs b k ke) (hE : ∀ c b' H', ke c b' → Ex b' H' → E c none H') : Cs (t_Course_look K E) { nx := fun _ b' => k .non b', rt := k } (start ["self", "found", "number", "unit"] vs) b := by
  obtain ⟨b0, c, rfl, hC, hN, hk⟩ := h
  refine q_asgC (c_lcE0 (K := K) (xs := c.qs.map V.ref) (a_cons (cf_things hC (v_var rfl)) a_nil) (ex_l hC.ex hC.th) (fun x y => rfl) (fun n x b1 hn e1 => ?_) fun f b2 e2 hf => ?_)
  · obtain ⟨q, hq, rfl⟩ : ∃ q, c.qs[n]? = some q ∧ V.ref q = x := by
      rw [List.getElem?_map] at hn
      cases e : c.qs[n]? with
      | none => rw [e] at hn; cases hn
      | some q => rw [e] at hn; exact ⟨q, rfl, Option.some.inj hn⟩
    have hlt : n < c.us.length := by rw [← hC.ln]; exact (List.getElem?_eq_some_iff.mp hq).1
    have hu : c.us[n]? = some c.us[n] := List.getElem?_eq_getElem hlt
    have hC1 := hC.of e1
    have ht := ex_t (hC.ex.trans e1) (hC.tu n q _ hq hu)
    refine t_is (t_and (t_B (v_notIn0 (v_var rfl) (cf_got hC1 (v_var rfl)) (e1 _ _ (hC.ex _ _ hC.gd)))) (fun _ => t_B (x_covers hC1 (v_var rfl) ht (v_var rfl)))) ?_
    rw [hN.1 (c.us[n].1, c.us[n].2) (List.getElem_mem hlt)]
    rfl
  have hC2 := hC.of e2
  refine s_seq (s_list (K := K) (xs := []) (v_var rfl) (sq_of hf) (fun i σ' b' => b2 = b' ∧ ∃ v2 v3 : Option V, σ' = [some (.ref c.ca), some (.ref f), v2, v3]) ⟨rfl, _, _, rfl⟩ (fun i σ' b' _ ⟨e, _⟩ => e ▸ sq_of hf) (fun i x σ' b' hi _ => by cases hi) ?_)
  rintro σ' b' ⟨rfl, v2, v3, rfl⟩
  refine q_when (c := false) (t_is (t_and (t_test (v_op (cf_reached hC2 (v_var rfl)) v_c r_isN)) (fun _ => t_B (x_covers hC2 (v_var rfl) (ex_t hC2.ex hC.gq) (cf_goal hC2 (v_var rfl))))) ?_) (fun z => by cases z) (fun _ => s_retV (v_var rfl) (hk f b2 e2 hf))
  rw [hN.2, Bool.and_false]
theorem c_look (h : CAt K b0 c b) (hN : NoCov c c.s) (ho : Pe ta σ b (.ref c.ca)) (hk : ∀ p b', Ex b b' → b' p = some (.lst []) → k (.ref p) b') : Ce (tMeth (He.ga K "Course") "look" (up (sb_Course_look K)) [] E ta tNil) σ b k :=
  c_meth0 ho h.ic (cfl_none _ _ _ _ _ _ _ (by decide +kernel)) (ca_nil ⟨b0, c, rfl, h, hN, hk⟩)
theorem p_Course_go (h : sb_Course_go K vs b k ke) (hE : ∀ c b' H', ke c b' → Ex b' H' → E c none H') : Cs (t_Course_go K E) { nx := fun _ b' => k .non b', rt := k } (start ["self", "keys"] vs) b := by
  obtain ⟨b0, c, w, rfl, hC, hok, hl, hN, hk⟩ := h
  refine q_drop (c_tick hC.run hC.fr.1 (cf_runner hC (v_var rfl)) (a_cons (v_var rfl) a_nil) (keysOk_sz hok) hok ?_)
  have hC1 := hC.tick (ticks_good c.W w 1 c.s hC.fr)
  refine q_drop (c_append (cf_rows hC1 (v_var rfl)) (v_var rfl) hC1.iw (by rw [List.length_map]; show c.rows.length < 100000; omega) ?_)
  have hC2 := hC1.app w
  refine s_ret (c_look hC2 hN (v_var rfl) fun p b' e' hp => hk p b' (hC2.of e') hp)
theorem p_Course_tick (h : sb_Course_tick K vs b k ke) (hE : ∀ c b' H', ke c b' → Ex b' H' → E c none H') : Cs (t_Course_tick K E) { nx := fun _ b' => k .non b', rt := k } (start ["self", "keys"] vs) b := by
  obtain ⟨b0, c, v, r, rfl, hC, hv, h1, h2⟩ := h
  cases r with
  | false => exact q_drop (c_call hE (Pa.c (a_cons (v_var rfl) a_nil) ⟨v, false, rfl, hv, (fun z => by cases z), h1⟩))
  | true =>
  obtain ⟨w, rfl, hz, hok⟩ := keysIs_str hv rfl
  obtain ⟨hl, h3⟩ := h2 rfl
  obtain ⟨hN, hk⟩ := h3 w rfl
  refine q_drop (c_call hE (Pa.c (a_cons (v_var rfl) a_nil) ⟨_, true, rfl, hv, fun _ => ?_, (fun z => by cases z)⟩))
  refine q_fldN (n_lst (vs := []) a_nil (by show 0 ≤ 100000; decide)) (fun p hp => v_var rfl) hC.ic hC.cc.cl hC.cc.gone (by show 8 < 1000; decide) (fun p hp => ?_)
  rw [cput_gone]
  have hC1 := hC.gone_ (ws := []) hp
  refine s_ret (c_meth0 (v_var rfl) hC1.ic (cfl_none _ _ _ _ _ _ _ (by decide +kernel)) (Pa.c (a_cons (v_var rfl) a_nil) ⟨_, { c with gb := p, gone := [] }, w, rfl, hC1, hok, hl, hN, fun p2 b2 hC2 hp2 => hk p2 _ p b2 (Ex.new (ex_none hC.ex hp)) hC2 hp2⟩))
theorem p_Course_again (h : sb_Course_again K vs b k ke) (hE : ∀ c b' H', ke c b' → Ex b' H' → E c none H') : Cs (t_Course_again K E) { nx := fun _ b' => k .non b', rt := k } (start ["self", "keys"] vs) b := by
  obtain ⟨b0, c, rfl, hC, hg, hk⟩ := h
  have hgb : SqL K b c.gb (([] : List Str).map V.str) := by
    have := hC.ex _ _ hC.gb
    rw [hg] at this
    exact sq_of this
  refine q_when (c := true) (t_is (t_test (v_opN (cf_gone hC (v_var rfl)) (n_lst (vs := []) a_nil (by show 0 ≤ 100000; decide)) (fun q b1 e hq => r_eqD (dp_strs (ex_l e hgb)) (dp_nil (sq_of hq)) (by decide +kernel) (by decide +kernel)))) (by decide +kernel)) (fun _ => s_raise hE hk) (fun z => by cases z)
theorem p_Course_clock (h : sb_Course_clock K vs b k ke) (hE : ∀ c b' H', ke c b' → Ex b' H' → E c none H') : Cs (t_Course_clock K E) { nx := fun _ b' => k .non b', rt := k } (start ["self"] vs) b := by
  obtain ⟨b0, c, rfl, hC, hk⟩ := h
  exact s_retV (v_is (v_cb (a_cons (cf_rows hC (v_var rfl)) a_nil) (p_lenL (sq_of hC.iw))) (by rw [List.length_map])) hk
theorem p_Course_left_over (h : sb_Course_left_over K vs b k ke) (hE : ∀ c b' H', ke c b' → Ex b' H' → E c none H') : Cs (t_Course_left_over K E) { nx := fun _ b' => k .non b', rt := k } (start ["self", "number"] vs) b := by
  obtain ⟨b0, c, rfl, hC, hk⟩ := h
  have hf := hC.few
  refine s_ret (Pn.c (n_lcR (n := (c.us.length : Int)) (fun _ => true) (fun i => .int (i : Nat)) (a_cons (v_is (v_cb (a_cons (cf_things hC (v_var rfl)) a_nil) (p_lenL (ex_l hC.ex hC.th))) (by rw [List.length_map, hC.ln])) a_nil) (by omega) (fun x => rfl) (fun i b1 hi e1 => t_B (v_notIn0 (v_var rfl) (cf_got (hC.of e1) (v_var rfl)) (e1 _ _ (hC.ex _ _ hC.gd)))) (fun i b1 hi _ e1 => v_var rfl)) fun p hp => ?_)
  rw [List.filter_eq_self.mpr (fun _ _ => rfl), Int.toNat_natCast]
  exact hk p hp
theorem p_Course_done (h : sb_Course_done K vs b k ke) (hE : ∀ c b' H', ke c b' → Ex b' H' → E c none H') : Cs (t_Course_done K E) { nx := fun _ b' => k .non b', rt := k } (start ["self", "number"] vs) b := by
  obtain ⟨b0, c, rfl, hC, hk⟩ := h
  refine q_when (c := true) (t_is (t_or (d := true) (t_test (v_op (cf_reached hC (v_var rfl)) v_c r_isN)) (fun z => by cases z)) rfl) (fun _ => s_retV v_c hk) (fun z => by cases z)
theorem p_Course_tape (h : sb_Course_tape K vs b k ke) (hE : ∀ c b' H', ke c b' → Ex b' H' → E c none H') : Cs (t_Course_tape K E) { nx := fun _ b' => k .non b', rt := k } (start ["self"] vs) b := by
  obtain ⟨b0, c, rfl, hC, hl, hok, hk⟩ := h
  exact s_ret (c_call0 (Pa.c (a_cons (cf_rows hC (v_var rfl)) a_nil) ⟨c.rw, _, rfl, sq_of hC.iw, by rw [List.length_map]; exact hl, .inl ⟨c.rows, rfl, hok, hk⟩⟩))
end

/-! ### courses: back, and made -/
section
variable {K : PySem.W.Frag} {b0 b b' : Hp} {c : C8}
/-- another runner -/
theorem CAt.runner_ (h : CAt K b0 c b) {x dx : Addr} {b2 b3 : Hp} {s : Rs} (e : Ex b b2) (hx : b x = none) (hR : RA K b2 x dx c.wa b3 c.W s) (hs : FreeRs c.W s) : CAt K b0 { c with ra := x, rd := dx, s := s } (upd b2 c.ca (.ins (He.ga K "Course") c.cd (cfl x c.bt c.th c.gq c.rw c.gb c.gd))) := by
  have nx : x ≠ c.ca := fun z => by
    rw [z, h.ic] at hx
    cases hx
  exact { h with
    ex := Ex.mut (h.ex.trans e) h.nc
    nr := ex_none h.ex hx
    ic := upd_same
    ir := by show upd b2 c.ca _ x = _; rw [upd_ne nx]; exact hR.ins
    iw := by show upd b2 c.ca _ c.rw = _; rw [upd_ne (Ne.symm h.caw)]; exact e _ _ h.iw
    fr := hs }
/-- other rows -/
theorem CAt.rows_ (h : CAt K b0 c b) {p : Addr} (hp : b p = none) : CAt K b0 { c with rw := p, rows := [] } (upd (upd b p (.lst [])) c.ca (.ins (He.ga K "Course") c.cd (cfl c.ra c.bt c.th c.gq p c.gb c.gd))) := by
  have np : p ≠ c.ca := fun z => by
    rw [z, h.ic] at hp
    cases hp
  have npr : c.ra ≠ p := ne_of_none h.ir hp
  exact { h with
    ex := Ex.mut (h.ex.trans (Ex.new hp)) h.nc
    nw := ex_none h.ex hp
    ic := upd_same
    ir := by show upd (upd b p _) c.ca _ c.ra = _; rw [upd_ne (Ne.symm h.car), upd_ne npr]; exact h.ir
    iw := by show upd (upd b p _) c.ca _ p = _; rw [upd_ne np]; exact upd_same }
/-- another dict -/
theorem CAt.got_ (h : CAt K b0 c b) {p : Addr} (hp : b p = none) : CAt K (upd b0 p (.dK [])) { c with gd := p } (upd (upd b p (.dK [])) c.ca (.ins (He.ga K "Course") c.cd (cfl c.ra c.bt c.th c.gq c.rw c.gb p))) := by
  have hp0 := ex_none h.ex hp
  have e0 : Ex b0 (upd b0 p (.dK [])) := Ex.new hp0
  have npc : c.ca ≠ p := ne_of_none h.ic hp
  have npr : c.ra ≠ p := ne_of_none h.ir hp
  have npw : c.rw ≠ p := ne_of_none h.iw hp
  have nc : upd b0 p (.dK []) c.ca = none := by rw [upd_ne npc]; exact h.nc
  exact { h with
    ex := Ex.mut (ex_upd h.ex) nc
    nc := nc
    nr := by show upd b0 p _ c.ra = none; rw [upd_ne npr]; exact h.nr
    nw := by show upd b0 p _ c.rw = none; rw [upd_ne npw]; exact h.nw
    o := h.o.ex e0
    bt := ex_t e0 h.bt
    th := ex_l e0 h.th
    tu := fun i q u h1 h2 => ex_t e0 (h.tu i q u h1 h2)
    gq := ex_t e0 h.gq
    gb := e0 _ _ h.gb
    gd := upd_same
    ic := upd_same
    ir := by show upd (upd b p _) c.ca _ c.ra = _; rw [upd_ne (Ne.symm h.car), upd_ne npr]; exact h.ir
    iw := by show upd (upd b p _) c.ca _ c.rw = _; rw [upd_ne (Ne.symm h.caw), upd_ne npw]; exact h.iw }
end
section
variable {K : PySem.W.Frag} {σ : L2.St} {b0 b b' : Hp} {vs : List V} {k : VK} {ke : XB} {E : XK} {ta te tl tb : TE} {ts : TA} {t : TT} {c : C8} {D : Ends} {tz : TS}
theorem n_dnew : Pn tDNewK σ b (.dK []) := fun H a Q q p hp => q p _ (ex_none a hp) (ex_upd a)
theorem cut_all (xs : List V) : cutV xs (some ((xs.length : Int) - (xs.length : Int))) none = xs := by
  unfold cutV
  rw [show ((xs.length : Int) - (xs.length : Int)) = ((0 : Nat) : Int) by omega, HT.sIx_nat, HT.sIx_none, Nat.zero_min, List.drop_zero, Nat.sub_zero, List.take_length]
theorem cut_no (xs : List V) : cutV xs none (some ((xs.length : Int) - (xs.length : Int))) = [] := by
  unfold cutV
  rw [show ((xs.length : Int) - (xs.length : Int)) = ((0 : Nat) : Int) by omega, HT.sIx_nat, HT.sIx_none, Nat.zero_min]
  simp
theorem p_Course_back (h : sb_Course_back K vs b k ke) (hE : ∀ c b' H', ke c b' → Ex b' H' → E c none H') : Cs (t_Course_back K E) { nx := fun _ b' => k .non b', rt := k } (start ["self", "ticks", "left", "world", "at", "top", "keys"] vs) b := by
  obtain ⟨b0, c, v, r, rfl, hC, hv, h1, h2⟩ := h
  have ln : ∀ (σ2 : L2.St) (b2 b1 : Hp) (c2 : C8), σ2[0]? = some (some (.ref c2.ca)) → CAt K b1 c2 b2 → Pe (tCB (rLenU K) (tCons (tFld K (tVar 0) "rows") tNil)) σ2 b2 (.int (c2.rows.length : Int)) := fun σ2 b2 b1 c2 h0 hc => v_is (v_cb (a_cons (cf_rows hc (v_var h0)) a_nil) (p_lenL (sq_of hc.iw))) (by rw [List.length_map])
  cases r with
  | false => exact q_when (c := true) (t_is (t_not (t_B (v_call (a_cons (v_var rfl) (a_cons v_c (a_cons (ln _ _ _ _ rfl hC) a_nil))) (s_count hv)))) rfl) (fun _ => s_raise hE (h1 rfl)) (fun z => by cases z)
  | true =>
  refine q_when (c := false) (t_is (t_not (t_B (v_call (a_cons (v_var rfl) (a_cons v_c (a_cons (ln _ _ _ _ rfl hC) a_nil))) (s_count hv)))) rfl) (fun z => by cases z) (fun _ => ?_)
  obtain ⟨rfl, hN, hl1, hl2, hll, htt, hf, hk⟩ := h2 rfl
  have lm : (c.rows.map V.str).length = c.rows.length := List.length_map ..
  -- left
  refine q_asgN (n_slL (K := K) (cf_rows hC (v_var rfl)) o_none (o_some (v_op (ln _ _ _ _ rfl hC) (v_var rfl) r_sub)) (sq_of hC.iw)) (fun p1 hp1 => ?_)
  rw [← lm, cut_no, lm]
  have hC1 := hC.of (Ex.new (o := .lst []) hp1)
  have hp1l : upd b p1 (.lst []) p1 = some (.lst []) := upd_same
  generalize upd b p1 (.lst []) = b1 at hC1 hp1l ⊢
  -- gone_back
  refine s_seq (s_fld (a := c.ca) (C := 0) (dx := 0) (fs := []) (c_op (Pn.c (n_slL (K := K) (cf_rows hC1 (v_var rfl)) (o_some (v_op (ln _ _ _ _ rfl hC1) (v_var rfl) r_sub)) o_none (sq_of hC1.iw)) fun p2 hp2 => Pe.c (cf_gone (hC1.of (Ex.new hp2)) (v_var rfl)) (cr_cat upd_same ((hC1.of (Ex.new hp2)).ex _ _ hC1.gb) ?_ fun p3 hp3 => ?_))))
  · rw [← lm, cut_all, List.length_map, List.length_map]
    omega
  rw [← lm, cut_all] at hp3
  rw [← lm, cut_all, lm]
  have hC2 := hC1.of (Ex.new (o := .lst (c.rows.map V.str)) hp2)
  have hp1l2 := (Ex.new (o := .lst (c.rows.map V.str)) hp2) _ _ hp1l
  generalize upd b1 p2 (.lst (c.rows.map V.str)) = b2 at hC2 hp3 hp1l2 ⊢
  rw [← List.map_append] at ⊢
  have hC3 := hC2.of (Ex.new (o := .lst ((c.rows ++ c.gone).map V.str)) hp3)
  refine Pe.c (v_var rfl) ⟨c.ca, _, _, _, rfl, hC3.ic, hC.cc.cl, hC.cc.gone, by show 8 < 1000; decide, ?_⟩
  rw [cput_gone]
  have hC4 := hC2.gone_ (ws := c.rows ++ c.gone) hp3
  have n1 : p1 ≠ c.ca := fun z => by
    have := hC2.ic
    rw [← z, hp1l2] at this
    cases this
  have hp1l4 : upd (upd b2 p3 (.lst ((c.rows ++ c.gone).map V.str))) c.ca (.ins (He.ga K "Course") c.cd (cfl c.ra c.bt c.th c.gq c.rw p3 c.gd)) p1 = some (.lst []) := by
    rw [upd_ne n1]
    exact (Ex.new hp3) _ _ hp1l2
  generalize upd (upd b2 p3 (.lst ((c.rows ++ c.gone).map V.str))) c.ca (.ins (He.ga K "Course") c.cd (cfl c.ra c.bt c.th c.gq c.rw p3 c.gd)) = b4 at hC4 hp1l4 ⊢
  have e04 : Ex b0 (upd b0 p3 (.lst ((c.rows ++ c.gone).map V.str))) := Ex.new (ex_none hC2.ex hp3)
  generalize upd b0 p3 (.lst ((c.rows ++ c.gone).map V.str)) = b04 at hC4 e04
  -- begun
  refine q_asg (Pe.c (cf_begun hC4 (v_var rfl)) (g_tup (ex_t hC4.ex hC4.bt) rfl (gs_name (gs_name (gs_name (gs_nil ?_))))))
  -- a new runner
  refine s_seq (s_fld (a := c.ca) (C := 0) (dx := 0) (fs := []) (c_runnerC (W := c.W) hC.cr (Pa.c (a_cons (v_var rfl) (a_cons (v_var rfl) (a_cons (v_var rfl) a_nil))) ⟨c.wa, c.l, c.t, rfl, hC4.o.ex hC4.ex, hll, htt, hf, fun x dx b5 e5 hx hR => ?_⟩)))
  have hC5 := hC4.of e5
  refine Pe.c (v_var rfl) ⟨c.ca, _, _, _, rfl, hC5.ic, hC.cc.cl, hC.cc.runner, by show 8 < 1000; decide, ?_⟩
  rw [cput_runner]
  have fr0 : FreeRs c.W (rsB c) := ⟨⟨⟨show (-3 : Int) ≤ 0 by decide, show (0 : Int) ≤ 3 by decide⟩, ⟨show (-6 : Int) ≤ 0 by decide, show (0 : Int) ≤ 6 by decide⟩⟩, hf⟩
  have hC6 := hC4.runner_ e5 hx hR fr0
  have hp1l6 : upd b5 c.ca (.ins (He.ga K "Course") c.cd (cfl x c.bt c.th c.gq c.rw p3 c.gd)) p1 = some (.lst []) := by
    rw [upd_ne n1]
    exact e5 _ _ hp1l4
  generalize upd b5 c.ca (.ins (He.ga K "Course") c.cd (cfl x c.bt c.th c.gq c.rw p3 c.gd)) = b6 at hC6 hp1l6 ⊢
  -- rows, got, reached
  refine q_fldN (n_lst (vs := []) a_nil (by show 0 ≤ 100000; decide)) (fun p hp => v_var rfl) hC6.ic hC.cc.cl hC.cc.rows (by show 8 < 1000; decide) (fun p7 hp7 => ?_)
  rw [cput_rows]
  have hC7 := hC6.rows_ hp7
  have hp1l7 : upd (upd b6 p7 (.lst [])) c.ca (.ins (He.ga K "Course") c.cd (cfl x c.bt c.th c.gq p7 p3 c.gd)) p1 = some (.lst []) := by
    rw [upd_ne n1]
    exact (Ex.new hp7) _ _ hp1l6
  generalize upd (upd b6 p7 (.lst [])) c.ca (.ins (He.ga K "Course") c.cd (cfl x c.bt c.th c.gq p7 p3 c.gd)) = b7 at hC7 hp1l7 ⊢
  refine q_fldN n_dnew (fun p hp => v_var rfl) hC7.ic hC.cc.cl hC.cc.got (by show 8 < 1000; decide) (fun p8 hp8 => ?_)
  rw [cput_got]
  have hC8 := hC7.got_ hp8
  have hp1l8 : upd (upd b7 p8 (.dK [])) c.ca (.ins (He.ga K "Course") c.cd (cfl x c.bt c.th c.gq p7 p3 p8)) p1 = some (.lst []) := by
    rw [upd_ne n1]
    exact (Ex.new hp8) _ _ hp1l7
  generalize upd (upd b7 p8 (.dK [])) c.ca (.ins (He.ga K "Course") c.cd (cfl x c.bt c.th c.gq p7 p3 p8)) = b8 at hC8 hp1l8 ⊢
  have e08 : Ex b0 (upd b04 p8 (.dK [])) := e04.trans (Ex.new (ex_none hC7.ex hp8))
  refine q_fldV v_c (v_var rfl) hC8.ic hC.cc.cl hC.cc.reached (by show 8 < 1000; decide) ?_
  rw [cput_reached]
  have eself : upd b8 c.ca (.ins (He.ga K "Course") c.cd (cfl x c.bt c.th c.gq p7 p3 p8)) = b8 := by
    funext y
    by_cases hy : y = c.ca
    · rw [hy, upd_same]; exact hC8.ic.symm
    · rw [upd_ne hy]
  rw [eself]
  refine q_drop (c_look hC8 hN (v_var rfl) fun p9 b9 e9 hp9 => ?_)
  have hC9 := hC8.of e9
  refine s_list (K := K) (xs := []) (v_var rfl) (sq_of (e9 _ _ hp1l8)) (fun i σ' b' => b9 = b') rfl (fun i σ' b' _ e => e ▸ sq_of (e9 _ _ hp1l8)) (fun i x σ' b' hi _ => by cases hi) (fun σ' b' e => e ▸ hk _ x dx p7 p3 p8 b9 e08 hC9)
end

/-! ### courses: made -/
def dU (u : Int × Int) : PyData := .tuple [.int u.1, .int u.2]
inductive CourseBad : PyData → PyData → Prop where
  | notlist {td gd : PyData} (h : kitB (tyN td) "list" = some false) : CourseBad td gd
  | long {gd : PyData} (ds : List PyData) (h : 20 < ds.length) : CourseBad (.list ds) gd
  | units {gd : PyData} (ds : List PyData) (hl : ds.length ≤ 20) (h : ds.all unitD = false) : CourseBad (.list ds) gd
  | dup {gd : PyData} (us : List (Int × Int)) (hl : us.length ≤ 20) (hu : (us.map dU).all unitD = true) (h : ∀ n, Dist (us.map fun u => [u.1, u.2]) n → n ≠ us.length) : CourseBad (.list (us.map dU)) gd
  | goal {gd : PyData} (us : List (Int × Int)) (hl : us.length ≤ 20) (hu : (us.map dU).all unitD = true) (hn : (us.map fun u => [u.1, u.2]).Nodup) (h : unitD gd = false) : CourseBad (.list (us.map dU)) gd
def smallT : PyData → Bool
  | .tuple es => decide (es.length < 1000)
  | _ => true
def smallD : PyData → Bool
  | .list ds => decide (ds.length < 1000) && ds.all smallT
  | _ => true
theorem smallT_ok {d : PyData} (h : smallT d = true) : ∀ ds, d = .tuple ds → ds.length < 1000 := fun ds e => by
  subst e
  exact of_decide_eq_true h
section
variable {K : PySem.W.Frag} {σ : L2.St} {β b b' : Hp} {vs : List V} {k : VK} {ke : XB} {E : XK} {ta te tl tb : TE} {ts : TA} {t : TT} {D : Ends} {tz : TS}
def sb_Course___init__ (K : PySem.W.Frag) : Sb := fun vs b k ke => ∃ (β : Hp) (x dx wa : Addr) (v1 v2 tv gv : V) (W : Wd) (r : Bool), vs = [.ref x, .ref wa, v1, v2, tv, gv] ∧ CC K ∧ CR K ∧ b x = some (.ins (He.ga K "Course") dx []) ∧ Ex β b ∧ β x = none ∧ WAt K β wa W ∧ PlaceIs K β W v1 v2 r ∧
  (r = false → ∀ b', Ex β b' → ke (.ref (He.ga K "BadPlace")) b') ∧ (r = true → ∃ td gd, Dp K β tv td ∧ Dp K β gv gd ∧ smallD td = true ∧ smallT gd = true ∧
    ((CourseBad td gd ∧ ∀ b', Ex β b' → ke (.ref (He.ga K "BadCourse")) b') ∨ ∃ (us : List (Int × Int)) (g : Int × Int) (l t : Int), td = .list (us.map dU) ∧ us.length ≤ 20 ∧ (us.map dU).all unitD = true ∧ (us.map fun u => [u.1, u.2]).Nodup ∧ gd = dU g ∧ unitD (dU g) = true ∧ v1 = .int l ∧ v2 = .int t ∧
      (∀ u ∈ us, coverM ⟨0, l, t, 0, 0, false⟩ u = false) ∧ coverM ⟨0, l, t, 0, 0, false⟩ g = false ∧
      ∀ b0 c b', Ex β b0 → CAt K b0 c b' → c.ca = x → c.wa = wa → c.W = W → c.l = l → c.t = t → c.us = us → c.g = g → c.s = ⟨0, l, t, 0, 0, false⟩ → c.rows = [] → c.gone = [] → k .non b'))
theorem len_Course___init__ : ∀ vs b k ke, sb_Course___init__ K vs b k ke → vs.length = (["self", "world", "left", "top", "things", "goal"] : List Str).length := fun _ _ _ _ ⟨_, _, _, _, _, _, _, _, _, _, e, _⟩ => e ▸ rfl
/-- a comprehension over a list, each value pure, told in a row -/
theorem n_lcLy {a : Addr} {xs ys : List V} {vs : List Nat} {j : Nat} (h : Pe tl σ b (.ref a)) (hx : SqL K b a xs) (hz : xs.length < 100000) (hl : ys.length = xs.length) (hw : ∀ x, wipe ((wipe σ vs).set j (some x)) vs = wipe σ vs)
    (he : ∀ (n : Nat) (x : V) (b1 : Hp), xs[n]? = some x → Ex b b1 → ∃ y, ys[n]? = some y ∧ Pe te ((wipe σ vs).set j (some x)) b1 y) : Pn (tLc (iList K tl) (gName j) tYes te vs) σ b (.lst ys) := fun H e Q q =>
  c_lcL (k := fun w b2 => ∃ p, b p = none ∧ w = .ref p ∧ b2 = upd b p (.lst ys)) h hx (fun Dl n acc b' => b' = upd b Dl (.lst acc) ∧ acc = ys.take n) (fun Dl hD => ⟨rfl, rfl⟩)
    (fun Dl n acc b' hD ⟨e1, e2⟩ => ⟨by rw [e1]; exact upd_same, by rw [e1]; exact ex_l (Ex.new hD) hx, by rw [e2, List.length_take]; omega⟩)
    (fun Dl n x acc b' hD hi ⟨e1, e2⟩ => by
      obtain ⟨y, hy, hv⟩ := he n x b' hi (by rw [e1]; exact Ex.new hD)
      refine g_name ⟨hw x, t_yes.c ?_⟩
      show Ce te _ b' _
      refine hv.c ⟨by rw [e1]; exact upd_same, by rw [e1, upd_upd], ?_⟩
      rw [e2, List.take_succ, hy]
      rfl)
    (fun Dl acc b' hD ⟨e1, e2⟩ => ⟨Dl, hD, rfl, by rw [e1, e2, List.take_of_length_le (by omega)]⟩) H e Q fun w b2 H' ⟨p, hp, e1, e2⟩ a2 => by rw [e1]; exact q p H' hp (e2 ▸ a2)
/-- the object while it is made -/
structure IQ (K : PySem.W.Frag) (x dx ra rd wa : Addr) (s : Rs) (β b : Hp) (fs : List (Str × V)) : Prop where
  ex : Ex β b
  nx : β x = none
  nr : β ra = none
  ix : b x = some (.ins (He.ga K "Course") dx fs)
  ir : b ra = some (.ins (He.ga K "Runner") rd (rf wa s))
  ne : x ≠ ra
variable {x dx ra rd wa : Addr} {s : Rs} {fs : List (Str × V)}
theorem IQ.new (h : IQ K x dx ra rd wa s β b fs) {p : Addr} {o : HO} (hp : b p = none) (fs' : List (Str × V)) : IQ K x dx ra rd wa s (upd β p o) (upd (upd b p o) x (.ins (He.ga K "Course") dx fs')) fs' := by
  have npx : x ≠ p := ne_of_none h.ix hp
  have npr : ra ≠ p := ne_of_none h.ir hp
  have nx : upd β p o x = none := by rw [upd_ne npx]; exact h.nx
  exact ⟨Ex.mut (ex_upd h.ex) nx, nx, by rw [upd_ne npr]; exact h.nr, upd_same, by rw [upd_ne (Ne.symm h.ne), upd_ne npr]; exact h.ir, h.ne⟩
theorem IQ.val (h : IQ K x dx ra rd wa s β b fs) (fs' : List (Str × V)) : IQ K x dx ra rd wa s β (upd b x (.ins (He.ga K "Course") dx fs')) fs' := ⟨Ex.mut h.ex h.nx, h.nx, h.nr, upd_same, by rw [upd_ne (Ne.symm h.ne)]; exact h.ir, h.ne⟩
theorem IQ.old (h : IQ K x dx ra rd wa s β b fs) {p : Addr} {o : HO} (hp : b p = none) (fs' : List (Str × V)) : IQ K x dx ra rd wa s β (upd (upd b p o) x (.ins (He.ga K "Course") dx fs')) fs' := by
  have npr : ra ≠ p := ne_of_none h.ir hp
  exact ⟨Ex.mut (h.ex.trans (Ex.new hp)) h.nx, h.nx, h.nr, upd_same, by rw [upd_ne (Ne.symm h.ne), upd_ne npr]; exact h.ir, h.ne⟩
structure IR (K : PySem.W.Frag) (x dx ra rd wa rw : Addr) (s : Rs) (β b : Hp) (fs : List (Str × V)) : Prop where
  q : IQ K x dx ra rd wa s β b fs
  nw : β rw = none
  iw : b rw = some (.lst [])
variable {rw : Addr}
theorem IR.xw (h : IR K x dx ra rd wa rw s β b fs) : x ≠ rw := fun z => by
  have := h.q.ix
  rw [z, h.iw] at this
  cases this
theorem IQ.rows (h : IQ K x dx ra rd wa s β b fs) {p : Addr} (hp : b p = none) (fs' : List (Str × V)) : IR K x dx ra rd wa p s β (upd (upd b p (.lst [])) x (.ins (He.ga K "Course") dx fs')) fs' := ⟨h.old hp fs', ex_none h.ex hp, by rw [upd_ne (Ne.symm (ne_of_none h.ix hp)), upd_same]⟩
theorem IR.new (h : IR K x dx ra rd wa rw s β b fs) {p : Addr} {o : HO} (hp : b p = none) (fs' : List (Str × V)) : IR K x dx ra rd wa rw s (upd β p o) (upd (upd b p o) x (.ins (He.ga K "Course") dx fs')) fs' := by
  have n : rw ≠ p := ne_of_none h.iw hp
  exact ⟨h.q.new hp fs', by rw [upd_ne n]; exact h.nw, by rw [upd_ne (Ne.symm h.xw), upd_ne n]; exact h.iw⟩
theorem IR.val (h : IR K x dx ra rd wa rw s β b fs) (fs' : List (Str × V)) : IR K x dx ra rd wa rw s β (upd b x (.ins (He.ga K "Course") dx fs')) fs' := ⟨h.q.val fs', h.nw, by rw [upd_ne (Ne.symm h.xw)]; exact h.iw⟩
theorem putF_len (f : Str) (v : V) : ∀ fs : List (Str × V), (putF f v fs).length ≤ fs.length + 1
  | [] => by rw [putF_nil]; exact Nat.le_refl _
  | (g, w) :: r => by
    by_cases e : g = f
    · subst e
      rw [putF_hit]
      exact Nat.le_succ _
    · rw [putF_miss e]
      have := putF_len f v r
      simp only [List.length_cons]
      omega
theorem putF_le {f : Str} {v : V} {fs : List (Str × V)} {n : Nat} (h : fs.length ≤ n) : (putF f v fs).length ≤ n + 1 := Nat.le_trans (putF_len f v fs) (by omega)
end
def t_Course___init__ (K : PySem.W.Frag) (E : XK) : TS := (tSeq (sFld K (tVar 0) (tMake (He.ga K "Runner") (up (sb_Runner___init__ K)) [] E (tCons (tVar 1) (tCons (tVar 2) (tCons (tVar 3) tNil)))) "runner") (tSeq (tAsg (tAndV (tCB (rIsi K) (tCons (tVar 4) (tCons (tC (.ty "list")) tNil))) (tAndV (tOp rLeI (tCB (rLenU K) (tCons (tVar 4) tNil)) (tC (.int 20))) (tCB (rAll K) (tCons (tLc (iList K (tVar 4)) (gName 7) tYes (tCall (up (sb_is_unit K)) [] E0 (tCons (tVar 7) tNil)) [7]) tNil)))) (gName 6)) (tSeq (tIfS (tOr (tNot (tB (tVar 6))) (tOr (tTest (tOp (rNeU K) (tLenSetT K (tVar 4)) (tCB (rLenU K) (tCons (tVar 4) tNil)))) (tNot (tB (tCall (up (sb_is_unit K)) [] E (tCons (tVar 5) tNil)))))) (tRaise (.ref (He.ga K "BadCourse")) E) tNext) (tSeq (sFld K (tVar 0) (tTup (tCons (tVar 1) (tCons (tVar 2) (tCons (tVar 3) tNil)))) "begun") (tSeq (sFld K (tVar 0) (tCB (rListA K) (tCons (tVar 4) tNil)) "things") (tSeq (sFld K (tVar 0) (tVar 5) "goal") (tSeq (sFld K (tVar 0) (tLst tNil) "rows") (tSeq (sFld K (tVar 0) (tLst tNil) "gone_back") (tSeq (sFld K (tVar 0) tDNewK "got") (tSeq (sFld K (tVar 0) (tC .non) "reached") (tDrop (tMeth (He.ga K "Course") "look" (up (sb_Course_look K)) [] E (tVar 0) tNil))))))))))))
section
variable {K : PySem.W.Frag} {σ : L2.St} {β b b' : Hp} {vs : List V} {k : VK} {ke : XB} {E : XK} {ta te tl tb : TE} {ts : TA} {t : TT} {D : Ends} {tz : TS}
theorem units_dp : ∀ {us : List (Int × Int)} {xs : List V}, DpAll K b xs (us.map dU) → ∃ qs : List Addr, xs = qs.map V.ref ∧ qs.length = us.length ∧ ∀ (i : Nat) (q : Addr) (u : Int × Int), qs[i]? = some q → us[i]? = some u → SqT K b q [.int u.1, .int u.2]
  | [], _, .nil => ⟨[], rfl, rfl, fun i q u h _ => by cases h⟩
  | u :: us, _, .cons h1 h2 => by
    obtain ⟨qs, e, hl, hq⟩ := units_dp h2
    obtain ⟨q, w1, w2, e1, hs, d1, d2⟩ := pair_ds' h1
    cases d1
    cases d2
    subst e1
    refine ⟨q :: qs, by rw [e]; rfl, by rw [List.length_cons, List.length_cons, hl], fun i q' u' g1 g2 => ?_⟩
    cases i with
    | zero =>
      have e3 : q = q' := Option.some.inj g1
      have e4 : u = u' := Option.some.inj g2
      rw [← e3, ← e4]
      exact hs
    | succ i => exact hq i q' u' g1 g2
where
  pair_ds' {v : V} {d1 d2 : PyData} (h : Dp K b v (.tuple [d1, d2])) : ∃ p v1 v2, v = .ref p ∧ SqT K b p [v1, v2] ∧ Dp K b v1 d1 ∧ Dp K b v2 d2 := by
    cases h with
    | tup h1 h2 =>
      cases h2 with
      | cons q1 h2 =>
      cases h2 with
      | cons q2 h2 =>
      cases h2
      exact ⟨_, _, _, rfl, h1, q1, q2⟩
theorem dist_zip {us : List (Int × Int)} {qs : List Addr} (hl : qs.length = us.length) : (List.zipWith (fun q (u : Int × Int) => (q, [u.1, u.2])) qs us).map (·.2) = us.map fun u => [u.1, u.2] := by
  induction us generalizing qs with
  | nil => cases qs <;> simp_all
  | cons u us ih =>
    cases qs with
    | nil => cases hl
    | cons q qs => simp only [List.zipWith_cons_cons, List.map_cons, ih (by simpa using hl)]
theorem refs_zip {us : List (Int × Int)} {qs : List Addr} (hl : qs.length = us.length) : (List.zipWith (fun q (u : Int × Int) => (q, [u.1, u.2])) qs us).map (fun p => V.ref p.1) = qs.map V.ref := by
  induction us generalizing qs with
  | nil => cases qs <;> simp_all
  | cons u us ih =>
    cases qs with
    | nil => cases hl
    | cons q qs => simp only [List.zipWith_cons_cons, List.map_cons, ih (by simpa using hl)]
theorem p_Course___init__ (h : sb_Course___init__ K vs b k ke) (hE : ∀ c b' H', ke c b' → Ex b' H' → E c none H') : Cs (t_Course___init__ K E) { nx := fun _ b' => k .non b', rt := k } (start ["self", "world", "left", "top", "things", "goal", "good", "one"] vs) b := by
  obtain ⟨β, x, dx, wa, v1, v2, tv, gv, W, r, rfl, cc, cr, hx, eb, nx, hW, hp, h1, h2⟩ := h
  cases r with
  | false => exact s_seq (s_fld (a := x) (C := 0) (dx := 0) (fs := []) (c_runnerBad hE (a_cons (v_var rfl) (a_cons (v_var rfl) (a_cons (v_var rfl) a_nil))) cr (hW.ex eb) (hp.ex eb) fun b' e' => h1 rfl b' (eb.trans e')))
  | true =>
  obtain ⟨l, t, rfl, rfl, hl, ht, hf⟩ := place_ints hp rfl
  obtain ⟨td, gd, hdt, hdg, sm, smg, h3⟩ := h2 rfl
  refine s_seq (s_fld (a := x) (C := 0) (dx := 0) (fs := []) (c_runnerC (W := W) cr (Pa.c (a_cons (v_var rfl) (a_cons (v_var rfl) (a_cons (v_var rfl) a_nil))) ⟨wa, l, t, rfl, hW.ex eb, hl, ht, hf, fun ra rd b2 e2 hra hR => ?_⟩)))
  have nxr : x ≠ ra := ne_of_none hx hra
  refine Pe.c (v_var rfl) ⟨x, _, dx, [], rfl, e2 _ _ hx, cc.cl, cc.runner, by show 0 < 1000; decide, ?_⟩
  have I1 : IQ K x dx ra rd wa ⟨0, l, t, 0, 0, false⟩ β (upd b2 x (.ins (He.ga K "Course") dx (putF "runner" (.ref ra) []))) (putF "runner" (.ref ra) []) := ⟨Ex.mut (eb.trans e2) nx, nx, ex_none eb hra, upd_same, by rw [upd_ne (Ne.symm nxr)]; exact hR.ins, nxr⟩
  generalize upd b2 x (.ins (He.ga K "Course") dx (putF "runner" (.ref ra) [])) = b3 at I1 ⊢
  have hdt3 := dp_ex I1.ex hdt
  have hdg3 := dp_ex I1.ex hdg
  have ty := dp_ty hdt3
  -- good
  have good : ∃ g : Bool, Pe (tAndV (tCB (rIsi K) (tCons (tVar 4) (tCons (tC (.ty "list")) tNil))) (tAndV (tOp rLeI (tCB (rLenU K) (tCons (tVar 4) tNil)) (tC (.int 20))) (tCB (rAll K) (tCons (tLc (iList K (tVar 4)) (gName 7) tYes (tCall (up (sb_is_unit K)) [] E0 (tCons (tVar 7) tNil)) [7]) tNil)))) (start ["self", "world", "left", "top", "things", "goal", "good", "one"] [.ref x, .ref wa, .int l, .int t, tv, gv]) b3 (.bl g) ∧ (kitB (tyN td) "list" = some false → g = false) ∧ ∀ ds, td = .list ds → g = (decide ((ds.length : Int) ≤ 20) && ds.all unitD) := by
    have no : kitB (tyN td) "list" = some false → (∀ ds, td ≠ .list ds) → ∃ g : Bool, Pe (tAndV (tCB (rIsi K) (tCons (tVar 4) (tCons (tC (.ty "list")) tNil))) (tAndV (tOp rLeI (tCB (rLenU K) (tCons (tVar 4) tNil)) (tC (.int 20))) (tCB (rAll K) (tCons (tLc (iList K (tVar 4)) (gName 7) tYes (tCall (up (sb_is_unit K)) [] E0 (tCons (tVar 7) tNil)) [7]) tNil)))) (start ["self", "world", "left", "top", "things", "goal", "good", "one"] [.ref x, .ref wa, .int l, .int t, tv, gv]) b3 (.bl g) ∧ (kitB (tyN td) "list" = some false → g = false) ∧ ∀ ds, td = .list ds → g = (decide ((ds.length : Int) ≤ 20) && ds.all unitD) := fun z1 z2 =>
      ⟨false, v_andV (d := false) (v_cb (a_cons (v_var rfl) (a_cons v_c a_nil)) (p_isi ty z1)) (fun z => by cases z), fun _ => rfl, fun ds e => absurd e (z2 ds)⟩
    cases hdt3 with
    | non => exact no (show kitB "NoneType" "list" = some false by decide +kernel) (fun ds z => by cases z)
    | bl c => exact no (show kitB "bool" "list" = some false by decide +kernel) (fun ds z => by cases z)
    | int i => exact no (show kitB "int" "list" = some false by decide +kernel) (fun ds z => by cases z)
    | str w => exact no (show kitB "str" "list" = some false by decide +kernel) (fun ds z => by cases z)
    | tup q1 q2 => exact no (show kitB "tuple" "list" = some false by decide +kernel) (fun ds z => by cases z)
    | @lst a xs ds q1 q2 =>
      have sm2 := Bool.and_eq_true_iff.mp (show (decide (ds.length < 1000) && ds.all smallT) = true from sm)
      have hl2 := dpa_len q2
      have hz := of_decide_eq_true sm2.1
      refine ⟨_, v_andV (v_cb (a_cons (v_var rfl) (a_cons v_c a_nil)) (p_isi ty (show kitB "list" "list" = some true by decide +kernel))) (fun _ => v_andV (v_op (v_cb (a_cons (v_var rfl) a_nil) (p_lenL q1)) v_c r_le) (fun _ => v_allN (bs := ds.map unitD) (n_lcLy (K := K) (ys := (ds.map unitD).map V.bl) (v_var rfl) q1 (by omega) (by rw [List.length_map, List.length_map, hl2]) (fun y => rfl) (fun n y b4 hn e4 => ?_)) rfl)), ?_, ?_⟩
      · obtain ⟨d, hd1, hd2⟩ := dpa_get2 q2 hn
        exact ⟨.bl (unitD d), by rw [List.getElem?_map, List.getElem?_map, hd1]; rfl, v_call (a_cons (v_var rfl) a_nil) (fun k hk => ⟨y, d, rfl, dp_ex e4 hd2, smallT_ok (List.all_eq_true.mp sm2.2 d (List.mem_of_getElem? hd1)), hk⟩)⟩
      · intro z
        exact absurd z (by show ¬ kitB "list" "list" = some false; decide +kernel)
      · intro ds2 e
        cases e
        rw [hl2, List.all_map, Bool.true_and]
        rfl
  obtain ⟨g0, hg0, gn, gl⟩ := good
  refine q_asgV hg0 ?_
  clear hg0
  have isU : Pe (tCall (up (sb_is_unit K)) [] E (tCons (tVar 5) tNil)) [some (.ref x), some (.ref wa), some (.int l), some (.int t), some tv, some gv, some (.bl g0), none] b3 (.bl (unitD gd)) := v_call (a_cons (v_var rfl) a_nil) (fun k hk => ⟨gv, gd, rfl, hdg3, smallT_ok smg, hk⟩)
  have setN : ∀ (us : List (Int × Int)) (kk : VK), td = .list (us.map dU) → us.length ≤ 20 → (∀ n : Nat, Dist (us.map fun u => [u.1, u.2]) n → kk (.int n) b3) → Ce (tLenSetT K (tVar 4)) [some (.ref x), some (.ref wa), some (.int l), some (.int t), some tv, some gv, some (.bl g0), none] b3 kk ∧ Pe (tCB (rLenU K) (tCons (tVar 4) tNil)) [some (.ref x), some (.ref wa), some (.int l), some (.int t), some tv, some gv, some (.bl g0), none] b3 (.int (us.length : Int)) := fun us kk e hl hk => by
    subst e
    cases hdt3 with
    | @lst a xs ds q1 q2 =>
      have hl2 := dpa_len q2
      obtain ⟨qs, rfl, hq1, hq2⟩ := units_dp q2
      refine ⟨c_lenSetT (K := K) (ks := List.zipWith (fun q (u : Int × Int) => (q, [u.1, u.2])) qs us) (v_var rfl) (by rw [refs_zip hq1]; exact q1) (fun p hp => ?_) (by rw [List.length_zipWith]; omega) (fun n hn => hk n (by rw [dist_zip hq1] at hn; exact hn)), v_is (v_cb (a_cons (v_var rfl) a_nil) (p_lenL q1)) (by rw [hl2, List.length_map])⟩
      obtain ⟨i, hi⟩ := List.mem_iff_getElem?.mp hp
      rw [List.getElem?_zipWith] at hi
      cases e1 : qs[i]? with
      | none => rw [e1] at hi; cases hi
      | some q =>
        cases e2 : us[i]? with
        | none => rw [e1, e2] at hi; cases hi
        | some u =>
          rw [e1, e2] at hi
          have := Option.some.inj hi
          rw [← this]
          exact hq2 i q u e1 e2
  rcases h3 with ⟨hb, hk⟩ | ⟨us, g, l', t', rfl, hl20, hu, hnd, rfl, hug, el, et, hc1, hc2, hk⟩
  · have rs : ∀ {D : Ends}, Cs (tRaise (.ref (He.ga K "BadCourse")) E) D [some (.ref x), some (.ref wa), some (.int l), some (.int t), some tv, some gv, some (.bl g0), none] b3 := s_raise hE (hk b3 I1.ex)
    cases hb with
    | notlist z =>
      have := gn z
      subst this
      exact s_seq (s_ifC (ct_or (Pt.c (t_not (t_B (v_var rfl))) rs)))
    | long ds z =>
      have := gl ds rfl
      rw [decide_eq_false (by omega), Bool.false_and] at this
      subst this
      exact s_seq (s_ifC (ct_or (Pt.c (t_not (t_B (v_var rfl))) rs)))
    | units ds z1 z2 =>
      have := gl ds rfl
      rw [z2, Bool.and_false] at this
      subst this
      exact s_seq (s_ifC (ct_or (Pt.c (t_not (t_B (v_var rfl))) rs)))
    | dup us z1 z2 z3 =>
      have := gl _ rfl
      rw [z2, Bool.and_true, decide_eq_true (by rw [List.length_map]; omega)] at this
      subst this
      refine s_seq (s_ifC (ct_or (Pt.c (t_not (t_B (v_var rfl))) (ct_or (ct_test (c_op (setN us _ rfl z1 fun n hn => Pe.c (setN us (fun _ _ => True) rfl z1 fun _ _ => trivial).2 (Pr.c r_neI ⟨_, rfl, ?_⟩)).1))))))
      rw [decide_eq_false (fun z => z3 n hn (by omega))]
      exact rs
    | goal us z1 z2 z3 z4 =>
      have := gl _ rfl
      rw [z2, Bool.and_true, decide_eq_true (by rw [List.length_map]; omega)] at this
      subst this
      refine s_seq (s_ifC (ct_or (Pt.c (t_not (t_B (v_var rfl))) (ct_or (ct_test (c_op (setN us _ rfl z1 fun n hn => Pe.c (setN us (fun _ _ => True) rfl z1 fun _ _ => trivial).2 (Pr.c r_neI ⟨_, rfl, ?_⟩)).1))))))
      have en := dist_nodup z3 hn
      rw [List.length_map] at en
      rw [decide_eq_true (by omega)]
      show Ct _ _ _ _
      refine Pt.c (t_not (t_B isU)) ?_
      rw [z4]
      exact rs
  · cases el
    cases et
    have := gl _ rfl
    rw [hu, Bool.and_true, decide_eq_true (by rw [List.length_map]; omega)] at this
    subst this
    refine s_seq (s_ifC (ct_or (Pt.c (t_not (t_B (v_var rfl))) (ct_or (ct_test (c_op (setN us _ rfl hl20 fun n hn => Pe.c (setN us (fun _ _ => True) rfl hl20 fun _ _ => trivial).2 (Pr.c r_neI ⟨_, rfl, ?_⟩)).1))))))
    have en := dist_nodup hnd hn
    rw [List.length_map] at en
    rw [decide_eq_true (by omega)]
    show Ct _ _ _ _
    refine Pt.c (t_not (t_B isU)) ?_
    rw [hug]
    refine s_next ?_
    have hT : ∃ th0 qs, tv = .ref th0 ∧ SqL K β th0 ((qs : List Addr).map V.ref) ∧ qs.length = us.length ∧ ∀ (i : Nat) (q : Addr) (u : Int × Int), qs[i]? = some q → us[i]? = some u → SqT K β q [.int u.1, .int u.2] := by
      cases hdt with
      | @lst a xs ds q1 q2 =>
        obtain ⟨qs, rfl, e1, e2⟩ := units_dp q2
        exact ⟨a, qs, rfl, q1, e1, e2⟩
    obtain ⟨th0, qs, rfl, ht1, ht2, ht3⟩ := hT
    obtain ⟨gq, w1, w2, rfl, hg1, d1, d2⟩ := units_dp.pair_ds' hdg
    cases d1
    cases d2
    have L1 : (putF "runner" (V.ref ra) []).length ≤ 1 := putF_le (Nat.le_refl 0)
    refine q_fldN (o := .tup [.ref wa, .int l, .int t]) (n_tup (a_cons (v_var rfl) (a_cons (v_var rfl) (a_cons (v_var rfl) a_nil))) (by show 3 ≤ 100000; decide)) (fun p hp => v_var rfl) I1.ix cc.cl cc.begun (by omega) fun bt hbt => ?_
    have I2 := I1.new (o := .tup [.ref wa, .int l, .int t]) hbt (putF "begun" (.ref bt) (putF "runner" (.ref ra) []))
    have L2 := putF_le (f := "begun") (v := .ref bt) L1
    refine q_fldN (o := .lst (qs.map V.ref)) (n_list (a_cons (v_var rfl) a_nil) (ex_l ((Ex.new (ex_none I1.ex hbt)).trans I2.ex) ht1)) (fun p hp => v_var rfl) I2.ix cc.cl cc.things (by omega) fun th hth => ?_
    have I3 := I2.new (o := .lst (qs.map V.ref)) hth (putF "things" (.ref th) (putF "begun" (.ref bt) (putF "runner" (.ref ra) [])))
    have L3 := putF_le (f := "things") (v := .ref th) L2
    refine q_fldV (v := .ref gq) (v_var rfl) (v_var rfl) I3.ix cc.cl cc.goal (by omega) ?_
    have I4 := I3.val (putF "goal" (.ref gq) (putF "things" (.ref th) (putF "begun" (.ref bt) (putF "runner" (.ref ra) []))))
    have L4 := putF_le (f := "goal") (v := .ref gq) L3
    refine q_fldN (o := .lst []) (n_lst a_nil (by show 0 ≤ 100000; decide)) (fun p hp => v_var rfl) I4.ix cc.cl cc.rows (by omega) fun rw hrw => ?_
    have I5 := I4.rows hrw (putF "rows" (.ref rw) (putF "goal" (.ref gq) (putF "things" (.ref th) (putF "begun" (.ref bt) (putF "runner" (.ref ra) [])))))
    have L5 := putF_le (f := "rows") (v := .ref rw) L4
    refine q_fldN (o := .lst []) (n_lst a_nil (by show 0 ≤ 100000; decide)) (fun p hp => v_var rfl) I5.q.ix cc.cl cc.gone (by omega) fun gb hgb => ?_
    have I6 := I5.new (o := .lst []) hgb (putF "gone_back" (.ref gb) (putF "rows" (.ref rw) (putF "goal" (.ref gq) (putF "things" (.ref th) (putF "begun" (.ref bt) (putF "runner" (.ref ra) []))))))
    have L6 := putF_le (f := "gone_back") (v := .ref gb) L5
    refine q_fldN (o := .dK []) n_dnew (fun p hp => v_var rfl) I6.q.ix cc.cl cc.got (by omega) fun gd hgd => ?_
    have I7 := I6.new (o := .dK []) hgd (putF "got" (.ref gd) (putF "gone_back" (.ref gb) (putF "rows" (.ref rw) (putF "goal" (.ref gq) (putF "things" (.ref th) (putF "begun" (.ref bt) (putF "runner" (.ref ra) [])))))))
    have L7 := putF_le (f := "got") (v := .ref gd) L6
    refine q_fldV (v := .non) v_c (v_var rfl) I7.q.ix cc.cl cc.reached (by omega) ?_
    have I8 := I7.val (putF "reached" .non (putF "got" (.ref gd) (putF "gone_back" (.ref gb) (putF "rows" (.ref rw) (putF "goal" (.ref gq) (putF "things" (.ref th) (putF "begun" (.ref bt) (putF "runner" (.ref ra) []))))))))
    have ef : putF "reached" .non (putF "got" (.ref gd) (putF "gone_back" (.ref gb) (putF "rows" (.ref rw) (putF "goal" (.ref gq) (putF "things" (.ref th) (putF "begun" (.ref bt) (putF "runner" (.ref ra) []))))))) = cfl ra bt th gq rw gb gd := by kernel_rfl
    rw [ef] at I8 ⊢
    have n1 := ex_none I1.ex hbt
    have n2 := ex_none I2.ex hth
    have n3 := ex_none I5.q.ex hgb
    have n4 := ex_none I6.q.ex hgd
    have x1 := Ex.new (o := HO.tup [.ref wa, .int l, .int t]) n1
    have x2 := Ex.new (o := HO.lst (qs.map V.ref)) n2
    have x3 := Ex.new (o := HO.lst []) n3
    have x4 := Ex.new (o := HO.dK []) n4
    have x34 := x3.trans x4
    have x24 := x2.trans x34
    have x14 := x1.trans x24
    have hC : CAt K _ ⟨x, dx, ra, rd, wa, bt, th, gq, rw, gb, gd, W, l, t, qs, us, g, ⟨0, l, t, 0, 0, false⟩, [], []⟩ _ := {
      ex := I8.q.ex
      nc := I8.q.nx
      nr := I8.q.nr
      nw := I8.nw
      o := hW.ex x14
      bt := ex_t x24 (st_of upd_same)
      th := ex_l x34 (sq_of upd_same)
      ln := ht2
      tu := fun i q u h1 h2 => ex_t x14 (ht3 i q u h1 h2)
      gq := ex_t x14 hg1
      gb := x4 _ _ upd_same
      gd := upd_same
      ic := I8.q.ix
      ir := I8.q.ir
      iw := I8.iw
      cc := cc
      cr := cr
      few := hl20
      fr := ⟨⟨⟨show (-3 : Int) ≤ 0 by decide, show (0 : Int) ≤ 3 by decide⟩, ⟨show (-6 : Int) ≤ 0 by decide, show (0 : Int) ≤ 6 by decide⟩⟩, hf⟩ }
    exact s_drop (c_look hC ⟨hc1, hc2⟩ (v_var rfl) fun p b' e' _ => hk _ _ b' x14 (hC.of e') rfl rfl rfl rfl rfl rfl rfl rfl rfl rfl)
end

/-! ### law k81: what trails refuse -/
abbrev W81 : Wd := ⟨[("....": Str), "....", "####"], 4, []⟩
section
variable {K : PySem.W.Frag}
def sb__law_trails_bad (K : PySem.W.Frag) : Sb := fun vs b k _ => FX K ∧ LamX.Tabs (TL K) b ∧ CR K ∧ CC K ∧ ∃ wa : Addr, vs = [.ref wa] ∧ WAt K b wa W81 ∧ ∀ b', Sp1 (TL K) b b' → k (.bl true) b'
theorem len__law_trails_bad : ∀ vs b k ke, sb__law_trails_bad K vs b k ke → vs.length = (["world"] : List Str).length := fun _ _ _ _ ⟨_, _, _, _, _, e, _⟩ => e ▸ rfl
end
def t__law_trails_bad (K : PySem.W.Frag) (E : XK) : TS := (tSeq (tFor (iList K (tLst (tCons (tTup (tCons (tUn rNegI (tC (.int 1))) (tCons (tC (.int 0)) tNil))) (tCons (tTup (tCons (tC (.int 0)) (tCons (tC (.int 16)) tNil))) (tCons (tTup (tCons (tC .non) (tCons (tC (.int 0)) tNil))) (tCons (tTup (tCons (tC (.int 0)) (tCons (tC (.bl true)) tNil))) (tCons (tTup (tCons (tC (.str "0")) (tCons (tC (.int 0)) tNil))) (tCons (tTup (tCons (tC (.int 401)) (tCons (tC (.int 0)) tNil))) (tCons (tTup (tCons (tC (.int 0)) (tCons (tUn rNegI (tC (.int 401))) tNil))) tNil))))))))) (gTup K 2 (gCons (gName 1) (gCons (gName 2) gNil))) (tSeq (tAsg (tLst (tCons (LamX.tLam (TL K) (Hx.TTn K (He.ga K "RunError") (WokN K)) (fun E => (tCall (up (sb_steps K)) [] E (tCons (tVar 0) (tCons (tVar 1) (tCons (tVar 2) (tCons (tLst (tCons (tC .non) tNil)) tNil))))))) tNil)) (gName 3)) (tSeq (tDrop (tBM K "list" rAppend (tVar 3) (tCons (LamX.tLam (TL K) (Hx.TTn K (He.ga K "RunError") (WokN K)) (fun E => (tCall (up (sb_landings K)) [] E (tCons (tVar 0) (tCons (tVar 1) (tCons (tVar 2) (tCons (tLst (tCons (tC .non) tNil)) tNil))))))) tNil))) (tSeq (tDrop (tBM K "list" rAppend (tVar 3) (tCons (LamX.tLam (TL K) (Hx.TTn K (He.ga K "RunError") (WokN K)) (fun E => (tCall (up (sb_flights K)) [] E (tCons (tVar 0) (tCons (tVar 1) (tCons (tVar 2) (tCons (tLst (tCons (tC .non) tNil)) tNil))))))) tNil))) (tSeq (tDrop (tBM K "list" rAppend (tVar 3) (tCons (LamX.tLam (TL K) (Hx.TTn K (He.ga K "RunError") (WokN K)) (fun E => (tCall (up (sb_reach K)) [] E (tCons (tVar 0) (tCons (tVar 1) (tCons (tVar 2) (tCons (tLst (tCons (tC .non) tNil)) tNil))))))) tNil))) (tSeq (tDrop (tBM K "list" rAppend (tVar 3) (tCons (LamX.tLam (TL K) (Hx.TTn K (He.ga K "RunError") (WokN K)) (fun E => (tCall (up (sb_apart K)) [] E (tCons (tVar 0) (tCons (tVar 1) (tCons (tVar 2) (tCons (tLst (tCons (tC .non) tNil)) (tCons (tLst (tCons (tC .non) tNil)) tNil)))))))) tNil))) (tSeq (tDrop (tBM K "list" rAppend (tVar 3) (tCons (LamX.tLam (TL K) (Hx.TTn K (He.ga K "RunError") (WokN K)) (fun E => (tMake (He.ga K "Course") (up (sb_Course___init__ K)) [] E (tCons (tVar 0) (tCons (tVar 1) (tCons (tVar 2) (tCons (tC .non) (tCons (tC .non) tNil)))))))) tNil))) (tIfS (tTest (tOp (rNeU K) (tVar 3) (tOp rMulU (tLst (tCons (tTup (tCons (tC (.str "refused")) (tCons (tC (.str "BadPlace")) tNil))) tNil)) (tC (.int 6))))) (tRet (tC (.bl false))) tNext)))))))) (tSeq (tFor (iList K (tLst (tCons (tC .non) (tCons (tC (.str "rl")) (tCons (tC (.str "jj")) (tCons (tC (.str "x")) (tCons (tC (.int 5)) (tCons (tLst (tCons (tC (.str "r")) tNil)) (tCons (tC (.str " ")) tNil))))))))) (gName 4) (tSeq (tAsg (tLst (tCons (LamX.tLam (TL K) (Hx.TTn K (He.ga K "RunError") (WokN K)) (fun E => (tCall (up (sb_steps K)) [] E (tCons (tVar 0) (tCons (tC (.int 8)) (tCons (tC (.int 0)) (tCons (tLst (tCons (tC (.str "r")) (tCons (tVar 4) tNil))) tNil))))))) tNil)) (gName 3)) (tSeq (tDrop (tBM K "list" rAppend (tVar 3) (tCons (LamX.tLam (TL K) (Hx.TTn K (He.ga K "RunError") (WokN K)) (fun E => (tCall (up (sb_landings K)) [] E (tCons (tVar 0) (tCons (tC (.int 8)) (tCons (tC (.int 0)) (tCons (tLst (tCons (tVar 4) tNil)) tNil))))))) tNil))) (tSeq (tDrop (tBM K "list" rAppend (tVar 3) (tCons (LamX.tLam (TL K) (Hx.TTn K (He.ga K "RunError") (WokN K)) (fun E => (tCall (up (sb_flights K)) [] E (tCons (tVar 0) (tCons (tC (.int 8)) (tCons (tC (.int 0)) (tCons (tLst (tCons (tVar 4) tNil)) tNil))))))) tNil))) (tSeq (tDrop (tBM K "list" rAppend (tVar 3) (tCons (LamX.tLam (TL K) (Hx.TTn K (He.ga K "RunError") (WokN K)) (fun E => (tCall (up (sb_reach K)) [] E (tCons (tVar 0) (tCons (tC (.int 8)) (tCons (tC (.int 0)) (tCons (tLst (tCons (tVar 4) tNil)) tNil))))))) tNil))) (tSeq (tDrop (tBM K "list" rAppend (tVar 3) (tCons (LamX.tLam (TL K) (Hx.TTn K (He.ga K "RunError") (WokN K)) (fun E => (tCall (up (sb_apart K)) [] E (tCons (tVar 0) (tCons (tC (.int 8)) (tCons (tC (.int 0)) (tCons (tLst (tCons (tVar 4) tNil)) (tCons (tLst tNil) tNil)))))))) tNil))) (tSeq (tDrop (tBM K "list" rAppend (tVar 3) (tCons (LamX.tLam (TL K) (Hx.TTn K (He.ga K "RunError") (WokN K)) (fun E => (tCall (up (sb_apart K)) [] E (tCons (tVar 0) (tCons (tC (.int 8)) (tCons (tC (.int 0)) (tCons (tLst tNil) (tCons (tLst (tCons (tVar 4) tNil)) tNil)))))))) tNil))) (tSeq (tDrop (tBM K "list" rAppend (tVar 3) (tCons (LamX.tLam (TL K) (Hx.TTn K (He.ga K "RunError") (WokN K)) (fun E => (tMeth (He.ga K "Course") "tick" (up (sb_Course_tick K)) [] E (tMake (He.ga K "Course") (up (sb_Course___init__ K)) [] E (tCons (tVar 0) (tCons (tC (.int 8)) (tCons (tC (.int 0)) (tCons (tLst tNil) (tCons (tTup (tCons (tC (.int 0)) (tCons (tC (.int 0)) tNil))) tNil)))))) (tCons (tVar 4) tNil)))) tNil))) (tIfS (tTest (tOp (rNeU K) (tVar 3) (tOp rMulU (tLst (tCons (tTup (tCons (tC (.str "refused")) (tCons (tC (.str "BadKeys")) tNil))) tNil)) (tC (.int 7))))) (tRet (tC (.bl false))) tNext))))))))) (tRet (tC (.bl true)))))
abbrev places81 : List PyData := [.tuple [.int (-1), .int 0], .tuple [.int 0, .int 16], .tuple [.none, .int 0], .tuple [.int 0, .bool true], .tuple [.str "0", .int 0], .tuple [.int 401, .int 0], .tuple [.int 0, .int (-401)]]
theorem places81_bad : ∀ {i : Nat} {d : PyData}, places81[i]? = some d → ∃ d1 d2, d = .tuple [d1, d2] ∧ placeD W81 d1 d2 = false
  | 0, _, h => ⟨_, _, (Option.some.inj h).symm, by decide +kernel⟩
  | 1, _, h => ⟨_, _, (Option.some.inj h).symm, by decide +kernel⟩
  | 2, _, h => ⟨_, _, (Option.some.inj h).symm, by decide +kernel⟩
  | 3, _, h => ⟨_, _, (Option.some.inj h).symm, by decide +kernel⟩
  | 4, _, h => ⟨_, _, (Option.some.inj h).symm, by decide +kernel⟩
  | 5, _, h => ⟨_, _, (Option.some.inj h).symm, by decide +kernel⟩
  | 6, _, h => ⟨_, _, (Option.some.inj h).symm, by decide +kernel⟩
  | _ + 7, _, h => by cases h
abbrev keys81 : List PyData := [.none, .str "rl", .str "jj", .str "x", .int 5, .list [.str "r"], .str " "]
theorem keys81_bad : ∀ {i : Nat} {d : PyData}, keys81[i]? = some d → keysD d = false ∧ keysSz d = true
  | 0, _, h => Option.some.inj h ▸ ⟨by decide +kernel, by decide +kernel⟩
  | 1, _, h => Option.some.inj h ▸ ⟨by decide +kernel, by decide +kernel⟩
  | 2, _, h => Option.some.inj h ▸ ⟨by decide +kernel, by decide +kernel⟩
  | 3, _, h => Option.some.inj h ▸ ⟨by decide +kernel, by decide +kernel⟩
  | 4, _, h => Option.some.inj h ▸ ⟨by decide +kernel, by decide +kernel⟩
  | 5, _, h => Option.some.inj h ▸ ⟨by decide +kernel, by decide +kernel⟩
  | 6, _, h => Option.some.inj h ▸ ⟨by decide +kernel, by decide +kernel⟩
  | _ + 7, _, h => by cases h
section
variable {K : PySem.W.Frag} {σ : L2.St} {b : Hp} {vs : List V} {k : VK} {ke : XB} {E : XK} {D : Ends} {ts : TA} {te : TE}
theorem pair_ds {v : V} {d1 d2 : PyData} (h : Dp K b v (.tuple [d1, d2])) : ∃ p v1 v2, v = .ref p ∧ SqT K b p [v1, v2] ∧ Dp K b v1 d1 ∧ Dp K b v2 d2 := by
  cases h with
  | tup h1 h2 =>
    cases h2 with
    | cons q1 h2 =>
    cases h2 with
    | cons q2 h2 =>
    cases h2
    exact ⟨_, _, _, rfl, h1, q1, q2⟩
theorem place8 : PlaceIs K b W81 (.int 8) (.int 0) true := by
  have h : PlaceIs K b W81 (.int 8) (.int 0) _ := .whole 8 0
  have e : (((decide ((-400 : Int) ≤ 8) && decide ((8 : Int) ≤ 400)) && (decide ((-400 : Int) ≤ 0) && decide ((0 : Int) ≤ 400))) && freeM W81.rows W81.w 8 0) = true := by decide +kernel
  rw [e] at h
  exact h
theorem kb1 {x : V} (h : KeysIs K b x false) : KeysBad K b [x] := ⟨0, x, rfl, h, fun j hj => absurd hj (by omega)⟩
theorem kb2 {x : V} (h : KeysIs K b x false) : KeysBad K b [.str "r", x] := ⟨1, x, rfl, h, fun j hj => by
  have : j = 0 := by omega
  subst this
  exact ⟨"r", rfl, by decide +kernel⟩⟩
/-- Course(..) where the place is none -/
theorem c_coursePlace {wa : Addr} {W : Wd} {v1 v2 tv gv : V} (hE : ∀ c b' H', ke c b' → Ex b' H' → E c none H') (cc : CC K) (cr : CR K) (h : Pa ts σ b [.ref wa, v1, v2, tv, gv]) (hW : WAt K b wa W) (hp : PlaceIs K b W v1 v2 false) (hk : ∀ b', Ex b b' → ke (.ref (He.ga K "BadPlace")) b') : Ce (tMake (He.ga K "Course") (up (sb_Course___init__ K)) [] E ts) σ b k :=
  c_make hE (Pa.c h fun x dx hx hdx hne => ⟨b, x, dx, wa, v1, v2, tv, gv, W, false, rfl, cc, cr, upd_same, (Ex.new hdx).trans (Ex.new (by rw [upd_ne hne.symm]; exact hx)), hx, hW, hp, fun _ => hk, fun z => by cases z⟩)
/-- Course(..), what is handed to it told by a walk -/
theorem c_courseC {W : Wd} {l t : Int} (hE : ∀ c b' H', ke c b' → Ex b' H' → E c none H') (cc : CC K) (cr : CR K) (h : Ca ts σ b fun vs b1 => ∃ (wa : Addr) (tv gv : V) (td gd : PyData), vs = [.ref wa, .int l, .int t, tv, gv] ∧ WAt K b1 wa W ∧ PlaceIs K b1 W (.int l) (.int t) true ∧ Dp K b1 tv td ∧ Dp K b1 gv gd ∧ smallD td = true ∧ smallT gd = true ∧
    ((CourseBad td gd ∧ ∀ b', Ex b1 b' → ke (.ref (He.ga K "BadCourse")) b') ∨ ∃ (us : List (Int × Int)) (g : Int × Int), td = .list (us.map dU) ∧ us.length ≤ 20 ∧ (us.map dU).all unitD = true ∧ (us.map fun u => [u.1, u.2]).Nodup ∧ gd = dU g ∧ unitD (dU g) = true ∧
      (∀ u ∈ us, coverM ⟨0, l, t, 0, 0, false⟩ u = false) ∧ coverM ⟨0, l, t, 0, 0, false⟩ g = false ∧
      ∀ b0 c b', Ex b1 b0 → CAt K b0 c b' → b1 c.ca = none → c.wa = wa → c.W = W → c.l = l → c.t = t → c.us = us → c.g = g → c.s = ⟨0, l, t, 0, 0, false⟩ → c.rows = [] → c.gone = [] → k (.ref c.ca) b')) : Ce (tMake (He.ga K "Course") (up (sb_Course___init__ K)) [] E ts) σ b k := by
  refine c_make hE (fun H e Q q => h H e Q fun vs b1 H' ⟨wa, tv, gv, td, gd, ev, hW, hp, h1, h2, s1, s2, h3⟩ a => q vs b1 H' ?_ a)
  intro x dx hx hdx hne
  refine ⟨b1, x, dx, wa, .int l, .int t, tv, gv, W, true, by rw [ev], cc, cr, upd_same, (Ex.new hdx).trans (Ex.new (by rw [upd_ne hne.symm]; exact hx)), hx, hW, hp, (fun z => by cases z), fun _ => ⟨td, gd, h1, h2, s1, s2, ?_⟩⟩
  rcases h3 with h3 | ⟨us, g, z1, z2, z3, z4, z5, z6, z7, z8, z9⟩
  · exact .inl h3
  · refine .inr ⟨us, g, l, t, z1, z2, z3, z4, z5, z6, rfl, rfl, z7, z8, fun b0 c b' e0 hC y1 y2 y3 y4 y5 y6 y7 y8 y9 y10 => ⟨rfl, ?_⟩⟩
    have := z9 b0 c b' e0 hC (by rw [y1]; exact hx) y2 y3 y4 y5 y6 y7 y8 y9 y10
    rw [y1] at this
    exact this
theorem p__law_trails_bad (h : sb__law_trails_bad K vs b k ke) (hE : ∀ c b' H', ke c b' → Ex b' H' → E c none H') : Cs (t__law_trails_bad K E) { nx := fun _ b' => k .non b', rt := k } (start ["world", "left", "top", "found", "bad"] vs) b := by
  obtain ⟨F, tb, cr, cc, wa, rfl, hW, hk⟩ := h
  refine s_seq (s_listD2 (K := K) (ds := places81) (cl_lst2 (by walk_at "d") (by decide)) (fun ap xp i σ' b' => Sp1 (TL K) b b' ∧ SqL K b' ap xp ∧ DpAll K b' xp places81 ∧ ∃ v1 v2 v3 : Option V, σ' = [some (.ref wa), v1, v2, v3, none]) (fun ap xp b1 e1 hap hdp => ⟨.of (e1.trans (Ex.new hap)) tb, sq_of upd_same, dpa_ex (Ex.new hap) hdp, _, _, _, rfl⟩) (fun ap xp i σ' b' h => h.2.1) ?_ ?_)
  · rintro ap xp i x d σ' b' hx hd ⟨s0, h1, h2, v1, v2, v3, rfl⟩
    obtain ⟨d', e1, hd2⟩ := dpa_get2 h2 hx
    have ed : d' = d := Option.some.inj (e1.symm.trans hd)
    subst ed
    obtain ⟨d1, d2, rfl, hb⟩ := places81_bad hd
    obtain ⟨p, w1, w2, rfl, hp, hd1, hd2⟩ := pair_ds hd2
    have pb : ∀ {b1 : Hp}, Sp1 (TL K) b' b1 → PlaceIs K b1 W81 w1 w2 false := fun s => hb ▸ place_dp (s.dp hd1) (s.dp hd2)
    have wb : ∀ {b1 : Hp}, Sp1 (TL K) b' b1 → WAt K b1 wa W81 := fun s => (s0.trans s).wt hW
    have s1 : Sp1 (TL K) b' b' := .rfl' s0.tb
    refine g_tup (K := K) hp rfl (gs_name (gs_name (gs_nil ?_)))
    refine q_asgC (Ce.mono (sl_new (cd_told s0.tb F 3 (by decide) fun b1 t1 E2 hE2 => c_call (ke := fun c b2 => c = Value.ref (He.ga K "BadPlace") ∧ Ex b1 b2) hE2 (ca_consP (v_var rfl) (ca_consP (v_var rfl) (ca_consP (v_var rfl) (ca_cons (Pn.c (n_lst (vs := [.non]) (a_cons v_c a_nil) (by show 1 ≤ 100000; decide)) fun q hq => ca_nil ⟨wa, w1, w2, q, rfl, cr, .inl (.place W81 ((wb t1).ex (Ex.new hq)) ((pb t1).ex (Ex.new hq)) fun b9 e9 => ⟨rfl, (Ex.new hq).trans e9⟩)⟩)))))) rfl) fun v b2 ⟨p2, u1, ev, S2⟩ => ?_)
    subst ev
    refine q_drop (sl_app S2 (v_var rfl) (cd_told S2.sp.tb F 3 (by decide) fun b1 t1 E2 hE2 => c_call (ke := fun c b2 => c = Value.ref (He.ga K "BadPlace") ∧ Ex b1 b2) hE2 (ca_consP (v_var rfl) (ca_consP (v_var rfl) (ca_consP (v_var rfl) (ca_cons (Pn.c (n_lst (vs := [.non]) (a_cons v_c a_nil) (by show 1 ≤ 100000; decide)) fun q hq => ca_nil ⟨wa, w1, w2, q, rfl, cr, .place W81 ((wb (S2.sp.trans t1)).ex (Ex.new hq)) ((pb (S2.sp.trans t1)).ex (Ex.new hq)) fun b9 e9 => ⟨rfl, (Ex.new hq).trans e9⟩⟩)))))) rfl (by show 1 < 100000; decide) fun u2 b3 S3 => ?_)
    refine q_drop (sl_app S3 (v_var rfl) (cd_told S3.sp.tb F 3 (by decide) fun b1 t1 E2 hE2 => c_call (ke := fun c b2 => c = Value.ref (He.ga K "BadPlace") ∧ Ex b1 b2) hE2 (ca_consP (v_var rfl) (ca_consP (v_var rfl) (ca_consP (v_var rfl) (ca_cons (Pn.c (n_lst (vs := [.non]) (a_cons v_c a_nil) (by show 1 ≤ 100000; decide)) fun q hq => ca_nil ⟨wa, w1, w2, q, rfl, cr, .place W81 ((wb (S3.sp.trans t1)).ex (Ex.new hq)) ((pb (S3.sp.trans t1)).ex (Ex.new hq)) fun b9 e9 => ⟨rfl, (Ex.new hq).trans e9⟩⟩)))))) rfl (by show 2 < 100000; decide) fun u3 b4 S4 => ?_)
    refine q_drop (sl_app S4 (v_var rfl) (cd_told S4.sp.tb F 3 (by decide) fun b1 t1 E2 hE2 => c_call (ke := fun c b2 => c = Value.ref (He.ga K "BadPlace") ∧ Ex b1 b2) hE2 (ca_consP (v_var rfl) (ca_consP (v_var rfl) (ca_consP (v_var rfl) (ca_cons (Pn.c (n_lst (vs := [.non]) (a_cons v_c a_nil) (by show 1 ≤ 100000; decide)) fun q hq => ca_nil ⟨wa, w1, w2, q, rfl, cr, .place W81 ((wb (S4.sp.trans t1)).ex (Ex.new hq)) ((pb (S4.sp.trans t1)).ex (Ex.new hq)) fun b9 e9 => ⟨rfl, (Ex.new hq).trans e9⟩⟩)))))) rfl (by show 3 < 100000; decide) fun u4 b5 S5 => ?_)
    refine q_drop (sl_app S5 (v_var rfl) (cd_told S5.sp.tb F 3 (by decide) fun b1 t1 E2 hE2 => c_call (ke := fun c b2 => c = Value.ref (He.ga K "BadPlace") ∧ Ex b1 b2) hE2 (ca_consP (v_var rfl) (ca_consP (v_var rfl) (ca_consP (v_var rfl) (ca_cons (Pn.c (n_lst (vs := [.non]) (a_cons v_c a_nil) (by show 1 ≤ 100000; decide)) fun q hq => ca_cons (Pn.c (n_lst (vs := [.non]) (a_cons v_c a_nil) (by show 1 ≤ 100000; decide)) fun q2 hq2 => ca_nil ⟨wa, w1, w2, q, q2, [.non], [.non], W81, rfl, cr, (wb (S5.sp.trans t1)).ex ((Ex.new hq).trans (Ex.new hq2)), ex_l (Ex.new hq2) (sq_of upd_same), sq_of upd_same, by show 1 ≤ 10; decide, by show 1 ≤ 10; decide, .inl ⟨(pb (S5.sp.trans t1)).ex ((Ex.new hq).trans (Ex.new hq2)), fun b9 e9 => ⟨rfl, ((Ex.new hq).trans (Ex.new hq2)).trans e9⟩⟩⟩))))))) rfl (by show 4 < 100000; decide) fun u5 b6 S6 => ?_)
    refine q_drop (sl_app S6 (v_var rfl) (cd_told S6.sp.tb F 3 (by decide) fun b1 t1 E2 hE2 => c_coursePlace (ke := fun c b2 => c = Value.ref (He.ga K "BadPlace") ∧ Ex b1 b2) hE2 cc cr (a_cons (v_var rfl) (a_cons (v_var rfl) (a_cons (v_var rfl) (a_cons v_c (a_cons v_c a_nil))))) (wb (S6.sp.trans t1)) (pb (S6.sp.trans t1)) fun b9 e9 => ⟨rfl, e9⟩) rfl (by show 5 < 100000; decide) fun u6 b7 S7 => ?_)
    refine s_ifC (Ct.mono (sl_ne S7 (v_var rfl) (cd_rep (n := 6) (ds := [dRef "BadPlace"]) (by walk_at "d") ⟨by decide, by decide⟩ (by decide) (by decide)) (by decide +kernel) (by decide +kernel)) fun c b8 ⟨s8, ec⟩ => ?_)
    have ec2 : c = false := ec.trans (by decide +kernel)
    subst ec2
    exact s_next ⟨s0.trans s8, s8.ls h1, s8.dpa h2, _, _, _, rfl⟩
  · rintro ap xp σ' b1 ⟨s0, -, -, v1, v2, v3, rfl⟩
    refine s_seq (s_listD2 (K := K) (ds := keys81) (cl_lst2 (by walk_at "d") (by decide)) (fun ap xp i σ' b' => Sp1 (TL K) b b' ∧ SqL K b' ap xp ∧ DpAll K b' xp keys81 ∧ ∃ v3 v4 : Option V, σ' = [some (.ref wa), v1, v2, v3, v4]) (fun ap xp b2 e2 hap hdp => ⟨s0.on (e2.trans (Ex.new hap)), sq_of upd_same, dpa_ex (Ex.new hap) hdp, _, _, rfl⟩) (fun ap xp i σ' b' h => h.2.1) ?_ ?_)
    · rintro ap xp i x d σ' b' hx hd ⟨s0, h1, h2, v3, v4, rfl⟩
      obtain ⟨d', e1, hd2⟩ := dpa_get2 h2 hx
      have ed : d' = d := Option.some.inj (e1.symm.trans hd)
      subst ed
      obtain ⟨hb1, hb2⟩ := keys81_bad hd
      have kb : ∀ {b1 : Hp}, Sp1 (TL K) b' b1 → KeysIs K b1 x false := fun s => hb1 ▸ keys_dp (s.dp hd2) hb2
      have wb : ∀ {b1 : Hp}, Sp1 (TL K) b' b1 → WAt K b1 wa W81 := fun s => (s0.trans s).wt hW
      refine g_name ?_
      refine q_asgC (Ce.mono (sl_new (cd_told s0.tb F 0 (by decide) fun b1 t1 E2 hE2 => c_call (ke := fun c b2 => c = Value.ref (He.ga K "BadKeys") ∧ Ex b1 b2) hE2 (ca_consP (v_var rfl) (ca_consP v_c (ca_consP v_c (ca_cons (Pn.c (n_lst (vs := [.str "r", x]) (a_cons v_c (a_cons (v_var rfl) a_nil)) (by show 2 ≤ 100000; decide)) fun q hq => ca_nil ⟨wa, .int 8, .int 0, q, rfl, cr, .inl (.keys W81 _ ((wb t1).ex (Ex.new hq)) place8 (sq_of upd_same) (kb2 ((kb t1).ex (Ex.new hq))) fun b9 e9 => ⟨rfl, (Ex.new hq).trans e9⟩)⟩)))))) rfl) fun v b2 ⟨p2, u1, ev, S2⟩ => ?_)
      subst ev
      refine q_drop (sl_app S2 (v_var rfl) (cd_told S2.sp.tb F 0 (by decide) fun b1 t1 E2 hE2 => c_call (ke := fun c b2 => c = Value.ref (He.ga K "BadKeys") ∧ Ex b1 b2) hE2 (ca_consP (v_var rfl) (ca_consP v_c (ca_consP v_c (ca_cons (Pn.c (n_lst (vs := [x]) (a_cons (v_var rfl) a_nil) (by show 1 ≤ 100000; decide)) fun q hq => ca_nil ⟨wa, .int 8, .int 0, q, rfl, cr, .keys W81 _ ((wb (S2.sp.trans t1)).ex (Ex.new hq)) place8 (sq_of upd_same) (kb1 ((kb (S2.sp.trans t1)).ex (Ex.new hq))) fun b9 e9 => ⟨rfl, (Ex.new hq).trans e9⟩⟩)))))) rfl (by show 1 < 100000; decide) fun u2 b3 S3 => ?_)
      refine q_drop (sl_app S3 (v_var rfl) (cd_told S3.sp.tb F 0 (by decide) fun b1 t1 E2 hE2 => c_call (ke := fun c b2 => c = Value.ref (He.ga K "BadKeys") ∧ Ex b1 b2) hE2 (ca_consP (v_var rfl) (ca_consP v_c (ca_consP v_c (ca_cons (Pn.c (n_lst (vs := [x]) (a_cons (v_var rfl) a_nil) (by show 1 ≤ 100000; decide)) fun q hq => ca_nil ⟨wa, .int 8, .int 0, q, rfl, cr, .keys W81 _ ((wb (S3.sp.trans t1)).ex (Ex.new hq)) place8 (sq_of upd_same) (kb1 ((kb (S3.sp.trans t1)).ex (Ex.new hq))) fun b9 e9 => ⟨rfl, (Ex.new hq).trans e9⟩⟩)))))) rfl (by show 2 < 100000; decide) fun u3 b4 S4 => ?_)
      refine q_drop (sl_app S4 (v_var rfl) (cd_told S4.sp.tb F 0 (by decide) fun b1 t1 E2 hE2 => c_call (ke := fun c b2 => c = Value.ref (He.ga K "BadKeys") ∧ Ex b1 b2) hE2 (ca_consP (v_var rfl) (ca_consP v_c (ca_consP v_c (ca_cons (Pn.c (n_lst (vs := [x]) (a_cons (v_var rfl) a_nil) (by show 1 ≤ 100000; decide)) fun q hq => ca_nil ⟨wa, .int 8, .int 0, q, rfl, cr, .keys W81 _ ((wb (S4.sp.trans t1)).ex (Ex.new hq)) place8 (sq_of upd_same) (kb1 ((kb (S4.sp.trans t1)).ex (Ex.new hq))) fun b9 e9 => ⟨rfl, (Ex.new hq).trans e9⟩⟩)))))) rfl (by show 3 < 100000; decide) fun u4 b5 S5 => ?_)
      refine q_drop (sl_app S5 (v_var rfl) (cd_told S5.sp.tb F 0 (by decide) fun b1 t1 E2 hE2 => c_call (ke := fun c b2 => c = Value.ref (He.ga K "BadKeys") ∧ Ex b1 b2) hE2 (ca_consP (v_var rfl) (ca_consP v_c (ca_consP v_c (ca_cons (Pn.c (n_lst (vs := [x]) (a_cons (v_var rfl) a_nil) (by show 1 ≤ 100000; decide)) fun q hq => ca_cons (Pn.c (n_lst (vs := []) a_nil (by show 0 ≤ 100000; decide)) fun q2 hq2 => ca_nil ⟨wa, .int 8, .int 0, q, q2, [x], [], W81, rfl, cr, (wb (S5.sp.trans t1)).ex ((Ex.new hq).trans (Ex.new hq2)), ex_l (Ex.new hq2) (sq_of upd_same), sq_of upd_same, by show 1 ≤ 10; decide, by show 0 ≤ 10; decide, .inr ⟨place8, .inl (kb1 ((kb (S5.sp.trans t1)).ex ((Ex.new hq).trans (Ex.new hq2)))), fun b9 e9 => ⟨rfl, ((Ex.new hq).trans (Ex.new hq2)).trans e9⟩⟩⟩))))))) rfl (by show 4 < 100000; decide) fun u5 b6 S6 => ?_)
      refine q_drop (sl_app S6 (v_var rfl) (cd_told S6.sp.tb F 0 (by decide) fun b1 t1 E2 hE2 => c_call (ke := fun c b2 => c = Value.ref (He.ga K "BadKeys") ∧ Ex b1 b2) hE2 (ca_consP (v_var rfl) (ca_consP v_c (ca_consP v_c (ca_cons (Pn.c (n_lst (vs := []) a_nil (by show 0 ≤ 100000; decide)) fun q hq => ca_cons (Pn.c (n_lst (vs := [x]) (a_cons (v_var rfl) a_nil) (by show 1 ≤ 100000; decide)) fun q2 hq2 => ca_nil ⟨wa, .int 8, .int 0, q, q2, [], [x], W81, rfl, cr, (wb (S6.sp.trans t1)).ex ((Ex.new hq).trans (Ex.new hq2)), ex_l (Ex.new hq2) (sq_of upd_same), sq_of upd_same, by show 0 ≤ 10; decide, by show 1 ≤ 10; decide, .inr ⟨place8, .inr ⟨⟨[], rfl, fun w hw => by cases hw⟩, kb1 ((kb (S6.sp.trans t1)).ex ((Ex.new hq).trans (Ex.new hq2)))⟩, fun b9 e9 => ⟨rfl, ((Ex.new hq).trans (Ex.new hq2)).trans e9⟩⟩⟩))))))) rfl (by show 5 < 100000; decide) fun u6 b7 S7 => ?_)
      refine q_drop (sl_app S7 (v_var rfl) (cd_told S7.sp.tb F 0 (by decide) fun b1 t1 E2 hE2 => c_methC (ke := fun c b2 => c = Value.ref (He.ga K "BadKeys") ∧ Ex b1 b2) hE2 (c_courseC (W := W81) (l := 8) (t := 0) (ke := fun c b2 => c = Value.ref (He.ga K "BadKeys") ∧ Ex b1 b2) hE2 cc cr (ca_consP (v_var rfl) (ca_consP v_c (ca_consP v_c (ca_cons (Pn.c (n_lst (vs := []) a_nil (by show 0 ≤ 100000; decide)) fun q hq => ca_cons (Pn.c (n_tup (vs := [.int 0, .int 0]) (a_cons v_c (a_cons v_c a_nil)) (by show 2 ≤ 100000; decide)) fun q2 hq2 => ca_nil ?_)))))))) rfl (by show 6 < 100000; decide) fun u7 b8 S8 => ?_)
      · have e3 := (Ex.new (o := .lst []) hq).trans (Ex.new (o := .tup [.int 0, .int 0]) hq2)
        refine ⟨wa, .ref q, .ref q2, .list [], .tuple [.int 0, .int 0], rfl, (wb (S7.sp.trans t1)).ex e3, place8, .lst (ex_l (Ex.new hq2) (sq_of upd_same)) .nil, .tup (st_of upd_same) (.cons (.int 0) (.cons (.int 0) .nil)), rfl, rfl, .inr ⟨[], (0, 0), rfl, by show 0 ≤ 20; decide, rfl, .nil, rfl, by decide +kernel, (fun u hu => by cases hu), by decide +kernel, fun b0 c b9 e0 hC _ _ _ _ _ _ _ _ _ _ => ?_⟩⟩
        have e9 := (e3.trans e0).trans hC.ex
        exact ⟨c.ca, c.cd, _, rfl, hC.ic, cfl_none _ _ _ _ _ _ _ (by decide +kernel), ca_consP (v_var rfl) (ca_nil ⟨b0, c, x, false, rfl, hC, (kb (S7.sp.trans t1)).ex e9, fun _ => ⟨rfl, e9⟩, fun z => by cases z⟩)⟩
      refine s_ifC (Ct.mono (sl_ne S8 (v_var rfl) (cd_rep (n := 7) (ds := [dRef "BadKeys"]) (by walk_at "d") ⟨by decide, by decide⟩ (by decide) (by decide)) (by decide +kernel) (by decide +kernel)) fun c b8 ⟨s8, ec⟩ => ?_)
      have ec2 : c = false := ec.trans (by decide +kernel)
      subst ec2
      exact s_next ⟨s0.trans s8, s8.ls h1, s8.dpa h2, _, _, rfl⟩
    · rintro ap xp σ' b2 ⟨s2, -, -, v3, v4, rfl⟩
      exact s_retV v_c (hk b2 s2)
end

/-! ### law k81: rules -/
section
variable {K : PySem.W.Frag} {T : List (Addr × Str)} {σ : L2.St} {b b0 b' b1 : Hp} {vs : List V} {k : VK} {ke : XB} {E : XK} {D : Ends} {ts : TA} {te ta : TE} {t u : TT} {tu tz : TS} {c : C8} {a : Addr} {ns : List Int}
theorem q_ifF (h : Ct t σ b fun c b1 => c = false ∧ Cs tz D σ b1) : Cs (tSeq (tIfS t tu tNext) tz) D σ b := s_seq (s_ifC (Ct.mono h fun c b1 ⟨e, hz⟩ => by
  subst e
  exact s_next hz))
theorem s_ifF (h : Ct t σ b fun c b1 => c = false ∧ D.nx σ b1) : Cs (tIfS t tu tNext) D σ b := s_ifC (Ct.mono h fun c b1 ⟨e, hz⟩ => by
  subst e
  exact s_next hz)
theorem ct_orF {P : Hp → Prop} (h : Ct t σ b fun c b1 => c = false ∧ Ct u σ b1 fun c b2 => c = false ∧ P b2) : Ct (tOr t u) σ b (fun c b2 => c = false ∧ P b2) := ct_or (Ct.mono h fun c b1 ⟨e, hz⟩ => by
  subst e
  exact hz)
/-- told, refused as was looked for -/
theorem ct_told {P : Hp → Prop} (hT : LamX.Tabs (TL K) b) (F : FX K) (i : Nat) (hi : i < nW) (hs : SeqAt.shaped (dRef (words6.getD i "")) = true) (he : PyData.eqv (dRef (words6.getD i "")) (dRef (words6.getD i "")) = true) {f : XK → TE} (h : ∀ b1, Sp1 (TL K) b b1 → ∀ E : XK, (∀ c b2 H2, (c = Value.ref (He.ga K (words6.getD i "")) ∧ Ex b1 b2) → Ex b2 H2 → E c none H2) → Ce (f E) σ b1 (fun _ _ => False)) (hk : ∀ b', Sp1 (TL K) b b' → P b') :
    Ct (tTest (tOp (rNeU K) (LamX.tLam (TL K) (Hx.TTn K (He.ga K "RunError") (WokN K)) f) (tTup (tCons (tC (.str "refused")) (tCons (tC (.str (words6.getD i ""))) tNil))))) σ b (fun c b2 => c = false ∧ P b2) :=
  ct_test (c_op (Ce.mono (cd_told hT F i hi h) fun v b2 ⟨s2, d2⟩ => Ce.mono (show Ce _ σ b2 (KD K b2 (dRef (words6.getD i ""))) from cd_tup (cda_cons cd_str fun _ _ => cda_cons cd_str fun _ _ => cda_nil) (by show 2 ≤ 100000; decide)) fun w b3 ⟨e3, d3⟩ => Pr.c (r_neD (dp_ex e3 d2) d3 hs hs) ⟨_, rfl, by rw [he]; rfl, hk b3 (s2.on e3)⟩))
/-- a comprehension over a range, each value data -/
theorem cd_lcR {n : Int} {is : List Nat} {j : Nat} (G : Nat → PyData) (h : Pa ts σ b [.int n]) (hn : 0 ≤ n ∧ n < 1000) (hw : ∀ x, wipe ((wipe σ is).set j (some x)) is = wipe σ is) (hG : ∀ i, noL (G i) = true)
    (he : ∀ (i : Nat) b1, (i : Int) < n → Ex b b1 → Ce te ((wipe σ is).set j (some (.int (i : Int)))) b1 (KD K b1 (G i))) : Ce (tLc (iRng1 ts) (gName j) tYes te is) σ b (KD K b (.list ((List.range n.toNat).map G))) := by
  refine c_lcR h ⟨by omega, by omega⟩ (fun Dl i acc b' => Ex b b' ∧ b' Dl = some (.lst acc) ∧ DpAll K (del Dl b') acc ((List.range i).map G) ∧ i ≤ n.toNat) (fun Dl hD => ⟨Ex.new hD, upd_same, .nil, Nat.zero_le _⟩) (fun Dl i acc b' hD ⟨_, h2, h3, h4⟩ => ⟨h2, by rw [dpa_len h3, List.length_map, List.length_range]; omega⟩) ?_ (fun Dl acc b' hD ⟨h1, h2, h3, _⟩ => ⟨h1, .lst (sq_of h2) (dpa_ex del_ex h3)⟩)
  rintro Dl i acc b' hD hi ⟨h1, h2, h3, h4⟩
  refine g_name ⟨hw _, t_yes.c ?_⟩
  show Ce te _ b' _
  refine Ce.mono (he i b' hi h1) fun y b4 ⟨e4, d4⟩ => ?_
  have h4D : b4 Dl = some (.lst acc) := e4 _ _ h2
  have e : Ex (del Dl b4) (del Dl (upd b4 Dl (.lst (acc ++ [y])))) := fun a o ha => del_at (del_under a o ha) (fun z => by rw [z, del_l] at ha; cases ha)
  have ed : Ex (del Dl b') (del Dl b4) := fun a o ha => del_at (e4 a o (del_ex a o ha)) (fun z => by rw [z, del_l] at ha; cases ha)
  refine ⟨h4D, Ex.mut (h1.trans e4) hD, upd_same, ?_, by omega⟩
  rw [List.range_succ, List.map_append]
  exact dpa_app (dpa_ex e (dpa_ex ed h3)) (.cons (dp_ex e (del_dp h4D d4 (hG i))) .nil)
theorem n_lstRg {n : Int} (h : Pe te σ b (.int n)) (ho : RgOk 0 n) : Pn (tLstRg (tRg1 te)) σ b (.lst (rgV 0 n)) := fun H e Q q => h H e _ fun H1 e1 => ⟨n, rfl, ho, fun p hp => q p _ (ex_none e1 hp) (ex_upd e1)⟩
theorem del_tabI {x : Addr} {C dx : Addr} {fs : List (Str × V)} (hx : b x = some (.ins C dx fs)) (h : Tabs T b) : Tabs T (del x b) := fun p hp => by
  obtain ⟨ps, h1, h2, h3⟩ := h p hp
  refine ⟨ps, del_at h1 (fun z => by rw [z, hx] at h1; cases h1), h2, fun pos cv hc => ?_⟩
  obtain ⟨c, e1, e2⟩ := h3 pos cv hc
  exact ⟨c, e1, del_at e2 (fun z => by rw [z, hx] at e2; unfold CodeO at e2; cases e2)⟩
/-- a course, the script, the tables -/
structure S81 (K : PySem.W.Frag) (a : Addr) (ns : List Int) (c : C8) (b : Hp) : Prop where
  q : ∃ b0, CAt K b0 c b ∧ SqL K b0 a (ns.map V.int) ∧ Tabs (TL K) b0
theorem S81.sc (h : S81 K a ns c b) : SqL K b a (ns.map V.int) := by
  obtain ⟨b0, h1, h2, h3⟩ := h.q
  exact ex_l h1.ex h2
theorem S81.tb (h : S81 K a ns c b) : Tabs (TL K) b := by
  obtain ⟨b0, h1, h2, h3⟩ := h.q
  exact h3.ext h1.ex
theorem S81.w (h : S81 K a ns c b) : WAt K b c.wa c.W := by
  obtain ⟨b0, h1, h2, h3⟩ := h.q
  exact h1.o.ex h1.ex
theorem S81.ic (h : S81 K a ns c b) : b c.ca = some (.ins (He.ga K "Course") c.cd (cfl c.ra c.bt c.th c.gq c.rw c.gb c.gd)) := by
  obtain ⟨b0, h1, h2, h3⟩ := h.q
  exact h1.ic
theorem S81.of (h : S81 K a ns c b) (e : Ex b b') : S81 K a ns c b' := by
  obtain ⟨b0, h1, h2, h3⟩ := h.q
  exact ⟨b0, h1.of e, h2, h3⟩
theorem S81.st (h : S81 K a ns c b) (s : Sp1 (TL K) b b') : S81 K a ns c b' := by
  obtain ⟨b0, h1, h2, h3⟩ := h.q
  have ic := s.ex _ _ (noT_at h1.ic (fun _ z => by cases z))
  have ir := s.ex _ _ (noT_at h1.ir (fun _ z => by cases z))
  have iw := s.lst h1.iw
  have c1 : noT b0 c.ca = none := by unfold noT; rw [h1.nc]
  have c2 : noT b0 c.ra = none := by unfold noT; rw [h1.nr]
  have c3 : noT b0 c.rw = none := by unfold noT; rw [h1.nw]
  have e : Ex (noT b0) (del c.rw (del c.ra (del c.ca b'))) := fun x o hx => del_at (del_at (del_at (s.ex x o (noT_at (h1.ex x o (noT_ex b0 x o hx)) (fun ps z => noT_nt b0 x ps (z ▸ hx)))) (ne_of_none hx c1)) (ne_of_none hx c2)) (ne_of_none hx c3)
  have j2 : del c.ca b' c.ra = some (.ins (He.ga K "Runner") c.rd (rf c.wa c.s)) := del_at ir (Ne.symm h1.car)
  have j3 : del c.ra (del c.ca b') c.rw = some (.lst (c.rows.map V.str)) := del_at (del_at iw (Ne.symm h1.caw)) (Ne.symm h1.rw_)
  refine ⟨del c.rw (del c.ra (del c.ca b')), ?_, ex_l e (noT_l h2), del_tabs j3 (del_tabI j2 (del_tabI ic s.tb))⟩
  exact { h1 with
    ex := del_ex.trans (del_ex.trans del_ex)
    nc := by unfold del; rw [if_neg h1.caw, if_neg h1.car, if_pos rfl]
    nr := by unfold del; rw [if_neg h1.rw_, if_pos rfl]
    nw := del_l
    o := (wat_noT h1.o).ex e
    bt := ex_t e (noT_t h1.bt)
    th := ex_l e (noT_l h1.th)
    tu := fun i q u z1 z2 => ex_t e (noT_t (h1.tu i q u z1 z2))
    gq := ex_t e (noT_t h1.gq)
    gb := e _ _ (noT_at h1.gb (fun _ z => by cases z))
    gd := e _ _ (noT_at h1.gd (fun _ z => by cases z))
    ic := ic
    ir := ir
    iw := iw }
end
/-! ### what is bad -/
abbrev bads81 (u : Int × Int) : List PyData := [.none, .tuple [], .tuple [dU u], .list [dU u, dU u], .list [.none], .list [.tuple [.int 1]], .list [.tuple [.int 1, .int 2, .int 3]], .list [.list [.int 1, .int 2]], .list [.tuple [.int 401, .int 0]], .list [.tuple [.int 0, .int (-401)]]]
abbrev more81 : List PyData := [.list [.tuple [.bool true, .int 0]], .list [.tuple [.str "1", .int 0]], .list ((List.range (21 : Int).toNat).map fun (i : Nat) => PyData.tuple [.int (i : Int), .int 0])]
theorem two_dist (x : List Int) : ∀ n, Dist [x, x] n → n ≠ 2 := fun n ⟨L, h1, h2, h3, e⟩ z => by
  subst e
  match L, z with
  | [p, q], _ =>
    have hp := h2 p (List.mem_cons_self ..)
    have hq := h2 q (List.mem_cons_of_mem _ (List.mem_cons_self ..))
    simp only [List.mem_cons, List.not_mem_nil, or_false, or_self] at hp hq
    rw [hp, hq] at h1
    simp at h1
theorem bads81_bad {u : Int × Int} (hu : unitD (dU u) = true) : ∀ {i : Nat} {d : PyData}, (bads81 u ++ more81)[i]? = some d → CourseBad d (dU u) ∧ smallD d = true
  | 0, _, h => Option.some.inj h ▸ ⟨.notlist (show kitB "NoneType" "list" = some false by decide +kernel), rfl⟩
  | 1, _, h => Option.some.inj h ▸ ⟨.notlist (show kitB "tuple" "list" = some false by decide +kernel), rfl⟩
  | 2, _, h => Option.some.inj h ▸ ⟨.notlist (show kitB "tuple" "list" = some false by decide +kernel), rfl⟩
  | 3, _, h => Option.some.inj h ▸ ⟨.dup [u, u] (by show 2 ≤ 20; decide) (by show (unitD (dU u) && (unitD (dU u) && true)) = true; rw [hu]; rfl) (two_dist _), rfl⟩
  | 4, _, h => Option.some.inj h ▸ ⟨.units _ (by show 1 ≤ 20; decide) (by decide +kernel), rfl⟩
  | 5, _, h => Option.some.inj h ▸ ⟨.units _ (by show 1 ≤ 20; decide) (by decide +kernel), rfl⟩
  | 6, _, h => Option.some.inj h ▸ ⟨.units _ (by show 1 ≤ 20; decide) (by decide +kernel), rfl⟩
  | 7, _, h => Option.some.inj h ▸ ⟨.units _ (by show 1 ≤ 20; decide) (by decide +kernel), rfl⟩
  | 8, _, h => Option.some.inj h ▸ ⟨.units _ (by show 1 ≤ 20; decide) (by decide +kernel), rfl⟩
  | 9, _, h => Option.some.inj h ▸ ⟨.units _ (by show 1 ≤ 20; decide) (by decide +kernel), rfl⟩
  | 10, _, h => Option.some.inj h ▸ ⟨.units _ (by show 1 ≤ 20; decide) (by decide +kernel), rfl⟩
  | 11, _, h => Option.some.inj h ▸ ⟨.units _ (by show 1 ≤ 20; decide) (by decide +kernel), rfl⟩
  | 12, _, h => Option.some.inj h ▸ ⟨.long _ (by rw [List.length_map, List.length_range]; decide), by decide +kernel⟩
  | _ + 13, _, h => by cases h
abbrev goals81 : List PyData := [.none, .tuple [], .tuple [.int 1], .list [.int 1, .int 2], .tuple [.int 401, .int 0], .tuple [.int 0, .none], .tuple [.bool true, .int 0]]
theorem goals81_bad : ∀ {i : Nat} {d : PyData}, goals81[i]? = some d → unitD d = false ∧ smallT d = true
  | 0, _, h => Option.some.inj h ▸ ⟨by decide +kernel, rfl⟩
  | 1, _, h => Option.some.inj h ▸ ⟨by decide +kernel, rfl⟩
  | 2, _, h => Option.some.inj h ▸ ⟨by decide +kernel, rfl⟩
  | 3, _, h => Option.some.inj h ▸ ⟨by decide +kernel, rfl⟩
  | 4, _, h => Option.some.inj h ▸ ⟨by decide +kernel, rfl⟩
  | 5, _, h => Option.some.inj h ▸ ⟨by decide +kernel, rfl⟩
  | 6, _, h => Option.some.inj h ▸ ⟨by decide +kernel, rfl⟩
  | _ + 7, _, h => by cases h
abbrev us81 : List (Int × Int) := (List.range (20 : Int).toNat).map fun (i : Nat) => (-400 + (i : Int), 400)
theorem nocov81 {c : C8} {s : Rs} (hu : c.us = us81) (hg : c.g = (400, -400)) (hW : c.W = W81) (h : FreeRs c.W s) : NoCov c s := by
  rw [hW] at h
  have q := free_in h.2
  refine ⟨fun u hm => ?_, ?_⟩
  · rw [hu] at hm
    obtain ⟨i, hi, rfl⟩ := List.mem_map.mp hm
    have := List.mem_range.mp hi
    have hi2 : i < 20 := this
    unfold coverM
    rw [decide_eq_false (show ¬ s.x ≤ -400 + (i : Int) by omega)]
    rfl
  · rw [hg]
    unfold coverM
    have hx : s.x + 5 < 32 := q.2
    rw [decide_eq_false (show ¬ (400 : Int) < s.x + 6 by omega), Bool.and_false]
    rfl
theorem w81_good : GoodWd W81 := ⟨⟨by decide +kernel, by decide +kernel, by decide +kernel, by decide +kernel, by decide +kernel, by decide +kernel⟩, (fun L hL => by cases hL), by decide⟩
abbrev back1 : List PyData := [.int 1, .int 0, .none, .bool true, .str "1"]
theorem back1_bad : ∀ {i : Nat} {d : PyData}, back1[i]? = some d → cntD 1 0 d = false
  | 0, _, h => Option.some.inj h ▸ by decide +kernel
  | 1, _, h => Option.some.inj h ▸ by decide +kernel
  | 2, _, h => Option.some.inj h ▸ by decide +kernel
  | 3, _, h => Option.some.inj h ▸ by decide +kernel
  | 4, _, h => Option.some.inj h ▸ by decide +kernel
  | _ + 5, _, h => by cases h
abbrev back2 : List PyData := [.int 0, .int (-1), .int 2, .none, .bool true, .str "1"]
theorem back2_bad : ∀ {i : Nat} {d : PyData}, back2[i]? = some d → cntD 1 1 d = false
  | 0, _, h => Option.some.inj h ▸ by decide +kernel
  | 1, _, h => Option.some.inj h ▸ by decide +kernel
  | 2, _, h => Option.some.inj h ▸ by decide +kernel
  | 3, _, h => Option.some.inj h ▸ by decide +kernel
  | 4, _, h => Option.some.inj h ▸ by decide +kernel
  | 5, _, h => Option.some.inj h ▸ by decide +kernel
  | _ + 6, _, h => by cases h

/-! ### law k81: the walk -/
section
variable {K : PySem.W.Frag}
def sb_law (K : PySem.W.Frag) : Sb := fun vs b k _ => FX K ∧ LamX.Tabs (TL K) b ∧ CW K ∧ CR K ∧ CC K ∧ ∃ (a : Addr) (ns : List Int), vs = [.ref a] ∧ SqL K b a (ns.map V.int) ∧ ns.length ≤ 63 ∧ ∀ b', k (.bl true) b'
theorem len_law : ∀ vs b k ke, sb_law K vs b k ke → vs.length = (["script"] : List Str).length := fun _ _ _ _ ⟨_, _, _, _, _, _, _, e, _⟩ => e ▸ rfl
end
def t_law (K : PySem.W.Frag) (E : XK) : TS := (tSeq (tFor (iRng1 (tCons (tCB rMax2 (tCons (tC (.int 1)) (tCons (tCB rMin2 (tCons (tC (.int 4)) (tCons (tCB (rLenU K) (tCons (tVar 0) tNil)) tNil))) tNil))) tNil)) (gName 1) (tSeq (tAsg (tCall (up (sb__law_drawn K)) [] E (tCons (tCall (up (sb__law_cell K)) [] E (tCons (tVar 0) (tCons (tVar 1) tNil))) (tCons (tVar 1) tNil))) (gName 2)) (tSeq (tAsg (tMake (He.ga K "World") (up (sb_World___init__ K)) [] E (tCons (tLst (tCons (tC (.str "....")) (tCons (tC (.str "....")) (tCons (tC (.str "####")) tNil)))) (tCons (tLst tNil) tNil))) (gName 3)) (tSeq (tAsg (tTup (tCons (tOp rModI (tVar 2) (tC (.int 400))) (tCons (tOp rModI (tOp rFdivU (tVar 2) (tC (.int 512))) (tC (.int 400))) tNil))) (gName 4)) (tSeq (tAsg (tLst (tCons (tC .non) (tCons (tTup tNil) (tCons (tTup (tCons (tVar 4) tNil)) (tCons (tLst (tCons (tVar 4) (tCons (tVar 4) tNil))) (tCons (tLst (tCons (tC .non) tNil)) (tCons (tLst (tCons (tTup (tCons (tC (.int 1)) tNil)) tNil)) (tCons (tLst (tCons (tTup (tCons (tC (.int 1)) (tCons (tC (.int 2)) (tCons (tC (.int 3)) tNil)))) tNil)) (tCons (tLst (tCons (tLst (tCons (tC (.int 1)) (tCons (tC (.int 2)) tNil))) tNil)) (tCons (tLst (tCons (tTup (tCons (tC (.int 401)) (tCons (tC (.int 0)) tNil))) tNil)) (tCons (tLst (tCons (tTup (tCons (tC (.int 0)) (tCons (tUn rNegI (tC (.int 401))) tNil))) tNil)) tNil))))))))))) (gName 5)) (tSeq (tFor (iList K (tOp (rAddU K) (tVar 5) (tLst (tCons (tLst (tCons (tTup (tCons (tC (.bl true)) (tCons (tC (.int 0)) tNil))) tNil)) (tCons (tLst (tCons (tTup (tCons (tC (.str "1")) (tCons (tC (.int 0)) tNil))) tNil)) (tCons (tLc (iRng1 (tCons (tC (.int 21)) tNil)) (gName 8) tYes (tTup (tCons (tVar 8) (tCons (tC (.int 0)) tNil))) [8]) tNil)))))) (gName 6) (tIfS (tTest (tOp (rNeU K) (LamX.tLam (TL K) (Hx.TTn K (He.ga K "RunError") (WokN K)) (fun E => (tMake (He.ga K "Course") (up (sb_Course___init__ K)) [] E (tCons (tVar 3) (tCons (tC (.int 8)) (tCons (tC (.int 0)) (tCons (tVar 6) (tCons (tVar 4) tNil)))))))) (tTup (tCons (tC (.str "refused")) (tCons (tC (.str "BadCourse")) tNil))))) (tRet (tC (.bl false))) tNext)) (tSeq (tFor (iList K (tLst (tCons (tC .non) (tCons (tTup tNil) (tCons (tTup (tCons (tC (.int 1)) tNil)) (tCons (tLst (tCons (tC (.int 1)) (tCons (tC (.int 2)) tNil))) (tCons (tTup (tCons (tC (.int 401)) (tCons (tC (.int 0)) tNil))) (tCons (tTup (tCons (tC (.int 0)) (tCons (tC .non) tNil))) (tCons (tTup (tCons (tC (.bl true)) (tCons (tC (.int 0)) tNil))) tNil))))))))) (gName 6) (tIfS (tTest (tOp (rNeU K) (LamX.tLam (TL K) (Hx.TTn K (He.ga K "RunError") (WokN K)) (fun E => (tMake (He.ga K "Course") (up (sb_Course___init__ K)) [] E (tCons (tVar 3) (tCons (tC (.int 8)) (tCons (tC (.int 0)) (tCons (tLst tNil) (tCons (tVar 6) tNil)))))))) (tTup (tCons (tC (.str "refused")) (tCons (tC (.str "BadCourse")) tNil))))) (tRet (tC (.bl false))) tNext)) (tSeq (tAsg (tMake (He.ga K "Course") (up (sb_Course___init__ K)) [] E (tCons (tVar 3) (tCons (tC (.int 8)) (tCons (tC (.int 0)) (tCons (tLc (iRng1 (tCons (tC (.int 20)) tNil)) (gName 8) tYes (tTup (tCons (tOp (rAddU K) (tUn rNegI (tC (.int 400))) (tVar 8)) (tCons (tC (.int 400)) tNil))) [8]) (tCons (tTup (tCons (tC (.int 400)) (tCons (tUn rNegI (tC (.int 400))) tNil))) tNil)))))) (gName 7)) (tSeq (tIfS (tOr (tTest (tOp (rNeU K) (tMeth (He.ga K "Course") "left_over" (up (sb_Course_left_over K)) [] E (tVar 7) tNil) (tLstRg (tRg1 (tC (.int 20)))))) (tOr (tTest (tOp rNotNone (tMeth (He.ga K "Course") "done" (up (sb_Course_done K)) [] E (tVar 7) tNil) (tC .non))) (tTest (tOp (rNeU K) (tMeth (He.ga K "Course") "tape" (up (sb_Course_tape K)) [] E (tVar 7) tNil) (tC (.str "")))))) (tRet (tC (.bl false))) tNext) (tSeq (tFor (iList K (tLst (tCons (tC (.int 1)) (tCons (tC (.int 0)) (tCons (tC .non) (tCons (tC (.bl true)) (tCons (tC (.str "1")) tNil))))))) (gName 6) (tIfS (tTest (tOp (rNeU K) (LamX.tLam (TL K) (Hx.TTn K (He.ga K "RunError") (WokN K)) (fun E => (tMeth (He.ga K "Course") "back" (up (sb_Course_back K)) [] E (tVar 7) (tCons (tVar 6) tNil)))) (tTup (tCons (tC (.str "refused")) (tCons (tC (.str "Nothing")) tNil))))) (tRet (tC (.bl false))) tNext)) (tSeq (tDrop (tMeth (He.ga K "Course") "tick" (up (sb_Course_tick K)) [] E (tVar 7) (tCons (tC (.str "r")) tNil))) (tSeq (tFor (iList K (tLst (tCons (tC (.int 0)) (tCons (tUn rNegI (tC (.int 1))) (tCons (tC (.int 2)) (tCons (tC .non) (tCons (tC (.bl true)) (tCons (tC (.str "1")) tNil)))))))) (gName 6) (tIfS (tOr (tTest (tOp (rNeU K) (LamX.tLam (TL K) (Hx.TTn K (He.ga K "RunError") (WokN K)) (fun E => (tMeth (He.ga K "Course") "back" (up (sb_Course_back K)) [] E (tVar 7) (tCons (tVar 6) tNil)))) (tTup (tCons (tC (.str "refused")) (tCons (tC (.str "Nothing")) tNil))))) (tTest (tOp (rNeU K) (tMeth (He.ga K "Course") "clock" (up (sb_Course_clock K)) [] E (tVar 7) tNil) (tC (.int 1))))) (tRet (tC (.bl false))) tNext)) (tSeq (tDrop (tMeth (He.ga K "Course") "back" (up (sb_Course_back K)) [] E (tVar 7) (tCons (tC (.int 1)) tNil))) (tSeq (tIfS (tOr (tTest (tOp (rEqU K) (LamX.tLam (TL K) (Hx.TTn K (He.ga K "RunError") (WokN K)) (fun E => (tMeth (He.ga K "Course") "tick" (up (sb_Course_tick K)) [] E (tVar 7) (tCons (tC (.str "lr")) tNil)))) (tTup (tCons (tC (.str "refused")) (tCons (tC (.str "BadKeys")) tNil))))) (tNot (tB (tCall (up (sb__law_trails_bad K)) [] E (tCons (tVar 3) tNil))))) (tRet (tC (.bl false))) tNext) (tIfS (tOr (tTest (tOp (rNeU K) (LamX.tLam (TL K) (Hx.TTn K (He.ga K "RunError") (WokN K)) (fun E => (tMeth (He.ga K "Course") "again" (up (sb_Course_again K)) [] E (tVar 7) tNil))) (tTup (tCons (tC (.str "refused")) (tCons (tC (.str "Nothing")) tNil))))) (tTest (tOp (rNeU K) (tMeth (He.ga K "Course") "clock" (up (sb_Course_clock K)) [] E (tVar 7) tNil) (tC (.int 1))))) (tRet (tC (.bl false))) tNext))))))))))))))) (tRet (tC (.bl true))))
structure R81 (K : PySem.W.Frag) (a : Addr) (ns : List Int) (wa up : Addr) (u : Int × Int) (b : Hp) : Prop where
  tb : Tabs (TL K) b
  sc : SqL K b a (ns.map V.int)
  w : WAt K b wa W81
  un : SqT K b up [.int u.1, .int u.2]
section
variable {K : PySem.W.Frag} {T : List (Addr × Str)} {σ : L2.St} {b b0 b' b1 : Hp} {vs : List V} {k : VK} {ke : XB} {E : XK} {D : Ends} {c : C8} {a wa up : Addr} {ns : List Int} {u : Int × Int}
theorem R81.st (h : R81 K a ns wa up u b) (s : Sp1 (TL K) b b') : R81 K a ns wa up u b' := ⟨s.tb, s.ls h.sc, s.wt h.w, s.tp h.un⟩
theorem R81.ex (h : R81 K a ns wa up u b) (e : Ex b b') : R81 K a ns wa up u b' := h.st (.of e h.tb)
theorem R81.dp (h : R81 K a ns wa up u b) : Dp K b (.ref up) (dU u) := .tup h.un (.cons (.int _) (.cons (.int _) .nil))
theorem p_law (h : sb_law K vs b k ke) (hE : ∀ c b' H', ke c b' → Ex b' H' → E c none H') : Cs (t_law K E) { nx := fun _ b' => k .non b', rt := k } (start ["script", "k", "more", "world", "unit", "bads", "bad", "course", "at"] vs) b := by
  obtain ⟨F, tb, cw, cr, cc, a, ns, rfl, hS, hl, hk⟩ := h
  refine s_seq (s_range1 (v_rounds rfl hS) (by omega) (fun i σ' b' => Tabs (TL K) b' ∧ SqL K b' a (ns.map V.int) ∧ ∃ v1 v2 v3 v4 v5 v6 v7 v8 : Option V, σ' = [some (.ref a), v1, v2, v3, v4, v5, v6, v7, v8])
    ⟨tb, hS, _, _, _, _, _, _, _, _, rfl⟩ ?_ (fun σ' b' _ => s_retV v_c (hk b')))
  clear hS tb
  rintro i σ' b' hi ⟨tb, hS, v1, v2, v3, v4, v5, v6, v7, v8, rfl⟩
  refine g_name ?_
  refine q_asgV (v_call (a_cons (v_call (a_cons (v_var rfl) (a_cons (v_var rfl) a_nil)) (s__law_cell hS hl (by omega))) (a_cons (v_var rfl) a_nil)) s__law_drawn) ?_
  generalize hmo : drawnZ (cellZ ns i) i = more
  -- the world
  refine q_asgC (c_worldC (W := W81) cw w81_good (ca_cons (Pn.c (n_lst (vs := [.str "....", .str "....", .str "####"]) (a_cons v_c (a_cons v_c (a_cons v_c a_nil))) (by show 3 ≤ 100000; decide)) fun ra hra => ca_cons (Pn.c (n_lst (vs := []) a_nil (by show 0 ≤ 100000; decide)) fun la hla => ca_nil ⟨ra, la, rfl, ex_l (Ex.new hla) (sq_of upd_same), ⟨[], sq_of upd_same, rfl, fun i p L z _ => by cases z⟩, fun wa b1 e1 hx hW => ?_⟩))))
  have e1' := ((Ex.new (o := .lst [.str "....", .str "....", .str "####"]) hra).trans (Ex.new (o := .lst []) hla)).trans e1
  -- the unit
  refine q_asgN (n_tup (vs := [.int (more % 400), .int (more / 512 % 400)]) (a_cons (v_op (v_var rfl) v_c (r_mod (by decide))) (a_cons (v_op (v_op (v_var rfl) v_c (r_fdiv ⟨by decide, by decide⟩)) v_c (r_mod (by decide))) a_nil)) (by show 2 ≤ 100000; decide)) (fun up hup => ?_)
  have x0 : 0 ≤ more % 400 := Int.emod_nonneg _ (by decide)
  have x1 : more % 400 < 400 := Int.emod_lt_of_pos _ (by decide)
  have y0 : 0 ≤ more / 512 % 400 := Int.emod_nonneg _ (by decide)
  have y1 : more / 512 % 400 < 400 := Int.emod_lt_of_pos _ (by decide)
  have e2 := e1'.trans (Ex.new (o := .tup [.int (more % 400), .int (more / 512 % 400)]) hup)
  have R1 : R81 K a ns wa up (more % 400, more / 512 % 400) _ := ⟨tb.ext e2, ex_l e2 hS, hW.ex (Ex.new hup), st_of upd_same⟩
  have hu : unitD (dU (more % 400, more / 512 % 400)) = true := by
    show (cntD (-400) 400 (.int (more % 400)) && cntD (-400) 400 (.int (more / 512 % 400))) = true
    have c1 : cntD (-400) 400 (.int (more % 400)) = true := by
      show (decide (-400 ≤ more % 400) && decide (more % 400 ≤ 400)) = true
      rw [decide_eq_true (by omega), decide_eq_true (by omega)]; rfl
    have c2 : cntD (-400) 400 (.int (more / 512 % 400)) = true := by
      show (decide (-400 ≤ more / 512 % 400) && decide (more / 512 % 400 ≤ 400)) = true
      rw [decide_eq_true (by omega), decide_eq_true (by omega)]; rfl
    rw [c1, c2]; rfl
  generalize (upd b1 up (HO.tup [.int (more % 400), .int (more / 512 % 400)])) = b2 at R1 ⊢
  generalize (more % 400, more / 512 % 400) = u at R1 hu
  clear e1' e1 e2 hup hra hla hx hW tb hS x0 x1 y0 y1
  -- bads
  have uD : ∀ {σ2 : L2.St} {b3 : Hp}, σ2[4]? = some (some (.ref up)) → Ex b2 b3 → Ce (tVar 4) σ2 b3 (KD K b3 (dU u)) := fun h4 e3 => cd_var h4 (R1.ex e3).dp
  refine q_asgC (Ce.mono (cl_lst2 (K := K) (ds := bads81 u) (cda_cons cd_non fun b3 e3 => cda_cons (by walk_at "d") fun b4 e4 => cda_cons (cd_tup (cda_cons (uD rfl (e3.trans e4)) fun _ _ => cda_nil) (by show 1 ≤ 100000; decide)) fun b5 e5 => cda_cons (cd_lst (cda_cons (uD rfl ((e3.trans e4).trans e5)) fun b6 e6 => cda_cons (uD rfl (((e3.trans e4).trans e5).trans e6)) fun _ _ => cda_nil) (by show 2 ≤ 100000; decide)) fun _ _ => (by walk_at "d")) (by show 10 ≤ 100000; decide)) fun v b4 ⟨la, xs, b3, ev, e3, hn, eb4, hd⟩ => ?_)
  subst ev eb4
  have R2 := R1.ex (e3.trans (Ex.new (o := .lst xs) hn))
  have hd2 := dpa_ex (Ex.new (o := .lst xs) hn) hd
  have hla : upd b3 la (.lst xs) la = some (.lst xs) := upd_same
  have hxl : xs.length = 10 := dpa_len hd
  generalize (upd b3 la (.lst xs)) = b4 at R2 hd2 hla ⊢
  clear uD R1 e3 hn hd
  -- courses of bad things
  refine s_seq (s_listC (K := K) (Pre := fun ap xp b5 => R81 K a ns wa up u b5 ∧ DpAll K b5 xp (bads81 u ++ more81)) (c_op (Pe.c (v_var rfl) (Ce.mono (cl_lst2 (K := K) (ds := more81) (cda_cons (by walk_at "d") fun _ _ => cda_cons (by walk_at "d") fun _ _ => cda_cons (cd_lcR (K := K) (n := 21) (fun i => .tuple [.int (i : Int), .int 0]) (a_cons v_c a_nil) ⟨by decide, by decide⟩ (fun x => rfl) (fun i => rfl) (fun i b1 _ _ => cd_tup (cda_cons (cd_var rfl (.int _)) fun _ _ => cda_cons cd_int fun _ _ => cda_nil) (by show 2 ≤ 100000; decide))) fun _ _ => cda_nil) (by show 3 ≤ 100000; decide)) fun w b6 ⟨p2, ys, b5, ew, e5, hn5, eb6, hd5⟩ => ?_))) (fun ap xp j σ' b' => R81 K a ns wa up u b' ∧ SqL K b' ap xp ∧ DpAll K b' xp (bads81 u ++ more81) ∧ ∃ v6 : Option V, σ' = [some (.ref a), some (.int (i : Int)), some (.int more), some (.ref wa), some (.ref up), some (.ref la), v6, v7, v8]) (fun ap xp b5 h1 ⟨h2, h3⟩ => ⟨h2, h1, h3, _, rfl⟩) (fun ap xp j σ' b' h => h.2.1) ?_ ?_)
  · subst ew eb6
    have e6 := e5.trans (Ex.new (o := .lst ys) hn5)
    refine cr_cat (e6 _ _ hla) upd_same (by rw [hxl, dpa_len hd5]; decide) fun p hp => ⟨p, xs ++ ys, rfl, sq_of upd_same, R2.ex (e6.trans (Ex.new hp)), dpa_app (dpa_ex (e6.trans (Ex.new hp)) hd2) (dpa_ex ((Ex.new hn5).trans (Ex.new hp)) hd5)⟩
  · rintro ap xp j x σ' b' hx ⟨R3, h1, h2, v6, rfl⟩
    obtain ⟨d, e1, hd⟩ := dpa_get2 h2 hx
    obtain ⟨q1, q2⟩ := bads81_bad hu e1
    refine g_name (s_ifF (ct_told R3.tb F 6 (by decide) (by decide +kernel) (by decide +kernel) (fun b1 s1 E2 hE2 => c_courseC (W := W81) (l := 8) (t := 0) (ke := fun c b2 => c = Value.ref (He.ga K "BadCourse") ∧ Ex b1 b2) hE2 cc cr (Pa.c (a_cons (v_var rfl) (a_cons v_c (a_cons v_c (a_cons (v_var rfl) (a_cons (v_var rfl) a_nil))))) ⟨wa, x, .ref up, d, dU u, rfl, (R3.st s1).w, place8, s1.dp hd, (R3.st s1).dp, q2, rfl, .inl ⟨q1, fun b9 e9 => ⟨rfl, e9⟩⟩⟩)) fun b9 s9 => ⟨R3.st s9, s9.ls h1, s9.dpa h2, _, rfl⟩))
  rintro ap xp σ' b5 ⟨R3, -, -, v6, rfl⟩
  clear R2 hd2 hla
  -- bad goals
  refine s_seq (s_listD2 (K := K) (ds := goals81) (cl_lst2 (by walk_at "d") (by decide)) (fun ap xp j σ' b' => R81 K a ns wa up u b' ∧ SqL K b' ap xp ∧ DpAll K b' xp goals81 ∧ ∃ v6 : Option V, σ' = [some (.ref a), some (.int (i : Int)), some (.int more), some (.ref wa), some (.ref up), some (.ref la), v6, v7, v8]) (fun ap xp b6 e6 hap hdp => ⟨R3.ex (e6.trans (Ex.new hap)), sq_of upd_same, dpa_ex (Ex.new hap) hdp, _, rfl⟩) (fun ap xp j σ' b' h => h.2.1) ?_ ?_)
  · rintro ap xp j x d σ' b' hx hd ⟨R3, h1, h2, v6, rfl⟩
    obtain ⟨d', e1, hdx⟩ := dpa_get2 h2 hx
    obtain ⟨q1, q2⟩ := goals81_bad e1
    refine g_name (s_ifF (ct_told R3.tb F 6 (by decide) (by decide +kernel) (by decide +kernel) (fun b1 s1 E2 hE2 => c_courseC (W := W81) (l := 8) (t := 0) (ke := fun c b2 => c = Value.ref (He.ga K "BadCourse") ∧ Ex b1 b2) hE2 cc cr (ca_consP (v_var rfl) (ca_consP v_c (ca_consP v_c (ca_cons (Pn.c (n_lst (vs := []) a_nil (by show 0 ≤ 100000; decide)) fun q hq => ca_consP (v_var rfl) (ca_nil ⟨wa, .ref q, x, .list ([].map dU), d', rfl, ((R3.st s1).ex (Ex.new hq)).w, place8, .lst (sq_of upd_same) .nil, dp_ex (Ex.new hq) (s1.dp hdx), rfl, q2, .inl ⟨.goal [] (by decide) rfl .nil q1, fun b9 e9 => ⟨rfl, (Ex.new hq).trans e9⟩⟩⟩))))))) fun b9 s9 => ⟨R3.st s9, s9.ls h1, s9.dpa h2, _, rfl⟩))
  rintro ap xp σ' b6 ⟨R3, -, -, v6, rfl⟩
  -- the course
  refine q_asgC (c_courseC (W := W81) (l := 8) (t := 0) (ke := fun _ _ => False) (fun _ _ _ f => f.elim) cc cr (ca_consP (v_var rfl) (ca_consP v_c (ca_consP v_c (ca_cons (Ce.mono (cd_lcR (K := K) (n := 20) (fun i => dU (-400 + (i : Int), 400)) (a_cons v_c a_nil) ⟨by decide, by decide⟩ (fun x => rfl) (fun i => rfl) (fun i b1 _ _ => cd_tup (cda_cons (cd_pe (v_op (v_un v_c u_neg) (v_var rfl) r_add) (.int _)) fun _ _ => cda_cons cd_int fun _ _ => cda_nil) (by show 2 ≤ 100000; decide))) fun tv b7 ⟨e7, d7⟩ => ca_cons (Ce.mono (show Ce _ _ b7 (KD K b7 (dU (400, -400))) from cd_tup (cda_cons cd_int fun _ _ => cda_cons cd_neg fun _ _ => cda_nil) (by show 2 ≤ 100000; decide)) fun gv b8 ⟨e8, d8⟩ => ca_nil ?_)))))))
  have e68 := e7.trans e8
  refine ⟨wa, tv, gv, .list (us81.map dU), dU (400, -400), rfl, (R3.ex e68).w, place8, by rw [List.map_map]; exact dp_ex e8 d7, d8, by decide +kernel, rfl, .inr ⟨us81, (400, -400), rfl, by decide +kernel, by decide +kernel, by decide +kernel, rfl, by decide +kernel, by decide +kernel, by decide +kernel, fun b0 c b9 e0 hC _ ew' eW el et eu eg es er eo => ?_⟩⟩
  have S1 : S81 K a ns c b9 := ⟨b0, hC, ex_l (e68.trans e0) R3.sc, R3.tb.ext (e68.trans e0)⟩
  clear hC e0 e68 e7 e8 d7 d8 R3
  -- nothing yet
  have er0 : ((c.rows.length : Nat) : Int) = 0 := by rw [er]; rfl
  have lu : c.us.length = 20 := by rw [eu]; decide +kernel
  obtain ⟨b0, hC, -, -⟩ := id S1.q
  refine q_ifF (ct_orF (ct_test (c_op (c_meth0 (v_var rfl) hC.ic (cfl_none _ _ _ _ _ _ _ (by decide +kernel)) (ca_nil ⟨b0, c, rfl, hC, fun p hp => ?_⟩)))))
  rw [lu]
  have rr : rgV 0 20 = ((List.range 20).map fun (i : Nat) => (i : Int)).map V.int := by rfl
  refine Pn.c (n_lstRg (n := 20) v_c (RgOk.of_le (by decide) (by decide) (by decide) (by decide))) fun q hq => Pr.c (r_neD (dp_ints (l := (List.range 20).map fun (i : Nat) => (i : Int)) (ex_l (Ex.new hq) (sq_of (by rw [List.map_map]; exact upd_same)))) (dp_ints (l := (List.range 20).map fun (i : Nat) => (i : Int)) (sq_of (by rw [← rr]; exact upd_same))) (by decide +kernel) (by decide +kernel)) ⟨_, rfl, by decide +kernel, ?_⟩
  have S2 := S1.of ((Ex.new (o := .lst ((List.range 20).map fun i => V.int (i : Nat))) hp).trans (Ex.new (o := .lst (rgV 0 20)) hq))
  generalize (upd (upd b9 p (.lst ((List.range 20).map fun i => V.int (i : Nat)))) q (.lst (rgV 0 20))) = b10 at S2 ⊢
  clear hC hp hq S1
  obtain ⟨b0, hC, -, -⟩ := id S2.q
  refine ct_orF (ct_test (c_op (c_meth0 (v_var rfl) hC.ic (cfl_none _ _ _ _ _ _ _ (by decide +kernel)) (ca_nil ⟨b0, c, rfl, hC, Pe.c v_c (Pr.c r_notN ⟨_, rfl, rfl, ?_⟩)⟩))))
  refine ct_test (c_op (c_meth0 (v_var rfl) hC.ic (cfl_none _ _ _ _ _ _ _ (by decide +kernel)) (ca_nil ⟨b0, c, rfl, hC, by rw [er]; decide, (by rw [er]; intro w hw; cases hw), Pe.c v_c (Pr.c r_neT ⟨_, rfl, by rw [er]; decide +kernel, ?_⟩)⟩)))
  clear hC
  -- back, refused
  refine s_seq (s_listD2 (K := K) (ds := back1) (cl_lst2 (by walk_at "d") (by decide)) (fun ap xp j σ' b' => S81 K a ns c b' ∧ SqL K b' ap xp ∧ DpAll K b' xp back1 ∧ ∃ v6 : Option V, σ' = [some (.ref a), some (.int (i : Int)), some (.int more), some (.ref wa), some (.ref up), some (.ref la), v6, some (.ref c.ca), v8]) (fun ap xp b6 e6 hap hdp => ⟨S2.of (e6.trans (Ex.new hap)), sq_of upd_same, dpa_ex (Ex.new hap) hdp, _, rfl⟩) (fun ap xp j σ' b' h => h.2.1) ?_ ?_)
  · rintro ap xp j x d σ' b' hx hd ⟨S3, h1, h2, v6, rfl⟩
    obtain ⟨d', e1, hdx⟩ := dpa_get2 h2 hx
    refine g_name (s_ifF (ct_told S3.tb F 7 (by decide) (by decide +kernel) (by decide +kernel) (fun b1 s1 E2 hE2 => ?_) fun b9 s9 => ⟨S3.st s9, s9.ls h1, s9.dpa h2, _, rfl⟩))
    obtain ⟨b0, hC, -, -⟩ := id (S3.st s1).q
    refine c_methC (ke := fun c b2 => c = Value.ref (He.ga K "Nothing") ∧ Ex b1 b2) hE2 (Pe.c (v_var rfl) ⟨c.ca, c.cd, _, rfl, hC.ic, cfl_none _ _ _ _ _ _ _ (by decide +kernel), ca_consP (v_var rfl) (ca_nil ⟨b0, c, x, false, rfl, hC, ?_, fun _ => ⟨rfl, Ex.refl _⟩, fun z => by cases z⟩)⟩)
    rw [er0]
    have z := cnt_dp (lo := 1) (hi := 0) (s1.dp hdx)
    rw [back1_bad e1] at z
    exact z
  rintro ap xp σ' b11 ⟨S3, -, -, v6, rfl⟩
  -- a tick
  obtain ⟨b0, hC, h1, h2⟩ := id S3.q
  refine q_drop (c_meth0 (v_var rfl) hC.ic (cfl_none _ _ _ _ _ _ _ (by decide +kernel)) (ca_consP v_c (ca_nil ⟨b0, c, .str "r", true, rfl, hC, (show keysOk "r" = true by decide +kernel) ▸ .str "r" (by decide +kernel), (fun z => by cases z), fun _ => ⟨by rw [er]; decide, fun w ew => ⟨?_, fun p b0' gb' b12 e0 hC2 hp => ?_⟩⟩⟩)))
  · cases ew
    exact nocov81 eu eg eW (ticks_good c.W "r" 1 c.s hC.fr)
  cases ew
  have C2 : ∃ c2 : C8, S81 K a ns c2 b12 ∧ c2.ca = c.ca ∧ c2.wa = wa ∧ c2.W = W81 ∧ c2.l = 8 ∧ c2.t = 0 ∧ c2.us = us81 ∧ c2.g = (400, -400) ∧ c2.rows = [("r" : Str)] ∧ c2.gone = [] := ⟨_, ⟨b0', hC2, ex_l e0 h1, h2.ext e0⟩, rfl, ew', eW, el, et, eu, eg, by show c.rows ++ [("r" : Str)] = _; rw [er]; rfl, rfl⟩
  clear hC2 hp e0 hC h1 h2 S3 S2
  obtain ⟨c2, S4, eca, ew2, eW2, el2, et2, eu2, eg2, er2, eo2⟩ := C2
  rw [← eca]
  clear eca eW el et eu eg er eo er0 lu es ew'
  have er1 : ((c2.rows.length : Nat) : Int) = 1 := by rw [er2]; rfl
  -- back, refused again
  refine s_seq (s_listD2 (K := K) (ds := back2) (cl_lst2 (by walk_at "d") (by decide)) (fun ap xp j σ' b' => S81 K a ns c2 b' ∧ SqL K b' ap xp ∧ DpAll K b' xp back2 ∧ ∃ v6 : Option V, σ' = [some (.ref a), some (.int (i : Int)), some (.int more), some (.ref wa), some (.ref up), some (.ref la), v6, some (.ref c2.ca), v8]) (fun ap xp b6 e6 hap hdp => ⟨S4.of (e6.trans (Ex.new hap)), sq_of upd_same, dpa_ex (Ex.new hap) hdp, _, rfl⟩) (fun ap xp j σ' b' h => h.2.1) ?_ ?_)
  · rintro ap xp j x d σ' b' hx hd ⟨S3, h1, h2, v6, rfl⟩
    obtain ⟨d', e1, hdx⟩ := dpa_get2 h2 hx
    refine g_name (s_ifF (ct_orF (ct_told S3.tb F 7 (by decide) (by decide +kernel) (by decide +kernel) (fun b1 s1 E2 hE2 => ?_) fun b9 s9 => ?_)))
    · obtain ⟨b0, hC, -, -⟩ := id (S3.st s1).q
      refine c_methC (ke := fun c b2 => c = Value.ref (He.ga K "Nothing") ∧ Ex b1 b2) hE2 (Pe.c (v_var rfl) ⟨c2.ca, c2.cd, _, rfl, hC.ic, cfl_none _ _ _ _ _ _ _ (by decide +kernel), ca_consP (v_var rfl) (ca_nil ⟨b0, c2, x, false, rfl, hC, ?_, fun _ => ⟨rfl, Ex.refl _⟩, fun z => by cases z⟩)⟩)
      rw [er1]
      have z := cnt_dp (lo := 1) (hi := 1) (s1.dp hdx)
      rw [back2_bad e1] at z
      exact z
    · obtain ⟨b0, hC, -, -⟩ := id (S3.st s9).q
      exact ct_test (c_op (c_meth0 (v_var rfl) hC.ic (cfl_none _ _ _ _ _ _ _ (by decide +kernel)) (ca_nil ⟨b0, c2, rfl, hC, Pe.c v_c (Pr.c r_neI ⟨_, rfl, by rw [er1]; rfl, S3.st s9, s9.ls h1, s9.dpa h2, _, rfl⟩)⟩)))
  rintro ap xp σ' b13 ⟨S5, -, -, v6, rfl⟩
  clear S4
  -- back
  obtain ⟨b0, hC, h1, h2⟩ := id S5.q
  have hf8 : freeM c2.W.rows c2.W.w c2.l c2.t = true := by rw [eW2, el2, et2]; decide +kernel
  refine q_drop (c_meth0 (v_var rfl) hC.ic (cfl_none _ _ _ _ _ _ _ (by decide +kernel)) (ca_consP v_c (ca_nil ⟨b0, c2, .int 1, true, rfl, hC, ?_, (fun z => by cases z), fun _ => ⟨by rw [er1], nocov81 eu2 eg2 eW2 ⟨⟨⟨show (-3 : Int) ≤ 0 by decide, show (0 : Int) ≤ 3 by decide⟩, ⟨show (-6 : Int) ≤ 0 by decide, show (0 : Int) ≤ 6 by decide⟩⟩, hf8⟩, by rw [er2]; decide, by rw [eo2]; decide, by rw [el2]; decide, by rw [et2]; decide, hf8, fun b0' ra' rd' rw' gb' gd' b14 e0 hC2 => ?_⟩⟩)))
  · rw [er1]
    have z : CountIs K b13 1 1 (.int 1) _ := .int 1
    exact z
  have C3 : ∃ c3 : C8, S81 K a ns c3 b14 ∧ c3.ca = c2.ca ∧ c3.wa = wa ∧ c3.W = W81 ∧ c3.us = us81 ∧ c3.g = (400, -400) ∧ c3.rows = [] := ⟨_, ⟨b0', hC2, ex_l e0 h1, h2.ext e0⟩, rfl, ew2, eW2, eu2, eg2, rfl⟩
  clear hC2 e0 hC h1 h2 S5 hf8
  obtain ⟨c3, S6, eca, ew3, eW3, eu3, eg3, er3⟩ := C3
  rw [← eca]
  clear eca eW2 el2 et2 eu2 eg2 er2 eo2 er1 ew2
  -- good keys, and what trails refuse
  refine q_ifF (ct_orF (ct_test (c_op (c_toldOk S6.tb fun b1 s1 E2 => ?_))))
  obtain ⟨b0, hC, h1, h2⟩ := id (S6.st s1).q
  refine c_meth0 (v_var rfl) hC.ic (cfl_none _ _ _ _ _ _ _ (by decide +kernel)) (ca_consP v_c (ca_nil ⟨b0, c3, .str "lr", true, rfl, hC, (show keysOk "lr" = true by decide +kernel) ▸ .str "lr" (by decide +kernel), (fun z => by cases z), fun _ => ⟨by rw [er3]; decide, fun w ew => ⟨?_, fun p b0' gb' b15 e0 hC2 hp => ?_⟩⟩⟩))
  · cases ew
    exact nocov81 eu3 eg3 eW3 (ticks_good c3.W "lr" 1 c3.s hC.fr)
  cases ew
  refine Ce.mono (show Ce _ _ b15 (KD K b15 (dRef "BadKeys")) from cd_tup (cda_cons cd_str fun _ _ => cda_cons cd_str fun _ _ => cda_nil) (by show 2 ≤ 100000; decide)) fun w b16 ⟨e16, d16⟩ => Pr.c (r_eqD (dp_nil (sq_of (e16 _ _ hp))) d16 (by decide +kernel) (by decide +kernel)) ⟨_, rfl, by decide +kernel, ?_⟩
  have C4 : ∃ c4 : C8, S81 K a ns c4 b16 ∧ c4.ca = c3.ca ∧ c4.wa = wa ∧ c4.W = W81 ∧ ((c4.rows.length : Nat) : Int) = 1 ∧ c4.gone = [] := ⟨_, ⟨b0', hC2.of e16, ex_l e0 h1, h2.ext e0⟩, rfl, ew3, eW3, by show (((c3.rows ++ [_]).length : Nat) : Int) = 1; rw [er3]; rfl, rfl⟩
  clear hC2 hp e0 hC h1 h2 e16 d16 s1 S6
  obtain ⟨c4, S7, eca, ew4, eW4, er4, eo4⟩ := C4
  rw [← eca]
  refine ct_not (ct_B (c_call0 (Pa.c (a_cons (v_var rfl) a_nil) ⟨F, S7.tb, cr, cc, wa, rfl, by rw [← ew4, ← eW4]; exact S7.w, fun b17 s17 => ⟨true, rfl, rfl, ?_⟩⟩)))
  have S8 := S7.st s17
  -- nothing to go again
  refine s_ifF (ct_orF (ct_told S8.tb F 7 (by decide) (by decide +kernel) (by decide +kernel) (fun b1 s1 E2 hE2 => ?_) fun b9 s9 => ?_))
  · obtain ⟨b0, hC, -, -⟩ := id (S8.st s1).q
    exact c_methC (ke := fun c b2 => c = Value.ref (He.ga K "Nothing") ∧ Ex b1 b2) hE2 (Pe.c (v_var rfl) ⟨c4.ca, c4.cd, _, rfl, hC.ic, cfl_none _ _ _ _ _ _ _ (by decide +kernel), ca_nil ⟨b0, c4, rfl, hC, eo4, rfl, Ex.refl _⟩⟩)
  · obtain ⟨b0, hC, -, -⟩ := id (S8.st s9).q
    exact ct_test (c_op (c_meth0 (v_var rfl) hC.ic (cfl_none _ _ _ _ _ _ _ (by decide +kernel)) (ca_nil ⟨b0, c4, rfl, hC, Pe.c v_c (Pr.c r_neI ⟨_, rfl, by rw [er4]; rfl, (S8.st s9).tb, (S8.st s9).sc, _, _, _, _, _, _, _, _, rfl⟩)⟩)))
end

end Fr
namespace Fr
open PySem PySem.Spec PyProof.Rows L2 B
open Evl (Ex ex_l ex_t ex_rd sq_of st_of sz_of sz_lt fresh_back)
def top (i : Nat) : Stmt := PySem.Challenge.pw_floorrun_k81_courses_refused.main.body.getD i (.Pass ⟨0, 0, 0, 0⟩)
abbrev sx_is_count : Stmt := top 15
abbrev sx_need_map : Stmt := top 16
abbrev sx_size : Stmt := top 17
abbrev sx_tile : Stmt := top 18
abbrev sx_solid : Stmt := top 19
abbrev sx_is_ledge : Stmt := top 20
abbrev sx_is_lift : Stmt := top 23
abbrev sx_need_lift : Stmt := top 24
abbrev sx_way_gone : Stmt := top 25
abbrev sx_place : Stmt := top 26
abbrev sx_need_keys : Stmt := top 32
abbrev sx_Runner___init__ : Stmt := inClass (top 33) 0
abbrev sx_Runner_at : Stmt := inClass (top 33) 1
abbrev sx_Runner_pace : Stmt := inClass (top 33) 2
abbrev sx_Runner_clock : Stmt := inClass (top 33) 3
abbrev sx_Runner_stands : Stmt := inClass (top 33) 4
abbrev sx_Runner_is_standing : Stmt := inClass (top 33) 5
abbrev sx_Runner_tick : Stmt := inClass (top 33) 6
abbrev sx_Runner_be_carried : Stmt := inClass (top 33) 7
abbrev sx_Runner_speed_up : Stmt := inClass (top 33) 8
abbrev sx_Runner_leap : Stmt := inClass (top 33) 9
abbrev sx_Runner_go_across : Stmt := inClass (top 33) 10
abbrev sx_Runner_step_across : Stmt := inClass (top 33) 11
abbrev sx_Runner_step_down : Stmt := inClass (top 33) 12
abbrev sx_Runner_go_down : Stmt := inClass (top 33) 13
abbrev sx_written : Stmt := top 35
abbrev sx_World___init__ : Stmt := inClass (top 40) 0
abbrev sx_World_is_free : Stmt := inClass (top 40) 1
abbrev sx_World_under : Stmt := inClass (top 40) 2
abbrev sx_World_is_on_ledge : Stmt := inClass (top 40) 3
abbrev sx_World_is_on_floor : Stmt := inClass (top 40) 4
abbrev sx_World_need_place : Stmt := inClass (top 40) 5
abbrev sx_is_unit : Stmt := top 43
abbrev sx_Course___init__ : Stmt := inClass (top 44) 0
abbrev sx_Course_covers : Stmt := inClass (top 44) 1
abbrev sx_Course_look : Stmt := inClass (top 44) 2
abbrev sx_Course_tick : Stmt := inClass (top 44) 3
abbrev sx_Course_go : Stmt := inClass (top 44) 4
abbrev sx_Course_back : Stmt := inClass (top 44) 5
abbrev sx_Course_again : Stmt := inClass (top 44) 6
abbrev sx_Course_at : Stmt := inClass (top 44) 7
abbrev sx_Course_clock : Stmt := inClass (top 44) 8
abbrev sx_Course_taken : Stmt := inClass (top 44) 9
abbrev sx_Course_left_over : Stmt := inClass (top 44) 10
abbrev sx_Course_done : Stmt := inClass (top 44) 11
abbrev sx_Course_tape : Stmt := inClass (top 44) 12
abbrev sx_steps : Stmt := top 46
abbrev sx_landings : Stmt := top 47
abbrev sx_flights : Stmt := top 48
abbrev sx_reach : Stmt := top 49
abbrev sx_apart : Stmt := top 50
abbrev sx__law_cell : Stmt := top 52
abbrev sx__law_drawn : Stmt := top 53
abbrev sx__law_word : Stmt := top 54
abbrev sx__law_told : Stmt := top 55
abbrev sx__law_trails_bad : Stmt := top 56
abbrev sx_law : Stmt := top 57
def d_is_count : He.DefD := ⟨("is_count", none), "is_count", "is_count", defArgs sx_is_count, defBody sx_is_count, defScope sx_is_count, [], []⟩
def d_need_map : He.DefD := ⟨("need_map", none), "need_map", "need_map", defArgs sx_need_map, defBody sx_need_map, defScope sx_need_map, [], []⟩
def d_size : He.DefD := ⟨("size", none), "size", "size", defArgs sx_size, defBody sx_size, defScope sx_size, [], []⟩
def d_tile : He.DefD := ⟨("tile", none), "tile", "tile", defArgs sx_tile, defBody sx_tile, defScope sx_tile, [], []⟩
def d_solid : He.DefD := ⟨("solid", none), "solid", "solid", defArgs sx_solid, defBody sx_solid, defScope sx_solid, [], []⟩
def d_is_ledge : He.DefD := ⟨("is_ledge", none), "is_ledge", "is_ledge", defArgs sx_is_ledge, defBody sx_is_ledge, defScope sx_is_ledge, [], []⟩
def d_is_lift : He.DefD := ⟨("is_lift", none), "is_lift", "is_lift", defArgs sx_is_lift, defBody sx_is_lift, defScope sx_is_lift, [], []⟩
def d_need_lift : He.DefD := ⟨("need_lift", none), "need_lift", "need_lift", defArgs sx_need_lift, defBody sx_need_lift, defScope sx_need_lift, [], []⟩
def d_way_gone : He.DefD := ⟨("way_gone", none), "way_gone", "way_gone", defArgs sx_way_gone, defBody sx_way_gone, defScope sx_way_gone, [], []⟩
def d_place : He.DefD := ⟨("place", none), "place", "place", defArgs sx_place, defBody sx_place, defScope sx_place, [], []⟩
def d_need_keys : He.DefD := ⟨("need_keys", none), "need_keys", "need_keys", defArgs sx_need_keys, defBody sx_need_keys, defScope sx_need_keys, [], []⟩
def d_Runner___init__ : He.DefD := ⟨("Runner", some "__init__"), "__init__", "Runner.__init__", defArgs sx_Runner___init__, defBody sx_Runner___init__, defScope sx_Runner___init__, [], []⟩
def d_Runner_at : He.DefD := ⟨("Runner", some "at"), "at", "Runner.at", defArgs sx_Runner_at, defBody sx_Runner_at, defScope sx_Runner_at, [], []⟩
def d_Runner_pace : He.DefD := ⟨("Runner", some "pace"), "pace", "Runner.pace", defArgs sx_Runner_pace, defBody sx_Runner_pace, defScope sx_Runner_pace, [], []⟩
def d_Runner_clock : He.DefD := ⟨("Runner", some "clock"), "clock", "Runner.clock", defArgs sx_Runner_clock, defBody sx_Runner_clock, defScope sx_Runner_clock, [], []⟩
def d_Runner_stands : He.DefD := ⟨("Runner", some "stands"), "stands", "Runner.stands", defArgs sx_Runner_stands, defBody sx_Runner_stands, defScope sx_Runner_stands, [], []⟩
def d_Runner_is_standing : He.DefD := ⟨("Runner", some "is_standing"), "is_standing", "Runner.is_standing", defArgs sx_Runner_is_standing, defBody sx_Runner_is_standing, defScope sx_Runner_is_standing, [], []⟩
def d_Runner_tick : He.DefD := ⟨("Runner", some "tick"), "tick", "Runner.tick", defArgs sx_Runner_tick, defBody sx_Runner_tick, defScope sx_Runner_tick, [], []⟩
def d_Runner_be_carried : He.DefD := ⟨("Runner", some "be_carried"), "be_carried", "Runner.be_carried", defArgs sx_Runner_be_carried, defBody sx_Runner_be_carried, defScope sx_Runner_be_carried, [], []⟩
def d_Runner_speed_up : He.DefD := ⟨("Runner", some "speed_up"), "speed_up", "Runner.speed_up", defArgs sx_Runner_speed_up, defBody sx_Runner_speed_up, defScope sx_Runner_speed_up, [], []⟩
def d_Runner_leap : He.DefD := ⟨("Runner", some "leap"), "leap", "Runner.leap", defArgs sx_Runner_leap, defBody sx_Runner_leap, defScope sx_Runner_leap, [], []⟩
def d_Runner_go_across : He.DefD := ⟨("Runner", some "go_across"), "go_across", "Runner.go_across", defArgs sx_Runner_go_across, defBody sx_Runner_go_across, defScope sx_Runner_go_across, [], []⟩
def d_Runner_step_across : He.DefD := ⟨("Runner", some "step_across"), "step_across", "Runner.step_across", defArgs sx_Runner_step_across, defBody sx_Runner_step_across, defScope sx_Runner_step_across, [], []⟩
def d_Runner_step_down : He.DefD := ⟨("Runner", some "step_down"), "step_down", "Runner.step_down", defArgs sx_Runner_step_down, defBody sx_Runner_step_down, defScope sx_Runner_step_down, [], []⟩
def d_Runner_go_down : He.DefD := ⟨("Runner", some "go_down"), "go_down", "Runner.go_down", defArgs sx_Runner_go_down, defBody sx_Runner_go_down, defScope sx_Runner_go_down, [], []⟩
def d_written : He.DefD := ⟨("written", none), "written", "written", defArgs sx_written, defBody sx_written, defScope sx_written, [], []⟩
def d_World___init__ : He.DefD := ⟨("World", some "__init__"), "__init__", "World.__init__", defArgs sx_World___init__, defBody sx_World___init__, defScope sx_World___init__, [], []⟩
def d_World_is_free : He.DefD := ⟨("World", some "is_free"), "is_free", "World.is_free", defArgs sx_World_is_free, defBody sx_World_is_free, defScope sx_World_is_free, [], []⟩
def d_World_under : He.DefD := ⟨("World", some "under"), "under", "World.under", defArgs sx_World_under, defBody sx_World_under, defScope sx_World_under, [], []⟩
def d_World_is_on_ledge : He.DefD := ⟨("World", some "is_on_ledge"), "is_on_ledge", "World.is_on_ledge", defArgs sx_World_is_on_ledge, defBody sx_World_is_on_ledge, defScope sx_World_is_on_ledge, [], []⟩
def d_World_is_on_floor : He.DefD := ⟨("World", some "is_on_floor"), "is_on_floor", "World.is_on_floor", defArgs sx_World_is_on_floor, defBody sx_World_is_on_floor, defScope sx_World_is_on_floor, [], []⟩
def d_World_need_place : He.DefD := ⟨("World", some "need_place"), "need_place", "World.need_place", defArgs sx_World_need_place, defBody sx_World_need_place, defScope sx_World_need_place, [], []⟩
def d_is_unit : He.DefD := ⟨("is_unit", none), "is_unit", "is_unit", defArgs sx_is_unit, defBody sx_is_unit, defScope sx_is_unit, [], []⟩
def d_Course___init__ : He.DefD := ⟨("Course", some "__init__"), "__init__", "Course.__init__", defArgs sx_Course___init__, defBody sx_Course___init__, defScope sx_Course___init__, [], []⟩
def d_Course_covers : He.DefD := ⟨("Course", some "covers"), "covers", "Course.covers", defArgs sx_Course_covers, defBody sx_Course_covers, defScope sx_Course_covers, [], []⟩
def d_Course_look : He.DefD := ⟨("Course", some "look"), "look", "Course.look", defArgs sx_Course_look, defBody sx_Course_look, defScope sx_Course_look, [], []⟩
def d_Course_tick : He.DefD := ⟨("Course", some "tick"), "tick", "Course.tick", defArgs sx_Course_tick, defBody sx_Course_tick, defScope sx_Course_tick, [], []⟩
def d_Course_go : He.DefD := ⟨("Course", some "go"), "go", "Course.go", defArgs sx_Course_go, defBody sx_Course_go, defScope sx_Course_go, [], []⟩
def d_Course_back : He.DefD := ⟨("Course", some "back"), "back", "Course.back", defArgs sx_Course_back, defBody sx_Course_back, defScope sx_Course_back, [], []⟩
def d_Course_again : He.DefD := ⟨("Course", some "again"), "again", "Course.again", defArgs sx_Course_again, defBody sx_Course_again, defScope sx_Course_again, [], []⟩
def d_Course_at : He.DefD := ⟨("Course", some "at"), "at", "Course.at", defArgs sx_Course_at, defBody sx_Course_at, defScope sx_Course_at, [], []⟩
def d_Course_clock : He.DefD := ⟨("Course", some "clock"), "clock", "Course.clock", defArgs sx_Course_clock, defBody sx_Course_clock, defScope sx_Course_clock, [], []⟩
def d_Course_taken : He.DefD := ⟨("Course", some "taken"), "taken", "Course.taken", defArgs sx_Course_taken, defBody sx_Course_taken, defScope sx_Course_taken, [], []⟩
def d_Course_left_over : He.DefD := ⟨("Course", some "left_over"), "left_over", "Course.left_over", defArgs sx_Course_left_over, defBody sx_Course_left_over, defScope sx_Course_left_over, [], []⟩
def d_Course_done : He.DefD := ⟨("Course", some "done"), "done", "Course.done", defArgs sx_Course_done, defBody sx_Course_done, defScope sx_Course_done, [], []⟩
def d_Course_tape : He.DefD := ⟨("Course", some "tape"), "tape", "Course.tape", defArgs sx_Course_tape, defBody sx_Course_tape, defScope sx_Course_tape, [], []⟩
def d_steps : He.DefD := ⟨("steps", none), "steps", "steps", defArgs sx_steps, defBody sx_steps, defScope sx_steps, [], []⟩
def d_landings : He.DefD := ⟨("landings", none), "landings", "landings", defArgs sx_landings, defBody sx_landings, defScope sx_landings, [], []⟩
def d_flights : He.DefD := ⟨("flights", none), "flights", "flights", defArgs sx_flights, defBody sx_flights, defScope sx_flights, [], []⟩
def d_reach : He.DefD := ⟨("reach", none), "reach", "reach", defArgs sx_reach, defBody sx_reach, defScope sx_reach, [], []⟩
def d_apart : He.DefD := ⟨("apart", none), "apart", "apart", defArgs sx_apart, defBody sx_apart, defScope sx_apart, [], []⟩
def d__law_cell : He.DefD := ⟨("_law_cell", none), "_law_cell", "_law_cell", defArgs sx__law_cell, defBody sx__law_cell, defScope sx__law_cell, [], []⟩
def d__law_drawn : He.DefD := ⟨("_law_drawn", none), "_law_drawn", "_law_drawn", defArgs sx__law_drawn, defBody sx__law_drawn, defScope sx__law_drawn, [], []⟩
def d__law_word : He.DefD := ⟨("_law_word", none), "_law_word", "_law_word", defArgs sx__law_word, defBody sx__law_word, defScope sx__law_word, [], []⟩
def d__law_told : He.DefD := ⟨("_law_told", none), "_law_told", "_law_told", defArgs sx__law_told, defBody sx__law_told, defScope sx__law_told, [], []⟩
def d__law_trails_bad : He.DefD := ⟨("_law_trails_bad", none), "_law_trails_bad", "_law_trails_bad", defArgs sx__law_trails_bad, defBody sx__law_trails_bad, defScope sx__law_trails_bad, [], []⟩
def d_law : He.DefD := ⟨("law", none), "law", "law", defArgs sx_law, defBody sx_law, defScope sx_law, [], []⟩
def fn : List He.DefD := [d_is_count, d_need_map, d_size, d_tile, d_solid, d_is_ledge, d_is_lift, d_need_lift, d_way_gone, d_place, d_need_keys, d_Runner___init__, d_Runner_at, d_Runner_pace, d_Runner_clock, d_Runner_stands, d_Runner_is_standing, d_Runner_tick, d_Runner_be_carried, d_Runner_speed_up, d_Runner_leap, d_Runner_go_across, d_Runner_step_across, d_Runner_step_down, d_Runner_go_down, d_written, d_World___init__, d_World_is_free, d_World_under, d_World_is_on_ledge, d_World_is_on_floor, d_World_need_place, d_is_unit, d_Course___init__, d_Course_covers, d_Course_look, d_Course_tick, d_Course_go, d_Course_back, d_Course_again, d_Course_at, d_Course_clock, d_Course_taken, d_Course_left_over, d_Course_done, d_Course_tape, d_steps, d_landings, d_flights, d_reach, d_apart, d__law_cell, d__law_drawn, d__law_word, d__law_told, d__law_trails_bad, d_law]
def fa : List He.Fa := [.glo "is_count", .glo "need_map", .glo "size", .glo "tile", .glo "solid", .glo "is_ledge", .glo "is_lift", .glo "need_lift", .glo "way_gone", .glo "place", .glo "need_keys", .glo "written", .glo "is_unit", .glo "steps", .glo "landings", .glo "flights", .glo "reach", .glo "apart", .glo "_law_cell", .glo "_law_drawn", .glo "_law_word", .glo "_law_told", .glo "_law_trails_bad", .glo "law", .glo "RunError", .glo "BadMap", .glo "BadLift", .glo "BadPlace", .glo "BadKeys", .glo "BadTime", .glo "BadText", .glo "BadCourse", .glo "Nothing", .glo "Runner", .glo "World", .glo "Course", .free "ValueError", .free "abs", .free "all", .free "any", .free "bool", .free "enumerate", .free "int", .free "isinstance", .free "len", .free "list", .free "max", .free "min", .free "range", .free "set", .free "sorted", .free "str", .free "sum", .free "tuple", .int "SIDE" 8, .int "MOST_WIDE" 30, .int "MOST_HIGH" 20, .str "SIGNS" "#.<>=", .int "MOST_lifts" 400, .str "KEYS" "ljrd", .int "FASTEST" 3, .int "FALLING" 6, .int "JUMP" 6, .int "WIDE" 6, .int "HIGH" 10, .int "MOST_worlds" 400, .int "MOST_THINGS" 20, .cls "Runner", .mkr "Runner", .noat "Runner" "world", .noat "Runner" "time", .noat "Runner" "left", .noat "Runner" "top", .noat "Runner" "across", .noat "Runner" "down", .noat "Runner" "was_jumping", .meth "Runner" "at", .meth "Runner" "pace", .meth "Runner" "clock", .meth "Runner" "stands", .meth "Runner" "is_standing", .meth "Runner" "tick", .meth "Runner" "be_carried", .meth "Runner" "speed_up", .meth "Runner" "leap", .meth "Runner" "go_across", .meth "Runner" "step_across", .meth "Runner" "step_down", .meth "Runner" "go_down", .cls "World", .mkr "World", .noat "World" "rows", .noat "World" "lifts", .meth "World" "is_free", .meth "World" "under", .meth "World" "is_on_ledge", .meth "World" "is_on_floor", .meth "World" "need_place", .cls "Course", .mkr "Course", .noat "Course" "runner", .noat "Course" "begun", .noat "Course" "things", .noat "Course" "goal", .noat "Course" "rows", .noat "Course" "gone_back", .noat "Course" "got", .noat "Course" "reached", .meth "Course" "covers", .meth "Course" "look", .meth "Course" "tick", .meth "Course" "go", .meth "Course" "back", .meth "Course" "again", .meth "Course" "at", .meth "Course" "clock", .meth "Course" "taken", .meth "Course" "left_over", .meth "Course" "done", .meth "Course" "tape", .exc "RunError", .exc "BadMap", .exc "BadLift", .exc "BadPlace", .exc "BadKeys", .exc "BadTime", .exc "BadText", .exc "BadCourse", .exc "Nothing"]
abbrev R : PySem.W.OpenRow := PySem.W.OpenLaw.row PySem.Challenge.rw_floorrun_k81_courses_refused
def tf : List He.Defn := [("_law_trails_bad", none), ("law", none)]
abbrev hk : PySem.W.Hook := He.hookX 5 fa fn [] tf exB
def ob (s : PySem.W.SharedT) : He.AlX := He.obsX 5 fa fn [] tf exB (HandSHeadRun.getT s)
theorem ob_eq (s : PySem.W.SharedT) : ob s = hk.obs s.abs := He.obsX_eq (HandSHeadRun.getT_eq s)
def loose : List PySem.Str := (["RunError", "BadMap", "BadLift", "BadPlace", "BadKeys", "BadTime", "BadText", "BadCourse", "Nothing", "SIDE", "MOST_WIDE", "MOST_HIGH", "SIGNS", "is_count", "need_map", "size", "tile", "solid", "is_ledge", "MOST_lifts", "is_lift", "need_lift", "way_gone", "place", "KEYS", "FASTEST", "FALLING", "JUMP", "need_keys", "Runner"] : List PySem.Str) ++ (["written", "WIDE", "HIGH", "MOST_worlds", "World", "MOST_THINGS", "is_unit", "Course", "steps", "landings", "flights", "reach", "apart", "_law_cell", "_law_drawn", "_law_word", "_law_told", "_law_trails_bad"] : List PySem.Str)
theorem run (w : World) : HandSHeadRun.RunEq R (PySem.W.view R.prog [57]) hk ob 12000 loose w := by
  intro os
  kernel_rfl
structure Tx (K : PySem.W.Frag) (mg : Str → Option Value) : Prop where
  d_is_count : ∃ fd, FunD K "is_count" "is_count" (defArgs sx_is_count) (defBody sx_is_count) (defScope sx_is_count) [] [] (He.fAd K ("is_count", none)) fd
  d_need_map : ∃ fd, FunD K "need_map" "need_map" (defArgs sx_need_map) (defBody sx_need_map) (defScope sx_need_map) [] [] (He.fAd K ("need_map", none)) fd
  d_size : ∃ fd, FunD K "size" "size" (defArgs sx_size) (defBody sx_size) (defScope sx_size) [] [] (He.fAd K ("size", none)) fd
  d_tile : ∃ fd, FunD K "tile" "tile" (defArgs sx_tile) (defBody sx_tile) (defScope sx_tile) [] [] (He.fAd K ("tile", none)) fd
  d_solid : ∃ fd, FunD K "solid" "solid" (defArgs sx_solid) (defBody sx_solid) (defScope sx_solid) [] [] (He.fAd K ("solid", none)) fd
  d_is_ledge : ∃ fd, FunD K "is_ledge" "is_ledge" (defArgs sx_is_ledge) (defBody sx_is_ledge) (defScope sx_is_ledge) [] [] (He.fAd K ("is_ledge", none)) fd
  d_is_lift : ∃ fd, FunD K "is_lift" "is_lift" (defArgs sx_is_lift) (defBody sx_is_lift) (defScope sx_is_lift) [] [] (He.fAd K ("is_lift", none)) fd
  d_need_lift : ∃ fd, FunD K "need_lift" "need_lift" (defArgs sx_need_lift) (defBody sx_need_lift) (defScope sx_need_lift) [] [] (He.fAd K ("need_lift", none)) fd
  d_way_gone : ∃ fd, FunD K "way_gone" "way_gone" (defArgs sx_way_gone) (defBody sx_way_gone) (defScope sx_way_gone) [] [] (He.fAd K ("way_gone", none)) fd
  d_place : ∃ fd, FunD K "place" "place" (defArgs sx_place) (defBody sx_place) (defScope sx_place) [] [] (He.fAd K ("place", none)) fd
  d_need_keys : ∃ fd, FunD K "need_keys" "need_keys" (defArgs sx_need_keys) (defBody sx_need_keys) (defScope sx_need_keys) [] [] (He.fAd K ("need_keys", none)) fd
  d_Runner___init__ : ∃ fd, FunD K "__init__" "Runner.__init__" (defArgs sx_Runner___init__) (defBody sx_Runner___init__) (defScope sx_Runner___init__) [] [] (He.fAd K ("Runner", some "__init__")) fd
  d_Runner_at : ∃ fd, FunD K "at" "Runner.at" (defArgs sx_Runner_at) (defBody sx_Runner_at) (defScope sx_Runner_at) [] [] (He.fAd K ("Runner", some "at")) fd
  d_Runner_pace : ∃ fd, FunD K "pace" "Runner.pace" (defArgs sx_Runner_pace) (defBody sx_Runner_pace) (defScope sx_Runner_pace) [] [] (He.fAd K ("Runner", some "pace")) fd
  d_Runner_clock : ∃ fd, FunD K "clock" "Runner.clock" (defArgs sx_Runner_clock) (defBody sx_Runner_clock) (defScope sx_Runner_clock) [] [] (He.fAd K ("Runner", some "clock")) fd
  d_Runner_stands : ∃ fd, FunD K "stands" "Runner.stands" (defArgs sx_Runner_stands) (defBody sx_Runner_stands) (defScope sx_Runner_stands) [] [] (He.fAd K ("Runner", some "stands")) fd
  d_Runner_is_standing : ∃ fd, FunD K "is_standing" "Runner.is_standing" (defArgs sx_Runner_is_standing) (defBody sx_Runner_is_standing) (defScope sx_Runner_is_standing) [] [] (He.fAd K ("Runner", some "is_standing")) fd
  d_Runner_tick : ∃ fd, FunD K "tick" "Runner.tick" (defArgs sx_Runner_tick) (defBody sx_Runner_tick) (defScope sx_Runner_tick) [] [] (He.fAd K ("Runner", some "tick")) fd
  d_Runner_be_carried : ∃ fd, FunD K "be_carried" "Runner.be_carried" (defArgs sx_Runner_be_carried) (defBody sx_Runner_be_carried) (defScope sx_Runner_be_carried) [] [] (He.fAd K ("Runner", some "be_carried")) fd
  d_Runner_speed_up : ∃ fd, FunD K "speed_up" "Runner.speed_up" (defArgs sx_Runner_speed_up) (defBody sx_Runner_speed_up) (defScope sx_Runner_speed_up) [] [] (He.fAd K ("Runner", some "speed_up")) fd
  d_Runner_leap : ∃ fd, FunD K "leap" "Runner.leap" (defArgs sx_Runner_leap) (defBody sx_Runner_leap) (defScope sx_Runner_leap) [] [] (He.fAd K ("Runner", some "leap")) fd
  d_Runner_go_across : ∃ fd, FunD K "go_across" "Runner.go_across" (defArgs sx_Runner_go_across) (defBody sx_Runner_go_across) (defScope sx_Runner_go_across) [] [] (He.fAd K ("Runner", some "go_across")) fd
  d_Runner_step_across : ∃ fd, FunD K "step_across" "Runner.step_across" (defArgs sx_Runner_step_across) (defBody sx_Runner_step_across) (defScope sx_Runner_step_across) [] [] (He.fAd K ("Runner", some "step_across")) fd
  d_Runner_step_down : ∃ fd, FunD K "step_down" "Runner.step_down" (defArgs sx_Runner_step_down) (defBody sx_Runner_step_down) (defScope sx_Runner_step_down) [] [] (He.fAd K ("Runner", some "step_down")) fd
  d_Runner_go_down : ∃ fd, FunD K "go_down" "Runner.go_down" (defArgs sx_Runner_go_down) (defBody sx_Runner_go_down) (defScope sx_Runner_go_down) [] [] (He.fAd K ("Runner", some "go_down")) fd
  d_written : ∃ fd, FunD K "written" "written" (defArgs sx_written) (defBody sx_written) (defScope sx_written) [] [] (He.fAd K ("written", none)) fd
  d_World___init__ : ∃ fd, FunD K "__init__" "World.__init__" (defArgs sx_World___init__) (defBody sx_World___init__) (defScope sx_World___init__) [] [] (He.fAd K ("World", some "__init__")) fd
  d_World_is_free : ∃ fd, FunD K "is_free" "World.is_free" (defArgs sx_World_is_free) (defBody sx_World_is_free) (defScope sx_World_is_free) [] [] (He.fAd K ("World", some "is_free")) fd
  d_World_under : ∃ fd, FunD K "under" "World.under" (defArgs sx_World_under) (defBody sx_World_under) (defScope sx_World_under) [] [] (He.fAd K ("World", some "under")) fd
  d_World_is_on_ledge : ∃ fd, FunD K "is_on_ledge" "World.is_on_ledge" (defArgs sx_World_is_on_ledge) (defBody sx_World_is_on_ledge) (defScope sx_World_is_on_ledge) [] [] (He.fAd K ("World", some "is_on_ledge")) fd
  d_World_is_on_floor : ∃ fd, FunD K "is_on_floor" "World.is_on_floor" (defArgs sx_World_is_on_floor) (defBody sx_World_is_on_floor) (defScope sx_World_is_on_floor) [] [] (He.fAd K ("World", some "is_on_floor")) fd
  d_World_need_place : ∃ fd, FunD K "need_place" "World.need_place" (defArgs sx_World_need_place) (defBody sx_World_need_place) (defScope sx_World_need_place) [] [] (He.fAd K ("World", some "need_place")) fd
  d_is_unit : ∃ fd, FunD K "is_unit" "is_unit" (defArgs sx_is_unit) (defBody sx_is_unit) (defScope sx_is_unit) [] [] (He.fAd K ("is_unit", none)) fd
  d_Course___init__ : ∃ fd, FunD K "__init__" "Course.__init__" (defArgs sx_Course___init__) (defBody sx_Course___init__) (defScope sx_Course___init__) [] [] (He.fAd K ("Course", some "__init__")) fd
  d_Course_covers : ∃ fd, FunD K "covers" "Course.covers" (defArgs sx_Course_covers) (defBody sx_Course_covers) (defScope sx_Course_covers) [] [] (He.fAd K ("Course", some "covers")) fd
  d_Course_look : ∃ fd, FunD K "look" "Course.look" (defArgs sx_Course_look) (defBody sx_Course_look) (defScope sx_Course_look) [] [] (He.fAd K ("Course", some "look")) fd
  d_Course_tick : ∃ fd, FunD K "tick" "Course.tick" (defArgs sx_Course_tick) (defBody sx_Course_tick) (defScope sx_Course_tick) [] [] (He.fAd K ("Course", some "tick")) fd
  d_Course_go : ∃ fd, FunD K "go" "Course.go" (defArgs sx_Course_go) (defBody sx_Course_go) (defScope sx_Course_go) [] [] (He.fAd K ("Course", some "go")) fd
  d_Course_back : ∃ fd, FunD K "back" "Course.back" (defArgs sx_Course_back) (defBody sx_Course_back) (defScope sx_Course_back) [] [] (He.fAd K ("Course", some "back")) fd
  d_Course_again : ∃ fd, FunD K "again" "Course.again" (defArgs sx_Course_again) (defBody sx_Course_again) (defScope sx_Course_again) [] [] (He.fAd K ("Course", some "again")) fd
  d_Course_at : ∃ fd, FunD K "at" "Course.at" (defArgs sx_Course_at) (defBody sx_Course_at) (defScope sx_Course_at) [] [] (He.fAd K ("Course", some "at")) fd
  d_Course_clock : ∃ fd, FunD K "clock" "Course.clock" (defArgs sx_Course_clock) (defBody sx_Course_clock) (defScope sx_Course_clock) [] [] (He.fAd K ("Course", some "clock")) fd
  d_Course_taken : ∃ fd, FunD K "taken" "Course.taken" (defArgs sx_Course_taken) (defBody sx_Course_taken) (defScope sx_Course_taken) [] [] (He.fAd K ("Course", some "taken")) fd
  d_Course_left_over : ∃ fd, FunD K "left_over" "Course.left_over" (defArgs sx_Course_left_over) (defBody sx_Course_left_over) (defScope sx_Course_left_over) [] [] (He.fAd K ("Course", some "left_over")) fd
  d_Course_done : ∃ fd, FunD K "done" "Course.done" (defArgs sx_Course_done) (defBody sx_Course_done) (defScope sx_Course_done) [] [] (He.fAd K ("Course", some "done")) fd
  d_Course_tape : ∃ fd, FunD K "tape" "Course.tape" (defArgs sx_Course_tape) (defBody sx_Course_tape) (defScope sx_Course_tape) [] [] (He.fAd K ("Course", some "tape")) fd
  d_steps : ∃ fd, FunD K "steps" "steps" (defArgs sx_steps) (defBody sx_steps) (defScope sx_steps) [] [] (He.fAd K ("steps", none)) fd
  d_landings : ∃ fd, FunD K "landings" "landings" (defArgs sx_landings) (defBody sx_landings) (defScope sx_landings) [] [] (He.fAd K ("landings", none)) fd
  d_flights : ∃ fd, FunD K "flights" "flights" (defArgs sx_flights) (defBody sx_flights) (defScope sx_flights) [] [] (He.fAd K ("flights", none)) fd
  d_reach : ∃ fd, FunD K "reach" "reach" (defArgs sx_reach) (defBody sx_reach) (defScope sx_reach) [] [] (He.fAd K ("reach", none)) fd
  d_apart : ∃ fd, FunD K "apart" "apart" (defArgs sx_apart) (defBody sx_apart) (defScope sx_apart) [] [] (He.fAd K ("apart", none)) fd
  d__law_cell : ∃ fd, FunD K "_law_cell" "_law_cell" (defArgs sx__law_cell) (defBody sx__law_cell) (defScope sx__law_cell) [] [] (He.fAd K ("_law_cell", none)) fd
  d__law_drawn : ∃ fd, FunD K "_law_drawn" "_law_drawn" (defArgs sx__law_drawn) (defBody sx__law_drawn) (defScope sx__law_drawn) [] [] (He.fAd K ("_law_drawn", none)) fd
  d__law_word : ∃ fd, FunD K "_law_word" "_law_word" (defArgs sx__law_word) (defBody sx__law_word) (defScope sx__law_word) [] [] (He.fAd K ("_law_word", none)) fd
  d__law_told : ∃ fd, FunD K "_law_told" "_law_told" (defArgs sx__law_told) (defBody sx__law_told) (defScope sx__law_told) [] [] (He.fAd K ("_law_told", none)) fd
  d__law_trails_bad : ∃ fd, FunD K "_law_trails_bad" "_law_trails_bad" (defArgs sx__law_trails_bad) (defBody sx__law_trails_bad) (defScope sx__law_trails_bad) [] [] (He.fAd K ("_law_trails_bad", none)) fd
  d_law : ∃ fd, FunD K "law" "law" (defArgs sx_law) (defBody sx_law) (defScope sx_law) [] [] (He.fAd K ("law", none)) fd
  g_is_count : mg "is_count" = some (.ref (He.ga K "is_count"))
  g_need_map : mg "need_map" = some (.ref (He.ga K "need_map"))
  g_size : mg "size" = some (.ref (He.ga K "size"))
  g_tile : mg "tile" = some (.ref (He.ga K "tile"))
  g_solid : mg "solid" = some (.ref (He.ga K "solid"))
  g_is_ledge : mg "is_ledge" = some (.ref (He.ga K "is_ledge"))
  g_is_lift : mg "is_lift" = some (.ref (He.ga K "is_lift"))
  g_need_lift : mg "need_lift" = some (.ref (He.ga K "need_lift"))
  g_way_gone : mg "way_gone" = some (.ref (He.ga K "way_gone"))
  g_place : mg "place" = some (.ref (He.ga K "place"))
  g_need_keys : mg "need_keys" = some (.ref (He.ga K "need_keys"))
  g_written : mg "written" = some (.ref (He.ga K "written"))
  g_is_unit : mg "is_unit" = some (.ref (He.ga K "is_unit"))
  g_steps : mg "steps" = some (.ref (He.ga K "steps"))
  g_landings : mg "landings" = some (.ref (He.ga K "landings"))
  g_flights : mg "flights" = some (.ref (He.ga K "flights"))
  g_reach : mg "reach" = some (.ref (He.ga K "reach"))
  g_apart : mg "apart" = some (.ref (He.ga K "apart"))
  g__law_cell : mg "_law_cell" = some (.ref (He.ga K "_law_cell"))
  g__law_drawn : mg "_law_drawn" = some (.ref (He.ga K "_law_drawn"))
  g__law_word : mg "_law_word" = some (.ref (He.ga K "_law_word"))
  g__law_told : mg "_law_told" = some (.ref (He.ga K "_law_told"))
  g__law_trails_bad : mg "_law_trails_bad" = some (.ref (He.ga K "_law_trails_bad"))
  g_law : mg "law" = some (.ref (He.ga K "law"))
  g_RunError : mg "RunError" = some (.ref (He.ga K "RunError"))
  g_BadMap : mg "BadMap" = some (.ref (He.ga K "BadMap"))
  g_BadLift : mg "BadLift" = some (.ref (He.ga K "BadLift"))
  g_BadPlace : mg "BadPlace" = some (.ref (He.ga K "BadPlace"))
  g_BadKeys : mg "BadKeys" = some (.ref (He.ga K "BadKeys"))
  g_BadTime : mg "BadTime" = some (.ref (He.ga K "BadTime"))
  g_BadText : mg "BadText" = some (.ref (He.ga K "BadText"))
  g_BadCourse : mg "BadCourse" = some (.ref (He.ga K "BadCourse"))
  g_Nothing : mg "Nothing" = some (.ref (He.ga K "Nothing"))
  g_Runner : mg "Runner" = some (.ref (He.ga K "Runner"))
  g_World : mg "World" = some (.ref (He.ga K "World"))
  g_Course : mg "Course" = some (.ref (He.ga K "Course"))
  b_ValueError : mg "ValueError" = none
  b_abs : mg "abs" = none
  b_all : mg "all" = none
  b_any : mg "any" = none
  b_bool : mg "bool" = none
  b_enumerate : mg "enumerate" = none
  b_int : mg "int" = none
  b_isinstance : mg "isinstance" = none
  b_len : mg "len" = none
  b_list : mg "list" = none
  b_max : mg "max" = none
  b_min : mg "min" = none
  b_range : mg "range" = none
  b_set : mg "set" = none
  b_sorted : mg "sorted" = none
  b_str : mg "str" = none
  b_sum : mg "sum" = none
  b_tuple : mg "tuple" = none
  c_SIDE : ∃ t, mg "SIDE" = some (.int 8 t)
  c_MOST_WIDE : ∃ t, mg "MOST_WIDE" = some (.int 30 t)
  c_MOST_HIGH : ∃ t, mg "MOST_HIGH" = some (.int 20 t)
  c_SIGNS : ∃ t, mg "SIGNS" = some (.str "#.<>=" t)
  c_MOST_lifts : ∃ t, mg "MOST_lifts" = some (.int 400 t)
  c_KEYS : ∃ t, mg "KEYS" = some (.str "ljrd" t)
  c_FASTEST : ∃ t, mg "FASTEST" = some (.int 3 t)
  c_FALLING : ∃ t, mg "FALLING" = some (.int 6 t)
  c_JUMP : ∃ t, mg "JUMP" = some (.int 6 t)
  c_WIDE : ∃ t, mg "WIDE" = some (.int 6 t)
  c_HIGH : ∃ t, mg "HIGH" = some (.int 10 t)
  c_MOST_worlds : ∃ t, mg "MOST_worlds" = some (.int 400 t)
  c_MOST_THINGS : ∃ t, mg "MOST_THINGS" = some (.int 20 t)
  cl_Runner : Cls K (He.ga K "Runner")
  mk_Runner : Mk K (He.ga K "Runner") (He.ma K (He.ga K "Runner") "__init__")
  na_Runner_world : NoAttr K (He.ga K "Runner") "world"
  na_Runner_time : NoAttr K (He.ga K "Runner") "time"
  na_Runner_left : NoAttr K (He.ga K "Runner") "left"
  na_Runner_top : NoAttr K (He.ga K "Runner") "top"
  na_Runner_across : NoAttr K (He.ga K "Runner") "across"
  na_Runner_down : NoAttr K (He.ga K "Runner") "down"
  na_Runner_was_jumping : NoAttr K (He.ga K "Runner") "was_jumping"
  me_Runner_at : Meth K (He.ga K "Runner") "at" (He.ma K (He.ga K "Runner") "at")
  me_Runner_pace : Meth K (He.ga K "Runner") "pace" (He.ma K (He.ga K "Runner") "pace")
  me_Runner_clock : Meth K (He.ga K "Runner") "clock" (He.ma K (He.ga K "Runner") "clock")
  me_Runner_stands : Meth K (He.ga K "Runner") "stands" (He.ma K (He.ga K "Runner") "stands")
  me_Runner_is_standing : Meth K (He.ga K "Runner") "is_standing" (He.ma K (He.ga K "Runner") "is_standing")
  me_Runner_tick : Meth K (He.ga K "Runner") "tick" (He.ma K (He.ga K "Runner") "tick")
  me_Runner_be_carried : Meth K (He.ga K "Runner") "be_carried" (He.ma K (He.ga K "Runner") "be_carried")
  me_Runner_speed_up : Meth K (He.ga K "Runner") "speed_up" (He.ma K (He.ga K "Runner") "speed_up")
  me_Runner_leap : Meth K (He.ga K "Runner") "leap" (He.ma K (He.ga K "Runner") "leap")
  me_Runner_go_across : Meth K (He.ga K "Runner") "go_across" (He.ma K (He.ga K "Runner") "go_across")
  me_Runner_step_across : Meth K (He.ga K "Runner") "step_across" (He.ma K (He.ga K "Runner") "step_across")
  me_Runner_step_down : Meth K (He.ga K "Runner") "step_down" (He.ma K (He.ga K "Runner") "step_down")
  me_Runner_go_down : Meth K (He.ga K "Runner") "go_down" (He.ma K (He.ga K "Runner") "go_down")
  cl_World : Cls K (He.ga K "World")
  mk_World : Mk K (He.ga K "World") (He.ma K (He.ga K "World") "__init__")
  na_World_rows : NoAttr K (He.ga K "World") "rows"
  na_World_lifts : NoAttr K (He.ga K "World") "lifts"
  me_World_is_free : Meth K (He.ga K "World") "is_free" (He.ma K (He.ga K "World") "is_free")
  me_World_under : Meth K (He.ga K "World") "under" (He.ma K (He.ga K "World") "under")
  me_World_is_on_ledge : Meth K (He.ga K "World") "is_on_ledge" (He.ma K (He.ga K "World") "is_on_ledge")
  me_World_is_on_floor : Meth K (He.ga K "World") "is_on_floor" (He.ma K (He.ga K "World") "is_on_floor")
  me_World_need_place : Meth K (He.ga K "World") "need_place" (He.ma K (He.ga K "World") "need_place")
  cl_Course : Cls K (He.ga K "Course")
  mk_Course : Mk K (He.ga K "Course") (He.ma K (He.ga K "Course") "__init__")
  na_Course_runner : NoAttr K (He.ga K "Course") "runner"
  na_Course_begun : NoAttr K (He.ga K "Course") "begun"
  na_Course_things : NoAttr K (He.ga K "Course") "things"
  na_Course_goal : NoAttr K (He.ga K "Course") "goal"
  na_Course_rows : NoAttr K (He.ga K "Course") "rows"
  na_Course_gone_back : NoAttr K (He.ga K "Course") "gone_back"
  na_Course_got : NoAttr K (He.ga K "Course") "got"
  na_Course_reached : NoAttr K (He.ga K "Course") "reached"
  me_Course_covers : Meth K (He.ga K "Course") "covers" (He.ma K (He.ga K "Course") "covers")
  me_Course_look : Meth K (He.ga K "Course") "look" (He.ma K (He.ga K "Course") "look")
  me_Course_tick : Meth K (He.ga K "Course") "tick" (He.ma K (He.ga K "Course") "tick")
  me_Course_go : Meth K (He.ga K "Course") "go" (He.ma K (He.ga K "Course") "go")
  me_Course_back : Meth K (He.ga K "Course") "back" (He.ma K (He.ga K "Course") "back")
  me_Course_again : Meth K (He.ga K "Course") "again" (He.ma K (He.ga K "Course") "again")
  me_Course_at : Meth K (He.ga K "Course") "at" (He.ma K (He.ga K "Course") "at")
  me_Course_clock : Meth K (He.ga K "Course") "clock" (He.ma K (He.ga K "Course") "clock")
  me_Course_taken : Meth K (He.ga K "Course") "taken" (He.ma K (He.ga K "Course") "taken")
  me_Course_left_over : Meth K (He.ga K "Course") "left_over" (He.ma K (He.ga K "Course") "left_over")
  me_Course_done : Meth K (He.ga K "Course") "done" (He.ma K (He.ga K "Course") "done")
  me_Course_tape : Meth K (He.ga K "Course") "tape" (He.ma K (He.ga K "Course") "tape")
  ex_RunError : (He.Fa.exc "RunError").ok K = true
  ex_BadMap : (He.Fa.exc "BadMap").ok K = true
  ex_BadLift : (He.Fa.exc "BadLift").ok K = true
  ex_BadPlace : (He.Fa.exc "BadPlace").ok K = true
  ex_BadKeys : (He.Fa.exc "BadKeys").ok K = true
  ex_BadTime : (He.Fa.exc "BadTime").ok K = true
  ex_BadText : (He.Fa.exc "BadText").ok K = true
  ex_BadCourse : (He.Fa.exc "BadCourse").ok K = true
  ex_Nothing : (He.Fa.exc "Nothing").ok K = true
theorem tx_mk {K : PySem.W.Frag} {h : Heap} {mg : Str → Option Value} (X : K.In h) (G : h.Ns mainGlobals mg) (c : He.SaysD fa fn K) : Tx K mg :=
  { d_is_count := c.def_ 0 (d := d_is_count) rfl,
    d_need_map := c.def_ 1 (d := d_need_map) rfl,
    d_size := c.def_ 2 (d := d_size) rfl,
    d_tile := c.def_ 3 (d := d_tile) rfl,
    d_solid := c.def_ 4 (d := d_solid) rfl,
    d_is_ledge := c.def_ 5 (d := d_is_ledge) rfl,
    d_is_lift := c.def_ 6 (d := d_is_lift) rfl,
    d_need_lift := c.def_ 7 (d := d_need_lift) rfl,
    d_way_gone := c.def_ 8 (d := d_way_gone) rfl,
    d_place := c.def_ 9 (d := d_place) rfl,
    d_need_keys := c.def_ 10 (d := d_need_keys) rfl,
    d_Runner___init__ := c.def_ 11 (d := d_Runner___init__) rfl,
    d_Runner_at := c.def_ 12 (d := d_Runner_at) rfl,
    d_Runner_pace := c.def_ 13 (d := d_Runner_pace) rfl,
    d_Runner_clock := c.def_ 14 (d := d_Runner_clock) rfl,
    d_Runner_stands := c.def_ 15 (d := d_Runner_stands) rfl,
    d_Runner_is_standing := c.def_ 16 (d := d_Runner_is_standing) rfl,
    d_Runner_tick := c.def_ 17 (d := d_Runner_tick) rfl,
    d_Runner_be_carried := c.def_ 18 (d := d_Runner_be_carried) rfl,
    d_Runner_speed_up := c.def_ 19 (d := d_Runner_speed_up) rfl,
    d_Runner_leap := c.def_ 20 (d := d_Runner_leap) rfl,
    d_Runner_go_across := c.def_ 21 (d := d_Runner_go_across) rfl,
    d_Runner_step_across := c.def_ 22 (d := d_Runner_step_across) rfl,
    d_Runner_step_down := c.def_ 23 (d := d_Runner_step_down) rfl,
    d_Runner_go_down := c.def_ 24 (d := d_Runner_go_down) rfl,
    d_written := c.def_ 25 (d := d_written) rfl,
    d_World___init__ := c.def_ 26 (d := d_World___init__) rfl,
    d_World_is_free := c.def_ 27 (d := d_World_is_free) rfl,
    d_World_under := c.def_ 28 (d := d_World_under) rfl,
    d_World_is_on_ledge := c.def_ 29 (d := d_World_is_on_ledge) rfl,
    d_World_is_on_floor := c.def_ 30 (d := d_World_is_on_floor) rfl,
    d_World_need_place := c.def_ 31 (d := d_World_need_place) rfl,
    d_is_unit := c.def_ 32 (d := d_is_unit) rfl,
    d_Course___init__ := c.def_ 33 (d := d_Course___init__) rfl,
    d_Course_covers := c.def_ 34 (d := d_Course_covers) rfl,
    d_Course_look := c.def_ 35 (d := d_Course_look) rfl,
    d_Course_tick := c.def_ 36 (d := d_Course_tick) rfl,
    d_Course_go := c.def_ 37 (d := d_Course_go) rfl,
    d_Course_back := c.def_ 38 (d := d_Course_back) rfl,
    d_Course_again := c.def_ 39 (d := d_Course_again) rfl,
    d_Course_at := c.def_ 40 (d := d_Course_at) rfl,
    d_Course_clock := c.def_ 41 (d := d_Course_clock) rfl,
    d_Course_taken := c.def_ 42 (d := d_Course_taken) rfl,
    d_Course_left_over := c.def_ 43 (d := d_Course_left_over) rfl,
    d_Course_done := c.def_ 44 (d := d_Course_done) rfl,
    d_Course_tape := c.def_ 45 (d := d_Course_tape) rfl,
    d_steps := c.def_ 46 (d := d_steps) rfl,
    d_landings := c.def_ 47 (d := d_landings) rfl,
    d_flights := c.def_ 48 (d := d_flights) rfl,
    d_reach := c.def_ 49 (d := d_reach) rfl,
    d_apart := c.def_ 50 (d := d_apart) rfl,
    d__law_cell := c.def_ 51 (d := d__law_cell) rfl,
    d__law_drawn := c.def_ 52 (d := d__law_drawn) rfl,
    d__law_word := c.def_ 53 (d := d__law_word) rfl,
    d__law_told := c.def_ 54 (d := d__law_told) rfl,
    d__law_trails_bad := c.def_ 55 (d := d__law_trails_bad) rfl,
    d_law := c.def_ 56 (d := d_law) rfl,
    g_is_count := He.glo_ok X G (c.fact 0 (f := .glo "is_count") rfl),
    g_need_map := He.glo_ok X G (c.fact 1 (f := .glo "need_map") rfl),
    g_size := He.glo_ok X G (c.fact 2 (f := .glo "size") rfl),
    g_tile := He.glo_ok X G (c.fact 3 (f := .glo "tile") rfl),
    g_solid := He.glo_ok X G (c.fact 4 (f := .glo "solid") rfl),
    g_is_ledge := He.glo_ok X G (c.fact 5 (f := .glo "is_ledge") rfl),
    g_is_lift := He.glo_ok X G (c.fact 6 (f := .glo "is_lift") rfl),
    g_need_lift := He.glo_ok X G (c.fact 7 (f := .glo "need_lift") rfl),
    g_way_gone := He.glo_ok X G (c.fact 8 (f := .glo "way_gone") rfl),
    g_place := He.glo_ok X G (c.fact 9 (f := .glo "place") rfl),
    g_need_keys := He.glo_ok X G (c.fact 10 (f := .glo "need_keys") rfl),
    g_written := He.glo_ok X G (c.fact 11 (f := .glo "written") rfl),
    g_is_unit := He.glo_ok X G (c.fact 12 (f := .glo "is_unit") rfl),
    g_steps := He.glo_ok X G (c.fact 13 (f := .glo "steps") rfl),
    g_landings := He.glo_ok X G (c.fact 14 (f := .glo "landings") rfl),
    g_flights := He.glo_ok X G (c.fact 15 (f := .glo "flights") rfl),
    g_reach := He.glo_ok X G (c.fact 16 (f := .glo "reach") rfl),
    g_apart := He.glo_ok X G (c.fact 17 (f := .glo "apart") rfl),
    g__law_cell := He.glo_ok X G (c.fact 18 (f := .glo "_law_cell") rfl),
    g__law_drawn := He.glo_ok X G (c.fact 19 (f := .glo "_law_drawn") rfl),
    g__law_word := He.glo_ok X G (c.fact 20 (f := .glo "_law_word") rfl),
    g__law_told := He.glo_ok X G (c.fact 21 (f := .glo "_law_told") rfl),
    g__law_trails_bad := He.glo_ok X G (c.fact 22 (f := .glo "_law_trails_bad") rfl),
    g_law := He.glo_ok X G (c.fact 23 (f := .glo "law") rfl),
    g_RunError := He.glo_ok X G (c.fact 24 (f := .glo "RunError") rfl),
    g_BadMap := He.glo_ok X G (c.fact 25 (f := .glo "BadMap") rfl),
    g_BadLift := He.glo_ok X G (c.fact 26 (f := .glo "BadLift") rfl),
    g_BadPlace := He.glo_ok X G (c.fact 27 (f := .glo "BadPlace") rfl),
    g_BadKeys := He.glo_ok X G (c.fact 28 (f := .glo "BadKeys") rfl),
    g_BadTime := He.glo_ok X G (c.fact 29 (f := .glo "BadTime") rfl),
    g_BadText := He.glo_ok X G (c.fact 30 (f := .glo "BadText") rfl),
    g_BadCourse := He.glo_ok X G (c.fact 31 (f := .glo "BadCourse") rfl),
    g_Nothing := He.glo_ok X G (c.fact 32 (f := .glo "Nothing") rfl),
    g_Runner := He.glo_ok X G (c.fact 33 (f := .glo "Runner") rfl),
    g_World := He.glo_ok X G (c.fact 34 (f := .glo "World") rfl),
    g_Course := He.glo_ok X G (c.fact 35 (f := .glo "Course") rfl),
    b_ValueError := He.free_ok X G (c.fact 36 (f := .free "ValueError") rfl),
    b_abs := He.free_ok X G (c.fact 37 (f := .free "abs") rfl),
    b_all := He.free_ok X G (c.fact 38 (f := .free "all") rfl),
    b_any := He.free_ok X G (c.fact 39 (f := .free "any") rfl),
    b_bool := He.free_ok X G (c.fact 40 (f := .free "bool") rfl),
    b_enumerate := He.free_ok X G (c.fact 41 (f := .free "enumerate") rfl),
    b_int := He.free_ok X G (c.fact 42 (f := .free "int") rfl),
    b_isinstance := He.free_ok X G (c.fact 43 (f := .free "isinstance") rfl),
    b_len := He.free_ok X G (c.fact 44 (f := .free "len") rfl),
    b_list := He.free_ok X G (c.fact 45 (f := .free "list") rfl),
    b_max := He.free_ok X G (c.fact 46 (f := .free "max") rfl),
    b_min := He.free_ok X G (c.fact 47 (f := .free "min") rfl),
    b_range := He.free_ok X G (c.fact 48 (f := .free "range") rfl),
    b_set := He.free_ok X G (c.fact 49 (f := .free "set") rfl),
    b_sorted := He.free_ok X G (c.fact 50 (f := .free "sorted") rfl),
    b_str := He.free_ok X G (c.fact 51 (f := .free "str") rfl),
    b_sum := He.free_ok X G (c.fact 52 (f := .free "sum") rfl),
    b_tuple := He.free_ok X G (c.fact 53 (f := .free "tuple") rfl),
    c_SIDE := He.int_ok X G (c.fact 54 (f := .int "SIDE" 8) rfl),
    c_MOST_WIDE := He.int_ok X G (c.fact 55 (f := .int "MOST_WIDE" 30) rfl),
    c_MOST_HIGH := He.int_ok X G (c.fact 56 (f := .int "MOST_HIGH" 20) rfl),
    c_SIGNS := He.str_ok X G (c.fact 57 (f := .str "SIGNS" "#.<>=") rfl),
    c_MOST_lifts := He.int_ok X G (c.fact 58 (f := .int "MOST_lifts" 400) rfl),
    c_KEYS := He.str_ok X G (c.fact 59 (f := .str "KEYS" "ljrd") rfl),
    c_FASTEST := He.int_ok X G (c.fact 60 (f := .int "FASTEST" 3) rfl),
    c_FALLING := He.int_ok X G (c.fact 61 (f := .int "FALLING" 6) rfl),
    c_JUMP := He.int_ok X G (c.fact 62 (f := .int "JUMP" 6) rfl),
    c_WIDE := He.int_ok X G (c.fact 63 (f := .int "WIDE" 6) rfl),
    c_HIGH := He.int_ok X G (c.fact 64 (f := .int "HIGH" 10) rfl),
    c_MOST_worlds := He.int_ok X G (c.fact 65 (f := .int "MOST_worlds" 400) rfl),
    c_MOST_THINGS := He.int_ok X G (c.fact 66 (f := .int "MOST_THINGS" 20) rfl),
    cl_Runner := He.cls_ok (c.fact 67 (f := .cls "Runner") rfl),
    mk_Runner := He.mkr_ok (c.fact 68 (f := .mkr "Runner") rfl),
    na_Runner_world := He.noat_ok (c.fact 69 (f := .noat "Runner" "world") rfl),
    na_Runner_time := He.noat_ok (c.fact 70 (f := .noat "Runner" "time") rfl),
    na_Runner_left := He.noat_ok (c.fact 71 (f := .noat "Runner" "left") rfl),
    na_Runner_top := He.noat_ok (c.fact 72 (f := .noat "Runner" "top") rfl),
    na_Runner_across := He.noat_ok (c.fact 73 (f := .noat "Runner" "across") rfl),
    na_Runner_down := He.noat_ok (c.fact 74 (f := .noat "Runner" "down") rfl),
    na_Runner_was_jumping := He.noat_ok (c.fact 75 (f := .noat "Runner" "was_jumping") rfl),
    me_Runner_at := He.meth_ok (c.fact 76 (f := .meth "Runner" "at") rfl),
    me_Runner_pace := He.meth_ok (c.fact 77 (f := .meth "Runner" "pace") rfl),
    me_Runner_clock := He.meth_ok (c.fact 78 (f := .meth "Runner" "clock") rfl),
    me_Runner_stands := He.meth_ok (c.fact 79 (f := .meth "Runner" "stands") rfl),
    me_Runner_is_standing := He.meth_ok (c.fact 80 (f := .meth "Runner" "is_standing") rfl),
    me_Runner_tick := He.meth_ok (c.fact 81 (f := .meth "Runner" "tick") rfl),
    me_Runner_be_carried := He.meth_ok (c.fact 82 (f := .meth "Runner" "be_carried") rfl),
    me_Runner_speed_up := He.meth_ok (c.fact 83 (f := .meth "Runner" "speed_up") rfl),
    me_Runner_leap := He.meth_ok (c.fact 84 (f := .meth "Runner" "leap") rfl),
    me_Runner_go_across := He.meth_ok (c.fact 85 (f := .meth "Runner" "go_across") rfl),
    me_Runner_step_across := He.meth_ok (c.fact 86 (f := .meth "Runner" "step_across") rfl),
    me_Runner_step_down := He.meth_ok (c.fact 87 (f := .meth "Runner" "step_down") rfl),
    me_Runner_go_down := He.meth_ok (c.fact 88 (f := .meth "Runner" "go_down") rfl),
    cl_World := He.cls_ok (c.fact 89 (f := .cls "World") rfl),
    mk_World := He.mkr_ok (c.fact 90 (f := .mkr "World") rfl),
    na_World_rows := He.noat_ok (c.fact 91 (f := .noat "World" "rows") rfl),
    na_World_lifts := He.noat_ok (c.fact 92 (f := .noat "World" "lifts") rfl),
    me_World_is_free := He.meth_ok (c.fact 93 (f := .meth "World" "is_free") rfl),
    me_World_under := He.meth_ok (c.fact 94 (f := .meth "World" "under") rfl),
    me_World_is_on_ledge := He.meth_ok (c.fact 95 (f := .meth "World" "is_on_ledge") rfl),
    me_World_is_on_floor := He.meth_ok (c.fact 96 (f := .meth "World" "is_on_floor") rfl),
    me_World_need_place := He.meth_ok (c.fact 97 (f := .meth "World" "need_place") rfl),
    cl_Course := He.cls_ok (c.fact 98 (f := .cls "Course") rfl),
    mk_Course := He.mkr_ok (c.fact 99 (f := .mkr "Course") rfl),
    na_Course_runner := He.noat_ok (c.fact 100 (f := .noat "Course" "runner") rfl),
    na_Course_begun := He.noat_ok (c.fact 101 (f := .noat "Course" "begun") rfl),
    na_Course_things := He.noat_ok (c.fact 102 (f := .noat "Course" "things") rfl),
    na_Course_goal := He.noat_ok (c.fact 103 (f := .noat "Course" "goal") rfl),
    na_Course_rows := He.noat_ok (c.fact 104 (f := .noat "Course" "rows") rfl),
    na_Course_gone_back := He.noat_ok (c.fact 105 (f := .noat "Course" "gone_back") rfl),
    na_Course_got := He.noat_ok (c.fact 106 (f := .noat "Course" "got") rfl),
    na_Course_reached := He.noat_ok (c.fact 107 (f := .noat "Course" "reached") rfl),
    me_Course_covers := He.meth_ok (c.fact 108 (f := .meth "Course" "covers") rfl),
    me_Course_look := He.meth_ok (c.fact 109 (f := .meth "Course" "look") rfl),
    me_Course_tick := He.meth_ok (c.fact 110 (f := .meth "Course" "tick") rfl),
    me_Course_go := He.meth_ok (c.fact 111 (f := .meth "Course" "go") rfl),
    me_Course_back := He.meth_ok (c.fact 112 (f := .meth "Course" "back") rfl),
    me_Course_again := He.meth_ok (c.fact 113 (f := .meth "Course" "again") rfl),
    me_Course_at := He.meth_ok (c.fact 114 (f := .meth "Course" "at") rfl),
    me_Course_clock := He.meth_ok (c.fact 115 (f := .meth "Course" "clock") rfl),
    me_Course_taken := He.meth_ok (c.fact 116 (f := .meth "Course" "taken") rfl),
    me_Course_left_over := He.meth_ok (c.fact 117 (f := .meth "Course" "left_over") rfl),
    me_Course_done := He.meth_ok (c.fact 118 (f := .meth "Course" "done") rfl),
    me_Course_tape := He.meth_ok (c.fact 119 (f := .meth "Course" "tape") rfl),
    ex_RunError := c.fact 120 (f := .exc "RunError") rfl,
    ex_BadMap := c.fact 121 (f := .exc "BadMap") rfl,
    ex_BadLift := c.fact 122 (f := .exc "BadLift") rfl,
    ex_BadPlace := c.fact 123 (f := .exc "BadPlace") rfl,
    ex_BadKeys := c.fact 124 (f := .exc "BadKeys") rfl,
    ex_BadTime := c.fact 125 (f := .exc "BadTime") rfl,
    ex_BadText := c.fact 126 (f := .exc "BadText") rfl,
    ex_BadCourse := c.fact 127 (f := .exc "BadCourse") rfl,
    ex_Nothing := c.fact 128 (f := .exc "Nothing") rfl }
section
variable {P : Program} {w : World} {K : PySem.W.Frag} {mg : Str → Option Value} {base : Heap}
theorem sc__law_told : FnScope ["deed", "e"] ["deed"] (defScope sx__law_told) := ⟨rfl, rfl, rfl, by decide +kernel, rfl, by decide +kernel, by decide +kernel⟩
theorem sc__law_word : FnScope ["e", "flags", "words", "flag"] ["e"] (defScope sx__law_word) := ⟨rfl, rfl, rfl, by decide +kernel, rfl, by decide +kernel, by decide +kernel⟩
theorem w__law_word (T : Tx K mg) {A : Around} {outer : List Env} {s : Shared} {H : Hp} {p : Addr × Obj} {D : Addr} {wd : Str} {Q : VK} {k : Nat} {cdw : Value} (hot : L2H.Hot1 A p) (hz : L2.Zc (.ref D) none p.2) (W : WokN K D wd)
    (hr : L2H.RoomH k (A.deeper (envOfC "_law_word" (defScope sx__law_word) s.heap.objs.size (He.fAd K ("_law_word", none)) cdw))) (ht : Hx.Tells H wd Q) :
    ∃ t, PSs (L2H.cxH CX0 P w K mg base ["e", "flags", "words", "flag"] "_law_word" (defScope sx__law_word) (He.fAd K ("_law_word", none)) cdw A outer s H E0 p) (defBody sx__law_word) t ∧ t { nx := fun _ H' => Q .non H', rt := Q } (L2.start ["e", "flags", "words", "flag"] [.ref p.1]) H := by
  obtain ⟨i, F, rfl⟩ := W
  have C := F.ex
  have hf : ∃ vs, p.2.data = .fields vs := by
    obtain ⟨_, vs, h, _⟩ := hot
    exact ⟨vs, h⟩
  have hc : L2H.HotC (L2H.cxH CX0 P w K mg base ["e", "flags", "words", "flag"] "_law_word" (defScope sx__law_word) (He.fAd K ("_law_word", none)) cdw A outer s H E0 p) := ⟨p, hot, List.mem_singleton.mpr rfl⟩
  have hp : p ∈ (L2H.cxH CX0 P w K mg base ["e", "flags", "words", "flag"] "_law_word" (defScope sx__law_word) (He.fAd K ("_law_word", none)) cdw A outer s H E0 p).pn := List.mem_singleton.mpr rfl
  refine ⟨t__law_word K D p.1, ?_, p__law_word F H (Ex.refl H) _ ⟨fun _ _ _ h _ => h.elim, fun v b2 H2 ⟨q, e, e1, e2, e3⟩ e4 => by rw [e]; exact ht q H2 (e1.trans e4) e2 (e4 q _ e3), fun _ _ _ h _ => h, fun _ _ _ h _ => h⟩⟩
  exact (pss_cons (ps_set (i := 1) sc__law_word.nd rfl (by first | exact Or.inl rfl | exact Or.inr rfl) (pe_lst (pa_cons (pe_callB (Hx.call_isX hp C hz hf) (by rfl) T.b_isinstance (by decide +kernel) (pa_cons (pv 0) (pa_cons (pe_glob (v := .ref (He.ga K "BadKeys")) (by rfl) T.g_BadKeys rfl) pa_nil))) (pa_cons (pe_callB (Hx.call_isX hp C hz hf) (by rfl) T.b_isinstance (by decide +kernel) (pa_cons (pv 0) (pa_cons (pe_glob (v := .ref (He.ga K "BadLift")) (by rfl) T.g_BadLift rfl) pa_nil))) (pa_cons (pe_callB (Hx.call_isX hp C hz hf) (by rfl) T.b_isinstance (by decide +kernel) (pa_cons (pv 0) (pa_cons (pe_glob (v := .ref (He.ga K "BadMap")) (by rfl) T.g_BadMap rfl) pa_nil))) (pa_cons (pe_callB (Hx.call_isX hp C hz hf) (by rfl) T.b_isinstance (by decide +kernel) (pa_cons (pv 0) (pa_cons (pe_glob (v := .ref (He.ga K "BadPlace")) (by rfl) T.g_BadPlace rfl) pa_nil))) pa_nil)))))) (pss_cons (ps_set (i := 1) sc__law_word.nd rfl (by first | exact Or.inl rfl | exact Or.inr rfl) (pe_op op_addU (pv 1) (pe_lst (pa_cons (pe_callB (Hx.call_isX hp C hz hf) (by rfl) T.b_isinstance (by decide +kernel) (pa_cons (pv 0) (pa_cons (pe_glob (v := .ref (He.ga K "BadText")) (by rfl) T.g_BadText rfl) pa_nil))) (pa_cons (pe_callB (Hx.call_isX hp C hz hf) (by rfl) T.b_isinstance (by decide +kernel) (pa_cons (pv 0) (pa_cons (pe_glob (v := .ref (He.ga K "BadTime")) (by rfl) T.g_BadTime rfl) pa_nil))) (pa_cons (pe_callB (Hx.call_isX hp C hz hf) (by rfl) T.b_isinstance (by decide +kernel) (pa_cons (pv 0) (pa_cons (pe_glob (v := .ref (He.ga K "BadCourse")) (by rfl) T.g_BadCourse rfl) pa_nil))) (pa_cons (pe_callB (Hx.call_isX hp C hz hf) (by rfl) T.b_isinstance (by decide +kernel) (pa_cons (pv 0) (pa_cons (pe_glob (v := .ref (He.ga K "Nothing")) (by rfl) T.g_Nothing rfl) pa_nil))) pa_nil))))))) (pss_cons (ps_if (PW.pt (pw_or (pt_cmpR (op_neU (Hx.huH hr)) (pe_callB (Hx.cr_sumX hc) (by rfl) T.b_sum (by decide +kernel) (pa_cons (Hx.pe_flags (y := "flag") hc (pv 1) T.b_int (by decide +kernel) (by decide +kernel) rfl (by decide +kernel) rfl rfl rfl) pa_nil)) pe_int (by rfl)) (pw_or1 (pt_not (pt_val (pe_callB (Hx.call_isX hp C hz hf) (by rfl) T.b_isinstance (by decide +kernel) (pa_cons (pv 0) (pa_cons (pe_bltn (v := .ty "ValueError") (by rfl) T.b_ValueError (by decide +kernel) rfl) pa_nil)))))))) (pss_one (ps_ret (pe_tup (pa_cons pe_str (pa_cons pe_str pa_nil))))) pss_nil) (pss_cons (ps_set (i := 2) sc__law_word.nd rfl (by first | exact Or.inl rfl | exact Or.inr rfl) (pe_lst (pa_cons pe_str (pa_cons pe_str (pa_cons pe_str (pa_cons pe_str (pa_cons pe_str (pa_cons pe_str (pa_cons pe_str (pa_cons pe_str pa_nil)))))))))) (pss_one (ps_ret (pe_tup (pa_cons pe_str (pa_cons (pe_ix ix_seq (pv 2) (pe_bm PySem.F.plainAttrs_list PySem.F.slot_list_index PySem.F.type_list_index mt_index (pv 1) (pa_cons pe_bl pa_nil)) (fun _ _ => rfl)) pa_nil)))))))))
theorem sc_Course_clock : FnScope ["self"] ["self"] (defScope sx_Course_clock) := ⟨rfl, rfl, rfl, by decide +kernel, rfl, by decide +kernel, by decide +kernel⟩
theorem ok_Course_clock (T : Tx K mg) : Fok P w K mg base 1 ("Course", some "clock") ["self"] (sb_Course_clock K) := by
  obtain ⟨fd, F⟩ := T.d_Course_clock
  refine fok_mk F sc_Course_clock len_Course_clock (fun _ _ _ _ _ _ us hl => match us, hl with | [_], _ => rfl) (fun cdv A outer s H E hr => ⟨t_Course_clock K E, ?_, fun vs b k ke h hE => p_Course_clock h hE⟩)
  exact (pss_one (ps_ret (pe_callB call_len (by rfl) T.b_len (by decide +kernel) (pa_cons (pe_fld (pv 0) rfl) pa_nil))))
theorem sc_Runner_at : FnScope ["self"] ["self"] (defScope sx_Runner_at) := ⟨rfl, rfl, rfl, by decide +kernel, rfl, by decide +kernel, by decide +kernel⟩
theorem ok_Runner_at (T : Tx K mg) : Fok P w K mg base 1 ("Runner", some "at") ["self"] (sb_Runner_at K) := by
  obtain ⟨fd, F⟩ := T.d_Runner_at
  refine fok_mk F sc_Runner_at len_Runner_at (fun _ _ _ _ _ _ us hl => match us, hl with | [_], _ => rfl) (fun cdv A outer s H E hr => ⟨t_Runner_at K E, ?_, fun vs b k ke h hE => p_Runner_at h hE⟩)
  exact (pss_one (ps_ret (pe_tup (pa_cons (pe_fld (pv 0) rfl) (pa_cons (pe_fld (pv 0) rfl) pa_nil)))))
theorem sc_Course_covers : FnScope ["self", "unit", "left", "top"] ["self", "unit"] (defScope sx_Course_covers) := ⟨rfl, rfl, rfl, by decide +kernel, rfl, by decide +kernel, by decide +kernel⟩
theorem ok_Course_covers (T : Tx K mg) : Fok P w K mg base 2 ("Course", some "covers") ["self", "unit"] (sb_Course_covers K) := by
  obtain ⟨fd, F⟩ := T.d_Course_covers
  refine fok_mk F sc_Course_covers len_Course_covers (fun _ _ _ _ _ _ us hl => match us, hl with | [_, _], _ => rfl) (fun cdv A outer s H E hr => ⟨t_Course_covers K E, ?_, fun vs b k ke h hE => p_Course_covers h hE⟩)
  exact (pss_cons (ps_asg (pe_me0 (ok_Runner_at T) T.cl_Runner T.me_Runner_at hr px (pe_fld (pv 0) rfl)) (pg_tup rfl (pgs_cons (pg_name (i := 2) sc_Course_covers.nd rfl (by first | exact Or.inl rfl | exact Or.inr rfl)) (pgs_cons (pg_name (i := 3) sc_Course_covers.nd rfl (by first | exact Or.inl rfl | exact Or.inr rfl)) pgs_nil)))) (pss_one (ps_ret (pe_and (pe_chain op_le op_lt (pv 2) (pe_ix ix_seq (pv 1) pe_int (fun _ _ => rfl)) (pe_op op_addU (pv 2) (pe_ci rfl T.c_WIDE))) (pe_one (pe_chain op_le op_lt (pv 3) (pe_ix ix_seq (pv 1) pe_int (fun _ _ => rfl)) (pe_op op_addU (pv 3) (pe_ci rfl T.c_HIGH))))))))
theorem sc_Runner_clock : FnScope ["self"] ["self"] (defScope sx_Runner_clock) := ⟨rfl, rfl, rfl, by decide +kernel, rfl, by decide +kernel, by decide +kernel⟩
theorem ok_Runner_clock (T : Tx K mg) : Fok P w K mg base 1 ("Runner", some "clock") ["self"] (sb_Runner_clock K) := by
  obtain ⟨fd, F⟩ := T.d_Runner_clock
  refine fok_mk F sc_Runner_clock len_Runner_clock (fun _ _ _ _ _ _ us hl => match us, hl with | [_], _ => rfl) (fun cdv A outer s H E hr => ⟨t_Runner_clock K E, ?_, fun vs b k ke h hE => p_Runner_clock h hE⟩)
  exact (pss_one (ps_ret (pe_fld (pv 0) rfl)))
theorem sc_Course_look : FnScope ["self", "found", "number", "unit"] ["self"] (defScope sx_Course_look) := ⟨rfl, rfl, rfl, by decide +kernel, rfl, by decide +kernel, by decide +kernel⟩
theorem ok_Course_look (T : Tx K mg) : Fok P w K mg base 3 ("Course", some "look") ["self"] (sb_Course_look K) := by
  obtain ⟨fd, F⟩ := T.d_Course_look
  refine fok_mk F sc_Course_look len_Course_look (fun _ _ _ _ _ _ us hl => match us, hl with | [_], _ => rfl) (fun cdv A outer s H E hr => ⟨t_Course_look K E, ?_, fun vs b k ke h hE => p_Course_look h hE⟩)
  exact (pss_cons (ps_setLc (i := 1) (own := [("number", 2), ("unit", 3)]) (g := (gTup K 2 (gCons (gName 2) (gCons (gName 3) gNil)))) (tt := (tAnd (tB (tDNotIn (tVar 2) (tFld K (tVar 0) "got"))) (tB (tMeth (He.ga K "Course") "covers" (up (sb_Course_covers K)) [] E0 (tVar 0) (tCons (tVar 3) tNil))))) rfl sc_Course_look.nd rfl rfl (sw_true rfl rfl rfl (by decide +kernel)) (pi_enum (by rfl) T.b_enumerate (pa_cons (pe_fld (pv 0) rfl) pa_nil)) (blkOk_by (own := [("number", 2), ("unit", 3)]) (N := ["self", "found", "number", "unit"]) (sc := defScope sx_Course_look) (by decide +kernel)) (fun _ _ _ _ _ => (pg_tup rfl (pgs_cons (pg_name (i := 2) sc_Course_look.nd rfl (by first | exact Or.inl rfl | exact Or.inr rfl)) (pgs_cons (pg_name (i := 3) sc_Course_look.nd rfl (by first | exact Or.inl rfl | exact Or.inr rfl)) pgs_nil)))) (fun _ _ _ _ _ => (pts_one (PW.pt (pw_and (pt_cmp (pc_dnotin (hu_of hr) (pv 2) (pe_fld (pv 0) rfl))) (pw_and1 (pt_val (pe_me (ok_Course_covers T) T.cl_Course T.me_Course_covers hr pxB (pv 0) (pa_cons (pv 3) pa_nil)))))))) (fun _ _ _ _ _ => (pv 2))) (pss_cons (ps_for pso rfl (pi_list (pv 1)) (pg_name (i := 2) sc_Course_look.nd rfl (by first | exact Or.inl rfl | exact Or.inr rfl)) (pss_one (ps_dput (hu_of hr) (pe_fld (pv 0) rfl) (pv 2) (pe_me0 (ok_Runner_clock T) T.cl_Runner T.me_Runner_clock hr px (pe_fld (pv 0) rfl)) rfl))) (pss_cons (ps_if (PW.pt (pw_and (pt_cmpR op_isN (pe_fld (pv 0) rfl) pe_non (by rfl)) (pw_and1 (pt_val (pe_me (ok_Course_covers T) T.cl_Course T.me_Course_covers hr px (pv 0) (pa_cons (pe_fld (pv 0) rfl) pa_nil)))))) (pss_one (ps_fld (pv 0) (pe_me0 (ok_Runner_clock T) T.cl_Runner T.me_Runner_clock hr px (pe_fld (pv 0) rfl)) rfl)) pss_nil) (pss_one (ps_ret (pv 1))))))
theorem sc_tile : FnScope ["rows", "left", "top"] ["rows", "left", "top"] (defScope sx_tile) := ⟨rfl, rfl, rfl, by decide +kernel, rfl, by decide +kernel, by decide +kernel⟩
theorem ok_tile (T : Tx K mg) : Fok P w K mg base 1 ("tile", none) ["rows", "left", "top"] (sb_tile K) := by
  obtain ⟨fd, F⟩ := T.d_tile
  refine fok_mk F sc_tile len_tile (fun _ _ _ _ _ _ us hl => match us, hl with | [_, _, _], _ => rfl) (fun cdv A outer s H E hr => ⟨t_tile K E, ?_, fun vs b k ke h hE => p_tile h hE⟩)
  exact (pss_one (ps_ret (pe_ix ix_seq (pe_ix ix_seq (pv 0) (pe_op op_fdivU (pv 2) (pe_ci rfl T.c_SIDE)) (fun _ _ => rfl)) (pe_op op_fdivU (pv 1) (pe_ci rfl T.c_SIDE)) (fun _ _ => rfl))))
theorem sc_size : FnScope ["rows"] ["rows"] (defScope sx_size) := ⟨rfl, rfl, rfl, by decide +kernel, rfl, by decide +kernel, by decide +kernel⟩
theorem ok_size (T : Tx K mg) : Fok P w K mg base 1 ("size", none) ["rows"] (sb_size K) := by
  obtain ⟨fd, F⟩ := T.d_size
  refine fok_mk F sc_size len_size (fun _ _ _ _ _ _ us hl => match us, hl with | [_], _ => rfl) (fun cdv A outer s H E hr => ⟨t_size K E, ?_, fun vs b k ke h hE => p_size h hE⟩)
  exact (pss_one (ps_ret (pe_tup (pa_cons (pe_op op_mulU (pe_ci rfl T.c_SIDE) (pe_callB call_len (by rfl) T.b_len (by decide +kernel) (pa_cons (pe_ix ix_seq (pv 0) pe_int (fun _ _ => rfl)) pa_nil))) (pa_cons (pe_op op_mulU (pe_ci rfl T.c_SIDE) (pe_callB call_len (by rfl) T.b_len (by decide +kernel) (pa_cons (pv 0) pa_nil))) pa_nil)))))
theorem sc_is_ledge : FnScope ["rows", "left", "top", "wide", "high"] ["rows", "left", "top"] (defScope sx_is_ledge) := ⟨rfl, rfl, rfl, by decide +kernel, rfl, by decide +kernel, by decide +kernel⟩
theorem ok_is_ledge (T : Tx K mg) : Fok P w K mg base 2 ("is_ledge", none) ["rows", "left", "top"] (sb_is_ledge K) := by
  obtain ⟨fd, F⟩ := T.d_is_ledge
  refine fok_mk F sc_is_ledge len_is_ledge (fun _ _ _ _ _ _ us hl => match us, hl with | [_, _, _], _ => rfl) (fun cdv A outer s H E hr => ⟨t_is_ledge K E, ?_, fun vs b k ke h hE => p_is_ledge h hE⟩)
  exact (pss_cons (ps_asg (pe_fn (ok_size T) hr rfl T.g_size px (pa_cons (pv 0) pa_nil)) (pg_tup rfl (pgs_cons (pg_name (i := 3) sc_is_ledge.nd rfl (by first | exact Or.inl rfl | exact Or.inr rfl)) (pgs_cons (pg_name (i := 4) sc_is_ledge.nd rfl (by first | exact Or.inl rfl | exact Or.inr rfl)) pgs_nil)))) (pss_cons (ps_if (PW.pt (pw_or (pt_not (pt_chain op_le op_lt pe_int (pv 1) (pv 3))) (pw_or (pt_not (pt_chain op_le op_lt pe_int (pv 2) (pv 4))) (pw_or1 (pt_cmpR (op_neU (hu64 hr)) (pe_op op_mod (pv 2) (pe_ci rfl T.c_SIDE)) pe_int (by rfl)))))) (pss_one (ps_ret pe_bl)) pss_nil) (pss_one (ps_ret (pe_cmpR (op_eqU (hu64 hr)) (pe_fn (ok_tile T) hr rfl T.g_tile px (pa_cons (pv 0) (pa_cons (pv 1) (pa_cons (pv 2) pa_nil)))) pe_str (by rfl))))))
theorem sc_World_is_on_ledge : FnScope ["self", "left", "top", "right"] ["self", "left", "top"] (defScope sx_World_is_on_ledge) := ⟨rfl, rfl, rfl, by decide +kernel, rfl, by decide +kernel, by decide +kernel⟩
theorem ok_World_is_on_ledge (T : Tx K mg) : Fok P w K mg base 3 ("World", some "is_on_ledge") ["self", "left", "top"] (sb_World_is_on_ledge K) := by
  obtain ⟨fd, F⟩ := T.d_World_is_on_ledge
  refine fok_mk F sc_World_is_on_ledge len_World_is_on_ledge (fun _ _ _ _ _ _ us hl => match us, hl with | [_, _, _], _ => rfl) (fun cdv A outer s H E hr => ⟨t_World_is_on_ledge K E, ?_, fun vs b k ke h hE => p_World_is_on_ledge h hE⟩)
  exact (pss_one (ps_ret (pe_callB (cr_any rfl) (by rfl) T.b_any (by decide +kernel) (pa_cons (pe_lc (own := [("right", 3)]) (g := (gName 3)) (tt := tYes) rfl sc_World_is_on_ledge.nd (pi_range1 (by rfl) T.b_range (pa_cons (pe_ci rfl T.c_WIDE) pa_nil)) (blkOk_by (own := [("right", 3)]) (N := ["self", "left", "top", "right"]) (sc := defScope sx_World_is_on_ledge) (by decide +kernel)) (fun _ _ _ _ _ => (pg_name (i := 3) sc_World_is_on_ledge.nd rfl (by first | exact Or.inl rfl | exact Or.inr rfl))) (fun _ _ _ _ _ => pts_nil) (fun _ _ _ _ _ => (pe_fn (ok_is_ledge T) hr rfl T.g_is_ledge pxB (pa_cons (pe_fld (pv 0) rfl) (pa_cons (pe_op op_addU (pv 1) (pv 3)) (pa_cons (pe_op op_addU (pv 2) (pe_ci rfl T.c_HIGH)) pa_nil)))))) pa_nil))))
theorem sc_way_gone : FnScope ["lift", "time", "way", "left", "top", "wide", "far", "pace", "phase"] ["lift", "time"] (defScope sx_way_gone) := ⟨rfl, rfl, rfl, by decide +kernel, rfl, by decide +kernel, by decide +kernel⟩
theorem ok_way_gone (T : Tx K mg) : Fok P w K mg base 1 ("way_gone", none) ["lift", "time"] (sb_way_gone K) := by
  obtain ⟨fd, F⟩ := T.d_way_gone
  refine fok_mk F sc_way_gone len_way_gone (fun _ _ _ _ _ _ us hl => match us, hl with | [_, _], _ => rfl) (fun cdv A outer s H E hr => ⟨t_way_gone K E, ?_, fun vs b k ke h hE => p_way_gone h hE⟩)
  exact (pss_cons (ps_asg (pv 0) (pg_tup rfl (pgs_cons (pg_name (i := 2) sc_way_gone.nd rfl (by first | exact Or.inl rfl | exact Or.inr rfl)) (pgs_cons (pg_name (i := 3) sc_way_gone.nd rfl (by first | exact Or.inl rfl | exact Or.inr rfl)) (pgs_cons (pg_name (i := 4) sc_way_gone.nd rfl (by first | exact Or.inl rfl | exact Or.inr rfl)) (pgs_cons (pg_name (i := 5) sc_way_gone.nd rfl (by first | exact Or.inl rfl | exact Or.inr rfl)) (pgs_cons (pg_name (i := 6) sc_way_gone.nd rfl (by first | exact Or.inl rfl | exact Or.inr rfl)) (pgs_cons (pg_name (i := 7) sc_way_gone.nd rfl (by first | exact Or.inl rfl | exact Or.inr rfl)) pgs_nil)))))))) (pss_cons (ps_set (i := 8) sc_way_gone.nd rfl (by first | exact Or.inl rfl | exact Or.inr rfl) (pe_op op_mod (pe_op op_fdivU (pv 1) (pv 7)) (pe_op op_mulU pe_int (pv 6)))) (pss_one (ps_ret (pe_ifExp (pt_cmpR op_le (pv 8) (pv 6) (by rfl)) (pv 8) (pe_op op_subU (pe_op op_mulU pe_int (pv 6)) (pv 8)))))))
theorem sc_place : FnScope ["lift", "time", "way", "left", "top"] ["lift", "time"] (defScope sx_place) := ⟨rfl, rfl, rfl, by decide +kernel, rfl, by decide +kernel, by decide +kernel⟩
theorem ok_place (T : Tx K mg) : Fok P w K mg base 2 ("place", none) ["lift", "time"] (sb_place K) := by
  obtain ⟨fd, F⟩ := T.d_place
  refine fok_mk F sc_place len_place (fun _ _ _ _ _ _ us hl => match us, hl with | [_, _], _ => rfl) (fun cdv A outer s H E hr => ⟨t_place K E, ?_, fun vs b k ke h hE => p_place h hE⟩)
  exact (pss_cons (ps_asg (pe_slice sl_U (pv 0) po_none (po_some pe_int)) (pg_tup rfl (pgs_cons (pg_name (i := 2) sc_place.nd rfl (by first | exact Or.inl rfl | exact Or.inr rfl)) (pgs_cons (pg_name (i := 3) sc_place.nd rfl (by first | exact Or.inl rfl | exact Or.inr rfl)) (pgs_cons (pg_name (i := 4) sc_place.nd rfl (by first | exact Or.inl rfl | exact Or.inr rfl)) pgs_nil))))) (pss_cons (ps_if (pt_cmpR (op_eqU (hu64 hr)) (pv 2) pe_str (by rfl)) (pss_one (ps_ret (pe_tup (pa_cons (pe_op op_addU (pv 3) (pe_fn (ok_way_gone T) hr rfl T.g_way_gone px (pa_cons (pv 0) (pa_cons (pv 1) pa_nil)))) (pa_cons (pv 4) pa_nil))))) pss_nil) (pss_one (ps_ret (pe_tup (pa_cons (pv 3) (pa_cons (pe_op op_subU (pv 4) (pe_fn (ok_way_gone T) hr rfl T.g_way_gone px (pa_cons (pv 0) (pa_cons (pv 1) pa_nil)))) pa_nil)))))))
theorem sc_World_under : FnScope ["self", "left", "top", "time", "found", "at", "lift", "mine", "row"] ["self", "left", "top", "time"] (defScope sx_World_under) := ⟨rfl, rfl, rfl, by decide +kernel, rfl, by decide +kernel, by decide +kernel⟩
theorem ok_World_under (T : Tx K mg) : Fok P w K mg base 3 ("World", some "under") ["self", "left", "top", "time"] (sb_World_under K) := by
  obtain ⟨fd, F⟩ := T.d_World_under
  refine fok_mk F sc_World_under len_World_under (fun _ _ _ _ _ _ us hl => match us, hl with | [_, _, _, _], _ => rfl) (fun cdv A outer s H E hr => ⟨t_World_under K E, ?_, fun vs b k ke h hE => p_World_under h hE⟩)
  exact (pss_cons (ps_set (i := 4) sc_World_under.nd rfl (by first | exact Or.inl rfl | exact Or.inr rfl) (pe_lst pa_nil)) (pss_cons (ps_for pso rfl (pi_enum (by rfl) T.b_enumerate (pa_cons (pe_fld (pv 0) rfl) pa_nil)) (pg_tup rfl (pgs_cons (pg_name (i := 5) sc_World_under.nd rfl (by first | exact Or.inl rfl | exact Or.inr rfl)) (pgs_cons (pg_name (i := 6) sc_World_under.nd rfl (by first | exact Or.inl rfl | exact Or.inr rfl)) pgs_nil))) (pss_cons (ps_asg (pe_fn (ok_place T) hr rfl T.g_place px (pa_cons (pv 6) (pa_cons (pv 3) pa_nil))) (pg_tup rfl (pgs_cons (pg_name (i := 7) sc_World_under.nd rfl (by first | exact Or.inl rfl | exact Or.inr rfl)) (pgs_cons (pg_name (i := 8) sc_World_under.nd rfl (by first | exact Or.inl rfl | exact Or.inr rfl)) pgs_nil)))) (pss_one (ps_if (PW.pt (pw_and (pt_cmpR (op_eqU (hu64 hr)) (pv 8) (pe_op op_addU (pv 2) (pe_ci rfl T.c_HIGH)) (by rfl)) (pw_and (pt_cmpR op_lt (pv 7) (pe_op op_addU (pv 1) (pe_ci rfl T.c_WIDE)) (by rfl)) (pw_and1 (pt_cmpR op_lt (pv 1) (pe_op op_addU (pv 7) (pe_ix ix_seq (pv 6) pe_int (fun _ _ => rfl))) (by rfl)))))) (pss_one (ps_expr (pe_bm PySem.F.plainAttrs_list PySem.F.slot_list_append PySem.F.type_list_append mt_append (pv 4) (pa_cons (pv 5) pa_nil)))) pss_nil)))) (pss_one (ps_ret (pv 4)))))
theorem sc_solid : FnScope ["rows", "left", "top", "wide", "high", "sign", "up", "right"] ["rows", "left", "top"] (defScope sx_solid) := ⟨rfl, rfl, rfl, by decide +kernel, rfl, by decide +kernel, by decide +kernel⟩
theorem ok_solid (T : Tx K mg) : Fok P w K mg base 2 ("solid", none) ["rows", "left", "top"] (sb_solid K) := by
  obtain ⟨fd, F⟩ := T.d_solid
  refine fok_mk F sc_solid len_solid (fun _ _ _ _ _ _ us hl => match us, hl with | [_, _, _], _ => rfl) (fun cdv A outer s H E hr => ⟨t_solid K E, ?_, fun vs b k ke h hE => p_solid h hE⟩)
  exact (pss_cons (ps_asg (pe_fn (ok_size T) hr rfl T.g_size px (pa_cons (pv 0) pa_nil)) (pg_tup rfl (pgs_cons (pg_name (i := 3) sc_solid.nd rfl (by first | exact Or.inl rfl | exact Or.inr rfl)) (pgs_cons (pg_name (i := 4) sc_solid.nd rfl (by first | exact Or.inl rfl | exact Or.inr rfl)) pgs_nil)))) (pss_cons (ps_if (pt_not (pt_chain op_le op_lt pe_int (pv 1) (pv 3))) (pss_one (ps_ret pe_bl)) pss_nil) (pss_cons (ps_if (pt_not (pt_chain op_le op_lt pe_int (pv 2) (pv 4))) (pss_one (ps_ret pe_bl)) pss_nil) (pss_cons (ps_set (i := 5) sc_solid.nd rfl (by first | exact Or.inl rfl | exact Or.inr rfl) (pe_fn (ok_tile T) hr rfl T.g_tile px (pa_cons (pv 0) (pa_cons (pv 1) (pa_cons (pv 2) pa_nil))))) (pss_cons (ps_par rfl sc_solid.nd (i := 6) (j := 7) rfl rfl (by decide) rfl rfl (pa_cons (pe_op op_subU (pe_op op_subU (pe_ci rfl T.c_SIDE) pe_int) (pe_op op_mod (pv 2) (pe_ci rfl T.c_SIDE))) (pa_cons (pe_op op_mod (pv 1) (pe_ci rfl T.c_SIDE)) pa_nil)) (by rfl)) (pss_cons (ps_if (pt_cmpR (op_eqU (hu64 hr)) (pv 5) pe_str (by rfl)) (pss_one (ps_ret (pe_cmpR op_le (pv 6) (pv 7) (by rfl)))) pss_nil) (pss_cons (ps_if (pt_cmpR (op_eqU (hu64 hr)) (pv 5) pe_str (by rfl)) (pss_one (ps_ret (pe_cmpR op_le (pv 6) (pe_op op_subU (pe_op op_subU (pe_ci rfl T.c_SIDE) pe_int) (pv 7)) (by rfl)))) pss_nil) (pss_one (ps_ret (pe_cmpR (op_eqU (hu64 hr)) (pv 5) pe_str (by rfl)))))))))))
theorem sc_World_is_free : FnScope ["self", "left", "top", "down", "right"] ["self", "left", "top"] (defScope sx_World_is_free) := ⟨rfl, rfl, rfl, by decide +kernel, rfl, by decide +kernel, by decide +kernel⟩
theorem ok_World_is_free (T : Tx K mg) : Fok P w K mg base 3 ("World", some "is_free") ["self", "left", "top"] (sb_World_is_free K) := by
  obtain ⟨fd, F⟩ := T.d_World_is_free
  refine fok_mk F sc_World_is_free len_World_is_free (fun _ _ _ _ _ _ us hl => match us, hl with | [_, _, _], _ => rfl) (fun cdv A outer s H E hr => ⟨t_World_is_free K E, ?_, fun vs b k ke h hE => p_World_is_free h hE⟩)
  exact (pss_cons (ps_for pso rfl (pi_range1 (by rfl) T.b_range (pa_cons (pe_ci rfl T.c_HIGH) pa_nil)) (pg_name (i := 3) sc_World_is_free.nd rfl (by first | exact Or.inl rfl | exact Or.inr rfl)) (pss_one (ps_for pso rfl (pi_range1 (by rfl) T.b_range (pa_cons (pe_ci rfl T.c_WIDE) pa_nil)) (pg_name (i := 4) sc_World_is_free.nd rfl (by first | exact Or.inl rfl | exact Or.inr rfl)) (pss_one (ps_if (pt_val (pe_fn (ok_solid T) hr rfl T.g_solid px (pa_cons (pe_fld (pv 0) rfl) (pa_cons (pe_op op_addU (pv 1) (pv 4)) (pa_cons (pe_op op_addU (pv 2) (pv 3)) pa_nil))))) (pss_one (ps_ret pe_bl)) pss_nil))))) (pss_one (ps_ret pe_bl)))
theorem sc_World_is_on_floor : FnScope ["self", "left", "top", "time", "is_dropping"] ["self", "left", "top", "time", "is_dropping"] (defScope sx_World_is_on_floor) := ⟨rfl, rfl, rfl, by decide +kernel, rfl, by decide +kernel, by decide +kernel⟩
theorem ok_World_is_on_floor (T : Tx K mg) : Fok P w K mg base 4 ("World", some "is_on_floor") ["self", "left", "top", "time", "is_dropping"] (sb_World_is_on_floor K) := by
  obtain ⟨fd, F⟩ := T.d_World_is_on_floor
  refine fok_mk F sc_World_is_on_floor len_World_is_on_floor (fun _ _ _ _ _ _ us hl => match us, hl with | [_, _, _, _, _], _ => rfl) (fun cdv A outer s H E hr => ⟨t_World_is_on_floor K E, ?_, fun vs b k ke h hE => p_World_is_on_floor h hE⟩)
  exact (pss_cons (ps_if (pt_not (pt_val (pe_me (ok_World_is_free T) T.cl_World T.me_World_is_free hr px (pv 0) (pa_cons (pv 1) (pa_cons (pe_op op_addU (pv 2) pe_int) pa_nil))))) (pss_one (ps_ret pe_bl)) pss_nil) (pss_cons (ps_if (pt_val (pv 4)) (pss_one (ps_ret pe_bl)) pss_nil) (pss_one (ps_ret (pe_or (pe_me (ok_World_is_on_ledge T) T.cl_World T.me_World_is_on_ledge hr px (pv 0) (pa_cons (pv 1) (pa_cons (pv 2) pa_nil))) (pe_one (pe_cmpR (op_neU (hu64 hr)) (pe_me (ok_World_under T) T.cl_World T.me_World_under hr px (pv 0) (pa_cons (pv 1) (pa_cons (pv 2) (pa_cons (pv 3) pa_nil)))) (pe_lst pa_nil) (by rfl))))))))
theorem sc_Runner_stands : FnScope ["self", "is_dropping"] ["self", "is_dropping"] (defScope sx_Runner_stands) := ⟨rfl, rfl, rfl, by decide +kernel, rfl, by decide +kernel, by decide +kernel⟩
theorem ok_Runner_stands (T : Tx K mg) : Fok P w K mg base 5 ("Runner", some "stands") ["self", "is_dropping"] (sb_Runner_stands K) := by
  obtain ⟨fd, F⟩ := T.d_Runner_stands
  refine fok_mk F sc_Runner_stands len_Runner_stands (fun _ _ _ _ _ _ us hl => match us, hl with | [_, _], _ => rfl) (fun cdv A outer s H E hr => ⟨t_Runner_stands K E, ?_, fun vs b k ke h hE => p_Runner_stands h hE⟩)
  exact (pss_one (ps_ret (pe_me (ok_World_is_on_floor T) T.cl_World T.me_World_is_on_floor hr px (pe_fld (pv 0) rfl) (pa_cons (pe_fld (pv 0) rfl) (pa_cons (pe_fld (pv 0) rfl) (pa_cons (pe_fld (pv 0) rfl) (pa_cons (pv 1) pa_nil)))))))
theorem sc_Runner_go_down : FnScope ["self", "is_dropping", "by", "step", "is_stopped"] ["self", "is_dropping"] (defScope sx_Runner_go_down) := ⟨rfl, rfl, rfl, by decide +kernel, rfl, by decide +kernel, by decide +kernel⟩
theorem ok_Runner_go_down (T : Tx K mg) : Fok P w K mg base 6 ("Runner", some "go_down") ["self", "is_dropping"] (sb_Runner_go_down K) := by
  obtain ⟨fd, F⟩ := T.d_Runner_go_down
  refine fok_mk F sc_Runner_go_down len_Runner_go_down (fun _ _ _ _ _ _ us hl => match us, hl with | [_, _], _ => rfl) (fun cdv A outer s H E hr => ⟨t_Runner_go_down K E, ?_, fun vs b k ke h hE => p_Runner_go_down h hE⟩)
  exact (pss_cons (ps_set (i := 2) sc_Runner_go_down.nd rfl (by first | exact Or.inl rfl | exact Or.inr rfl) (pe_ifExp (pt_cmpR op_gt (pe_fld (pv 0) rfl) pe_int (by rfl)) pe_int (pe_un un_neg pe_int))) (pss_one (ps_for pso rfl (pi_range1 (by rfl) T.b_range (pa_cons (pe_callB call_abs (by rfl) T.b_abs (by decide +kernel) (pa_cons (pe_fld (pv 0) rfl) pa_nil)) pa_nil)) (pg_name (i := 3) sc_Runner_go_down.nd rfl (by first | exact Or.inl rfl | exact Or.inr rfl)) (pss_cons (ps_set (i := 4) sc_Runner_go_down.nd rfl (by first | exact Or.inl rfl | exact Or.inr rfl) (pe_ifExp (pt_cmpR op_gt (pv 2) pe_int (by rfl)) (pe_me (ok_Runner_stands T) T.cl_Runner T.me_Runner_stands hr px (pv 0) (pa_cons (pv 1) pa_nil)) (pe_not (pe_me (ok_World_is_free T) T.cl_World T.me_World_is_free hr px (pe_fld (pv 0) rfl) (pa_cons (pe_fld (pv 0) rfl) (pa_cons (pe_op op_subU (pe_fld (pv 0) rfl) pe_int) pa_nil)))))) (pss_cons (ps_if (pt_val (pv 4)) (pss_cons (ps_fld (pv 0) pe_int rfl) (pss_one ps_retN)) pss_nil) (pss_one (ps_fld (pv 0) (pe_op op_addU (pe_fld (pv 0) rfl) (pv 2)) rfl)))))))
theorem sc_Runner_step_down : FnScope ["self"] ["self"] (defScope sx_Runner_step_down) := ⟨rfl, rfl, rfl, by decide +kernel, rfl, by decide +kernel, by decide +kernel⟩
theorem ok_Runner_step_down (T : Tx K mg) : Fok P w K mg base 5 ("Runner", some "step_down") ["self"] (sb_Runner_step_down K) := by
  obtain ⟨fd, F⟩ := T.d_Runner_step_down
  refine fok_mk F sc_Runner_step_down len_Runner_step_down (fun _ _ _ _ _ _ us hl => match us, hl with | [_], _ => rfl) (fun cdv A outer s H E hr => ⟨t_Runner_step_down K E, ?_, fun vs b k ke h hE => p_Runner_step_down h hE⟩)
  exact (pss_one (ps_if (pt_val (pe_me (ok_World_is_on_floor T) T.cl_World T.me_World_is_on_floor hr px (pe_fld (pv 0) rfl) (pa_cons (pe_fld (pv 0) rfl) (pa_cons (pe_op op_addU (pe_fld (pv 0) rfl) pe_int) (pa_cons (pe_fld (pv 0) rfl) (pa_cons pe_bl pa_nil)))))) (pss_one (ps_fld (pv 0) (pe_op op_addU (pe_fld (pv 0) rfl) pe_int) rfl)) pss_nil))
theorem sc_Runner_step_across : FnScope ["self", "by", "was_standing"] ["self", "by"] (defScope sx_Runner_step_across) := ⟨rfl, rfl, rfl, by decide +kernel, rfl, by decide +kernel, by decide +kernel⟩
theorem ok_Runner_step_across (T : Tx K mg) : Fok P w K mg base 6 ("Runner", some "step_across") ["self", "by"] (sb_Runner_step_across K) := by
  obtain ⟨fd, F⟩ := T.d_Runner_step_across
  refine fok_mk F sc_Runner_step_across len_Runner_step_across (fun _ _ _ _ _ _ us hl => match us, hl with | [_, _], _ => rfl) (fun cdv A outer s H E hr => ⟨t_Runner_step_across K E, ?_, fun vs b k ke h hE => p_Runner_step_across h hE⟩)
  exact (pss_cons (ps_set (i := 2) sc_Runner_step_across.nd rfl (by first | exact Or.inl rfl | exact Or.inr rfl) (pe_me (ok_Runner_stands T) T.cl_Runner T.me_Runner_stands hr px (pv 0) (pa_cons pe_bl pa_nil))) (pss_cons (ps_if (pt_val (pe_me (ok_World_is_free T) T.cl_World T.me_World_is_free hr px (pe_fld (pv 0) rfl) (pa_cons (pe_op op_addU (pe_fld (pv 0) rfl) (pv 1)) (pa_cons (pe_fld (pv 0) rfl) pa_nil)))) (pss_cons (ps_fld (pv 0) (pe_op op_addU (pe_fld (pv 0) rfl) (pv 1)) rfl) (pss_cons (ps_if (PW.pt (pw_and (pt_val (pv 2)) (pw_and (pt_cmpR op_ge (pe_fld (pv 0) rfl) pe_int (by rfl)) (pw_and1 (pt_not (pt_val (pe_me (ok_Runner_stands T) T.cl_Runner T.me_Runner_stands hr px (pv 0) (pa_cons pe_bl pa_nil)))))))) (pss_one (ps_expr (pe_me0 (ok_Runner_step_down T) T.cl_Runner T.me_Runner_step_down hr px (pv 0)))) pss_nil) (pss_one (ps_ret pe_bl)))) pss_nil) (pss_cons (ps_if (PW.pt (pw_and (pt_val (pv 2)) (pw_and1 (pt_val (pe_me (ok_World_is_free T) T.cl_World T.me_World_is_free hr px (pe_fld (pv 0) rfl) (pa_cons (pe_op op_addU (pe_fld (pv 0) rfl) (pv 1)) (pa_cons (pe_op op_subU (pe_fld (pv 0) rfl) pe_int) pa_nil))))))) (pss_cons (ps_asg (pe_tup (pa_cons (pe_op op_addU (pe_fld (pv 0) rfl) (pv 1)) (pa_cons (pe_op op_subU (pe_fld (pv 0) rfl) pe_int) pa_nil))) (pg_tup rfl (pgs_cons (pg_fld (pv 0)) (pgs_cons (pg_fld (pv 0)) pgs_nil)))) (pss_one (ps_ret pe_bl))) pss_nil) (pss_one (ps_ret pe_bl)))))
theorem sc_Runner_go_across : FnScope ["self", "by", "step"] ["self"] (defScope sx_Runner_go_across) := ⟨rfl, rfl, rfl, by decide +kernel, rfl, by decide +kernel, by decide +kernel⟩
theorem ok_Runner_go_across (T : Tx K mg) : Fok P w K mg base 7 ("Runner", some "go_across") ["self"] (sb_Runner_go_across K) := by
  obtain ⟨fd, F⟩ := T.d_Runner_go_across
  refine fok_mk F sc_Runner_go_across len_Runner_go_across (fun _ _ _ _ _ _ us hl => match us, hl with | [_], _ => rfl) (fun cdv A outer s H E hr => ⟨t_Runner_go_across K E, ?_, fun vs b k ke h hE => p_Runner_go_across h hE⟩)
  exact (pss_cons (ps_set (i := 1) sc_Runner_go_across.nd rfl (by first | exact Or.inl rfl | exact Or.inr rfl) (pe_ifExp (pt_cmpR op_gt (pe_fld (pv 0) rfl) pe_int (by rfl)) pe_int (pe_un un_neg pe_int))) (pss_one (ps_for pso rfl (pi_range1 (by rfl) T.b_range (pa_cons (pe_callB call_abs (by rfl) T.b_abs (by decide +kernel) (pa_cons (pe_fld (pv 0) rfl) pa_nil)) pa_nil)) (pg_name (i := 2) sc_Runner_go_across.nd rfl (by first | exact Or.inl rfl | exact Or.inr rfl)) (pss_one (ps_if (pt_not (pt_val (pe_me (ok_Runner_step_across T) T.cl_Runner T.me_Runner_step_across hr px (pv 0) (pa_cons (pv 1) pa_nil)))) (pss_cons (ps_fld (pv 0) pe_int rfl) (pss_one ps_retN)) pss_nil)))))
theorem sc_Runner_leap : FnScope ["self", "keys"] ["self", "keys"] (defScope sx_Runner_leap) := ⟨rfl, rfl, rfl, by decide +kernel, rfl, by decide +kernel, by decide +kernel⟩
theorem ok_Runner_leap (T : Tx K mg) : Fok P w K mg base 6 ("Runner", some "leap") ["self", "keys"] (sb_Runner_leap K) := by
  obtain ⟨fd, F⟩ := T.d_Runner_leap
  refine fok_mk F sc_Runner_leap len_Runner_leap (fun _ _ _ _ _ _ us hl => match us, hl with | [_, _], _ => rfl) (fun cdv A outer s H E hr => ⟨t_Runner_leap K E, ?_, fun vs b k ke h hE => p_Runner_leap h hE⟩)
  exact (pss_one (ps_if (PW.pt (pw_and (pt_val (pe_me (ok_Runner_stands T) T.cl_Runner T.me_Runner_stands hr px (pv 0) (pa_cons (pe_cmpR op_inU pe_str (pv 1) (by rfl)) pa_nil))) (pw_and1 (pt_cmpR op_ge (pe_fld (pv 0) rfl) pe_int (by rfl))))) (pss_one (ps_fld (pv 0) (pe_ifExp (PW.pt (pw_and (pt_cmpR op_inU pe_str (pv 1) (by rfl)) (pw_and1 (pt_not (pt_val (pe_fld (pv 0) rfl)))))) (pe_op op_subU pe_int (pe_ci rfl T.c_JUMP)) pe_int) rfl)) (pss_one (ps_fld (pv 0) (pe_callB (call_min2 rfl) (by rfl) T.b_min (by decide +kernel) (pa_cons (pe_ci rfl T.c_FALLING) (pa_cons (pe_op op_addU (pe_fld (pv 0) rfl) pe_int) pa_nil))) rfl))))
theorem sc_Runner_speed_up : FnScope ["self", "keys", "by"] ["self", "keys"] (defScope sx_Runner_speed_up) := ⟨rfl, rfl, rfl, by decide +kernel, rfl, by decide +kernel, by decide +kernel⟩
theorem ok_Runner_speed_up (T : Tx K mg) : Fok P w K mg base 1 ("Runner", some "speed_up") ["self", "keys"] (sb_Runner_speed_up K) := by
  obtain ⟨fd, F⟩ := T.d_Runner_speed_up
  refine fok_mk F sc_Runner_speed_up len_Runner_speed_up (fun _ _ _ _ _ _ us hl => match us, hl with | [_, _], _ => rfl) (fun cdv A outer s H E hr => ⟨t_Runner_speed_up K E, ?_, fun vs b k ke h hE => p_Runner_speed_up h hE⟩)
  exact (pss_cons (ps_set (i := 2) sc_Runner_speed_up.nd rfl (by first | exact Or.inl rfl | exact Or.inr rfl) (pe_op op_subU (pe_callTy call_int1 (by rfl) T.b_int (by decide +kernel) (pa_cons (pe_cmpR op_inU pe_str (pv 1) (by rfl)) pa_nil)) (pe_callTy call_int1 (by rfl) T.b_int (by decide +kernel) (pa_cons (pe_cmpR op_inU pe_str (pv 1) (by rfl)) pa_nil)))) (pss_cons (ps_if (pt_cmpR (op_eqU (hu64 hr)) (pv 2) pe_int (by rfl)) (pss_one (ps_set (i := 2) sc_Runner_speed_up.nd rfl (by first | exact Or.inl rfl | exact Or.inr rfl) (pe_op op_subU (pe_callTy call_int1 (by rfl) T.b_int (by decide +kernel) (pa_cons (pe_cmpR op_lt (pe_fld (pv 0) rfl) pe_int (by rfl)) pa_nil)) (pe_callTy call_int1 (by rfl) T.b_int (by decide +kernel) (pa_cons (pe_cmpR op_gt (pe_fld (pv 0) rfl) pe_int (by rfl)) pa_nil))))) pss_nil) (pss_one (ps_fld (pv 0) (pe_callB (call_max2 rfl) (by rfl) T.b_max (by decide +kernel) (pa_cons (pe_op op_subU pe_int (pe_ci rfl T.c_FASTEST)) (pa_cons (pe_callB (call_min2 rfl) (by rfl) T.b_min (by decide +kernel) (pa_cons (pe_ci rfl T.c_FASTEST) (pa_cons (pe_op op_addU (pe_fld (pv 0) rfl) (pv 2)) pa_nil))) pa_nil))) rfl))))
theorem sc_Runner_be_carried : FnScope ["self", "ways", "under", "mine", "row", "left", "top", "lift"] ["self"] (defScope sx_Runner_be_carried) := ⟨rfl, rfl, rfl, by decide +kernel, rfl, by decide +kernel, by decide +kernel⟩
theorem ok_Runner_be_carried (T : Tx K mg) : Fok P w K mg base 4 ("Runner", some "be_carried") ["self"] (sb_Runner_be_carried K) := by
  obtain ⟨fd, F⟩ := T.d_Runner_be_carried
  refine fok_mk F sc_Runner_be_carried len_Runner_be_carried (fun _ _ _ _ _ _ us hl => match us, hl with | [_], _ => rfl) (fun cdv A outer s H E hr => ⟨t_Runner_be_carried K E, ?_, fun vs b k ke h hE => p_Runner_be_carried h hE⟩)
  exact (pss_cons (ps_setLc (i := 1) (own := [("lift", 7)]) (g := (gName 7)) (tt := tYes) rfl sc_Runner_be_carried.nd rfl rfl (sw_true rfl rfl rfl (by decide +kernel)) (pi_list (pe_fld (pe_fld (pv 0) rfl) rfl)) (blkOk_by (own := [("lift", 7)]) (N := ["self", "ways", "under", "mine", "row", "left", "top", "lift"]) (sc := defScope sx_Runner_be_carried) (by decide +kernel)) (fun _ _ _ _ _ => (pg_name (i := 7) sc_Runner_be_carried.nd rfl (by first | exact Or.inl rfl | exact Or.inr rfl))) (fun _ _ _ _ _ => pts_nil) (fun _ _ _ _ _ => (pe_fn (ok_place T) hr rfl T.g_place pxB (pa_cons (pv 7) (pa_cons (pe_fld (pv 0) rfl) pa_nil))))) (pss_cons (ps_set (i := 2) sc_Runner_be_carried.nd rfl (by first | exact Or.inl rfl | exact Or.inr rfl) (pe_me (ok_World_under T) T.cl_World T.me_World_under hr px (pe_fld (pv 0) rfl) (pa_cons (pe_fld (pv 0) rfl) (pa_cons (pe_fld (pv 0) rfl) (pa_cons (pe_fld (pv 0) rfl) pa_nil))))) (pss_cons (ps_fld (pv 0) (pe_op op_addU (pe_fld (pv 0) rfl) pe_int) rfl) (pss_one (ps_if (pt_cmpR (op_neU (hu64 hr)) (pv 2) (pe_lst pa_nil) (by rfl)) (pss_cons (ps_asg (pe_fn (ok_place T) hr rfl T.g_place px (pa_cons (pe_ix ix_seq (pe_fld (pe_fld (pv 0) rfl) rfl) (pe_ix ix_seq (pv 2) pe_int (fun _ _ => rfl)) (fun _ _ => rfl)) (pa_cons (pe_fld (pv 0) rfl) pa_nil))) (pg_tup rfl (pgs_cons (pg_name (i := 3) sc_Runner_be_carried.nd rfl (by first | exact Or.inl rfl | exact Or.inr rfl)) (pgs_cons (pg_name (i := 4) sc_Runner_be_carried.nd rfl (by first | exact Or.inl rfl | exact Or.inr rfl)) pgs_nil)))) (pss_cons (ps_par rfl sc_Runner_be_carried.nd (i := 5) (j := 6) rfl rfl (by decide) rfl rfl (pa_cons (pe_op op_subU (pe_op op_addU (pe_fld (pv 0) rfl) (pv 3)) (pe_ix ix_seq (pe_ix ix_seq (pv 1) (pe_ix ix_seq (pv 2) pe_int (fun _ _ => rfl)) (fun _ _ => rfl)) pe_int (fun _ _ => rfl))) (pa_cons (pe_op op_subU (pe_op op_addU (pe_fld (pv 0) rfl) (pv 4)) (pe_ix ix_seq (pe_ix ix_seq (pv 1) (pe_ix ix_seq (pv 2) pe_int (fun _ _ => rfl)) (fun _ _ => rfl)) pe_int (fun _ _ => rfl))) pa_nil)) (by rfl)) (pss_one (ps_if (pt_val (pe_me (ok_World_is_free T) T.cl_World T.me_World_is_free hr px (pe_fld (pv 0) rfl) (pa_cons (pv 5) (pa_cons (pv 6) pa_nil)))) (pss_one (ps_asg (pe_tup (pa_cons (pv 5) (pa_cons (pv 6) pa_nil))) (pg_tup rfl (pgs_cons (pg_fld (pv 0)) (pgs_cons (pg_fld (pv 0)) pgs_nil))))) pss_nil)))) pss_nil)))))
theorem sc_need_keys : FnScope ["keys", "good", "key"] ["keys"] (defScope sx_need_keys) := ⟨rfl, rfl, rfl, by decide +kernel, rfl, by decide +kernel, by decide +kernel⟩
theorem ok_need_keys (T : Tx K mg) : Fok P w K mg base 1 ("need_keys", none) ["keys"] (sb_need_keys K) := by
  obtain ⟨fd, F⟩ := T.d_need_keys
  refine fok_mk F sc_need_keys len_need_keys (fun _ _ _ _ _ _ us hl => match us, hl with | [_], _ => rfl) (fun cdv A outer s H E hr => ⟨t_need_keys K E, ?_, fun vs b k ke h hE => p_need_keys h hE⟩)
  exact (pss_cons (ps_set (i := 1) sc_need_keys.nd rfl (by first | exact Or.inl rfl | exact Or.inr rfl) (pe_and (pe_callB call_isi (by rfl) T.b_isinstance (by decide +kernel) (pa_cons (pv 0) (pa_cons (pe_bltn (v := .ty "str") (by rfl) T.b_str (by decide +kernel) rfl) pa_nil))) (pe_one (pe_callB (cr_all rfl) (by rfl) T.b_all (by decide +kernel) (pa_cons (pe_lc (own := [("key", 2)]) (g := (gName 2)) (tt := tYes) rfl sc_need_keys.nd (pi_str (pv 0)) (blkOk_by (own := [("key", 2)]) (N := ["keys", "good", "key"]) (sc := defScope sx_need_keys) (by decide +kernel)) (fun _ _ _ _ _ => (pg_name (i := 2) sc_need_keys.nd rfl (by first | exact Or.inl rfl | exact Or.inr rfl))) (fun _ _ _ _ _ => pts_nil) (fun _ _ _ _ _ => (pe_cmpR op_inU (pv 2) (pe_cs rfl T.c_KEYS) (by rfl)))) pa_nil))))) (pss_one (ps_if (PW.pt (pw_or (pt_not (pt_val (pv 1))) (pw_or1 (pt_cmpR (op_neU (hu64 hr)) (pe_callTy call_listU (by rfl) T.b_list (by decide +kernel) (pa_cons (pv 0) pa_nil)) (pe_lc (own := [("key", 2)]) (g := (gName 2)) (tt := (tTest (tOp (rInU K) (tVar 2) (tVar 0)))) rfl sc_need_keys.nd (pi_str (pe_cs rfl T.c_KEYS)) (blkOk_by (own := [("key", 2)]) (N := ["keys", "good", "key"]) (sc := defScope sx_need_keys) (by decide +kernel)) (fun _ _ _ _ _ => (pg_name (i := 2) sc_need_keys.nd rfl (by first | exact Or.inl rfl | exact Or.inr rfl))) (fun _ _ _ _ _ => (pts_one (pt_cmpR op_inU (pv 2) (pv 0) (by rfl)))) (fun _ _ _ _ _ => (pv 2))) (by rfl))))) (pss_one (L2N.ps_raise rfl tko (L2N.pmk_own PySem.F.excBase_ValueError (He.exc_ok T.ex_BadKeys).1 T.g_BadKeys (He.exc_ok T.ex_BadKeys).2.1 (raises_own (He.exc_ok T.ex_BadKeys).2.2.1 (He.exc_ok T.ex_BadKeys).2.2.2) (by exact rfl)))) pss_nil)))
theorem sc_Runner_tick : FnScope ["self", "keys"] ["self", "keys"] (defScope sx_Runner_tick) := ⟨rfl, rfl, rfl, by decide +kernel, rfl, by decide +kernel, by decide +kernel⟩
theorem ok_Runner_tick (T : Tx K mg) : Fok P w K mg base 8 ("Runner", some "tick") ["self", "keys"] (sb_Runner_tick K) := by
  obtain ⟨fd, F⟩ := T.d_Runner_tick
  refine fok_mk F sc_Runner_tick len_Runner_tick (fun _ _ _ _ _ _ us hl => match us, hl with | [_, _], _ => rfl) (fun cdv A outer s H E hr => ⟨t_Runner_tick K E, ?_, fun vs b k ke h hE => p_Runner_tick h hE⟩)
  exact (pss_cons (ps_expr (pe_fn (ok_need_keys T) hr rfl T.g_need_keys px (pa_cons (pv 1) pa_nil))) (pss_cons (ps_expr (pe_me0 (ok_Runner_be_carried T) T.cl_Runner T.me_Runner_be_carried hr px (pv 0))) (pss_cons (ps_expr (pe_me (ok_Runner_speed_up T) T.cl_Runner T.me_Runner_speed_up hr px (pv 0) (pa_cons (pv 1) pa_nil))) (pss_cons (ps_expr (pe_me (ok_Runner_leap T) T.cl_Runner T.me_Runner_leap hr px (pv 0) (pa_cons (pv 1) pa_nil))) (pss_cons (ps_expr (pe_me0 (ok_Runner_go_across T) T.cl_Runner T.me_Runner_go_across hr px (pv 0))) (pss_cons (ps_expr (pe_me (ok_Runner_go_down T) T.cl_Runner T.me_Runner_go_down hr px (pv 0) (pa_cons (pe_cmpR op_inU pe_str (pv 1) (by rfl)) pa_nil))) (pss_one (ps_fld (pv 0) (pe_cmpR op_inU pe_str (pv 1) (by rfl)) rfl))))))))
theorem sc_Course_go : FnScope ["self", "keys"] ["self", "keys"] (defScope sx_Course_go) := ⟨rfl, rfl, rfl, by decide +kernel, rfl, by decide +kernel, by decide +kernel⟩
theorem ok_Course_go (T : Tx K mg) : Fok P w K mg base 9 ("Course", some "go") ["self", "keys"] (sb_Course_go K) := by
  obtain ⟨fd, F⟩ := T.d_Course_go
  refine fok_mk F sc_Course_go len_Course_go (fun _ _ _ _ _ _ us hl => match us, hl with | [_, _], _ => rfl) (fun cdv A outer s H E hr => ⟨t_Course_go K E, ?_, fun vs b k ke h hE => p_Course_go h hE⟩)
  exact (pss_cons (ps_expr (pe_me (ok_Runner_tick T) T.cl_Runner T.me_Runner_tick hr px (pe_fld (pv 0) rfl) (pa_cons (pv 1) pa_nil))) (pss_cons (ps_expr (pe_bm PySem.F.plainAttrs_list PySem.F.slot_list_append PySem.F.type_list_append mt_append (pe_fld (pv 0) rfl) (pa_cons (pv 1) pa_nil))) (pss_one (ps_ret (pe_me0 (ok_Course_look T) T.cl_Course T.me_Course_look hr px (pv 0))))))
theorem sc_Course_tick : FnScope ["self", "keys"] ["self", "keys"] (defScope sx_Course_tick) := ⟨rfl, rfl, rfl, by decide +kernel, rfl, by decide +kernel, by decide +kernel⟩
theorem ok_Course_tick (T : Tx K mg) : Fok P w K mg base 10 ("Course", some "tick") ["self", "keys"] (sb_Course_tick K) := by
  obtain ⟨fd, F⟩ := T.d_Course_tick
  refine fok_mk F sc_Course_tick len_Course_tick (fun _ _ _ _ _ _ us hl => match us, hl with | [_, _], _ => rfl) (fun cdv A outer s H E hr => ⟨t_Course_tick K E, ?_, fun vs b k ke h hE => p_Course_tick h hE⟩)
  exact (pss_cons (ps_expr (pe_fn (ok_need_keys T) hr rfl T.g_need_keys px (pa_cons (pv 1) pa_nil))) (pss_cons (ps_fld (pv 0) (pe_lst pa_nil) rfl) (pss_one (ps_ret (pe_me (ok_Course_go T) T.cl_Course T.me_Course_go hr px (pv 0) (pa_cons (pv 1) pa_nil))))))
theorem sc_is_count : FnScope ["thing", "low", "high"] ["thing", "low", "high"] (defScope sx_is_count) := ⟨rfl, rfl, rfl, by decide +kernel, rfl, by decide +kernel, by decide +kernel⟩
theorem ok_is_count (T : Tx K mg) : Fok P w K mg base 1 ("is_count", none) ["thing", "low", "high"] (sb_is_count K) := by
  obtain ⟨fd, F⟩ := T.d_is_count
  refine fok_mk F sc_is_count len_is_count (fun _ _ _ _ _ _ us hl => match us, hl with | [_, _, _], _ => rfl) (fun cdv A outer s H E hr => ⟨t_is_count K E, ?_, fun vs b k ke h hE => p_is_count h hE⟩)
  exact (pss_one (ps_ret (pe_and (pe_callB call_isi (by rfl) T.b_isinstance (by decide +kernel) (pa_cons (pv 0) (pa_cons (pe_bltn (v := .ty "int") (by rfl) T.b_int (by decide +kernel) rfl) pa_nil))) (pe_and (pe_not (pe_callB call_isi (by rfl) T.b_isinstance (by decide +kernel) (pa_cons (pv 0) (pa_cons (pe_bltn (v := .ty "bool") (by rfl) T.b_bool (by decide +kernel) rfl) pa_nil)))) (pe_one (pe_chain op_le op_le (pv 1) (pv 0) (pv 2)))))))
theorem sc_is_unit : FnScope ["thing", "one"] ["thing"] (defScope sx_is_unit) := ⟨rfl, rfl, rfl, by decide +kernel, rfl, by decide +kernel, by decide +kernel⟩
theorem ok_is_unit (T : Tx K mg) : Fok P w K mg base 2 ("is_unit", none) ["thing"] (sb_is_unit K) := by
  obtain ⟨fd, F⟩ := T.d_is_unit
  refine fok_mk F sc_is_unit len_is_unit (fun _ _ _ _ _ _ us hl => match us, hl with | [_], _ => rfl) (fun cdv A outer s H E hr => ⟨t_is_unit K E, ?_, fun vs b k ke h hE => p_is_unit h hE⟩)
  exact (pss_one (ps_ret (pe_and (pe_callB call_isi (by rfl) T.b_isinstance (by decide +kernel) (pa_cons (pv 0) (pa_cons (pe_bltn (v := .ty "tuple") (by rfl) T.b_tuple (by decide +kernel) rfl) pa_nil))) (pe_and (pe_cmpR (op_eqU (hu64 hr)) (pe_callB call_len (by rfl) T.b_len (by decide +kernel) (pa_cons (pv 0) pa_nil)) pe_int (by rfl)) (pe_one (pe_callB (cr_all rfl) (by rfl) T.b_all (by decide +kernel) (pa_cons (pe_lc (own := [("one", 1)]) (g := (gName 1)) (tt := tYes) rfl sc_is_unit.nd (pi_tup (pv 0)) (blkOk_by (own := [("one", 1)]) (N := ["thing", "one"]) (sc := defScope sx_is_unit) (by decide +kernel)) (fun _ _ _ _ _ => (pg_name (i := 1) sc_is_unit.nd rfl (by first | exact Or.inl rfl | exact Or.inr rfl))) (fun _ _ _ _ _ => pts_nil) (fun _ _ _ _ _ => (pe_fn (ok_is_count T) hr rfl T.g_is_count pxB (pa_cons (pv 1) (pa_cons (pe_op op_subU pe_int (pe_ci rfl T.c_MOST_worlds)) (pa_cons (pe_ci rfl T.c_MOST_worlds) pa_nil)))))) pa_nil)))))))
theorem sc_World_need_place : FnScope ["self", "left", "top", "good"] ["self", "left", "top"] (defScope sx_World_need_place) := ⟨rfl, rfl, rfl, by decide +kernel, rfl, by decide +kernel, by decide +kernel⟩
theorem ok_World_need_place (T : Tx K mg) : Fok P w K mg base 4 ("World", some "need_place") ["self", "left", "top"] (sb_World_need_place K) := by
  obtain ⟨fd, F⟩ := T.d_World_need_place
  refine fok_mk F sc_World_need_place len_World_need_place (fun _ _ _ _ _ _ us hl => match us, hl with | [_, _, _], _ => rfl) (fun cdv A outer s H E hr => ⟨t_World_need_place K E, ?_, fun vs b k ke h hE => p_World_need_place h hE⟩)
  exact (pss_cons (ps_set (i := 3) sc_World_need_place.nd rfl (by first | exact Or.inl rfl | exact Or.inr rfl) (pe_and (pe_fn (ok_is_count T) hr rfl T.g_is_count px (pa_cons (pv 1) (pa_cons (pe_op op_subU pe_int (pe_ci rfl T.c_MOST_worlds)) (pa_cons (pe_ci rfl T.c_MOST_worlds) pa_nil)))) (pe_one (pe_fn (ok_is_count T) hr rfl T.g_is_count px (pa_cons (pv 2) (pa_cons (pe_op op_subU pe_int (pe_ci rfl T.c_MOST_worlds)) (pa_cons (pe_ci rfl T.c_MOST_worlds) pa_nil))))))) (pss_one (ps_if (PW.pt (pw_or (pt_not (pt_val (pv 3))) (pw_or1 (pt_not (pt_val (pe_me (ok_World_is_free T) T.cl_World T.me_World_is_free hr px (pv 0) (pa_cons (pv 1) (pa_cons (pv 2) pa_nil)))))))) (pss_one (L2N.ps_raise rfl tko (L2N.pmk_own PySem.F.excBase_ValueError (He.exc_ok T.ex_BadPlace).1 T.g_BadPlace (He.exc_ok T.ex_BadPlace).2.1 (raises_own (He.exc_ok T.ex_BadPlace).2.2.1 (He.exc_ok T.ex_BadPlace).2.2.2) (by exact rfl)))) pss_nil)))
theorem sc_Runner___init__ : FnScope ["self", "world", "left", "top"] ["self", "world", "left", "top"] (defScope sx_Runner___init__) := ⟨rfl, rfl, rfl, by decide +kernel, rfl, by decide +kernel, by decide +kernel⟩
theorem ok_Runner___init__ (T : Tx K mg) : Fok P w K mg base 5 ("Runner", some "__init__") ["self", "world", "left", "top"] (sb_Runner___init__ K) := by
  obtain ⟨fd, F⟩ := T.d_Runner___init__
  refine fok_mk F sc_Runner___init__ len_Runner___init__ (fun _ _ _ _ _ _ us hl => match us, hl with | [_, _, _, _], _ => rfl) (fun cdv A outer s H E hr => ⟨t_Runner___init__ K E, ?_, fun vs b k ke h hE => p_Runner___init__ h hE⟩)
  exact (pss_cons (ps_expr (pe_me (ok_World_need_place T) T.cl_World T.me_World_need_place hr px (pv 1) (pa_cons (pv 2) (pa_cons (pv 3) pa_nil)))) (pss_cons (ps_fld (pv 0) (pv 1) rfl) (pss_cons (ps_fld (pv 0) pe_int rfl) (pss_cons (ps_fld (pv 0) (pv 2) rfl) (pss_cons (ps_fld (pv 0) (pv 3) rfl) (pss_cons (ps_fld (pv 0) pe_int rfl) (pss_cons (ps_fld (pv 0) pe_int rfl) (pss_one (ps_fld (pv 0) pe_bl rfl)))))))))
theorem sc_Course___init__ : FnScope ["self", "world", "left", "top", "things", "goal", "good", "one"] ["self", "world", "left", "top", "things", "goal"] (defScope sx_Course___init__) := ⟨rfl, rfl, rfl, by decide +kernel, rfl, by decide +kernel, by decide +kernel⟩
theorem ok_Course___init__ (T : Tx K mg) : Fok P w K mg base 7 ("Course", some "__init__") ["self", "world", "left", "top", "things", "goal"] (sb_Course___init__ K) := by
  obtain ⟨fd, F⟩ := T.d_Course___init__
  refine fok_mk F sc_Course___init__ len_Course___init__ (fun _ _ _ _ _ _ us hl => match us, hl with | [_, _, _, _, _, _], _ => rfl) (fun cdv A outer s H E hr => ⟨t_Course___init__ K E, ?_, fun vs b k ke h hE => p_Course___init__ h hE⟩)
  exact (pss_cons (ps_fld (pv 0) (pe_mk (ok_Runner___init__ T) T.mk_Runner hr rfl T.g_Runner px (pa_cons (pv 1) (pa_cons (pv 2) (pa_cons (pv 3) pa_nil)))) rfl) (pss_cons (ps_set (i := 6) sc_Course___init__.nd rfl (by first | exact Or.inl rfl | exact Or.inr rfl) (pe_and (pe_callB call_isi (by rfl) T.b_isinstance (by decide +kernel) (pa_cons (pv 4) (pa_cons (pe_bltn (v := .ty "list") (by rfl) T.b_list (by decide +kernel) rfl) pa_nil))) (pe_and (pe_cmpR op_le (pe_callB call_len (by rfl) T.b_len (by decide +kernel) (pa_cons (pv 4) pa_nil)) (pe_ci rfl T.c_MOST_THINGS) (by rfl)) (pe_one (pe_callB (cr_all rfl) (by rfl) T.b_all (by decide +kernel) (pa_cons (pe_lc (own := [("one", 7)]) (g := (gName 7)) (tt := tYes) rfl sc_Course___init__.nd (pi_list (pv 4)) (blkOk_by (own := [("one", 7)]) (N := ["self", "world", "left", "top", "things", "goal", "good", "one"]) (sc := defScope sx_Course___init__) (by decide +kernel)) (fun _ _ _ _ _ => (pg_name (i := 7) sc_Course___init__.nd rfl (by first | exact Or.inl rfl | exact Or.inr rfl))) (fun _ _ _ _ _ => pts_nil) (fun _ _ _ _ _ => (pe_fn (ok_is_unit T) hr rfl T.g_is_unit pxB (pa_cons (pv 7) pa_nil)))) pa_nil)))))) (pss_cons (ps_if (PW.pt (pw_or (pt_not (pt_val (pv 6))) (pw_or (pt_cmpR (op_neU (hu64 hr)) (pe_lenSetT rfl (hu64 hr) (by rfl) T.b_len (by rfl) T.b_set (pv 4)) (pe_callB call_len (by rfl) T.b_len (by decide +kernel) (pa_cons (pv 4) pa_nil)) (by rfl)) (pw_or1 (pt_not (pt_val (pe_fn (ok_is_unit T) hr rfl T.g_is_unit px (pa_cons (pv 5) pa_nil)))))))) (pss_one (L2N.ps_raise rfl tko (L2N.pmk_own PySem.F.excBase_ValueError (He.exc_ok T.ex_BadCourse).1 T.g_BadCourse (He.exc_ok T.ex_BadCourse).2.1 (raises_own (He.exc_ok T.ex_BadCourse).2.2.1 (He.exc_ok T.ex_BadCourse).2.2.2) (by exact rfl)))) pss_nil) (pss_cons (ps_fld (pv 0) (pe_tup (pa_cons (pv 1) (pa_cons (pv 2) (pa_cons (pv 3) pa_nil)))) rfl) (pss_cons (ps_fld (pv 0) (pe_callTy call_listU (by rfl) T.b_list (by decide +kernel) (pa_cons (pv 4) pa_nil)) rfl) (pss_cons (ps_fld (pv 0) (pv 5) rfl) (pss_cons (ps_fld (pv 0) (pe_lst pa_nil) rfl) (pss_cons (ps_fld (pv 0) (pe_lst pa_nil) rfl) (pss_cons (ps_fld (pv 0) pe_dnewK rfl) (pss_cons (ps_fld (pv 0) pe_non rfl) (pss_one (ps_expr (pe_me0 (ok_Course_look T) T.cl_Course T.me_Course_look hr px (pv 0))))))))))))))
theorem sc_Runner_is_standing : FnScope ["self"] ["self"] (defScope sx_Runner_is_standing) := ⟨rfl, rfl, rfl, by decide +kernel, rfl, by decide +kernel, by decide +kernel⟩
theorem ok_Runner_is_standing (T : Tx K mg) : Fok P w K mg base 6 ("Runner", some "is_standing") ["self"] (sb_Runner_is_standing K) := by
  obtain ⟨fd, F⟩ := T.d_Runner_is_standing
  refine fok_mk F sc_Runner_is_standing len_Runner_is_standing (fun _ _ _ _ _ _ us hl => match us, hl with | [_], _ => rfl) (fun cdv A outer s H E hr => ⟨t_Runner_is_standing K E, ?_, fun vs b k ke h hE => p_Runner_is_standing h hE⟩)
  exact (pss_one (ps_ret (pe_me (ok_Runner_stands T) T.cl_Runner T.me_Runner_stands hr px (pv 0) (pa_cons pe_bl pa_nil))))
theorem sc_steps : FnScope ["world", "left", "top", "rows", "runner", "keys", "found"] ["world", "left", "top", "rows"] (defScope sx_steps) := ⟨rfl, rfl, rfl, by decide +kernel, rfl, by decide +kernel, by decide +kernel⟩
theorem ok_steps (T : Tx K mg) : Fok P w K mg base 9 ("steps", none) ["world", "left", "top", "rows"] (sb_steps K) := by
  obtain ⟨fd, F⟩ := T.d_steps
  refine fok_mk F sc_steps len_steps (fun _ _ _ _ _ _ us hl => match us, hl with | [_, _, _, _], _ => rfl) (fun cdv A outer s H E hr => ⟨t_steps K E, ?_, fun vs b k ke h hE => p_steps h hE⟩)
  exact (pss_cons (ps_set (i := 4) sc_steps.nd rfl (by first | exact Or.inl rfl | exact Or.inr rfl) (pe_mk (ok_Runner___init__ T) T.mk_Runner hr rfl T.g_Runner px (pa_cons (pv 0) (pa_cons (pv 1) (pa_cons (pv 2) pa_nil))))) (pss_cons (ps_for pso rfl (pi_list (pv 3)) (pg_name (i := 5) sc_steps.nd rfl (by first | exact Or.inl rfl | exact Or.inr rfl)) (pss_one (ps_expr (pe_fn (ok_need_keys T) hr rfl T.g_need_keys px (pa_cons (pv 5) pa_nil))))) (pss_cons (ps_set (i := 6) sc_steps.nd rfl (by first | exact Or.inl rfl | exact Or.inr rfl) (pe_lst (pa_cons (pe_tup (pa_cons (pe_me0 (ok_Runner_at T) T.cl_Runner T.me_Runner_at hr px (pv 4)) (pa_cons (pe_me0 (ok_Runner_is_standing T) T.cl_Runner T.me_Runner_is_standing hr px (pv 4)) pa_nil))) pa_nil))) (pss_cons (ps_for pso rfl (pi_list (pv 3)) (pg_name (i := 5) sc_steps.nd rfl (by first | exact Or.inl rfl | exact Or.inr rfl)) (pss_cons (ps_expr (pe_me (ok_Runner_tick T) T.cl_Runner T.me_Runner_tick hr px (pv 4) (pa_cons (pv 5) pa_nil))) (pss_one (ps_expr (pe_bm PySem.F.plainAttrs_list PySem.F.slot_list_append PySem.F.type_list_append mt_append (pv 6) (pa_cons (pe_tup (pa_cons (pe_me0 (ok_Runner_at T) T.cl_Runner T.me_Runner_at hr px (pv 4)) (pa_cons (pe_me0 (ok_Runner_is_standing T) T.cl_Runner T.me_Runner_is_standing hr px (pv 4)) pa_nil))) pa_nil)))))) (pss_one (ps_ret (pv 6)))))))
theorem sc_apart : FnScope ["world", "left", "top", "one", "other", "many", "first", "second", "at"] ["world", "left", "top", "one", "other"] (defScope sx_apart) := ⟨rfl, rfl, rfl, by decide +kernel, rfl, by decide +kernel, by decide +kernel⟩
theorem ok_apart (T : Tx K mg) : Fok P w K mg base 10 ("apart", none) ["world", "left", "top", "one", "other"] (sb_apart K) := by
  obtain ⟨fd, F⟩ := T.d_apart
  refine fok_mk F sc_apart len_apart (fun _ _ _ _ _ _ us hl => match us, hl with | [_, _, _, _, _], _ => rfl) (fun cdv A outer s H E hr => ⟨t_apart K E, ?_, fun vs b k ke h hE => p_apart h hE⟩)
  exact (pss_cons (ps_set (i := 5) sc_apart.nd rfl (by first | exact Or.inl rfl | exact Or.inr rfl) (pe_callB (call_max2 rfl) (by rfl) T.b_max (by decide +kernel) (pa_cons (pe_callB call_len (by rfl) T.b_len (by decide +kernel) (pa_cons (pv 3) pa_nil)) (pa_cons (pe_callB call_len (by rfl) T.b_len (by decide +kernel) (pa_cons (pv 4) pa_nil)) pa_nil)))) (pss_cons (ps_set (i := 6) sc_apart.nd rfl (by first | exact Or.inl rfl | exact Or.inr rfl) (pe_fn (ok_steps T) hr rfl T.g_steps px (pa_cons (pv 0) (pa_cons (pv 1) (pa_cons (pv 2) (pa_cons (pe_op op_addU (pe_callTy call_listU (by rfl) T.b_list (by decide +kernel) (pa_cons (pv 3) pa_nil)) (pe_op op_mulU (pe_lst (pa_cons pe_str pa_nil)) (pe_op op_subU (pv 5) (pe_callB call_len (by rfl) T.b_len (by decide +kernel) (pa_cons (pv 3) pa_nil))))) pa_nil)))))) (pss_cons (ps_set (i := 7) sc_apart.nd rfl (by first | exact Or.inl rfl | exact Or.inr rfl) (pe_fn (ok_steps T) hr rfl T.g_steps px (pa_cons (pv 0) (pa_cons (pv 1) (pa_cons (pv 2) (pa_cons (pe_op op_addU (pe_callTy call_listU (by rfl) T.b_list (by decide +kernel) (pa_cons (pv 4) pa_nil)) (pe_op op_mulU (pe_lst (pa_cons pe_str pa_nil)) (pe_op op_subU (pv 5) (pe_callB call_len (by rfl) T.b_len (by decide +kernel) (pa_cons (pv 4) pa_nil))))) pa_nil)))))) (pss_cons (ps_for pso rfl (pi_range1 (by rfl) T.b_range (pa_cons (pe_op op_addU (pv 5) pe_int) pa_nil)) (pg_name (i := 8) sc_apart.nd rfl (by first | exact Or.inl rfl | exact Or.inr rfl)) (pss_one (ps_if (pt_cmpR (op_neU (hu64 hr)) (pe_ix ix_seq (pe_ix ix_seq (pv 6) (pv 8) (fun _ _ => rfl)) pe_int (fun _ _ => rfl)) (pe_ix ix_seq (pe_ix ix_seq (pv 7) (pv 8) (fun _ _ => rfl)) pe_int (fun _ _ => rfl)) (by rfl)) (pss_one (ps_ret (pv 8))) pss_nil))) (pss_one (ps_ret pe_non))))))
theorem sc_reach : FnScope ["world", "left", "top", "rows", "row", "lefts", "tops", "place", "stands"] ["world", "left", "top", "rows"] (defScope sx_reach) := ⟨rfl, rfl, rfl, by decide +kernel, rfl, by decide +kernel, by decide +kernel⟩
theorem ok_reach (T : Tx K mg) : Fok P w K mg base 10 ("reach", none) ["world", "left", "top", "rows"] (sb_reach K) := by
  obtain ⟨fd, F⟩ := T.d_reach
  refine fok_mk F sc_reach len_reach (fun _ _ _ _ _ _ us hl => match us, hl with | [_, _, _, _], _ => rfl) (fun cdv A outer s H E hr => ⟨t_reach K E, ?_, fun vs b k ke h hE => p_reach h hE⟩)
  exact (pss_cons (ps_setLc (i := 4) (own := [("place", 7), ("stands", 8)]) (g := (gTup K 2 (gCons (gName 7) (gCons (gName 8) gNil)))) (tt := tYes) rfl sc_reach.nd rfl rfl (sw_true rfl rfl rfl (by decide +kernel)) (pi_list (pe_fn (ok_steps T) hr rfl T.g_steps px (pa_cons (pv 0) (pa_cons (pv 1) (pa_cons (pv 2) (pa_cons (pv 3) pa_nil)))))) (blkOk_by (own := [("place", 7), ("stands", 8)]) (N := ["world", "left", "top", "rows", "row", "lefts", "tops", "place", "stands"]) (sc := defScope sx_reach) (by decide +kernel)) (fun _ _ _ _ _ => (pg_tup rfl (pgs_cons (pg_name (i := 7) sc_reach.nd rfl (by first | exact Or.inl rfl | exact Or.inr rfl)) (pgs_cons (pg_name (i := 8) sc_reach.nd rfl (by first | exact Or.inl rfl | exact Or.inr rfl)) pgs_nil)))) (fun _ _ _ _ _ => pts_nil) (fun _ _ _ _ _ => (pv 7))) (pss_cons (ps_par rfl sc_reach.nd (i := 5) (j := 6) rfl rfl (by decide) rfl rfl (pa_cons (pe_lc (own := [("place", 7)]) (g := (gName 7)) (tt := tYes) rfl sc_reach.nd (pi_list (pv 4)) (blkOk_by (own := [("place", 7)]) (N := ["world", "left", "top", "rows", "row", "lefts", "tops", "place", "stands"]) (sc := defScope sx_reach) (by decide +kernel)) (fun _ _ _ _ _ => (pg_name (i := 7) sc_reach.nd rfl (by first | exact Or.inl rfl | exact Or.inr rfl))) (fun _ _ _ _ _ => pts_nil) (fun _ _ _ _ _ => (pe_ix ix_seq (pv 7) pe_int (fun _ _ => rfl)))) (pa_cons (pe_lc (own := [("place", 7)]) (g := (gName 7)) (tt := tYes) rfl sc_reach.nd (pi_list (pv 4)) (blkOk_by (own := [("place", 7)]) (N := ["world", "left", "top", "rows", "row", "lefts", "tops", "place", "stands"]) (sc := defScope sx_reach) (by decide +kernel)) (fun _ _ _ _ _ => (pg_name (i := 7) sc_reach.nd rfl (by first | exact Or.inl rfl | exact Or.inr rfl))) (fun _ _ _ _ _ => pts_nil) (fun _ _ _ _ _ => (pe_ix ix_seq (pv 7) pe_int (fun _ _ => rfl)))) pa_nil)) (by rfl)) (pss_one (ps_ret (pe_tup (pa_cons (pe_callB (cr_min rfl) (by rfl) T.b_min (by decide +kernel) (pa_cons (pv 5) pa_nil)) (pa_cons (pe_callB (cr_max rfl) (by rfl) T.b_max (by decide +kernel) (pa_cons (pv 5) pa_nil)) (pa_cons (pe_callB (cr_min rfl) (by rfl) T.b_min (by decide +kernel) (pa_cons (pv 6) pa_nil)) (pa_cons (pe_callB (cr_max rfl) (by rfl) T.b_max (by decide +kernel) (pa_cons (pv 6) pa_nil)) pa_nil)))))))))
theorem sc_flights : FnScope ["world", "left", "top", "rows", "row", "found", "begun", "at", "place", "stands", "last", "here", "one"] ["world", "left", "top", "rows"] (defScope sx_flights) := ⟨rfl, rfl, rfl, by decide +kernel, rfl, by decide +kernel, by decide +kernel⟩
theorem ok_flights (T : Tx K mg) : Fok P w K mg base 10 ("flights", none) ["world", "left", "top", "rows"] (sb_flights K) := by
  obtain ⟨fd, F⟩ := T.d_flights
  refine fok_mk F sc_flights len_flights (fun _ _ _ _ _ _ us hl => match us, hl with | [_, _, _, _], _ => rfl) (fun cdv A outer s H E hr => ⟨t_flights K E, ?_, fun vs b k ke h hE => p_flights h hE⟩)
  exact (pss_cons (ps_set (i := 4) sc_flights.nd rfl (by first | exact Or.inl rfl | exact Or.inr rfl) (pe_fn (ok_steps T) hr rfl T.g_steps px (pa_cons (pv 0) (pa_cons (pv 1) (pa_cons (pv 2) (pa_cons (pv 3) pa_nil)))))) (pss_cons (ps_par rfl sc_flights.nd (i := 5) (j := 6) rfl rfl (by decide) rfl rfl (pa_cons (pe_lst pa_nil) (pa_cons pe_non pa_nil)) (by rfl)) (pss_cons (ps_for pso rfl (pi_enum (by rfl) T.b_enumerate (pa_cons (pv 4) pa_nil)) (pg_tup rfl (pgs_cons (pg_name (i := 7) sc_flights.nd rfl (by first | exact Or.inl rfl | exact Or.inr rfl)) (pgs_cons (pg_tup rfl (pgs_cons (pg_name (i := 8) sc_flights.nd rfl (by first | exact Or.inl rfl | exact Or.inr rfl)) (pgs_cons (pg_name (i := 9) sc_flights.nd rfl (by first | exact Or.inl rfl | exact Or.inr rfl)) pgs_nil))) pgs_nil))) (pss_cons (ps_if (PW.pt (pw_and (pt_not (pt_val (pv 9))) (pw_and1 (pt_cmpR op_isN (pv 6) pe_non (by rfl))))) (pss_one (ps_set (i := 6) sc_flights.nd rfl (by first | exact Or.inl rfl | exact Or.inr rfl) (pv 7))) pss_nil) (pss_one (ps_if (PW.pt (pw_and (pt_cmpR op_notN (pv 6) pe_non (by rfl)) (pw_and1 (PW.pt (pw_or (pt_val (pv 9)) (pw_or1 (pt_cmpR (op_eqU (hu64 hr)) (pv 7) (pe_op op_subU (pe_callB call_len (by rfl) T.b_len (by decide +kernel) (pa_cons (pv 4) pa_nil)) pe_int) (by rfl)))))))) (pss_cons (ps_set (i := 10) sc_flights.nd rfl (by first | exact Or.inl rfl | exact Or.inr rfl) (pe_ifExp (pt_val (pv 9)) (pe_op op_subU (pv 7) pe_int) (pv 7))) (pss_cons (ps_setLc (i := 11) (own := [("one", 12)]) (g := (gName 12)) (tt := tYes) rfl sc_flights.nd rfl rfl (sw_true rfl rfl rfl (by decide +kernel)) (pi_list (pe_slice sl_U (pv 4) (po_some (pe_callB (call_max2 rfl) (by rfl) T.b_max (by decide +kernel) (pa_cons pe_int (pa_cons (pe_op op_subU (pv 6) pe_int) pa_nil)))) (po_some (pe_op op_addU (pv 10) pe_int)))) (blkOk_by (own := [("one", 12)]) (N := ["world", "left", "top", "rows", "row", "found", "begun", "at", "place", "stands", "last", "here", "one"]) (sc := defScope sx_flights) (by decide +kernel)) (fun _ _ _ _ _ => (pg_name (i := 12) sc_flights.nd rfl (by first | exact Or.inl rfl | exact Or.inr rfl))) (fun _ _ _ _ _ => pts_nil) (fun _ _ _ _ _ => (pe_ix ix_seq (pe_ix ix_seq (pv 12) pe_int (fun _ _ => rfl)) pe_int (fun _ _ => rfl)))) (pss_cons (ps_expr (pe_bm PySem.F.plainAttrs_list PySem.F.slot_list_append PySem.F.type_list_append mt_append (pv 5) (pa_cons (pe_tup (pa_cons (pv 6) (pa_cons (pv 10) (pa_cons (pe_op op_subU (pe_ix ix_seq (pv 11) pe_int (fun _ _ => rfl)) (pe_callB (cr_min rfl) (by rfl) T.b_min (by decide +kernel) (pa_cons (pv 11) pa_nil))) pa_nil)))) pa_nil))) (pss_one (ps_set (i := 6) sc_flights.nd rfl (by first | exact Or.inl rfl | exact Or.inr rfl) pe_non))))) pss_nil)))) (pss_one (ps_ret (pv 5))))))
theorem sc_landings : FnScope ["world", "left", "top", "rows", "found", "at"] ["world", "left", "top", "rows"] (defScope sx_landings) := ⟨rfl, rfl, rfl, by decide +kernel, rfl, by decide +kernel, by decide +kernel⟩
theorem ok_landings (T : Tx K mg) : Fok P w K mg base 10 ("landings", none) ["world", "left", "top", "rows"] (sb_landings K) := by
  obtain ⟨fd, F⟩ := T.d_landings
  refine fok_mk F sc_landings len_landings (fun _ _ _ _ _ _ us hl => match us, hl with | [_, _, _, _], _ => rfl) (fun cdv A outer s H E hr => ⟨t_landings K E, ?_, fun vs b k ke h hE => p_landings h hE⟩)
  exact (pss_cons (ps_set (i := 4) sc_landings.nd rfl (by first | exact Or.inl rfl | exact Or.inr rfl) (pe_fn (ok_steps T) hr rfl T.g_steps px (pa_cons (pv 0) (pa_cons (pv 1) (pa_cons (pv 2) (pa_cons (pv 3) pa_nil)))))) (pss_one (ps_ret (pe_lc (own := [("at", 5)]) (g := (gName 5)) (tt := (tAnd (tB (tOp (rIx K) (tOp (rIx K) (tVar 4) (tVar 5)) (tC (.int 1)))) (tNot (tB (tOp (rIx K) (tOp (rIx K) (tVar 4) (tOp rSubU (tVar 5) (tC (.int 1)))) (tC (.int 1))))))) rfl sc_landings.nd (pi_range2 (by rfl) T.b_range (pa_cons pe_int (pa_cons (pe_callB call_len (by rfl) T.b_len (by decide +kernel) (pa_cons (pv 4) pa_nil)) pa_nil))) (blkOk_by (own := [("at", 5)]) (N := ["world", "left", "top", "rows", "found", "at"]) (sc := defScope sx_landings) (by decide +kernel)) (fun _ _ _ _ _ => (pg_name (i := 5) sc_landings.nd rfl (by first | exact Or.inl rfl | exact Or.inr rfl))) (fun _ _ _ _ _ => (pts_one (PW.pt (pw_and (pt_val (pe_ix ix_seq (pe_ix ix_seq (pv 4) (pv 5) (fun _ _ => rfl)) pe_int (fun _ _ => rfl))) (pw_and1 (pt_not (pt_val (pe_ix ix_seq (pe_ix ix_seq (pv 4) (pe_op op_subU (pv 5) pe_int) (fun _ _ => rfl)) pe_int (fun _ _ => rfl))))))))) (fun _ _ _ _ _ => (pv 5))))))
theorem sc__law_trails_bad : FnScope ["world", "left", "top", "found", "bad"] ["world"] (defScope sx__law_trails_bad) := ⟨rfl, rfl, rfl, by decide +kernel, rfl, by decide +kernel, by decide +kernel⟩
theorem lam__law_trails_bad {X : Cx} (T : Tx X.K X.mg) (hN : TLok X.K) (TB : LamX.TabB X.base X.mg (He.cT X.K ("_law_trails_bad", none)).1 (He.cT X.K ("_law_trails_bad", none)).2) (hg : Gl X "_law_told") (hcd : X.env.code = .ref (He.cT X.K ("_law_trails_bad", none)).1) (hq : X.env.qual = ("_law_trails_bad" : Str) ++ ".<locals>.") {k : Nat} (hr : Room (k + 2) X.A)
    {params : Arguments} {body : Expr} {scope : Scope} {t : XK → TE} {p lpos pos : Pos} (L : LamX.LamS X.env.scope scope) (hdef : ∀ env : Env, defaultsOf params env = ([], [])) (hbind : ∀ (q : Str) (cl : List (Str × Addr)) (pm cv ctv : Value), bindArgs (PySem.W.kla_fn "<lambda>" q params body scope cl pm cv ctv) ⟨[], []⟩ = pure [])
    (hbody : ∀ (A2 : Around) (outer2 : List Env) (s2 : Shared) (H2 : Hp) (E2 : XK) (f2 c2 : Addr), Room k (A2.deeper (LamX.lamEnv X scope s2.heap.objs.size f2 c2)) → PE (Hx.lamN X A2 outer2 s2 H2 E2 scope f2 c2) body (t E2)) :
    PE X (.Call (.Name "_law_told" p) [.Lambda params body scope lpos] [] pos) (LamX.tLam (TL X.K) (Hx.TTn X.K (He.ga X.K "RunError") (WokN X.K)) t) := by
  obtain ⟨fdg, Fg⟩ := T.d__law_told
  obtain ⟨fdw, Fw⟩ := T.d__law_word
  have bg := FunD.bindsN (ps := ["deed"]) Fg (fun _ _ _ _ _ _ us hl => match us, hl with | [_], _ => rfl)
  have bw := FunD.bindsN (ps := ["e"]) Fw (fun _ _ _ _ _ _ us hl => match us, hl with | [_], _ => rfl)
  obtain ⟨oc, od, dV, kV, doc, pm, an, cdg, ct, osl, ef, lk, hcg, _, _⟩ := Fg.ex
  obtain ⟨oc2, od2, dV2, kV2, doc2, pm2, an2, cdw, ct2, osl2, ef2, lk2, hcw, _, _⟩ := Fw.ex
  subst ef ef2
  refine Hx.pe_lamN (x := "_law_told") (a := "deed") (g := He.fAd X.K ("_law_told", none)) (Ng := ["deed", "e"]) hg T.g__law_told Fg.kp lk hcg bg sc__law_told rfl (.inl rfl) ?_ TB hcd (by rw [hq]; exact tl_mem__law_trails_bad X.K) (by rw [hq]; exact tl_one__law_trails_bad X.K hN) hr L (hdef _) hbind hbody
  exact Hx.told_n (CS := He.ga X.K "RunError") (fw := He.fAd X.K ("_law_word", none)) (Nw := ["e", "flags", "words", "flag"]) rfl T.g_RunError (by decide) (fun _ => rfl) (by decide +kernel) rfl rfl rfl (by decide) (by decide) rfl T.g__law_word (by decide) Fw.kp lk2 hcw sc__law_word bw (fun A outer s H p D w Q hot hz hW hr ht => w__law_word T hot hz hW hr ht)
theorem ok__law_trails_bad (T : Tx K mg) (hN : TLok K) (TB__law_trails_bad : LamX.TabB base mg (He.cT K ("_law_trails_bad", none)).1 (He.cT K ("_law_trails_bad", none)).2) : Fok P w K mg base 13 ("_law_trails_bad", none) ["world"] (sb__law_trails_bad K) := by
  obtain ⟨fd, F⟩ := T.d__law_trails_bad
  refine Hx.fok_mkC F sc__law_trails_bad len__law_trails_bad (fun _ _ _ _ _ _ us hl => match us, hl with | [_], _ => rfl) (fun cdv A outer s H E hcd hr => ⟨t__law_trails_bad K E, ?_, fun vs b k ke h hE => p__law_trails_bad h hE⟩)
  exact (pss_cons (ps_for pso rfl (pi_list (pe_lst (pa_cons (pe_tup (pa_cons (pe_un un_neg pe_int) (pa_cons pe_int pa_nil))) (pa_cons (pe_tup (pa_cons pe_int (pa_cons pe_int pa_nil))) (pa_cons (pe_tup (pa_cons pe_non (pa_cons pe_int pa_nil))) (pa_cons (pe_tup (pa_cons pe_int (pa_cons pe_bl pa_nil))) (pa_cons (pe_tup (pa_cons pe_str (pa_cons pe_int pa_nil))) (pa_cons (pe_tup (pa_cons pe_int (pa_cons pe_int pa_nil))) (pa_cons (pe_tup (pa_cons pe_int (pa_cons (pe_un un_neg pe_int) pa_nil))) pa_nil))))))))) (pg_tup rfl (pgs_cons (pg_name (i := 1) sc__law_trails_bad.nd rfl (by first | exact Or.inl rfl | exact Or.inr rfl)) (pgs_cons (pg_name (i := 2) sc__law_trails_bad.nd rfl (by first | exact Or.inl rfl | exact Or.inr rfl)) pgs_nil))) (pss_cons (ps_set (i := 3) sc__law_trails_bad.nd rfl (by first | exact Or.inl rfl | exact Or.inr rfl) (pe_lst (pa_cons (lam__law_trails_bad T hN TB__law_trails_bad (by rfl) hcd (by rfl) (k := 10) (hr.mono (by decide)) (LamX.lamS_by (by first | decide +kernel | kernel_rfl)) (fun _ => rfl) (fun _ _ _ _ _ => rfl) (fun _ _ _ _ _ _ _ hr => (Hx.pe_fnL (ok_steps T) hr rfl T.g_steps (pa_cons (Hx.pvL 0) (pa_cons (Hx.pvL 1) (pa_cons (Hx.pvL 2) (pa_cons (pe_lst (pa_cons pe_non pa_nil)) pa_nil))))))) pa_nil))) (pss_cons (ps_expr (pe_bm PySem.F.plainAttrs_list PySem.F.slot_list_append PySem.F.type_list_append mt_append (pv 3) (pa_cons (lam__law_trails_bad T hN TB__law_trails_bad (by rfl) hcd (by rfl) (k := 10) (hr.mono (by decide)) (LamX.lamS_by (by first | decide +kernel | kernel_rfl)) (fun _ => rfl) (fun _ _ _ _ _ => rfl) (fun _ _ _ _ _ _ _ hr => (Hx.pe_fnL (ok_landings T) hr rfl T.g_landings (pa_cons (Hx.pvL 0) (pa_cons (Hx.pvL 1) (pa_cons (Hx.pvL 2) (pa_cons (pe_lst (pa_cons pe_non pa_nil)) pa_nil))))))) pa_nil))) (pss_cons (ps_expr (pe_bm PySem.F.plainAttrs_list PySem.F.slot_list_append PySem.F.type_list_append mt_append (pv 3) (pa_cons (lam__law_trails_bad T hN TB__law_trails_bad (by rfl) hcd (by rfl) (k := 10) (hr.mono (by decide)) (LamX.lamS_by (by first | decide +kernel | kernel_rfl)) (fun _ => rfl) (fun _ _ _ _ _ => rfl) (fun _ _ _ _ _ _ _ hr => (Hx.pe_fnL (ok_flights T) hr rfl T.g_flights (pa_cons (Hx.pvL 0) (pa_cons (Hx.pvL 1) (pa_cons (Hx.pvL 2) (pa_cons (pe_lst (pa_cons pe_non pa_nil)) pa_nil))))))) pa_nil))) (pss_cons (ps_expr (pe_bm PySem.F.plainAttrs_list PySem.F.slot_list_append PySem.F.type_list_append mt_append (pv 3) (pa_cons (lam__law_trails_bad T hN TB__law_trails_bad (by rfl) hcd (by rfl) (k := 10) (hr.mono (by decide)) (LamX.lamS_by (by first | decide +kernel | kernel_rfl)) (fun _ => rfl) (fun _ _ _ _ _ => rfl) (fun _ _ _ _ _ _ _ hr => (Hx.pe_fnL (ok_reach T) hr rfl T.g_reach (pa_cons (Hx.pvL 0) (pa_cons (Hx.pvL 1) (pa_cons (Hx.pvL 2) (pa_cons (pe_lst (pa_cons pe_non pa_nil)) pa_nil))))))) pa_nil))) (pss_cons (ps_expr (pe_bm PySem.F.plainAttrs_list PySem.F.slot_list_append PySem.F.type_list_append mt_append (pv 3) (pa_cons (lam__law_trails_bad T hN TB__law_trails_bad (by rfl) hcd (by rfl) (k := 10) (hr.mono (by decide)) (LamX.lamS_by (by first | decide +kernel | kernel_rfl)) (fun _ => rfl) (fun _ _ _ _ _ => rfl) (fun _ _ _ _ _ _ _ hr => (Hx.pe_fnL (ok_apart T) hr rfl T.g_apart (pa_cons (Hx.pvL 0) (pa_cons (Hx.pvL 1) (pa_cons (Hx.pvL 2) (pa_cons (pe_lst (pa_cons pe_non pa_nil)) (pa_cons (pe_lst (pa_cons pe_non pa_nil)) pa_nil)))))))) pa_nil))) (pss_cons (ps_expr (pe_bm PySem.F.plainAttrs_list PySem.F.slot_list_append PySem.F.type_list_append mt_append (pv 3) (pa_cons (lam__law_trails_bad T hN TB__law_trails_bad (by rfl) hcd (by rfl) (k := 10) (hr.mono (by decide)) (LamX.lamS_by (by first | decide +kernel | kernel_rfl)) (fun _ => rfl) (fun _ _ _ _ _ => rfl) (fun _ _ _ _ _ _ _ hr => (Hx.pe_mkL (ok_Course___init__ T) T.mk_Course hr rfl T.g_Course (pa_cons (Hx.pvL 0) (pa_cons (Hx.pvL 1) (pa_cons (Hx.pvL 2) (pa_cons pe_non (pa_cons pe_non pa_nil)))))))) pa_nil))) (pss_one (ps_if (pt_cmpR (op_neU (hu64 hr)) (pv 3) (pe_op op_mulU (pe_lst (pa_cons (pe_tup (pa_cons pe_str (pa_cons pe_str pa_nil))) pa_nil)) pe_int) (by rfl)) (pss_one (ps_ret pe_bl)) pss_nil))))))))) (pss_cons (ps_for pso rfl (pi_list (pe_lst (pa_cons pe_non (pa_cons pe_str (pa_cons pe_str (pa_cons pe_str (pa_cons pe_int (pa_cons (pe_lst (pa_cons pe_str pa_nil)) (pa_cons pe_str pa_nil))))))))) (pg_name (i := 4) sc__law_trails_bad.nd rfl (by first | exact Or.inl rfl | exact Or.inr rfl)) (pss_cons (ps_set (i := 3) sc__law_trails_bad.nd rfl (by first | exact Or.inl rfl | exact Or.inr rfl) (pe_lst (pa_cons (lam__law_trails_bad T hN TB__law_trails_bad (by rfl) hcd (by rfl) (k := 10) (hr.mono (by decide)) (LamX.lamS_by (by first | decide +kernel | kernel_rfl)) (fun _ => rfl) (fun _ _ _ _ _ => rfl) (fun _ _ _ _ _ _ _ hr => (Hx.pe_fnL (ok_steps T) hr rfl T.g_steps (pa_cons (Hx.pvL 0) (pa_cons pe_int (pa_cons pe_int (pa_cons (pe_lst (pa_cons pe_str (pa_cons (Hx.pvL 4) pa_nil))) pa_nil))))))) pa_nil))) (pss_cons (ps_expr (pe_bm PySem.F.plainAttrs_list PySem.F.slot_list_append PySem.F.type_list_append mt_append (pv 3) (pa_cons (lam__law_trails_bad T hN TB__law_trails_bad (by rfl) hcd (by rfl) (k := 10) (hr.mono (by decide)) (LamX.lamS_by (by first | decide +kernel | kernel_rfl)) (fun _ => rfl) (fun _ _ _ _ _ => rfl) (fun _ _ _ _ _ _ _ hr => (Hx.pe_fnL (ok_landings T) hr rfl T.g_landings (pa_cons (Hx.pvL 0) (pa_cons pe_int (pa_cons pe_int (pa_cons (pe_lst (pa_cons (Hx.pvL 4) pa_nil)) pa_nil))))))) pa_nil))) (pss_cons (ps_expr (pe_bm PySem.F.plainAttrs_list PySem.F.slot_list_append PySem.F.type_list_append mt_append (pv 3) (pa_cons (lam__law_trails_bad T hN TB__law_trails_bad (by rfl) hcd (by rfl) (k := 10) (hr.mono (by decide)) (LamX.lamS_by (by first | decide +kernel | kernel_rfl)) (fun _ => rfl) (fun _ _ _ _ _ => rfl) (fun _ _ _ _ _ _ _ hr => (Hx.pe_fnL (ok_flights T) hr rfl T.g_flights (pa_cons (Hx.pvL 0) (pa_cons pe_int (pa_cons pe_int (pa_cons (pe_lst (pa_cons (Hx.pvL 4) pa_nil)) pa_nil))))))) pa_nil))) (pss_cons (ps_expr (pe_bm PySem.F.plainAttrs_list PySem.F.slot_list_append PySem.F.type_list_append mt_append (pv 3) (pa_cons (lam__law_trails_bad T hN TB__law_trails_bad (by rfl) hcd (by rfl) (k := 10) (hr.mono (by decide)) (LamX.lamS_by (by first | decide +kernel | kernel_rfl)) (fun _ => rfl) (fun _ _ _ _ _ => rfl) (fun _ _ _ _ _ _ _ hr => (Hx.pe_fnL (ok_reach T) hr rfl T.g_reach (pa_cons (Hx.pvL 0) (pa_cons pe_int (pa_cons pe_int (pa_cons (pe_lst (pa_cons (Hx.pvL 4) pa_nil)) pa_nil))))))) pa_nil))) (pss_cons (ps_expr (pe_bm PySem.F.plainAttrs_list PySem.F.slot_list_append PySem.F.type_list_append mt_append (pv 3) (pa_cons (lam__law_trails_bad T hN TB__law_trails_bad (by rfl) hcd (by rfl) (k := 10) (hr.mono (by decide)) (LamX.lamS_by (by first | decide +kernel | kernel_rfl)) (fun _ => rfl) (fun _ _ _ _ _ => rfl) (fun _ _ _ _ _ _ _ hr => (Hx.pe_fnL (ok_apart T) hr rfl T.g_apart (pa_cons (Hx.pvL 0) (pa_cons pe_int (pa_cons pe_int (pa_cons (pe_lst (pa_cons (Hx.pvL 4) pa_nil)) (pa_cons (pe_lst pa_nil) pa_nil)))))))) pa_nil))) (pss_cons (ps_expr (pe_bm PySem.F.plainAttrs_list PySem.F.slot_list_append PySem.F.type_list_append mt_append (pv 3) (pa_cons (lam__law_trails_bad T hN TB__law_trails_bad (by rfl) hcd (by rfl) (k := 10) (hr.mono (by decide)) (LamX.lamS_by (by first | decide +kernel | kernel_rfl)) (fun _ => rfl) (fun _ _ _ _ _ => rfl) (fun _ _ _ _ _ _ _ hr => (Hx.pe_fnL (ok_apart T) hr rfl T.g_apart (pa_cons (Hx.pvL 0) (pa_cons pe_int (pa_cons pe_int (pa_cons (pe_lst pa_nil) (pa_cons (pe_lst (pa_cons (Hx.pvL 4) pa_nil)) pa_nil)))))))) pa_nil))) (pss_cons (ps_expr (pe_bm PySem.F.plainAttrs_list PySem.F.slot_list_append PySem.F.type_list_append mt_append (pv 3) (pa_cons (lam__law_trails_bad T hN TB__law_trails_bad (by rfl) hcd (by rfl) (k := 10) (hr.mono (by decide)) (LamX.lamS_by (by first | decide +kernel | kernel_rfl)) (fun _ => rfl) (fun _ _ _ _ _ => rfl) (fun _ _ _ _ _ _ _ hr => (Hx.pe_meL (ok_Course_tick T) T.cl_Course T.me_Course_tick hr (Hx.pe_mkL (ok_Course___init__ T) T.mk_Course hr rfl T.g_Course (pa_cons (Hx.pvL 0) (pa_cons pe_int (pa_cons pe_int (pa_cons (pe_lst pa_nil) (pa_cons (pe_tup (pa_cons pe_int (pa_cons pe_int pa_nil))) pa_nil)))))) (pa_cons (Hx.pvL 4) pa_nil)))) pa_nil))) (pss_one (ps_if (pt_cmpR (op_neU (hu64 hr)) (pv 3) (pe_op op_mulU (pe_lst (pa_cons (pe_tup (pa_cons pe_str (pa_cons pe_str pa_nil))) pa_nil)) pe_int) (by rfl)) (pss_one (ps_ret pe_bl)) pss_nil)))))))))) (pss_one (ps_ret pe_bl))))
theorem sc_Course_back : FnScope ["self", "ticks", "left", "world", "at", "top", "keys"] ["self", "ticks"] (defScope sx_Course_back) := ⟨rfl, rfl, rfl, by decide +kernel, rfl, by decide +kernel, by decide +kernel⟩
theorem ok_Course_back (T : Tx K mg) : Fok P w K mg base 10 ("Course", some "back") ["self", "ticks"] (sb_Course_back K) := by
  obtain ⟨fd, F⟩ := T.d_Course_back
  refine fok_mk F sc_Course_back len_Course_back (fun _ _ _ _ _ _ us hl => match us, hl with | [_, _], _ => rfl) (fun cdv A outer s H E hr => ⟨t_Course_back K E, ?_, fun vs b k ke h hE => p_Course_back h hE⟩)
  exact (pss_cons (ps_if (pt_not (pt_val (pe_fn (ok_is_count T) hr rfl T.g_is_count px (pa_cons (pv 1) (pa_cons pe_int (pa_cons (pe_callB call_len (by rfl) T.b_len (by decide +kernel) (pa_cons (pe_fld (pv 0) rfl) pa_nil)) pa_nil)))))) (pss_one (L2N.ps_raise rfl tko (L2N.pmk_own PySem.F.excBase_ValueError (He.exc_ok T.ex_Nothing).1 T.g_Nothing (He.exc_ok T.ex_Nothing).2.1 (raises_own (He.exc_ok T.ex_Nothing).2.2.1 (He.exc_ok T.ex_Nothing).2.2.2) (by exact rfl)))) pss_nil) (pss_cons (ps_set (i := 2) sc_Course_back.nd rfl (by first | exact Or.inl rfl | exact Or.inr rfl) (pe_slice sl_U (pe_fld (pv 0) rfl) po_none (po_some (pe_op op_subU (pe_callB call_len (by rfl) T.b_len (by decide +kernel) (pa_cons (pe_fld (pv 0) rfl) pa_nil)) (pv 1))))) (pss_cons (ps_fld (pv 0) (pe_op op_addU (pe_slice sl_U (pe_fld (pv 0) rfl) (po_some (pe_op op_subU (pe_callB call_len (by rfl) T.b_len (by decide +kernel) (pa_cons (pe_fld (pv 0) rfl) pa_nil)) (pv 1))) po_none) (pe_fld (pv 0) rfl)) rfl) (pss_cons (ps_asg (pe_fld (pv 0) rfl) (pg_tup rfl (pgs_cons (pg_name (i := 3) sc_Course_back.nd rfl (by first | exact Or.inl rfl | exact Or.inr rfl)) (pgs_cons (pg_name (i := 4) sc_Course_back.nd rfl (by first | exact Or.inl rfl | exact Or.inr rfl)) (pgs_cons (pg_name (i := 5) sc_Course_back.nd rfl (by first | exact Or.inl rfl | exact Or.inr rfl)) pgs_nil))))) (pss_cons (ps_fld (pv 0) (pe_mk (ok_Runner___init__ T) T.mk_Runner hr rfl T.g_Runner px (pa_cons (pv 3) (pa_cons (pv 4) (pa_cons (pv 5) pa_nil)))) rfl) (pss_cons (ps_fld (pv 0) (pe_lst pa_nil) rfl) (pss_cons (ps_fld (pv 0) pe_dnewK rfl) (pss_cons (ps_fld (pv 0) pe_non rfl) (pss_cons (ps_expr (pe_me0 (ok_Course_look T) T.cl_Course T.me_Course_look hr px (pv 0))) (pss_one (ps_for pso rfl (pi_list (pv 2)) (pg_name (i := 6) sc_Course_back.nd rfl (by first | exact Or.inl rfl | exact Or.inr rfl)) (pss_one (ps_expr (pe_me (ok_Course_go T) T.cl_Course T.me_Course_go hr px (pv 0) (pa_cons (pv 6) pa_nil)))))))))))))))
theorem sc_Course_left_over : FnScope ["self", "number"] ["self"] (defScope sx_Course_left_over) := ⟨rfl, rfl, rfl, by decide +kernel, rfl, by decide +kernel, by decide +kernel⟩
theorem ok_Course_left_over (T : Tx K mg) : Fok P w K mg base 1 ("Course", some "left_over") ["self"] (sb_Course_left_over K) := by
  obtain ⟨fd, F⟩ := T.d_Course_left_over
  refine fok_mk F sc_Course_left_over len_Course_left_over (fun _ _ _ _ _ _ us hl => match us, hl with | [_], _ => rfl) (fun cdv A outer s H E hr => ⟨t_Course_left_over K E, ?_, fun vs b k ke h hE => p_Course_left_over h hE⟩)
  exact (pss_one (ps_ret (pe_lc (own := [("number", 1)]) (g := (gName 1)) (tt := (tB (tDNotIn (tVar 1) (tFld K (tVar 0) "got")))) rfl sc_Course_left_over.nd (pi_range1 (by rfl) T.b_range (pa_cons (pe_callB call_len (by rfl) T.b_len (by decide +kernel) (pa_cons (pe_fld (pv 0) rfl) pa_nil)) pa_nil)) (blkOk_by (own := [("number", 1)]) (N := ["self", "number"]) (sc := defScope sx_Course_left_over) (by decide +kernel)) (fun _ _ _ _ _ => (pg_name (i := 1) sc_Course_left_over.nd rfl (by first | exact Or.inl rfl | exact Or.inr rfl))) (fun _ _ _ _ _ => (pts_one (pt_cmp (pc_dnotin (hu_of hr) (pv 1) (pe_fld (pv 0) rfl))))) (fun _ _ _ _ _ => (pv 1)))))
theorem sc_Course_done : FnScope ["self", "number"] ["self"] (defScope sx_Course_done) := ⟨rfl, rfl, rfl, by decide +kernel, rfl, by decide +kernel, by decide +kernel⟩
theorem ok_Course_done (T : Tx K mg) : Fok P w K mg base 1 ("Course", some "done") ["self"] (sb_Course_done K) := by
  obtain ⟨fd, F⟩ := T.d_Course_done
  refine fok_mk F sc_Course_done len_Course_done (fun _ _ _ _ _ _ us hl => match us, hl with | [_], _ => rfl) (fun cdv A outer s H E hr => ⟨t_Course_done K E, ?_, fun vs b k ke h hE => p_Course_done h hE⟩)
  exact (pss_cons (ps_if (PW.pt (pw_or (pt_cmpR op_isN (pe_fld (pv 0) rfl) pe_non (by rfl)) (pw_or1 (pt_cmpR op_lt (pe_callB call_lenD (by rfl) T.b_len (by decide +kernel) (pa_cons (pe_fld (pv 0) rfl) pa_nil)) (pe_callB call_len (by rfl) T.b_len (by decide +kernel) (pa_cons (pe_fld (pv 0) rfl) pa_nil)) (by rfl))))) (pss_one (ps_ret pe_non)) pss_nil) (pss_one (ps_ret (pe_callB (cr_max rfl) (by rfl) T.b_max (by decide +kernel) (pa_cons (pe_op op_addU (pe_lst (pa_cons (pe_fld (pv 0) rfl) pa_nil)) (pe_lc (own := [("number", 1)]) (g := (gName 1)) (tt := tYes) rfl sc_Course_done.nd (pi_keys (pe_fld (pv 0) rfl)) (blkOk_by (own := [("number", 1)]) (N := ["self", "number"]) (sc := defScope sx_Course_done) (by decide +kernel)) (fun _ _ _ _ _ => (pg_name (i := 1) sc_Course_done.nd rfl (by first | exact Or.inl rfl | exact Or.inr rfl))) (fun _ _ _ _ _ => pts_nil) (fun _ _ _ _ _ => (pe_dget (hu_of hr) (pe_fld (pv 0) rfl) (pv 1) (fun _ _ => rfl))))) pa_nil)))))
theorem sc_written : FnScope ["rows", "keys", "found", "many"] ["rows"] (defScope sx_written) := ⟨rfl, rfl, rfl, by decide +kernel, rfl, by decide +kernel, by decide +kernel⟩
theorem ok_written (T : Tx K mg) : Fok P w K mg base 2 ("written", none) ["rows"] (sb_written K) := by
  obtain ⟨fd, F⟩ := T.d_written
  refine fok_mk F sc_written len_written (fun _ _ _ _ _ _ us hl => match us, hl with | [_], _ => rfl) (fun cdv A outer s H E hr => ⟨t_written K E, ?_, fun vs b k ke h hE => p_written h hE⟩)
  exact (pss_cons (ps_for pso rfl (pi_list (pv 0)) (pg_name (i := 1) sc_written.nd rfl (by first | exact Or.inl rfl | exact Or.inr rfl)) (pss_one (ps_expr (pe_fn (ok_need_keys T) hr rfl T.g_need_keys px (pa_cons (pv 1) pa_nil))))) (pss_cons (ps_set (i := 2) sc_written.nd rfl (by first | exact Or.inl rfl | exact Or.inr rfl) (pe_lst pa_nil)) (pss_cons (ps_for pso rfl (pi_list (pv 0)) (pg_name (i := 1) sc_written.nd rfl (by first | exact Or.inl rfl | exact Or.inr rfl)) (pss_one (ps_if (PW.pt (pw_and (pt_cmpR (op_neU (hu64 hr)) (pv 2) (pe_lst pa_nil) (by rfl)) (pw_and1 (pt_cmpR (op_eqU (hu64 hr)) (pe_ix ix_seq (pe_ix ix_seq (pv 2) (pe_un un_neg pe_int) (fun _ _ => rfl)) pe_int (fun _ _ => rfl)) (pv 1) (by rfl))))) (pss_one (ps_asg (pe_tup (pa_cons (pe_op op_addU (pe_ix ix_seq (pe_ix ix_seq (pv 2) (pe_un un_neg pe_int) (fun _ _ => rfl)) pe_int (fun _ _ => rfl)) pe_int) (pa_cons (pv 1) pa_nil))) (pg_sub (pv 2) (pe_un un_neg pe_int) set_list))) (pss_one (ps_expr (pe_bm PySem.F.plainAttrs_list PySem.F.slot_list_append PySem.F.type_list_append mt_append (pv 2) (pa_cons (pe_tup (pa_cons pe_int (pa_cons (pv 1) pa_nil))) pa_nil))))))) (pss_one (ps_ret (pe_join pe_str (pe_lc (own := [("many", 3), ("keys", 1)]) (g := (gTup K 2 (gCons (gName 3) (gCons (gName 1) gNil)))) (tt := tYes) rfl sc_written.nd (pi_list (pv 2)) (blkOk_by (own := [("many", 3), ("keys", 1)]) (N := ["rows", "keys", "found", "many"]) (sc := defScope sx_written) (by decide +kernel)) (fun _ _ _ _ _ => (pg_tup rfl (pgs_cons (pg_name (i := 3) sc_written.nd rfl (by first | exact Or.inl rfl | exact Or.inr rfl)) (pgs_cons (pg_name (i := 1) sc_written.nd rfl (by first | exact Or.inl rfl | exact Or.inr rfl)) pgs_nil)))) (fun _ _ _ _ _ => pts_nil) (fun _ _ _ _ _ => (pe_op op_addU (pe_callTy call_str_int (by rfl) T.b_str (by decide +kernel) (pa_cons (pv 3) pa_nil)) (pe_ifExp (pt_cmpR (op_neU (hu64 hr)) (pv 1) pe_str (by rfl)) (pv 1) pe_str))))))))))
theorem sc_Course_tape : FnScope ["self"] ["self"] (defScope sx_Course_tape) := ⟨rfl, rfl, rfl, by decide +kernel, rfl, by decide +kernel, by decide +kernel⟩
theorem ok_Course_tape (T : Tx K mg) : Fok P w K mg base 3 ("Course", some "tape") ["self"] (sb_Course_tape K) := by
  obtain ⟨fd, F⟩ := T.d_Course_tape
  refine fok_mk F sc_Course_tape len_Course_tape (fun _ _ _ _ _ _ us hl => match us, hl with | [_], _ => rfl) (fun cdv A outer s H E hr => ⟨t_Course_tape K E, ?_, fun vs b k ke h hE => p_Course_tape h hE⟩)
  exact (pss_one (ps_ret (pe_fn (ok_written T) hr rfl T.g_written px (pa_cons (pe_fld (pv 0) rfl) pa_nil))))
theorem sc_is_lift : FnScope ["thing", "way", "left", "top", "wide", "far", "pace"] ["thing"] (defScope sx_is_lift) := ⟨rfl, rfl, rfl, by decide +kernel, rfl, by decide +kernel, by decide +kernel⟩
theorem ok_is_lift (T : Tx K mg) : Fok P w K mg base 2 ("is_lift", none) ["thing"] (sb_is_lift K) := by
  obtain ⟨fd, F⟩ := T.d_is_lift
  refine fok_mk F sc_is_lift len_is_lift (fun _ _ _ _ _ _ us hl => match us, hl with | [_], _ => rfl) (fun cdv A outer s H E hr => ⟨t_is_lift K E, ?_, fun vs b k ke h hE => p_is_lift h hE⟩)
  exact (pss_cons (ps_if (PW.pt (pw_or (pt_not (pt_val (pe_callB call_isi (by rfl) T.b_isinstance (by decide +kernel) (pa_cons (pv 0) (pa_cons (pe_bltn (v := .ty "tuple") (by rfl) T.b_tuple (by decide +kernel) rfl) pa_nil))))) (pw_or (pt_cmpR (op_neU (hu64 hr)) (pe_callB call_len (by rfl) T.b_len (by decide +kernel) (pa_cons (pv 0) pa_nil)) pe_int (by rfl)) (pw_or1 (pt_not (pt_val (pe_callB call_isi (by rfl) T.b_isinstance (by decide +kernel) (pa_cons (pe_ix ix_seq (pv 0) pe_int (fun _ _ => rfl)) (pa_cons (pe_bltn (v := .ty "str") (by rfl) T.b_str (by decide +kernel) rfl) pa_nil))))))))) (pss_one (ps_ret pe_bl)) pss_nil) (pss_cons (ps_if (pt_cmpR op_notInU (pe_ix ix_seq (pv 0) pe_int (fun _ _ => rfl)) (pe_tup (pa_cons pe_str (pa_cons pe_str pa_nil))) (by rfl)) (pss_one (ps_ret pe_bl)) pss_nil) (pss_cons (ps_asg (pv 0) (pg_tup rfl (pgs_cons (pg_name (i := 1) sc_is_lift.nd rfl (by first | exact Or.inl rfl | exact Or.inr rfl)) (pgs_cons (pg_name (i := 2) sc_is_lift.nd rfl (by first | exact Or.inl rfl | exact Or.inr rfl)) (pgs_cons (pg_name (i := 3) sc_is_lift.nd rfl (by first | exact Or.inl rfl | exact Or.inr rfl)) (pgs_cons (pg_name (i := 4) sc_is_lift.nd rfl (by first | exact Or.inl rfl | exact Or.inr rfl)) (pgs_cons (pg_name (i := 5) sc_is_lift.nd rfl (by first | exact Or.inl rfl | exact Or.inr rfl)) (pgs_cons (pg_name (i := 6) sc_is_lift.nd rfl (by first | exact Or.inl rfl | exact Or.inr rfl)) pgs_nil)))))))) (pss_cons (ps_if (PW.pt (pw_or (pt_not (pt_val (pe_fn (ok_is_count T) hr rfl T.g_is_count px (pa_cons (pv 2) (pa_cons pe_int (pa_cons (pe_ci rfl T.c_MOST_lifts) pa_nil)))))) (pw_or1 (pt_not (pt_val (pe_fn (ok_is_count T) hr rfl T.g_is_count px (pa_cons (pv 3) (pa_cons pe_int (pa_cons (pe_ci rfl T.c_MOST_lifts) pa_nil))))))))) (pss_one (ps_ret pe_bl)) pss_nil) (pss_one (ps_ret (pe_and (pe_fn (ok_is_count T) hr rfl T.g_is_count px (pa_cons (pv 4) (pa_cons pe_int (pa_cons (pe_ci rfl T.c_MOST_lifts) pa_nil)))) (pe_and (pe_fn (ok_is_count T) hr rfl T.g_is_count px (pa_cons (pv 5) (pa_cons pe_int (pa_cons (pe_ci rfl T.c_MOST_lifts) pa_nil)))) (pe_one (pe_fn (ok_is_count T) hr rfl T.g_is_count px (pa_cons (pv 6) (pa_cons pe_int (pa_cons pe_int pa_nil)))))))))))))
theorem sc_need_lift : FnScope ["lift"] ["lift"] (defScope sx_need_lift) := ⟨rfl, rfl, rfl, by decide +kernel, rfl, by decide +kernel, by decide +kernel⟩
theorem ok_need_lift (T : Tx K mg) : Fok P w K mg base 3 ("need_lift", none) ["lift"] (sb_need_lift K) := by
  obtain ⟨fd, F⟩ := T.d_need_lift
  refine fok_mk F sc_need_lift len_need_lift (fun _ _ _ _ _ _ us hl => match us, hl with | [_], _ => rfl) (fun cdv A outer s H E hr => ⟨t_need_lift K E, ?_, fun vs b k ke h hE => p_need_lift h hE⟩)
  exact (pss_one (ps_if (pt_not (pt_val (pe_fn (ok_is_lift T) hr rfl T.g_is_lift px (pa_cons (pv 0) pa_nil)))) (pss_one (L2N.ps_raise rfl tko (L2N.pmk_own PySem.F.excBase_ValueError (He.exc_ok T.ex_BadLift).1 T.g_BadLift (He.exc_ok T.ex_BadLift).2.1 (raises_own (He.exc_ok T.ex_BadLift).2.2.1 (He.exc_ok T.ex_BadLift).2.2.2) (by exact rfl)))) pss_nil))
theorem sc_need_map : FnScope ["rows", "good", "row", "sign"] ["rows"] (defScope sx_need_map) := ⟨rfl, rfl, rfl, by decide +kernel, rfl, by decide +kernel, by decide +kernel⟩
theorem ok_need_map (T : Tx K mg) : Fok P w K mg base 1 ("need_map", none) ["rows"] (sb_need_map K) := by
  obtain ⟨fd, F⟩ := T.d_need_map
  refine fok_mk F sc_need_map len_need_map (fun _ _ _ _ _ _ us hl => match us, hl with | [_], _ => rfl) (fun cdv A outer s H E hr => ⟨t_need_map K E, ?_, fun vs b k ke h hE => p_need_map h hE⟩)
  exact (pss_cons (ps_set (i := 1) sc_need_map.nd rfl (by first | exact Or.inl rfl | exact Or.inr rfl) (pe_and (pe_callB call_isi (by rfl) T.b_isinstance (by decide +kernel) (pa_cons (pv 0) (pa_cons (pe_bltn (v := .ty "list") (by rfl) T.b_list (by decide +kernel) rfl) pa_nil))) (pe_and (pe_chain op_le op_le pe_int (pe_callB call_len (by rfl) T.b_len (by decide +kernel) (pa_cons (pv 0) pa_nil)) (pe_ci rfl T.c_MOST_HIGH)) (pe_one (pe_callB (cr_all rfl) (by rfl) T.b_all (by decide +kernel) (pa_cons (pe_lc (own := [("row", 2)]) (g := (gName 2)) (tt := tYes) rfl sc_need_map.nd (pi_list (pv 0)) (blkOk_by (own := [("row", 2)]) (N := ["rows", "good", "row", "sign"]) (sc := defScope sx_need_map) (by decide +kernel)) (fun _ _ _ _ _ => (pg_name (i := 2) sc_need_map.nd rfl (by first | exact Or.inl rfl | exact Or.inr rfl))) (fun _ _ _ _ _ => pts_nil) (fun _ _ _ _ _ => (pe_callB call_isi (by rfl) T.b_isinstance (by decide +kernel) (pa_cons (pv 2) (pa_cons (pe_bltn (v := .ty "str") (by rfl) T.b_str (by decide +kernel) rfl) pa_nil))))) pa_nil)))))) (pss_cons (ps_if (PW.pt (pw_or (pt_not (pt_val (pv 1))) (pw_or (pt_not (pt_chain op_le op_le pe_int (pe_callB call_len (by rfl) T.b_len (by decide +kernel) (pa_cons (pe_ix ix_seq (pv 0) pe_int (fun _ _ => rfl)) pa_nil)) (pe_ci rfl T.c_MOST_WIDE))) (pw_or1 (pt_not (pt_val (pe_callB (cr_all rfl) (by rfl) T.b_all (by decide +kernel) (pa_cons (pe_lc (own := [("row", 2)]) (g := (gName 2)) (tt := tYes) rfl sc_need_map.nd (pi_list (pv 0)) (blkOk_by (own := [("row", 2)]) (N := ["rows", "good", "row", "sign"]) (sc := defScope sx_need_map) (by decide +kernel)) (fun _ _ _ _ _ => (pg_name (i := 2) sc_need_map.nd rfl (by first | exact Or.inl rfl | exact Or.inr rfl))) (fun _ _ _ _ _ => pts_nil) (fun _ _ _ _ _ => (pe_cmpR (op_eqU (hu64 hr)) (pe_callB call_len (by rfl) T.b_len (by decide +kernel) (pa_cons (pv 2) pa_nil)) (pe_callB call_len (by rfl) T.b_len (by decide +kernel) (pa_cons (pe_ix ix_seq (pv 0) pe_int (fun _ _ => rfl)) pa_nil)) (by rfl)))) pa_nil)))))))) (pss_one (L2N.ps_raise rfl tko (L2N.pmk_own PySem.F.excBase_ValueError (He.exc_ok T.ex_BadMap).1 T.g_BadMap (He.exc_ok T.ex_BadMap).2.1 (raises_own (He.exc_ok T.ex_BadMap).2.2.1 (He.exc_ok T.ex_BadMap).2.2.2) (by exact rfl)))) pss_nil) (pss_one (ps_if (pt_not (pt_val (pe_callB (cr_all rfl) (by rfl) T.b_all (by decide +kernel) (pa_cons (pe_lc (own := [("row", 2)]) (g := (gName 2)) (tt := tYes) rfl sc_need_map.nd (pi_list (pv 0)) (blkOk_by (own := [("row", 2)]) (N := ["rows", "good", "row", "sign"]) (sc := defScope sx_need_map) (by decide +kernel)) (fun _ _ _ _ _ => (pg_name (i := 2) sc_need_map.nd rfl (by first | exact Or.inl rfl | exact Or.inr rfl))) (fun _ _ _ _ _ => pts_nil) (fun _ _ _ _ _ => (pe_callB (cr_all rfl) (by rfl) T.b_all (by decide +kernel) (pa_cons (pe_lc (own := [("sign", 3)]) (g := (gName 3)) (tt := tYes) rfl sc_need_map.nd (pi_str (pv 2)) (blkOk_by (own := [("sign", 3)]) (N := ["rows", "good", "row", "sign"]) (by kernel_rfl)) (fun _ _ _ _ _ => (pg_name (i := 3) sc_need_map.nd rfl (by first | exact Or.inl rfl | exact Or.inr rfl))) (fun _ _ _ _ _ => pts_nil) (fun _ _ _ _ _ => (pe_cmpR op_inU (pv 3) (pe_cs rfl T.c_SIGNS) (by rfl)))) pa_nil)))) pa_nil)))) (pss_one (L2N.ps_raise rfl tko (L2N.pmk_own PySem.F.excBase_ValueError (He.exc_ok T.ex_BadMap).1 T.g_BadMap (He.exc_ok T.ex_BadMap).2.1 (raises_own (He.exc_ok T.ex_BadMap).2.2.1 (He.exc_ok T.ex_BadMap).2.2.2) (by exact rfl)))) pss_nil))))
theorem sc_World___init__ : FnScope ["self", "rows", "lifts", "lift"] ["self", "rows", "lifts"] (defScope sx_World___init__) := ⟨rfl, rfl, rfl, by decide +kernel, rfl, by decide +kernel, by decide +kernel⟩
theorem ok_World___init__ (T : Tx K mg) : Fok P w K mg base 4 ("World", some "__init__") ["self", "rows", "lifts"] (sb_World___init__ K) := by
  obtain ⟨fd, F⟩ := T.d_World___init__
  refine fok_mk F sc_World___init__ len_World___init__ (fun _ _ _ _ _ _ us hl => match us, hl with | [_, _, _], _ => rfl) (fun cdv A outer s H E hr => ⟨t_World___init__ K E, ?_, fun vs b k ke h hE => p_World___init__ h hE⟩)
  exact (pss_cons (ps_expr (pe_fn (ok_need_map T) hr rfl T.g_need_map px (pa_cons (pv 1) pa_nil))) (pss_cons (ps_for pso rfl (pi_list (pv 2)) (pg_name (i := 3) sc_World___init__.nd rfl (by first | exact Or.inl rfl | exact Or.inr rfl)) (pss_one (ps_expr (pe_fn (ok_need_lift T) hr rfl T.g_need_lift px (pa_cons (pv 3) pa_nil))))) (pss_cons (ps_fld (pv 0) (pe_callTy call_listU (by rfl) T.b_list (by decide +kernel) (pa_cons (pv 1) pa_nil)) rfl) (pss_one (ps_fld (pv 0) (pe_callTy call_listU (by rfl) T.b_list (by decide +kernel) (pa_cons (pv 2) pa_nil)) rfl)))))
theorem sc__law_drawn : FnScope ["cell", "k", "more"] ["cell", "k"] (defScope sx__law_drawn) := ⟨rfl, rfl, rfl, by decide +kernel, rfl, by decide +kernel, by decide +kernel⟩
theorem ok__law_drawn (T : Tx K mg) : Fok P w K mg base 1 ("_law_drawn", none) ["cell", "k"] (sb__law_drawn K) := by
  obtain ⟨fd, F⟩ := T.d__law_drawn
  refine fok_mk F sc__law_drawn len__law_drawn (fun _ _ _ _ _ _ us hl => match us, hl with | [_, _], _ => rfl) (fun cdv A outer s H E hr => ⟨t__law_drawn K E, ?_, fun vs b k ke h hE => p__law_drawn h hE⟩)
  exact (pss_cons (ps_set (i := 2) sc__law_drawn.nd rfl (by first | exact Or.inl rfl | exact Or.inr rfl) (pe_op op_mod (pe_op op_addU (pe_op op_mulU (pv 0) pe_int) (pe_op op_mulU (pe_op op_addU (pv 1) pe_int) pe_int)) pe_int)) (pss_cons (ps_set (i := 2) sc__law_drawn.nd rfl (by first | exact Or.inl rfl | exact Or.inr rfl) (pe_op op_mod (pe_op op_mulU (pv 2) (pv 2)) pe_int)) (pss_cons (ps_set (i := 2) sc__law_drawn.nd rfl (by first | exact Or.inl rfl | exact Or.inr rfl) (pe_op op_mulU (pe_op op_mulU (pe_op op_addU (pe_op op_mod (pv 2) pe_int) pe_int) (pe_op op_addU (pe_op op_fdivU (pv 2) pe_int) pe_int)) (pv 2))) (pss_one (ps_ret (pe_op op_mod (pv 2) pe_int))))))
theorem sc__law_cell : FnScope ["script", "k"] ["script", "k"] (defScope sx__law_cell) := ⟨rfl, rfl, rfl, by decide +kernel, rfl, by decide +kernel, by decide +kernel⟩
theorem ok__law_cell (T : Tx K mg) : Fok P w K mg base 1 ("_law_cell", none) ["script", "k"] (sb__law_cell K) := by
  obtain ⟨fd, F⟩ := T.d__law_cell
  refine fok_mk F sc__law_cell len__law_cell (fun _ _ _ _ _ _ us hl => match us, hl with | [_, _], _ => rfl) (fun cdv A outer s H E hr => ⟨t__law_cell K E, ?_, fun vs b k ke h hE => p__law_cell h hE⟩)
  exact (pss_cons (ps_if (pt_cmpR (op_eqU (hu64 hr)) (pv 0) (pe_lst pa_nil) (by rfl)) (pss_one (ps_ret (pe_op op_mulU (pv 1) pe_int))) pss_nil) (pss_one (ps_ret (pe_op op_addU (pe_ix ix_seq (pv 0) (pe_op op_mod (pv 1) (pe_callB call_len (by rfl) T.b_len (by decide +kernel) (pa_cons (pv 0) pa_nil))) (fun _ _ => rfl)) (pe_op op_mulU (pe_op op_fdivU (pv 1) (pe_callB call_len (by rfl) T.b_len (by decide +kernel) (pa_cons (pv 0) pa_nil))) pe_int)))))
theorem sc_Course_again : FnScope ["self", "keys"] ["self"] (defScope sx_Course_again) := ⟨rfl, rfl, rfl, by decide +kernel, rfl, by decide +kernel, by decide +kernel⟩
theorem ok_Course_again (T : Tx K mg) : Fok P w K mg base 10 ("Course", some "again") ["self"] (sb_Course_again K) := by
  obtain ⟨fd, F⟩ := T.d_Course_again
  refine fok_mk F sc_Course_again len_Course_again (fun _ _ _ _ _ _ us hl => match us, hl with | [_], _ => rfl) (fun cdv A outer s H E hr => ⟨t_Course_again K E, ?_, fun vs b k ke h hE => p_Course_again h hE⟩)
  exact (pss_cons (ps_if (pt_cmpR (op_eqU (hu64 hr)) (pe_fld (pv 0) rfl) (pe_lst pa_nil) (by rfl)) (pss_one (L2N.ps_raise rfl tko (L2N.pmk_own PySem.F.excBase_ValueError (He.exc_ok T.ex_Nothing).1 T.g_Nothing (He.exc_ok T.ex_Nothing).2.1 (raises_own (He.exc_ok T.ex_Nothing).2.2.1 (He.exc_ok T.ex_Nothing).2.2.2) (by exact rfl)))) pss_nil) (pss_cons (ps_set (i := 1) sc_Course_again.nd rfl (by first | exact Or.inl rfl | exact Or.inr rfl) (pe_ix ix_seq (pe_fld (pv 0) rfl) pe_int (fun _ _ => rfl))) (pss_cons (ps_fld (pv 0) (pe_slice sl_U (pe_fld (pv 0) rfl) (po_some pe_int) po_none) rfl) (pss_one (ps_ret (pe_me (ok_Course_go T) T.cl_Course T.me_Course_go hr px (pv 0) (pa_cons (pv 1) pa_nil)))))))
theorem sc_law : FnScope ["script", "k", "more", "world", "unit", "bads", "bad", "course", "at"] ["script"] (defScope sx_law) := ⟨rfl, rfl, rfl, by decide +kernel, rfl, by decide +kernel, by decide +kernel⟩
theorem lam_law {X : Cx} (T : Tx X.K X.mg) (hN : TLok X.K) (TB : LamX.TabB X.base X.mg (He.cT X.K ("law", none)).1 (He.cT X.K ("law", none)).2) (hg : Gl X "_law_told") (hcd : X.env.code = .ref (He.cT X.K ("law", none)).1) (hq : X.env.qual = ("law" : Str) ++ ".<locals>.") {k : Nat} (hr : Room (k + 2) X.A)
    {params : Arguments} {body : Expr} {scope : Scope} {t : XK → TE} {p lpos pos : Pos} (L : LamX.LamS X.env.scope scope) (hdef : ∀ env : Env, defaultsOf params env = ([], [])) (hbind : ∀ (q : Str) (cl : List (Str × Addr)) (pm cv ctv : Value), bindArgs (PySem.W.kla_fn "<lambda>" q params body scope cl pm cv ctv) ⟨[], []⟩ = pure [])
    (hbody : ∀ (A2 : Around) (outer2 : List Env) (s2 : Shared) (H2 : Hp) (E2 : XK) (f2 c2 : Addr), Room k (A2.deeper (LamX.lamEnv X scope s2.heap.objs.size f2 c2)) → PE (Hx.lamN X A2 outer2 s2 H2 E2 scope f2 c2) body (t E2)) :
    PE X (.Call (.Name "_law_told" p) [.Lambda params body scope lpos] [] pos) (LamX.tLam (TL X.K) (Hx.TTn X.K (He.ga X.K "RunError") (WokN X.K)) t) := by
  obtain ⟨fdg, Fg⟩ := T.d__law_told
  obtain ⟨fdw, Fw⟩ := T.d__law_word
  have bg := FunD.bindsN (ps := ["deed"]) Fg (fun _ _ _ _ _ _ us hl => match us, hl with | [_], _ => rfl)
  have bw := FunD.bindsN (ps := ["e"]) Fw (fun _ _ _ _ _ _ us hl => match us, hl with | [_], _ => rfl)
  obtain ⟨oc, od, dV, kV, doc, pm, an, cdg, ct, osl, ef, lk, hcg, _, _⟩ := Fg.ex
  obtain ⟨oc2, od2, dV2, kV2, doc2, pm2, an2, cdw, ct2, osl2, ef2, lk2, hcw, _, _⟩ := Fw.ex
  subst ef ef2
  refine Hx.pe_lamN (x := "_law_told") (a := "deed") (g := He.fAd X.K ("_law_told", none)) (Ng := ["deed", "e"]) hg T.g__law_told Fg.kp lk hcg bg sc__law_told rfl (.inl rfl) ?_ TB hcd (by rw [hq]; exact tl_mem_law X.K) (by rw [hq]; exact tl_one_law X.K hN) hr L (hdef _) hbind hbody
  exact Hx.told_n (CS := He.ga X.K "RunError") (fw := He.fAd X.K ("_law_word", none)) (Nw := ["e", "flags", "words", "flag"]) rfl T.g_RunError (by decide) (fun _ => rfl) (by decide +kernel) rfl rfl rfl (by decide) (by decide) rfl T.g__law_word (by decide) Fw.kp lk2 hcw sc__law_word bw (fun A outer s H p D w Q hot hz hW hr ht => w__law_word T hot hz hW hr ht)
theorem okF_law (T : Tx K mg) (hN : TLok K) (TB__law_trails_bad : LamX.TabB base mg (He.cT K ("_law_trails_bad", none)).1 (He.cT K ("_law_trails_bad", none)).2) (TB_law : LamX.TabB base mg (He.cT K ("law", none)).1 (He.cT K ("law", none)).2) {fd : FuncData} (F : FunD K "law" "law" (defArgs sx_law) (defBody sx_law) (defScope sx_law) [] [] (He.fAd K ("law", none)) fd) : FnOk P w K mg base (L2N.CX P w) 14 (He.fAd K ("law", none)) fd ["script"] (up (sb_law K)) := by
  refine Hx.fn_mkC F sc_law len_law (fun cdv A outer s H E hcd hr => ⟨t_law K E, ?_, fun vs b k ke h hE => p_law h hE⟩)
  exact (pss_cons (ps_for pso rfl (pi_range1 (by rfl) T.b_range (pa_cons (pe_callB (call_max2 rfl) (by rfl) T.b_max (by decide +kernel) (pa_cons pe_int (pa_cons (pe_callB (call_min2 rfl) (by rfl) T.b_min (by decide +kernel) (pa_cons pe_int (pa_cons (pe_callB call_len (by rfl) T.b_len (by decide +kernel) (pa_cons (pv 0) pa_nil)) pa_nil))) pa_nil))) pa_nil)) (pg_name (i := 1) sc_law.nd rfl (by first | exact Or.inl rfl | exact Or.inr rfl)) (pss_cons (ps_set (i := 2) sc_law.nd rfl (by first | exact Or.inl rfl | exact Or.inr rfl) (pe_fn (ok__law_drawn T) hr rfl T.g__law_drawn px (pa_cons (pe_fn (ok__law_cell T) hr rfl T.g__law_cell px (pa_cons (pv 0) (pa_cons (pv 1) pa_nil))) (pa_cons (pv 1) pa_nil)))) (pss_cons (ps_set (i := 3) sc_law.nd rfl (by first | exact Or.inl rfl | exact Or.inr rfl) (pe_mk (ok_World___init__ T) T.mk_World hr rfl T.g_World px (pa_cons (pe_lst (pa_cons pe_str (pa_cons pe_str (pa_cons pe_str pa_nil)))) (pa_cons (pe_lst pa_nil) pa_nil)))) (pss_cons (ps_set (i := 4) sc_law.nd rfl (by first | exact Or.inl rfl | exact Or.inr rfl) (pe_tup (pa_cons (pe_op op_mod (pv 2) pe_int) (pa_cons (pe_op op_mod (pe_op op_fdivU (pv 2) pe_int) pe_int) pa_nil)))) (pss_cons (ps_set (i := 5) sc_law.nd rfl (by first | exact Or.inl rfl | exact Or.inr rfl) (pe_lst (pa_cons pe_non (pa_cons (pe_tup pa_nil) (pa_cons (pe_tup (pa_cons (pv 4) pa_nil)) (pa_cons (pe_lst (pa_cons (pv 4) (pa_cons (pv 4) pa_nil))) (pa_cons (pe_lst (pa_cons pe_non pa_nil)) (pa_cons (pe_lst (pa_cons (pe_tup (pa_cons pe_int pa_nil)) pa_nil)) (pa_cons (pe_lst (pa_cons (pe_tup (pa_cons pe_int (pa_cons pe_int (pa_cons pe_int pa_nil)))) pa_nil)) (pa_cons (pe_lst (pa_cons (pe_lst (pa_cons pe_int (pa_cons pe_int pa_nil))) pa_nil)) (pa_cons (pe_lst (pa_cons (pe_tup (pa_cons pe_int (pa_cons pe_int pa_nil))) pa_nil)) (pa_cons (pe_lst (pa_cons (pe_tup (pa_cons pe_int (pa_cons (pe_un un_neg pe_int) pa_nil))) pa_nil)) pa_nil)))))))))))) (pss_cons (ps_for pso rfl (pi_list (pe_op op_addU (pv 5) (pe_lst (pa_cons (pe_lst (pa_cons (pe_tup (pa_cons pe_bl (pa_cons pe_int pa_nil))) pa_nil)) (pa_cons (pe_lst (pa_cons (pe_tup (pa_cons pe_str (pa_cons pe_int pa_nil))) pa_nil)) (pa_cons (pe_lc (own := [("at", 8)]) (g := (gName 8)) (tt := tYes) rfl sc_law.nd (pi_range1 (by rfl) T.b_range (pa_cons pe_int pa_nil)) (blkOk_by (own := [("at", 8)]) (N := ["script", "k", "more", "world", "unit", "bads", "bad", "course", "at"]) (sc := defScope sx_law) (by decide +kernel)) (fun _ _ _ _ _ => (pg_name (i := 8) sc_law.nd rfl (by first | exact Or.inl rfl | exact Or.inr rfl))) (fun _ _ _ _ _ => pts_nil) (fun _ _ _ _ _ => (pe_tup (pa_cons (pv 8) (pa_cons pe_int pa_nil))))) pa_nil)))))) (pg_name (i := 6) sc_law.nd rfl (by first | exact Or.inl rfl | exact Or.inr rfl)) (pss_one (ps_if (pt_cmpR (op_neU (hu64 hr)) (lam_law T hN TB_law (by rfl) hcd (by rfl) (k := 11) (hr.mono (by decide)) (LamX.lamS_by (by first | decide +kernel | kernel_rfl)) (fun _ => rfl) (fun _ _ _ _ _ => rfl) (fun _ _ _ _ _ _ _ hr => (Hx.pe_mkL (ok_Course___init__ T) T.mk_Course hr rfl T.g_Course (pa_cons (Hx.pvL 3) (pa_cons pe_int (pa_cons pe_int (pa_cons (Hx.pvL 6) (pa_cons (Hx.pvL 4) pa_nil)))))))) (pe_tup (pa_cons pe_str (pa_cons pe_str pa_nil))) (by rfl)) (pss_one (ps_ret pe_bl)) pss_nil))) (pss_cons (ps_for pso rfl (pi_list (pe_lst (pa_cons pe_non (pa_cons (pe_tup pa_nil) (pa_cons (pe_tup (pa_cons pe_int pa_nil)) (pa_cons (pe_lst (pa_cons pe_int (pa_cons pe_int pa_nil))) (pa_cons (pe_tup (pa_cons pe_int (pa_cons pe_int pa_nil))) (pa_cons (pe_tup (pa_cons pe_int (pa_cons pe_non pa_nil))) (pa_cons (pe_tup (pa_cons pe_bl (pa_cons pe_int pa_nil))) pa_nil))))))))) (pg_name (i := 6) sc_law.nd rfl (by first | exact Or.inl rfl | exact Or.inr rfl)) (pss_one (ps_if (pt_cmpR (op_neU (hu64 hr)) (lam_law T hN TB_law (by rfl) hcd (by rfl) (k := 11) (hr.mono (by decide)) (LamX.lamS_by (by first | decide +kernel | kernel_rfl)) (fun _ => rfl) (fun _ _ _ _ _ => rfl) (fun _ _ _ _ _ _ _ hr => (Hx.pe_mkL (ok_Course___init__ T) T.mk_Course hr rfl T.g_Course (pa_cons (Hx.pvL 3) (pa_cons pe_int (pa_cons pe_int (pa_cons (pe_lst pa_nil) (pa_cons (Hx.pvL 6) pa_nil)))))))) (pe_tup (pa_cons pe_str (pa_cons pe_str pa_nil))) (by rfl)) (pss_one (ps_ret pe_bl)) pss_nil))) (pss_cons (ps_set (i := 7) sc_law.nd rfl (by first | exact Or.inl rfl | exact Or.inr rfl) (pe_mk (ok_Course___init__ T) T.mk_Course hr rfl T.g_Course px (pa_cons (pv 3) (pa_cons pe_int (pa_cons pe_int (pa_cons (pe_lc (own := [("at", 8)]) (g := (gName 8)) (tt := tYes) rfl sc_law.nd (pi_range1 (by rfl) T.b_range (pa_cons pe_int pa_nil)) (blkOk_by (own := [("at", 8)]) (N := ["script", "k", "more", "world", "unit", "bads", "bad", "course", "at"]) (sc := defScope sx_law) (by decide +kernel)) (fun _ _ _ _ _ => (pg_name (i := 8) sc_law.nd rfl (by first | exact Or.inl rfl | exact Or.inr rfl))) (fun _ _ _ _ _ => pts_nil) (fun _ _ _ _ _ => (pe_tup (pa_cons (pe_op op_addU (pe_un un_neg pe_int) (pv 8)) (pa_cons pe_int pa_nil))))) (pa_cons (pe_tup (pa_cons pe_int (pa_cons (pe_un un_neg pe_int) pa_nil))) pa_nil))))))) (pss_cons (ps_if (PW.pt (pw_or (pt_cmpR (op_neU (hu64 hr)) (pe_me0 (ok_Course_left_over T) T.cl_Course T.me_Course_left_over hr px (pv 7)) (pe_listRg rfl (by rfl) T.b_list (prg_1 (by rfl) T.b_range pe_int)) (by rfl)) (pw_or (pt_cmpR op_notN (pe_me0 (ok_Course_done T) T.cl_Course T.me_Course_done hr px (pv 7)) pe_non (by rfl)) (pw_or1 (pt_cmpR (op_neU (hu64 hr)) (pe_me0 (ok_Course_tape T) T.cl_Course T.me_Course_tape hr px (pv 7)) pe_str (by rfl)))))) (pss_one (ps_ret pe_bl)) pss_nil) (pss_cons (ps_for pso rfl (pi_list (pe_lst (pa_cons pe_int (pa_cons pe_int (pa_cons pe_non (pa_cons pe_bl (pa_cons pe_str pa_nil))))))) (pg_name (i := 6) sc_law.nd rfl (by first | exact Or.inl rfl | exact Or.inr rfl)) (pss_one (ps_if (pt_cmpR (op_neU (hu64 hr)) (lam_law T hN TB_law (by rfl) hcd (by rfl) (k := 11) (hr.mono (by decide)) (LamX.lamS_by (by first | decide +kernel | kernel_rfl)) (fun _ => rfl) (fun _ _ _ _ _ => rfl) (fun _ _ _ _ _ _ _ hr => (Hx.pe_meL (ok_Course_back T) T.cl_Course T.me_Course_back hr (Hx.pvL 7) (pa_cons (Hx.pvL 6) pa_nil)))) (pe_tup (pa_cons pe_str (pa_cons pe_str pa_nil))) (by rfl)) (pss_one (ps_ret pe_bl)) pss_nil))) (pss_cons (ps_expr (pe_me (ok_Course_tick T) T.cl_Course T.me_Course_tick hr px (pv 7) (pa_cons pe_str pa_nil))) (pss_cons (ps_for pso rfl (pi_list (pe_lst (pa_cons pe_int (pa_cons (pe_un un_neg pe_int) (pa_cons pe_int (pa_cons pe_non (pa_cons pe_bl (pa_cons pe_str pa_nil)))))))) (pg_name (i := 6) sc_law.nd rfl (by first | exact Or.inl rfl | exact Or.inr rfl)) (pss_one (ps_if (PW.pt (pw_or (pt_cmpR (op_neU (hu64 hr)) (lam_law T hN TB_law (by rfl) hcd (by rfl) (k := 11) (hr.mono (by decide)) (LamX.lamS_by (by first | decide +kernel | kernel_rfl)) (fun _ => rfl) (fun _ _ _ _ _ => rfl) (fun _ _ _ _ _ _ _ hr => (Hx.pe_meL (ok_Course_back T) T.cl_Course T.me_Course_back hr (Hx.pvL 7) (pa_cons (Hx.pvL 6) pa_nil)))) (pe_tup (pa_cons pe_str (pa_cons pe_str pa_nil))) (by rfl)) (pw_or1 (pt_cmpR (op_neU (hu64 hr)) (pe_me0 (ok_Course_clock T) T.cl_Course T.me_Course_clock hr px (pv 7)) pe_int (by rfl))))) (pss_one (ps_ret pe_bl)) pss_nil))) (pss_cons (ps_expr (pe_me (ok_Course_back T) T.cl_Course T.me_Course_back hr px (pv 7) (pa_cons pe_int pa_nil))) (pss_cons (ps_if (PW.pt (pw_or (pt_cmpR (op_eqU (hu64 hr)) (lam_law T hN TB_law (by rfl) hcd (by rfl) (k := 11) (hr.mono (by decide)) (LamX.lamS_by (by first | decide +kernel | kernel_rfl)) (fun _ => rfl) (fun _ _ _ _ _ => rfl) (fun _ _ _ _ _ _ _ hr => (Hx.pe_meL (ok_Course_tick T) T.cl_Course T.me_Course_tick hr (Hx.pvL 7) (pa_cons pe_str pa_nil)))) (pe_tup (pa_cons pe_str (pa_cons pe_str pa_nil))) (by rfl)) (pw_or1 (pt_not (pt_val (pe_fn (ok__law_trails_bad T hN TB__law_trails_bad) hr rfl T.g__law_trails_bad px (pa_cons (pv 3) pa_nil))))))) (pss_one (ps_ret pe_bl)) pss_nil) (pss_one (ps_if (PW.pt (pw_or (pt_cmpR (op_neU (hu64 hr)) (lam_law T hN TB_law (by rfl) hcd (by rfl) (k := 11) (hr.mono (by decide)) (LamX.lamS_by (by first | decide +kernel | kernel_rfl)) (fun _ => rfl) (fun _ _ _ _ _ => rfl) (fun _ _ _ _ _ _ _ hr => (Hx.pe_me0L (ok_Course_again T) T.cl_Course T.me_Course_again hr (Hx.pvL 7)))) (pe_tup (pa_cons pe_str (pa_cons pe_str pa_nil))) (by rfl)) (pw_or1 (pt_cmpR (op_neU (hu64 hr)) (pe_me0 (ok_Course_clock T) T.cl_Course T.me_Course_clock hr px (pv 7)) pe_int (by rfl))))) (pss_one (ps_ret pe_bl)) pss_nil)))))))))))))))) (pss_one (ps_ret pe_bl)))
end
theorem facts {w : World} {K : PySem.W.Frag} {h : Heap} {mg : Str → Option Value} {f : Addr} (X : K.In h) (G : h.Ns mainGlobals mg) (hfa : mg ("law" : Str) = some (.ref f)) (c : He.SaysX fa fn [] tf exB w h K) :
    LamX.LawAtS PySem.Challenge.rw_floorrun_k81_courses_refused w K CX0 14 63 "script" mg f h := by
  have T := tx_mk X G c.t.d
  have e := hfa.symm.trans T.g_law
  cases e
  obtain ⟨fd, F⟩ := T.d_law
  have b := FunD.bindsA (ps := ["script"]) F fun _ _ _ _ _ _ us hl => match us, hl with | [_], _ => rfl
  have at_ : ∀ p ∈ tf.map (He.cT K), ∃ d ∈ tf, p = He.cT K d := fun p hp => by
    obtain ⟨d, h1, h2⟩ := List.mem_map.mp hp
    exact ⟨d, h1, h2.symm⟩
  have mem : ∀ d ∈ tf, He.cT K d ∈ tf.map (He.cT K) := fun d hd => List.mem_map.mpr ⟨d, hd, rfl⟩
  refine ⟨fd, tf.map (He.cT K), fun vs H Q _ => up (sb_law K) vs H Q E0, fun p hp => ?_, fun p hp => ?_, fun p hp => ?_, fun s v => b s [v] rfl, fun H a ns hl _ hH hS => ⟨H, fun v _ => v = .bl true, B.K0, Evl.Ex.refl H, ⟨fx_of c.more, tl_start (hH _ (mem ("_law_trails_bad", none) (by decide))) (hH _ (mem ("law", none) (by decide))), ⟨T.cl_World, T.na_World_rows, T.na_World_lifts⟩, ⟨T.cl_Runner, T.na_Runner_world, T.na_Runner_time, T.na_Runner_left, T.na_Runner_top, T.na_Runner_across, T.na_Runner_down, T.na_Runner_was_jumping⟩, ⟨T.cl_Course, T.na_Course_runner, T.na_Course_begun, T.na_Course_things, T.na_Course_goal, T.na_Course_rows, T.na_Course_gone_back, T.na_Course_got, T.na_Course_reached⟩, a, ns, rfl, hS, hl, fun _ => rfl⟩, fun v b' H' q _ => q, fun _ _ _ q _ => q.elim⟩, fun base _ _ hT => fn_cx0 (okF_law T (tlok_of c.more) (hT _ (mem ("_law_trails_bad", none) (by decide))) (hT _ (mem ("law", none) (by decide))) F)⟩
  · obtain ⟨d, h1, rfl⟩ := at_ p hp
    exact c.empty d h1
  · obtain ⟨d, h1, rfl⟩ := at_ p hp
    exact c.out d h1
  · obtain ⟨d, h1, rfl⟩ := at_ p hp
    exact PySem.W.codeHd_of_K X (c.hd d h1)
end Fr
open PySem PySem.W PySem.Calls PyProof.Rows
set_option maxHeartbeats 0 in
theorem PySem.Challenge.cw_floorrun_k81_courses_refused_holds : PySem.Challenge.rw_floorrun_k81_courses_refused.Holds := by
  w_on; o_law
  refine HandSHeadRun.head_any (r := OpenLaw.row PySem.Challenge.rw_floorrun_k81_courses_refused) (q := view (OpenLaw.row PySem.Challenge.rw_floorrun_k81_courses_refused).prog [57]) (H := Fr.hk) (ob := Fr.ob) (M := 12000) (loose := Fr.loose) (d := HandSHeadRun.topDef (OpenLaw.row PySem.Challenge.rw_floorrun_k81_courses_refused).prog 57) (kwd := []) Fr.ob_eq
    (by kernel_rfl) (fun s => by kernel_rfl) Fr.run (by kernel_rfl) (by kernel_rfl) (by kernel_rfl) (by rfl) (by first | assumption | decide +kernel) (by decide +kernel) ⟨rfl, rfl, rfl, rfl, rfl, by decide +kernel⟩ ?hw ?hc
  case hw => w_witness2
  case hc =>
    refine LamX.walk_ofTsE (l := PySem.Challenge.rw_floorrun_k81_courses_refused) (n := 63) (k := 14) (x := "script") (CX := fun _ => L2.CX0) rfl (by decide) (by kernel_rfl) ⟨rfl, by decide, by decide⟩ ?F (fun _ _ _ _ _ z => z)
    intro w mg fa h Y G hmg0
    obtain ⟨K, KX, c⟩ := Y
    have hmg : mg ("law" : PySem.Str) = some (.ref fa) := by
      have e : (HandSHeadRun.topDef (OpenLaw.row PySem.Challenge.rw_floorrun_k81_courses_refused).prog 57).name = ("law" : PySem.Str) := by kernel_rfl
      rw [← e]
      exact hmg0
    exact ⟨K, KX, Fr.facts KX G hmg c⟩
