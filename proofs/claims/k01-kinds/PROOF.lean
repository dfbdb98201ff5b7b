import PyProof.Rows.All
import Wide.All
import OpenK.AllK
import Wide.FinOn
import PyProof.EqAt
import PyProof.EqKinds
import PyProof.TupleCall
import HandS.ForMost
import HandS.ForExc
import HandS.Evl
import HandS.Walk
import HandS.IsInst
import HandS.Flow
import HandS.Style
import HandS.Conv
import HandS.More
import HandS.Codes
import HandS.Small
import HandS.NoneIn
import HandS.Zip
import HandS.ListItems
import HandS.SetKeys
import HandS.StrMore
import KE.LtData
import KE.DataMinMax
import HandS.Ends
import PySem.Challenge.RW_beamwatch_k01_kinds
set_option Elab.async false
set_option linter.all false
set_option maxRecDepth 100000
set_option maxRecDepth 100000
set_option maxHeartbeats 4000000
/-! Rules of our own over the hand layer: operators of several kinds, readings that leave what is known. -/
namespace Bw
open PySem PySem.Spec PyProof.Rows L2 Evl
abbrev Frag := PySem.W.Frag
/-- the text of these code points -/
abbrev S (l : List Nat) : Str := ⟨l.toArray⟩
abbrev T (l : List Nat) : V := .str (S l)
theorem S_len (l : List Nat) : (S l).length = l.length := by simp [Str.length]
theorem S_app (a b : List Nat) : S a ++ S b = S (a ++ b) := congrArg Str.mk (by simp)
theorem S_inj {a b : List Nat} (h : S a = S b) : a = b := by
  have := congrArg (fun s : Str => s.cps.toList) h
  simpa using this
theorem T_inj {a b : List Nat} (h : T a = T b) : a = b := S_inj (V.str.inj h)
theorem T_eq {a b : List Nat} : decide (T a = T b) = decide (a = b) := by
  by_cases h : a = b
  · subst h; simp
  · rw [decide_eq_false h, decide_eq_false fun q => h (T_inj q)]
/-- what a module's name holds -/
def GV (mg : Str → Option Value) (x : Str) (v : V) : Prop := ∃ u, mg x = some u ∧ RelV v u

section
variable {X : Cx}
/-! ### operators of several kinds -/
theorem OpR.ors {X : Cx} {f : Value → Value → Sem Value} {r r' : R2} (h : OpR X f r) (h' : OpR X f r') : OpR X f (fun x y H Q => r x y H Q ∨ r' x y H Q) := OpR.or h h'
def rAddI : R2 := rI0 fun i j => .int (i + j)
def rAddT : R2 := fun x y H Q => ∃ i j, x = .str i ∧ y = .str j ∧ i.length + j.length ≤ sizeLine ∧ Q (.str (i ++ j)) H
/-- two lists joined, either may be one that is only read -/
def rCatS (K : Frag) : R2 := fun x y H Q => ∃ l b xs zs, x = .ref l ∧ y = .ref b ∧ SqL K H l xs ∧ SqL K H b zs ∧ xs.length + zs.length ≤ sizeLine ∧ ∀ p, H p = none → Q (.ref p) (upd H p (.lst (xs ++ zs)))
theorem op_catS : OpR X (binaryOp .Add) (rCatS X.K) := by
  intro pins s σ H x y v u Q I rx ry ⟨l, b, xs, zs, e1, e2, h1, h2, hz, q⟩
  subst e1 e2
  cases rx
  cases ry
  obtain ⟨i1, r1, ⟨o1, n1, g1, c1, d1, t1⟩, _⟩ := I.list h1
  obtain ⟨i2, r2, ⟨o2, n2, g2, c2, d2, t2⟩, _⟩ := I.list h2
  obtain ⟨oc1, od1, ot1, os1⟩ := o1
  obtain ⟨oc2, od2, ot2, os2⟩ := o2
  dsimp only at c1 t1 c2 t2
  subst c1 t1 c2 t2
  have l1 := r1.length
  have l2 := r2.length
  refine concat_meets ⟨_, g1, rfl⟩ ⟨_, g2, rfl⟩ noFill_list_add seq_list_add PySem.F.slot_list_add PySem.F.entry_list_add (PySem.F.args_list_add_2 _ _)
    (PyProof.Rows.list_addW l b i1.toArray i2.toArray n1 n2 od1 od2 os1 os2 (by rw [List.size_toArray, List.size_toArray]; omega)) ⟨g1, g2, ?_⟩
  rw [show i1.toArray ++ i2.toArray = (i1 ++ i2).toArray by simp]
  exact ⟨.ref _, _, I.lnew (t' := s.toks) (r1.append r2) (by rw [List.length_append]; omega), rfl, q _ I.fresh⟩
def rAddA (K : Frag) : R2 := fun x y H Q => rAddI x y H Q ∨ (fun x y H Q => rAddT x y H Q ∨ rCatS K x y H Q) x y H Q
theorem opAdd : OpR X (binaryOp .Add) (rAddA X.K) := OpR.ors op_add (OpR.ors op_add_str op_catS)
def rSubI : R2 := rI0 fun i j => .int (i - j)
theorem opSub : OpR X (binaryOp .Sub) rSubI := op_sub
def rModI : R2 := rI (fun _ j => 0 < j) fun i j => .int (i % j)
theorem opMod : OpR X (binaryOp .Mod) rModI := op_mod
def rDivI : R2 := rI CDiv fun i j => .int (i / j)
theorem opDiv : OpR X (binaryOp .FloorDiv) rDivI := op_fdiv
def rEqA (K : Frag) : R2 := fun x y H Q => rEq x y H Q ∨ rEqD K x y H Q
theorem opEq (hu : X.A.units + 64 < cLine) : OpR X (compareOp .Eq) (rEqA X.K) := OpR.ors op_eq (op_eqD hu)
def rNeA (K : Frag) : R2 := fun x y H Q => rNe x y H Q ∨ rNeD K x y H Q
theorem opNe (hu : X.A.units + 64 < cLine) : OpR X (compareOp .NotEq) (rNeA X.K) := OpR.ors op_ne (op_neD hu)
def rLtI : R2 := rI0 fun i j => .bl (decide (i < j))
theorem opLt : OpR X (compareOp .Lt) rLtI := op_lt
def rLeI : R2 := rI0 fun i j => .bl (decide (i ≤ j))
theorem opLe : OpR X (compareOp .LtE) rLeI := op_le
def rGtI : R2 := rI0 fun i j => .bl (decide (j < i))
theorem opGt : OpR X (compareOp .Gt) rGtI := op_gt
def rGeI : R2 := rI0 fun i j => .bl (decide (j ≤ i))
theorem opGe : OpR X (compareOp .GtE) rGeI := op_ge
/-- in: a sign in a text, a text in a text, a flat thing in a list or tuple -/
def rInC : R2 := fun x y H Q => ∃ (c : Nat) (z : Str), x = .str ⟨#[c]⟩ ∧ y = .str z ∧ Q (.bl (decide (c ∈ z.cps.toList))) H
def rInT : R2 := fun x y H Q => ∃ i j, x = .str i ∧ y = .str j ∧ Q (.bl (!(Builtin.Str.occurrences j i 0 j.length 1).isEmpty)) H
def rInA (K : Frag) : R2 := fun x y H Q => rInC x y H Q ∨ (fun x y H Q => rInT x y H Q ∨ rIn K false x y H Q) x y H Q
theorem opIn : OpR X (compareOp .In) (rInA X.K) := OpR.ors op_in_sign (OpR.ors op_in_str op_in_seq)
def rNiC : R2 := fun x y H Q => ∃ (c : Nat) (z : Str), x = .str ⟨#[c]⟩ ∧ y = .str z ∧ Q (.bl (!decide (c ∈ z.cps.toList))) H
def rNiT : R2 := fun x y H Q => ∃ i j, x = .str i ∧ y = .str j ∧ Q (.bl (!(!(Builtin.Str.occurrences j i 0 j.length 1).isEmpty))) H
def rNiA (K : Frag) : R2 := fun x y H Q => rNiC x y H Q ∨ (fun x y H Q => rNiT x y H Q ∨ rIn K true x y H Q) x y H Q
theorem opNotIn : OpR X (compareOp .NotIn) (rNiA X.K) := OpR.ors op_notIn_sign (OpR.ors op_notIn_str op_notIn_seq)
def rIsNon : R2 := fun x y H Q => y = .non ∧ Q (.bl (decide (x = .non))) H
theorem opIs : OpR X (compareOp .Is) rIsNon := op_isN
def rNotNon : R2 := fun x y H Q => y = .non ∧ Q (.bl (!decide (x = .non))) H
theorem opIsNot : OpR X (compareOp .IsNot) rNotNon := op_notN
def rNeg : V → Hp → VK → Prop := rU fun i => .int (-i)
theorem unNeg : UnR X (unaryOp .USub) rNeg := un_neg
/-- slices of lists and texts -/
def rSlA (K : Frag) : V → Option Int → Option Int → Hp → VK → Prop := fun x lo hi H Q => rSlL K x lo hi H Q ∨ rSlS x lo hi H Q
theorem slA : SlR X (rSlA X.K) := SlR.or sl_list sl_str
/-- len of a list, tuple, text, dict -/
def rLenA (K : Frag) : List V → Hp → VK → Prop := fun xs H Q => (fun xs H Q => ∃ x n, xs = [x] ∧ LenV K x H n ∧ Q (.int n) H) xs H Q ∨ (fun xs H Q => ∃ a kvs, xs = [V.ref a] ∧ H a = some (.dK kvs) ∧ Q (.int kvs.length) H) xs H Q
theorem c_len : CallR X (.builtin "len") (rLenA X.K) := CallR.or call_len call_lenD
def rStrI : List V → Hp → VK → Prop := fun xs H Q => ∃ i, xs = [.int i] ∧ i.natAbs.log2 < 1920 ∧ Q (.str (toString i)) H
theorem c_str : CallR X (.type "str") rStrI := call_str_int
def rIntS : List V → Hp → VK → Prop := fun xs H Q => ∃ a n, xs = [.str a] ∧ PySem.intText? a = some n ∧ a.length ≤ 640 ∧ Q (.int n) H
theorem c_int : CallR X (.type "int") rIntS := call_int_str
def rListA (K : Frag) : List V → Hp → VK → Prop := fun xs H Q => (fun xs H Q => ∃ p ys, xs = [.ref p] ∧ (SqL K H p ys ∨ SqT K H p ys) ∧ ∀ l, H l = none → Q (.ref l) (upd H l (.lst ys))) xs H Q ∨
  (fun xs H Q => ∃ (a : Addr) (kvs : List (Key × V)), xs = [.ref a] ∧ Rd H a (.dK kvs) ∧ ∀ p, H p = none → Q (.ref p) (upd H p (.lst (kvs.map fun kv => kV kv.1)))) xs H Q
theorem c_list (hc : X.calm = true) : CallR X (.type "list") (rListA X.K) := CallR.or call_list_of (call_listD hc)
theorem pe_sT {x : Str} {l : List Nat} {j : Nat} {pos : Pos} (h : x = S l) : PE X (.Constant (.str x) j pos) (tC (T l)) := h ▸ pe_str
theorem pe_g {x : Str} {v : V} {pos : Pos} (hg : Gl X x) (h : GV X.mg x v) (hd : (x == ("__debug__" : Str)) = false := by decide) : PE X (.Name x pos) (tC v) := by
  obtain ⟨u, h1, h2⟩ := h
  exact pe_glob hg h1 h2 hd
/-- a def of the module that lets no exception out, under its name -/
structure Cal (P : Program) (w : World) (K : Frag) (mg : Str → Option Value) (base : Heap) (k : Nat) (x : Str) (sp : Sp) : Prop where
  ex : ∃ (f : Addr) (fd : FuncData) (ps : List Str), FnOk P w K mg base CX0 k f fd ps sp ∧ mg x = some (.ref f) ∧ PySem.W.keepIn K (.ref f) = true ∧ Binds K fd ps []
variable {k j : Nat} {C : Addr} {x m : Str} {sp : Sp} {dvs : List V} {p pos apos : Pos} {e o : Expr} {es : List Expr} {ta : TE} {t : TA}
theorem pe_k (c : Cal X.prog X.w X.K X.mg X.base k x sp) (hr : Room j X.A) (hk : k ≤ j) (hg : Gl X x) (ha : PA X (e :: es) t)
    (hdb : (x == ("__debug__" : Str)) = false := by decide) (he : starEach (e :: es) X.env = (false, eval e X.env) :: starEach es X.env := by rfl) (hpl : (backTo pos (starEach es X.env)).any (·.1) = false := by rfl) :
    PE X (.Call (.Name x p) (e :: es) [] pos) (tCall sp [] E0 t) := by
  obtain ⟨f, fd, ps, F, hm, kp, b⟩ := c.ex
  exact pe_call F (hr.mono hk) hg hm kp b .nil pass0 ha hdb he hpl
end

/-! ### readings -/
section
variable {K : Frag} {σ : L2.St} {H H' : Hp} {ta tb tc te tx : TE} {t u : TT} {x y z v : V} {r r' : R2}
theorem rv_addI {i j : Int} : RV (rAddA K) (.int i) (.int j) H (.int (i + j)) := fun H1 _ _ q => .inl ⟨i, j, rfl, rfl, q H1 (Ex.refl H1)⟩
theorem rv_addT {a b : List Nat} (h : a.length + b.length ≤ 100000) : RV (rAddA K) (T a) (T b) H (T (a ++ b)) := fun H1 _ _ q =>
  .inr (.inl ⟨S a, S b, rfl, rfl, by rw [S_len, S_len]; exact sz_of h, by rw [S_app]; exact q H1 (Ex.refl H1)⟩)
/-- two lists joined: a new list -/
theorem el_catNN {ta tb : TE} {xs ys : List V} (ha : EvL ta σ H xs) (hb : EvL tb σ H ys) (hz : xs.length + ys.length ≤ 100000) : EvL (tOp (rAddA K) ta tb) σ H (xs ++ ys) := fun H1 e Q k =>
  ha H1 e _ fun p H2 hp e2 h2 => hb H2 (e.trans e2) _ fun q H3 hq e3 h3 => .inr (.inr ⟨p, q, xs, ys, rfl, rfl, sq_of (e3 _ _ h2), sq_of h3, sz_of hz, fun d hd => k d _ (fresh_back (e2.trans e3) hd) ((e2.trans e3).trans (Ex.new hd)) upd_same⟩)
theorem el_catLN {ta tb : TE} {xs ys : List V} {p : Addr} (ha : Ev ta σ H (.ref p)) (hx : SqL K H p xs) (hb : EvL tb σ H ys) (hz : xs.length + ys.length ≤ 100000) : EvL (tOp (rAddA K) ta tb) σ H (xs ++ ys) := fun H1 e Q k =>
  ha H1 e _ fun H2 e2 => hb H2 (e.trans e2) _ fun q H3 hq e3 h3 => .inr (.inr ⟨p, q, xs, ys, rfl, rfl, ex_l ((e.trans e2).trans e3) hx, sq_of h3, sz_of hz, fun d hd => k d _ (fresh_back (e2.trans e3) hd) ((e2.trans e3).trans (Ex.new hd)) upd_same⟩)
theorem rv_subI {i j : Int} : RV rSubI (.int i) (.int j) H (.int (i - j)) := fun H1 _ _ q => ⟨i, j, rfl, rfl, q H1 (Ex.refl H1)⟩
theorem rv_modI {i j : Int} (h : 0 < j) : RV rModI (.int i) (.int j) H (.int (i % j)) := fun H1 _ _ q => ⟨i, j, rfl, rfl, h, q H1 (Ex.refl H1)⟩
theorem rv_divI {i j : Int} (h : CDiv i j) : RV rDivI (.int i) (.int j) H (.int (i / j)) := fun H1 _ _ q => ⟨i, j, rfl, rfl, h, q H1 (Ex.refl H1)⟩
theorem rv_eqS (h : scal x y = true) : RV (rEqA K) x y H (.bl (decide (x = y))) := fun H1 _ _ q => .inl ⟨h, q H1 (Ex.refl H1)⟩
theorem rv_neS (h : scal x y = true) : RV (rNeA K) x y H (.bl (!decide (x = y))) := fun H1 _ _ q => .inl ⟨h, q H1 (Ex.refl H1)⟩
theorem rv_eqI {i j : Int} : RV (rEqA K) (.int i) (.int j) H (.bl (decide (i = j))) := fun H1 _ _ q => .inl ⟨rfl, by
  have e : decide (V.int i = V.int j) = decide (i = j) := by simp
  rw [e]; exact q H1 (Ex.refl H1)⟩
theorem rv_neI {i j : Int} : RV (rNeA K) (.int i) (.int j) H (.bl (!decide (i = j))) := fun H1 _ _ q => .inl ⟨rfl, by
  have e : decide (V.int i = V.int j) = decide (i = j) := by simp
  rw [e]; exact q H1 (Ex.refl H1)⟩
theorem rv_eqT {a b : List Nat} : RV (rEqA K) (T a) (T b) H (.bl (decide (a = b))) := fun H1 _ _ q => .inl ⟨rfl, by rw [T_eq]; exact q H1 (Ex.refl H1)⟩
theorem rv_neT {a b : List Nat} : RV (rNeA K) (T a) (T b) H (.bl (!decide (a = b))) := fun H1 _ _ q => .inl ⟨rfl, by rw [T_eq]; exact q H1 (Ex.refl H1)⟩
theorem rv_ltI {i j : Int} : RV rLtI (.int i) (.int j) H (.bl (decide (i < j))) := rv_I0
theorem rv_leI {i j : Int} : RV rLeI (.int i) (.int j) H (.bl (decide (i ≤ j))) := rv_I0
theorem rv_gtI {i j : Int} : RV rGtI (.int i) (.int j) H (.bl (decide (j < i))) := rv_I0
theorem rv_geI {i j : Int} : RV rGeI (.int i) (.int j) H (.bl (decide (j ≤ i))) := rv_I0
theorem rv_inC {c : Nat} {l : List Nat} : RV (rInA K) (T [c]) (T l) H (.bl (decide (c ∈ l))) := fun H1 _ _ q => .inl ⟨c, S l, rfl, rfl, q H1 (Ex.refl H1)⟩
theorem rv_niC {c : Nat} {l : List Nat} : RV (rNiA K) (T [c]) (T l) H (.bl (!decide (c ∈ l))) := fun H1 _ _ q => .inl ⟨c, S l, rfl, rfl, q H1 (Ex.refl H1)⟩
theorem rv_isN : RV rIsNon x .non H (.bl (decide (x = .non))) := fun H1 _ _ q => ⟨rfl, q H1 (Ex.refl H1)⟩
theorem rv_notN : RV rNotNon x .non H (.bl (!decide (x = .non))) := fun H1 _ _ q => ⟨rfl, q H1 (Ex.refl H1)⟩
theorem ru_negI {i : Int} : RU rNeg (.int i) H (.int (-i)) := ru_neg
theorem ev_chain {k k' : Bool} (ha : Ev ta σ H x) (hb : Ev tb σ H y) (hr : RV r x y H (.bl k)) (hc : k = true → Ev tc σ H z ∧ RV r' y z H (.bl k')) : Ev (tChain r r' ta tb tc) σ H (.bl (k && k')) := fun H1 e Q q =>
  ha H1 e _ fun H2 e2 => hb H2 (e.trans e2) _ fun H3 e3 => hr H3 ((e.trans e2).trans e3) _ fun H4 e4 => ⟨k, rfl, by
    cases k with
    | true =>
      obtain ⟨h1, h2⟩ := hc rfl
      show tc σ H4 fun w' H4 => r' y w' H4 Q
      exact h1 H4 (((e.trans e2).trans e3).trans e4) _ fun H5 e5 => h2 H5 ((((e.trans e2).trans e3).trans e4).trans e5) Q fun H6 e6 => q H6 ((((e2.trans e3).trans e4).trans e5).trans e6)
    | false =>
      show Q (.bl false) H4
      exact q H4 ((e2.trans e3).trans e4)⟩
theorem ev_lenT {l : List Nat} (ha : Ev ta σ H (T l)) (h : l.length ≤ 100000) : Ev (tCB (rLenA K) (tCons ta tNil)) σ H (.int (l.length : Int)) := fun H1 e Q q =>
  ha H1 e _ fun H2 e2 => .inl ⟨T l, (S l).length, rfl, ⟨by rw [S_len]; exact sz_of h, rfl⟩, by rw [S_len]; exact q H2 e2⟩
theorem ev_lenL {p : Addr} {xs : List V} (ha : Ev ta σ H (.ref p)) (h : SqL K H p xs) : Ev (tCB (rLenA K) (tCons ta tNil)) σ H (.int (xs.length : Int)) := fun H1 e Q q =>
  ha H1 e _ fun H2 e2 => .inl ⟨.ref p, xs.length, rfl, .inl ⟨xs, ex_l (e.trans e2) h, rfl⟩, q H2 e2⟩
theorem ev_all {bs : List Bool} (h : EvL te σ H (bs.map V.bl)) : Ev (tCB (rAll K) (tCons te tNil)) σ H (.bl (bs.all id)) := fun H1 e Q q =>
  h H1 e _ fun p H2 _ e2 h2 => ⟨p, bs, rfl, sq_of h2, q H2 e2⟩
/-- an item at an int -/
theorem atI_of {α : Type} {xs : List α} {i : Int} (d : α) (h0 : 0 ≤ i) (h1 : i < xs.length) : atI xs i = some (xs.getD i.toNat d) := by
  have hl : i.toNat < xs.length := by omega
  have e : i = ((i.toNat : Nat) : Int) := by omega
  have := atI_nat (xs := xs) (j := i.toNat) (v := xs.getD i.toNat d) (by rw [List.getD_eq_getElem?_getD, List.getElem?_eq_getElem hl]; rfl)
  rw [← e] at this
  exact this
theorem rv_ixL2 {p : Addr} {xs : List V} {i : Int} (h : SqL K H p xs) (ha : atI xs i = some v) : RV (rIx K) (.ref p) (.int i) H v := fun H1 e _ q => .inl ⟨p, xs, i, v, rfl, rfl, ex_l e h, ha, q H1 (Ex.refl H1)⟩
theorem rv_ixT2 {p : Addr} {xs : List V} {i : Int} (h : SqT K H p xs) (ha : atI xs i = some v) : RV (rIx K) (.ref p) (.int i) H v := fun H1 e _ q => .inr (.inl ⟨p, xs, i, v, rfl, rfl, ex_t e h, ha, q H1 (Ex.refl H1)⟩)
theorem rv_ixS2 {l : List Nat} {i : Int} {c : Nat} (h : l.length ≤ 100000) (ha : atI l i = some c) : RV (rIx K) (T l) (.int i) H (T [c]) := fun H1 e _ q => .inr (.inr ⟨S l, i, c, rfl, rfl, by rw [S_len]; exact sz_of h, ha, q H1 (Ex.refl H1)⟩)
theorem rv_ixS3 {l : List Nat} {i : Int} (h : l.length ≤ 100000) (h0 : 0 ≤ i) (h1 : i < l.length) : RV (rIx K) (T l) (.int i) H (T [l.getD i.toNat 0]) := rv_ixS2 h (atI_of 0 h0 h1)
/-- slices of texts, by natural bounds -/
def cutN (l : List Nat) (lo hi : Option Int) : List Nat := (l.drop (HT.sIx l.length 0 lo)).take (HT.sIx l.length l.length hi - HT.sIx l.length 0 lo)
theorem cutS_S (l : List Nat) (lo hi : Option Int) : cutS (S l) lo hi = S (cutN l lo hi) := by
  unfold cutS cutN
  simp [Str.length]
theorem ev_slT {tl th : TO} {l : List Nat} {lo hi : Option Int} (h : Ev te σ H (T l)) (h1 : EvO tl σ H lo) (h2 : EvO th σ H hi) (hz : l.length ≤ 100000) : Ev (tSl (rSlA K) te tl th) σ H (T (cutN l lo hi)) := fun H1 e _ q =>
  h H1 e _ fun H2 e2 => h1 H2 (e.trans e2) _ fun H3 e3 => h2 H3 ((e.trans e2).trans e3) _ fun H4 e4 =>
    .inr ⟨S l, rfl, by rw [S_len]; exact sz_of hz, by rw [cutS_S]; exact q H4 ((e2.trans e3).trans e4)⟩
theorem cutN_to (l : List Nat) (k : Nat) : cutN l none (some (k : Int)) = l.take k := by
  unfold cutN
  rw [HT.sIx_none, HT.sIx_nat, List.drop_zero, Nat.sub_zero]
  rcases Nat.le_total k l.length with h | h
  · rw [Nat.min_eq_left h]
  · rw [Nat.min_eq_right h, List.take_of_length_le h, List.take_length]
theorem cutN_from (l : List Nat) (k : Nat) : cutN l (some (k : Int)) none = l.drop k := by
  unfold cutN
  rw [HT.sIx_none, HT.sIx_nat]
  rcases Nat.le_total k l.length with h | h
  · rw [Nat.min_eq_left h, List.take_of_length_le (by rw [List.length_drop]; exact Nat.le_refl _)]
  · rw [Nat.min_eq_right h, List.drop_length, List.drop_eq_nil_of_le h]; simp
theorem ev_toT {l : List Nat} {k : Nat} (h : Ev te σ H (T l)) (h2 : Ev tb σ H (.int (k : Int))) (hz : l.length ≤ 100000) : Ev (tSl (rSlA K) te tNoPart (tPart tb)) σ H (T (l.take k)) := by
  have := ev_slT (K := K) h eo_none (eo_some h2) hz
  rwa [cutN_to] at this
theorem ev_fromT {l : List Nat} {k : Nat} (h : Ev te σ H (T l)) (h2 : Ev tb σ H (.int (k : Int))) (hz : l.length ≤ 100000) : Ev (tSl (rSlA K) te (tPart tb) tNoPart) σ H (T (l.drop k)) := by
  have := ev_slT (K := K) h (eo_some h2) eo_none hz
  rwa [cutN_from] at this

/-! ### comprehensions -/
theorem filt_snoc {α : Type} (p : α → Bool) (q : α → V) (xs : List α) (i : Nat) (a : α) (h : xs[i]? = some a) :
    ((xs.take (i + 1)).filter p).map q = ((xs.take i).filter p).map q ++ (if p a then [q a] else []) := by
  have e : xs.take (i + 1) = xs.take i ++ [a] := by rw [List.take_add_one, h]; rfl
  rw [e, List.filter_append, List.map_append]
  congr 1
  cases hp : p a <;> simp [hp]
/-- a comprehension over a walk of the list xs (ι: how its items are seen), which keeps what is known -/
theorem el_lcW {α : Type} {g : TG} {vs : List Nat} {J : It} {G : Hp → Prop} {Y : Nat → Hp → V → Hp → Prop} {H1 : Hp} (xs : List α) (p : α → Bool) (q : α → V) (w : Walk J xs.length G Y) (hz : xs.length ≤ 100000)
    (hG : ∀ H', Ex H1 H' → G H')
    (hs : ∀ (i : Nat) (a : α) (x : V) (H2 H3 : Hp), xs[i]? = some a → Ex H1 H2 → Y i H2 x H3 → Ex H2 H3 ∧ ∀ H4, Ex H3 H4 → ∀ R : L2.St → Hp → Prop, (∀ σ2 H5, Ex H4 H5 → wipe σ2 vs = wipe σ vs → EvT t σ2 H5 (p a) → (p a = true → Ev te σ2 H5 (q a)) → R σ2 H5) → g x (wipe σ vs) H4 R)
    {Q : VK} (hq : ∀ D H2, H1 D = none → Ex H1 H2 → H2 D = some (.lst ((xs.filter p).map q)) → Q (.ref D) H2) :
    ∀ D, H1 D = none → ∃ W : Nat → Nat → Hp → Prop, (∃ m, W 0 m (upd H1 D (.lst []))) ∧ ∀ i m H, W i m H →
      (J.stop i H ∧ Q (.ref D) H) ∨ (J.go i H ∧ ∃ Nx : Hp → Prop, (∀ H', Nx H' → ∃ m', m' < m ∧ W (i + 1) m' H') ∧ ∀ x H', J.yld i H x H' → g x (wipe σ vs) H' fun σ2 H2 => wipe σ2 vs = wipe σ vs ∧ t σ2 H2 fun b H3 =>
        if b = true then te σ2 H3 fun y H4 => ∃ acc, H4 D = some (.lst acc) ∧ acc.length < sizeLine ∧ Nx (upd H4 D (.lst (acc ++ [y]))) else Nx H3) := fun D hD => by
  refine lc_it w (fun i H' => Ex H1 H' ∧ H' D = some (.lst (((xs.take i).filter p).map q))) ⟨Ex.new hD, upd_same⟩ (fun i H' _ h => hG H' h.1) ?_ (fun H' h => ?_)
  · rintro i x H2 H3 hi ⟨e2, hd⟩ hy
    obtain ⟨a, ha⟩ : ∃ a, xs[i]? = some a := ⟨xs[i], List.getElem?_eq_getElem hi⟩
    obtain ⟨e3, k⟩ := hs i a x H2 H3 ha e2 hy
    have ilen : (((xs.take i).filter p).map q).length < 100000 := by
      rw [List.length_map]
      have := List.length_filter_le p (xs.take i)
      rw [List.length_take] at this
      omega
    refine k H3 (Ex.refl _) _ fun σ2 H5 e5 hw ht he => ⟨hw, ?_⟩
    refine ht H5 (Ex.refl _) _ fun H6 e6 => ?_
    have hd6 : H6 D = some (.lst (((xs.take i).filter p).map q)) := e6 _ _ (e5 _ _ (e3 _ _ hd))
    cases hp : p a with
    | true =>
      show te σ2 H6 _
      refine he hp H6 e6 _ fun H7 e7 => ⟨_, e7 _ _ hd6, sz_lt ilen, Ex.mut ((((e2.trans e3).trans e5).trans e6).trans e7) hD, ?_⟩
      rw [upd_same, filt_snoc p q xs i a ha, hp]
      rfl
    | false =>
      show _ ∧ _
      refine ⟨((e2.trans e3).trans e5).trans e6, ?_⟩
      rw [hd6, filt_snoc p q xs i a ha, hp]
      simp
  · rw [List.take_length] at h
    exact hq D H' hD h.1 h.2
/-- the signs of a text -/
theorem el_lcS {l : List Nat} {tl : TE} {j : Nat} {vs : List Nat} (p : Nat → Bool) (q : Nat → V) (h : Ev tl σ H (T l)) (hz : l.length ≤ 100000) (hw : ∀ x, wipe ((wipe σ vs).set j (some x)) vs = wipe σ vs)
    (ht : ∀ c H1, Ex H H1 → c ∈ l → EvT t ((wipe σ vs).set j (some (T [c]))) H1 (p c)) (he : ∀ c H1, Ex H H1 → c ∈ l → p c = true → Ev te ((wipe σ vs).set j (some (T [c]))) H1 (q c)) :
    EvL (tLc (iStr tl) (gName j) t te vs) σ H ((l.filter p).map q) := fun H0 e0 Q k => h H0 e0 _ fun H1 e1 => ⟨S l, rfl, by
  have w : Walk (Its (S l)) l.length (fun _ => True) (fun i H v H' => H' = H ∧ ∃ c, l[i]? = some c ∧ v = T [c]) := by
    have := walk_str (z := S l)
    have e : (S l).cps.size = l.length := by simp
    rw [e] at this
    exact this.mono (fun _ _ => trivial) fun i H x H' _ _ y => ⟨y.1, by
      obtain ⟨c, h1, h2⟩ := y.2
      exact ⟨c, by simpa using h1, h2⟩⟩
  refine el_lcW l p q w hz (fun _ _ => trivial) ?_ (fun D H2 hD e2 h2 => k D H2 (fresh_back e1 hD) (e1.trans e2) h2)
  rintro i a x H2 H3 ha e2 ⟨rfl, c, hc, rfl⟩
  rw [ha] at hc
  cases hc
  have hm := List.mem_of_getElem? ha
  exact ⟨Ex.refl _, fun H4 e4 R r => r _ _ (Ex.refl _) (hw _) (ht a H4 ((e0.trans e1).trans (e2.trans e4)) hm) (he a H4 ((e0.trans e1).trans (e2.trans e4)) hm)⟩⟩
/-- range(n) -/
theorem el_lcR {ts : TA} {n : Nat} {j : Nat} {vs : List Nat} (p : Nat → Bool) (q : Nat → V) (h : EvA ts σ H [.int (n : Int)]) (hz : n ≤ 100000) (hw : ∀ x, wipe ((wipe σ vs).set j (some x)) vs = wipe σ vs)
    (ht : ∀ i H1, Ex H H1 → i < n → EvT t ((wipe σ vs).set j (some (.int (i : Int)))) H1 (p i)) (he : ∀ i H1, Ex H H1 → i < n → p i = true → Ev te ((wipe σ vs).set j (some (.int (i : Int)))) H1 (q i)) :
    EvL (tLc (iRng1 ts) (gName j) t te vs) σ H (((List.range n).filter p).map q) := fun H0 e0 Q k => h H0 e0 _ fun H1 e1 => ⟨(n : Int), rfl, by omega, by omega, by
  have w : Walk (Itr 0 ((n : Int)).toNat) (List.range n).length (fun _ => True) (YFn fun i => .int (0 + (i : Nat))) := by
    rw [List.length_range, Int.toNat_natCast]; exact walk_range
  refine el_lcW (List.range n) p q w (by rw [List.length_range]; exact hz) (fun _ _ => trivial) ?_ (fun D H2 hD e2 h2 => k D H2 (fresh_back e1 hD) (e1.trans e2) h2)
  rintro i a x H2 H3 ha e2 ⟨rfl, rfl⟩
  obtain ⟨hi, ea⟩ := List.getElem?_eq_some_iff.mp ha
  rw [List.getElem_range] at ea
  subst ea
  rw [List.length_range] at hi
  have e0' : (0 : Int) + (i : Nat) = (i : Int) := Int.zero_add _
  refine ⟨Ex.refl _, fun H4 e4 R r => ?_⟩
  show R ((wipe σ vs).set j (some (.int (0 + (i : Nat))))) H4
  rw [e0']
  exact r _ _ (Ex.refl _) (hw _) (ht i H4 ((e0.trans e1).trans (e2.trans e4)) hi) (he i H4 ((e0.trans e1).trans (e2.trans e4)) hi)⟩
/-- the items of a list, ι: how they are seen -/
theorem el_lcI {α : Type} {a : Addr} {tl : TE} {j : Nat} {vs : List Nat} (xs : List α) (ι : α → V) (p : α → Bool) (q : α → V) (h : Ev tl σ H (.ref a)) (hx : SqL K H a (xs.map ι)) (hz : xs.length ≤ 100000) (hw : ∀ x, wipe ((wipe σ vs).set j (some x)) vs = wipe σ vs)
    (ht : ∀ c H1, Ex H H1 → c ∈ xs → EvT t ((wipe σ vs).set j (some (ι c))) H1 (p c)) (he : ∀ c H1, Ex H H1 → c ∈ xs → p c = true → Ev te ((wipe σ vs).set j (some (ι c))) H1 (q c)) :
    EvL (tLc (iList K tl) (gName j) t te vs) σ H ((xs.filter p).map q) := fun H0 e0 Q k => h H0 e0 _ fun H1 e1 => ⟨a, rfl, ⟨_, ex_l (e0.trans e1) hx⟩, by
  have w : Walk (Itl K a) xs.length (fun H => SqL K H a (xs.map ι)) (YAt (xs.map ι)) := by
    have := walk_list (K := K) (a := a) (xs := xs.map ι)
    rwa [List.length_map] at this
  refine el_lcW xs p q w hz (fun H' e' => ex_l ((e0.trans e1).trans e') hx) ?_ (fun D H2 hD e2 h2 => k D H2 (fresh_back e1 hD) (e1.trans e2) h2)
  rintro i c x H2 H3 hc e2 ⟨rfl, hx⟩
  rw [List.getElem?_map, hc] at hx
  cases hx
  have hm := List.mem_of_getElem? hc
  exact ⟨Ex.refl _, fun H4 e4 R r => r _ _ (Ex.refl _) (hw _) (ht c H4 ((e0.trans e1).trans (e2.trans e4)) hm) (he c H4 ((e0.trans e1).trans (e2.trans e4)) hm)⟩⟩
/-- .. of a new list -/
theorem el_lcN {α : Type} {tl : TE} {j : Nat} {vs : List Nat} (xs : List α) (ι : α → V) (p : α → Bool) (q : α → V) (h : EvL tl σ H (xs.map ι)) (hz : xs.length ≤ 100000) (hw : ∀ x, wipe ((wipe σ vs).set j (some x)) vs = wipe σ vs)
    (ht : ∀ c H1, Ex H H1 → c ∈ xs → EvT t ((wipe σ vs).set j (some (ι c))) H1 (p c)) (he : ∀ c H1, Ex H H1 → c ∈ xs → p c = true → Ev te ((wipe σ vs).set j (some (ι c))) H1 (q c)) :
    EvL (tLc (iList K tl) (gName j) t te vs) σ H ((xs.filter p).map q) := fun H0 e0 Q k => h H0 e0 _ fun a H1 ha e1 h1 => by
  have hx : SqL K H1 a (xs.map ι) := sq_of h1
  refine ⟨a, rfl, ⟨_, hx⟩, ?_⟩
  have w : Walk (Itl K a) xs.length (fun H => SqL K H a (xs.map ι)) (YAt (xs.map ι)) := by
    have := walk_list (K := K) (a := a) (xs := xs.map ι)
    rwa [List.length_map] at this
  refine el_lcW xs p q w hz (fun H' e' => ex_l e' hx) ?_ (fun D H2 hD e2 h2 => k D H2 (fresh_back e1 hD) (e1.trans e2) h2)
  rintro i c x H2 H3 hc e2 ⟨rfl, hx⟩
  rw [List.getElem?_map, hc] at hx
  cases hx
  have hm := List.mem_of_getElem? hc
  exact ⟨Ex.refl _, fun H4 e4 R r => r _ _ (Ex.refl _) (hw _) (ht c H4 ((e0.trans e1).trans (e2.trans e4)) hm) (he c H4 ((e0.trans e1).trans (e2.trans e4)) hm)⟩
theorem et_yes : EvT tYes σ H true := fun H1 _ Q q => q H1 (Ex.refl H1)
end
end Bw
/-! Plain mathematics for beamwatch: texts are lists of code points. No program here. -/
namespace Bw
abbrev Tx := List Nat

/-! ### the colour at a second -/
def col (r : Tx) (s : Nat) : Nat := r.getD (s % r.length) 0
def shown (r : Tx) (b n : Nat) : Tx := (List.range n).map fun t => col r (b + t)
def turned (r : Tx) (b : Nat) : Tx := r.drop b ++ r.take b
/-- the text m times -/
def rep (r : Tx) : Nat → Tx
  | 0 => []
  | n + 1 => r ++ rep r n

theorem shown_len (r : Tx) (b n : Nat) : (shown r b n).length = n := by simp [shown]
theorem shown_get {r : Tx} {b n k : Nat} (h : k < n) : (shown r b n)[k]? = some (col r (b + k)) := by
  simp [shown, h]
theorem shown_eq {a b : Tx} {i j n : Nat} : shown a i n = shown b j n ↔ ∀ t, t < n → col a (i + t) = col b (j + t) := by
  constructor
  · intro h t ht
    have h1 : (shown a i n)[t]? = (shown b j n)[t]? := by rw [h]
    rw [shown_get ht, shown_get ht] at h1
    exact Option.some.inj h1
  · intro h
    refine List.ext_getElem? fun k => ?_
    by_cases hk : k < n
    · rw [shown_get hk, shown_get hk, h k hk]
    · rw [List.getElem?_eq_none (by rw [shown_len]; omega), List.getElem?_eq_none (by rw [shown_len]; omega)]

theorem rep_len (r : Tx) : ∀ n, (rep r n).length = n * r.length
  | 0 => by simp [rep]
  | n + 1 => by
    simp only [rep, List.length_append, rep_len r n]
    rw [Nat.succ_mul]; omega
theorem rep_get {r : Tx} (h : 0 < r.length) : ∀ (n k : Nat), k < n * r.length → (rep r n)[k]? = r[k % r.length]?
  | 0, k, hk => by omega
  | n + 1, k, hk => by
    simp only [rep]
    by_cases h1 : k < r.length
    · rw [List.getElem?_append_left h1, Nat.mod_eq_of_lt h1]
    · have h2 : k - r.length < n * r.length := by rw [Nat.succ_mul] at hk; omega
      rw [List.getElem?_append_right (by omega), rep_get h n _ h2, Nat.mod_eq_sub_mod (a := k) (by omega)]

/-! ### the root -/
def rootAt (r : Tx) (m : Nat) : Bool := decide (r.length % m = 0) && decide (rep (r.take m) (r.length / m) = r)
/-- the first m from lo on, n looks, that passes -/
def firstM (p : Nat → Bool) : Nat → Nat → Option Nat
  | _, 0 => none
  | lo, n + 1 => if p lo then some lo else firstM p (lo + 1) n
def rootLen (r : Tx) : Nat := (firstM (rootAt r) 1 (r.length - 1)).getD r.length
def root (r : Tx) : Tx := r.take (rootLen r)

theorem firstM_some {p : Nat → Bool} : ∀ {n lo m : Nat}, firstM p lo n = some m → lo ≤ m ∧ m < lo + n ∧ p m = true ∧ ∀ k, lo ≤ k → k < m → p k = false
  | 0, lo, m, h => by simp [firstM] at h
  | n + 1, lo, m, h => by
    unfold firstM at h
    by_cases hp : p lo = true
    · rw [if_pos hp] at h
      have e : lo = m := Option.some.inj h
      subst e
      exact ⟨Nat.le_refl _, by omega, hp, fun k h1 h2 => by omega⟩
    · rw [if_neg hp] at h
      obtain ⟨h1, h2, h3, h4⟩ := firstM_some h
      refine ⟨by omega, by omega, h3, fun k k1 k2 => ?_⟩
      by_cases hk : k = lo
      · rw [hk]; simpa using hp
      · exact h4 k (by omega) k2
theorem firstM_none {p : Nat → Bool} : ∀ {n lo : Nat}, firstM p lo n = none → ∀ k, lo ≤ k → k < lo + n → p k = false
  | 0, lo, h => fun k h1 h2 => by omega
  | n + 1, lo, h => fun k h1 h2 => by
    unfold firstM at h
    by_cases hp : p lo = true
    · rw [if_pos hp] at h; cases h
    · rw [if_neg hp] at h
      by_cases hk : k = lo
      · rw [hk]; simpa using hp
      · exact firstM_none h k (by omega) (by omega)
theorem firstM_of {p : Nat → Bool} : ∀ {n lo m : Nat}, lo ≤ m → m < lo + n → p m = true → (∀ k, lo ≤ k → k < m → p k = false) → firstM p lo n = some m
  | 0, lo, m, h1, h2, _, _ => by omega
  | n + 1, lo, m, h1, h2, h3, h4 => by
    unfold firstM
    by_cases e : lo = m
    · subst e; rw [if_pos h3]
    · have := h4 lo (Nat.le_refl _) (by omega)
      rw [this, if_neg (by simp)]
      exact firstM_of (by omega) (by omega) h3 fun k k1 k2 => h4 k (by omega) k2
theorem firstM_none_of {p : Nat → Bool} : ∀ {n lo : Nat}, (∀ k, lo ≤ k → k < lo + n → p k = false) → firstM p lo n = none
  | 0, lo, _ => rfl
  | n + 1, lo, h => by
    unfold firstM
    rw [h lo (Nat.le_refl _) (by omega), if_neg (by simp)]
    exact firstM_none_of fun k k1 k2 => h k (by omega) (by omega)
theorem firstM_congr {p q : Nat → Bool} : ∀ {n lo : Nat}, (∀ k, lo ≤ k → k < lo + n → p k = q k) → firstM p lo n = firstM q lo n
  | 0, lo, _ => rfl
  | n + 1, lo, h => by
    unfold firstM
    rw [h lo (Nat.le_refl _) (by omega), firstM_congr (n := n) (lo := lo + 1) fun k k1 k2 => h k (by omega) (by omega)]

/-- m is a period of the row: it divides the length, and each place holds what its rest by m holds -/
def Per (r : Tx) (m : Nat) : Prop := r.length % m = 0 ∧ ∀ k, k < r.length → r[k]? = r[k % m]?
theorem rootAt_iff {r : Tx} {m : Nat} (h1 : 1 ≤ m) (h2 : m ≤ r.length) : rootAt r m = true ↔ Per r m := by
  unfold rootAt Per
  rw [Bool.and_eq_true, decide_eq_true_iff, decide_eq_true_iff]
  have hl : (r.take m).length = m := by rw [List.length_take]; omega
  constructor
  · rintro ⟨hd, he⟩
    refine ⟨hd, fun k hk => ?_⟩
    have hdm : r.length / m * m = r.length := by
      have := Nat.div_add_mod r.length m
      rw [hd, Nat.mul_comm] at this; omega
    have h3 : (rep (r.take m) (r.length / m))[k]? = (r.take m)[k % m]? := by
      have := rep_get (r := r.take m) (by omega) (r.length / m) k (by rw [hl, hdm]; exact hk)
      rw [hl] at this; exact this
    rw [he, List.getElem?_take] at h3
    rw [h3, if_pos (Nat.mod_lt _ (by omega))]
  · rintro ⟨hd, he⟩
    refine ⟨hd, ?_⟩
    have hdm : r.length / m * m = r.length := by
      have := Nat.div_add_mod r.length m
      rw [hd, Nat.mul_comm] at this; omega
    refine List.ext_getElem? fun k => ?_
    by_cases hk : k < r.length
    · have := rep_get (r := r.take m) (by omega) (r.length / m) k (by rw [hl, hdm]; exact hk)
      rw [this, hl, he k hk, List.getElem?_take, if_pos (Nat.mod_lt _ (by omega))]
    · rw [List.getElem?_eq_none (by rw [rep_len, hl, hdm]; omega), List.getElem?_eq_none (by omega)]

theorem rootLen_spec {r : Tx} (h : 0 < r.length) : 1 ≤ rootLen r ∧ rootLen r ≤ r.length ∧ Per r (rootLen r) ∧ ∀ k, 1 ≤ k → k < rootLen r → ¬ Per r k := by
  unfold rootLen
  cases e : firstM (rootAt r) 1 (r.length - 1) with
  | none =>
    have hn := firstM_none e
    refine ⟨h, Nat.le_refl _, ⟨by simp, fun k hk => by rw [Option.getD_none, Nat.mod_eq_of_lt hk]⟩, fun k k1 k2 p => ?_⟩
    rw [Option.getD_none] at k2
    have := (rootAt_iff k1 (by omega)).mpr p
    rw [hn k k1 (by omega)] at this; cases this
  | some m =>
    obtain ⟨h1, h2, h3, h4⟩ := firstM_some e
    refine ⟨h1, by rw [Option.getD_some]; omega, (rootAt_iff h1 (by omega)).mp h3, fun k k1 k2 p => ?_⟩
    rw [Option.getD_some] at k2
    have := (rootAt_iff k1 (by omega)).mpr p
    rw [h4 k k1 k2] at this; cases this
theorem root_len {r : Tx} (h : 0 < r.length) : (root r).length = rootLen r := by
  unfold root; rw [List.length_take]
  have := (rootLen_spec h).2.1
  omega
theorem root_pos {r : Tx} (h : 0 < r.length) : 0 < (root r).length := by
  rw [root_len h]; exact (rootLen_spec h).1
theorem root_le {r : Tx} (h : 0 < r.length) : (root r).length ≤ r.length := by
  rw [root_len h]; exact (rootLen_spec h).2.1
theorem root_mem {r : Tx} {c : Nat} (hc : c ∈ root r) : c ∈ r := List.mem_of_mem_take hc
/-- a row without a shorter period -/
def Prim (r : Tx) : Prop := ∀ k, 1 ≤ k → k < r.length → ¬ Per r k
theorem per_trans {r : Tx} {m k : Nat} (hm : m ≤ r.length) (p : Per r m) (q : Per (r.take m) k) (h0 : 0 < m) (hk : 1 ≤ k) : Per r k := by
  have hl : (r.take m).length = m := by rw [List.length_take]; omega
  obtain ⟨p1, p2⟩ := p
  obtain ⟨q1, q2⟩ := q
  rw [hl] at q1
  have hkm : k ∣ m := Nat.dvd_of_mod_eq_zero q1
  refine ⟨Nat.mod_eq_zero_of_dvd (Nat.dvd_trans hkm (Nat.dvd_of_mod_eq_zero p1)), fun j hj => ?_⟩
  have h1 := Nat.mod_lt j h0
  have h2 := q2 (j % m) (by rw [hl]; exact h1)
  rw [List.getElem?_take, if_pos h1, List.getElem?_take, Nat.mod_mod_of_dvd _ hkm, if_pos (Nat.lt_of_lt_of_le (Nat.mod_lt _ hk) (Nat.le_of_dvd h0 hkm))] at h2
  rw [p2 j hj, h2]
theorem root_prim {r : Tx} (h : 0 < r.length) : Prim (root r) := by
  intro k k1 k2 p
  obtain ⟨h1, h2, h3, h4⟩ := rootLen_spec h
  rw [root_len h] at k2
  exact h4 k k1 k2 (per_trans h2 h3 p h1 k1)
theorem root_of_prim {r : Tx} (h : 0 < r.length) (p : Prim r) : root r = r := by
  obtain ⟨h1, h2, h3, h4⟩ := rootLen_spec h
  have e : rootLen r = r.length := by
    rcases Nat.lt_or_ge (rootLen r) r.length with hl | hl
    · exact (p _ h1 hl h3).elim
    · omega
  unfold root; rw [e, List.take_length]
theorem root_root {r : Tx} (h : 0 < r.length) : root (root r) = root r := root_of_prim (root_pos h) (root_prim h)
theorem col_root {r : Tx} (h : 0 < r.length) (s : Nat) : col (root r) s = col r s := by
  obtain ⟨h1, h2, h3, h4⟩ := rootLen_spec h
  obtain ⟨p1, p2⟩ := h3
  unfold col
  rw [root_len h]
  have hs := Nat.mod_lt s h
  have e := p2 (s % r.length) hs
  rw [Nat.mod_mod_of_dvd _ (Nat.dvd_of_mod_eq_zero p1)] at e
  simp only [root, List.getD_eq_getElem?_getD]
  rw [List.getElem?_take, if_pos (Nat.mod_lt _ h1), e]

/-! ### periods of col -/
theorem col_period (r : Tx) (s : Nat) : col r (s + r.length) = col r s := by
  unfold col; rw [Nat.add_mod_right]
theorem col_mod (r : Tx) (s : Nat) : col r (s % r.length) = col r s := by
  unfold col; rw [Nat.mod_mod]
theorem col_lt {r : Tx} {k : Nat} (h : k < r.length) : r[k]? = some (col r k) := by
  unfold col
  rw [Nat.mod_eq_of_lt h, List.getD_eq_getElem?_getD, List.getElem?_eq_getElem h]
  rfl
theorem per_iff {r : Tx} {m : Nat} (hm : 1 ≤ m) (hd : m ∣ r.length) (hr : 0 < r.length) : Per r m ↔ ∀ s, col r (s + m) = col r s := by
  have hml : m ≤ r.length := Nat.le_of_dvd hr hd
  constructor
  · rintro ⟨_, p⟩ s
    have q : ∀ t, col r t = col r (t % m) := fun t => by
      have ht := Nat.mod_lt t hr
      have := p _ ht
      rw [col_lt ht, Nat.mod_mod_of_dvd _ hd, col_lt (Nat.lt_of_lt_of_le (Nat.mod_lt _ hm) hml)] at this
      rw [← col_mod]
      exact Option.some.inj this
    rw [q (s + m), Nat.add_mod_right, ← q]
  · intro p
    refine ⟨Nat.mod_eq_zero_of_dvd hd, fun k hk => ?_⟩
    have q : ∀ j s, col r (s + m * j) = col r s := fun j => by
      induction j with
      | zero => intro s; simp
      | succ j ih => intro s; rw [Nat.mul_succ, ← Nat.add_assoc, p, ih]
    have e := q (k / m) (k % m)
    rw [Nat.add_comm, Nat.div_add_mod] at e
    rw [col_lt hk, col_lt (Nat.lt_of_lt_of_le (Nat.mod_lt _ hm) hml), e]

/-! ### two periods of a finite word: Fine and Wilf -/
theorem fw_word : ∀ (N p q n : Nat) (w : Nat → Nat), p + q ≤ N → 1 ≤ p → 1 ≤ q → p + q - Nat.gcd p q ≤ n → (∀ i, i + p < n → w (i + p) = w i) → (∀ i, i + q < n → w (i + q) = w i) →
    ∀ i, i + Nat.gcd p q < n → w (i + Nat.gcd p q) = w i := by
  intro N
  induction N with
  | zero => intro p q n w h1 h2; omega
  | succ N ih =>
    -- p ≤ q first
    have key : ∀ (p q n : Nat) (w : Nat → Nat), p + q ≤ N + 1 → 1 ≤ p → p ≤ q → p + q - Nat.gcd p q ≤ n → (∀ i, i + p < n → w (i + p) = w i) → (∀ i, i + q < n → w (i + q) = w i) →
        ∀ i, i + Nat.gcd p q < n → w (i + Nat.gcd p q) = w i := by
      intro p q n w hN hp hpq hn h1 h2 i hi
      by_cases e : p = q
      · subst e
        rw [Nat.gcd_self] at hi ⊢
        exact h1 i hi
      · have hlt : p < q := by omega
        have hg : Nat.gcd p (q - p) = Nat.gcd p q := by rw [Nat.gcd_sub_self_right hpq]
        have hdp : Nat.gcd p q ∣ p := Nat.gcd_dvd_left p q
        have hdq : Nat.gcd p q ∣ q := Nat.gcd_dvd_right p q
        have hdq' : Nat.gcd p q ∣ q - p := by rw [← hg]; exact Nat.gcd_dvd_right _ _
        have hd0 : 0 < Nat.gcd p q := Nat.gcd_pos_of_pos_left _ hp
        have hdle : Nat.gcd p q ≤ p := Nat.le_of_dvd hp hdp
        have hdle' : Nat.gcd p q ≤ q - p := Nat.le_of_dvd (by omega) hdq'
        have hw := ih p (q - p) (n - p) w (by omega) hp (by omega) (by rw [hg]; omega) (fun j hj => h1 j (by omega)) (fun j hj => by
          have a := h2 j (by omega)
          have b := h1 (j + (q - p)) (by omega)
          rw [show j + (q - p) + p = j + q by omega] at b
          rw [← b, a])
        rw [hg] at hw
        -- all of w by the rest by p
        have hmp : ∀ j, j < n → w j = w (j % p) := fun j => by
          induction j using Nat.strongRecOn with
          | _ j ihj =>
            intro hj
            by_cases hjp : j < p
            · rw [Nat.mod_eq_of_lt hjp]
            · have a := h1 (j - p) (by omega)
              rw [show j - p + p = j by omega] at a
              rw [a, ihj (j - p) (by omega) (by omega), Nat.mod_eq_sub_mod (a := j) (by omega)]
        -- within p, by the rest by the divisor
        have hmd : ∀ j, j < n - p → w j = w (j % Nat.gcd p q) := fun j => by
          induction j using Nat.strongRecOn with
          | _ j ihj =>
            intro hj
            by_cases hjp : j < Nat.gcd p q
            · rw [Nat.mod_eq_of_lt hjp]
            · have a := hw (j - Nat.gcd p q) (by omega)
              rw [show j - Nat.gcd p q + Nat.gcd p q = j by omega] at a
              rw [a, ihj (j - Nat.gcd p q) (by omega) (by omega), Nat.mod_eq_sub_mod (a := j) (by omega)]
        have full : ∀ j, j < n → w j = w (j % Nat.gcd p q) := fun j hj => by
          have hjm := Nat.mod_lt j hp
          rw [hmp j hj, hmd (j % p) (by omega), Nat.mod_mod_of_dvd _ hdp]
        rw [full _ hi, full i (by omega), Nat.add_mod_right]
    intro p q n w hN hp hq hn h1 h2 i hi
    rcases Nat.le_total p q with h | h
    · exact key p q n w hN hp h hn h1 h2 i hi
    · rw [Nat.gcd_comm] at hn hi ⊢
      exact key q p n w (by omega) hq h (by omega) h2 h1 i hi

/-- two sequences with periods that agree so long agree for ever, and have the divisor as a period -/
theorem fw_seq {f g : Nat → Nat} {p q : Nat} (hp : 1 ≤ p) (hq : 1 ≤ q) (hf : ∀ s, f (s + p) = f s) (hg : ∀ s, g (s + q) = g s) (h : ∀ t, t < p + q - Nat.gcd p q → f t = g t) :
    (∀ s, f s = g s) ∧ (∀ s, f (s + Nat.gcd p q) = f s) := by
  have hdp : Nat.gcd p q ∣ p := Nat.gcd_dvd_left p q
  have hdq : Nat.gcd p q ∣ q := Nat.gcd_dvd_right p q
  have hd0 : 0 < Nat.gcd p q := Nat.gcd_pos_of_pos_left _ hp
  have hdle : Nat.gcd p q ≤ p := Nat.le_of_dvd hp hdp
  have hdle' : Nat.gcd p q ≤ q := Nat.le_of_dvd hq hdq
  have hw := fw_word (p + q) p q (p + q - Nat.gcd p q) f (Nat.le_refl _) hp hq (Nat.le_refl _) (fun i _ => hf i) (fun i hi => by rw [h _ hi, hg, h i (by omega)])
  have hfm : ∀ j, f j = f (j % p) := fun j => by
    have q' : ∀ k s, f (s + p * k) = f s := fun k => by
      induction k with
      | zero => intro s; simp
      | succ k ih => intro s; rw [Nat.mul_succ, ← Nat.add_assoc, hf, ih]
    have e := q' (j / p) (j % p)
    rwa [Nat.add_comm, Nat.div_add_mod] at e
  have hgm : ∀ j, g j = g (j % q) := fun j => by
    have q' : ∀ k s, g (s + q * k) = g s := fun k => by
      induction k with
      | zero => intro s; simp
      | succ k ih => intro s; rw [Nat.mul_succ, ← Nat.add_assoc, hg, ih]
    have e := q' (j / q) (j % q)
    rwa [Nat.add_comm, Nat.div_add_mod] at e
  have hmd : ∀ j, j < p + q - Nat.gcd p q → f j = f (j % Nat.gcd p q) := fun j => by
    induction j using Nat.strongRecOn with
    | _ j ihj =>
      intro hj
      by_cases hjp : j < Nat.gcd p q
      · rw [Nat.mod_eq_of_lt hjp]
      · have a := hw (j - Nat.gcd p q) (by omega)
        rw [show j - Nat.gcd p q + Nat.gcd p q = j by omega] at a
        rw [a, ihj (j - Nat.gcd p q) (by omega) (by omega), Nat.mod_eq_sub_mod (a := j) (by omega)]
  have F : ∀ j, f j = f (j % Nat.gcd p q) := fun j => by
    have := Nat.mod_lt j hp
    rw [hfm j, hmd (j % p) (by omega), Nat.mod_mod_of_dvd _ hdp]
  have G : ∀ j, g j = f (j % Nat.gcd p q) := fun j => by
    have := Nat.mod_lt j hq
    rw [hgm j, ← h (j % q) (by omega), hmd (j % q) (by omega), Nat.mod_mod_of_dvd _ hdq]
  exact ⟨fun s => by rw [F s, G s], fun s => by rw [F (s + _), F s, Nat.add_mod_right]⟩

/-! ### rows begun elsewhere -/
theorem turned_len {r : Tx} {b : Nat} (h : b ≤ r.length) : (turned r b).length = r.length := by
  unfold turned; rw [List.length_append, List.length_drop, List.length_take]; omega
theorem col_turned {r : Tx} {b : Nat} (h : b ≤ r.length) (h0 : 0 < r.length) (s : Nat) : col (turned r b) s = col r (b + s) := by
  unfold col
  rw [turned_len h]
  simp only [List.getD_eq_getElem?_getD]
  congr 1
  have hs := Nat.mod_lt s h0
  rw [← Nat.add_mod_mod b s r.length]
  generalize s % r.length = m at hs ⊢
  unfold turned
  by_cases h1 : m < r.length - b
  · rw [List.getElem?_append_left (by rw [List.length_drop]; exact h1), List.getElem?_drop, Nat.mod_eq_of_lt (by omega)]
  · rw [List.getElem?_append_right (by rw [List.length_drop]; omega), List.length_drop, List.getElem?_take, if_pos (by omega), Nat.mod_eq_sub_mod (a := b + m) (by omega), Nat.mod_eq_of_lt (by omega)]
    congr 1
    omega
/-- rows of one length with the same colour at each second are one -/
theorem eq_of_col {a b : Tx} (hl : a.length = b.length) (h : ∀ s, s < a.length → col a s = col b s) : a = b := by
  refine List.ext_getElem? fun k => ?_
  by_cases hk : k < a.length
  · rw [col_lt hk, col_lt (by omega), h k hk]
  · rw [List.getElem?_eq_none (by omega), List.getElem?_eq_none (by omega)]
/-- the one is the other begun elsewhere -/
def Rot (a b : Tx) : Prop := a.length = b.length ∧ ∃ c, c < b.length ∧ a = turned b c
theorem rot_of_col {a b : Tx} (hl : a.length = b.length) (h0 : 0 < b.length) {i j : Nat} (h : ∀ s, col a (i + s) = col b (j + s)) : Rot a b := by
  refine ⟨hl, (j + (b.length - i % b.length)) % b.length, Nat.mod_lt _ h0, ?_⟩
  have hm := Nat.mod_lt (j + (b.length - i % b.length)) h0
  refine eq_of_col (by rw [turned_len (by omega)]; exact hl) fun s _ => ?_
  rw [col_turned (by omega) h0]
  have him := Nat.mod_lt i h0
  have e1 : col a s = col a (i + (b.length - i % b.length + s)) := by
    have e : i + (b.length - i % b.length + s) = s + b.length * (i / b.length + 1) := by
      have := Nat.div_add_mod i b.length
      rw [Nat.mul_add]; omega
    unfold col
    rw [e, hl, Nat.add_mul_mod_self_left]
  rw [e1, h]
  unfold col
  congr 1
  rw [Nat.mod_add_mod]
  congr 1
  omega
theorem rot_col {a b : Tx} (h0 : 0 < b.length) (h : Rot a b) : ∃ c, c < b.length ∧ ∀ s, col a s = col b (c + s) := by
  obtain ⟨_, c, hc, rfl⟩ := h
  exact ⟨c, hc, fun s => col_turned (by omega) h0 s⟩
theorem rot_pos {a b : Tx} (h : Rot a b) : 0 < b.length := by obtain ⟨_, c, hc, _⟩ := h; omega
theorem rot_refl {a : Tx} (h : 0 < a.length) : Rot a a := ⟨rfl, 0, h, by simp [turned]⟩
theorem rot_symm {a b : Tx} (h : Rot a b) : Rot b a := by
  have h0 := rot_pos h
  obtain ⟨c, hc, e⟩ := rot_col h0 h
  exact rot_of_col (i := c) (j := 0) h.1.symm (by rw [h.1]; exact h0) fun s => by rw [Nat.zero_add]; exact (e s).symm
theorem rot_trans {a b c : Tx} (h : Rot a b) (k : Rot b c) : Rot a c := by
  obtain ⟨x, hx, e⟩ := rot_col (rot_pos h) h
  obtain ⟨y, hy, f⟩ := rot_col (rot_pos k) k
  exact rot_of_col (i := 0) (j := y + x) (h.1.trans k.1) (rot_pos k) fun s => by rw [Nat.zero_add, e, f, Nat.add_assoc]
theorem rot_turned {r : Tx} {b : Nat} (h : b < r.length) : Rot (turned r b) r := ⟨turned_len (by omega), b, h, rfl⟩

/-- two rounds without a shorter period that show the same for so long are alike -/
theorem alike_of_long {a b : Tx} (ha : 0 < a.length) (hb : 0 < b.length) (pa : Prim a) (pb : Prim b) {i j : Nat}
    (h : ∀ t, t < a.length + b.length - Nat.gcd a.length b.length → col a (i + t) = col b (j + t)) : Rot a b := by
  obtain ⟨h1, h2⟩ := fw_seq (f := fun t => col a (i + t)) (g := fun t => col b (j + t)) ha hb (fun s => by rw [← Nat.add_assoc, col_period]) (fun s => by rw [← Nat.add_assoc, col_period]) h
  have hdp := Nat.gcd_dvd_left a.length b.length
  have hdq := Nat.gcd_dvd_right a.length b.length
  have hd0 : 0 < Nat.gcd a.length b.length := Nat.gcd_pos_of_pos_left _ ha
  -- the divisor is a period of either, so it is the length
  have shift : ∀ (r : Tx) (i d : Nat), 0 < r.length → (∀ s, col r (i + (s + d)) = col r (i + s)) → ∀ s, col r (s + d) = col r s := fun r i d hr h s => by
    have e : ∀ t, col r t = col r (i + (t + (r.length - i % r.length))) := fun t => by
      have hm := Nat.mod_lt i hr
      have e2 : i + (t + (r.length - i % r.length)) = t + r.length * (i / r.length + 1) := by
        have := Nat.div_add_mod i r.length
        rw [Nat.mul_add]; omega
      unfold col; rw [e2, Nat.add_mul_mod_self_left]
    rw [e (s + d), e s, ← h (s + (r.length - i % r.length))]
    congr 2; omega
  have A : a.length = Nat.gcd a.length b.length := by
    have p := (per_iff hd0 hdp ha).mpr (shift a i _ ha h2)
    rcases Nat.lt_or_ge (Nat.gcd a.length b.length) a.length with hl | hl
    · exact (pa _ hd0 hl p).elim
    · exact Nat.le_antisymm hl (Nat.le_of_dvd ha hdp)
  have B : b.length = Nat.gcd a.length b.length := by
    have p := (per_iff hd0 hdq hb).mpr (shift b j _ hb fun s => by
      have x := h1 (s + Nat.gcd a.length b.length)
      have y := h1 s
      have z := h2 s
      rw [← x, ← y]; exact z)
    rcases Nat.lt_or_ge (Nat.gcd a.length b.length) b.length with hl | hl
    · exact (pb _ hd0 hl p).elim
    · exact Nat.le_antisymm hl (Nat.le_of_dvd hb hdq)
  exact rot_of_col (A.trans B.symm) hb h1
end Bw
/-! Plain mathematics, second part: least turns, alike, parted. -/
namespace Bw
/-! ### the order of texts -/
theorem lt_anti {a b : Tx} (h : ¬ a < b) (k : ¬ b < a) : a = b := List.le_antisymm k h
/-- m is the least of the texts -/
def IsLeast (l : List Tx) (m : Tx) : Prop := m ∈ l ∧ ∀ y ∈ l, ¬ y < m
theorem IsLeast.uniq {l : List Tx} {m n : Tx} (h : IsLeast l m) (k : IsLeast l n) : m = n := lt_anti (k.2 m h.1) (h.2 n k.1)
theorem IsLeast.congr {l l' : List Tx} {m : Tx} (h : IsLeast l m) (e : ∀ x, x ∈ l ↔ x ∈ l') : IsLeast l' m := ⟨(e m).mp h.1, fun y hy => h.2 y ((e y).mpr hy)⟩
/-- the least, as it is found: the first one that no later one is below -/
def leastF : List Tx → Tx
  | [] => []
  | x :: l => l.foldl (fun m y => if y < m then y else m) x
theorem foldl_least : ∀ (l : List Tx) (x : Tx), IsLeast (x :: l) (l.foldl (fun m y => if y < m then y else m) x)
  | [], x => ⟨by simp, fun y hy => by simp at hy; subst hy; exact List.lt_irrefl _⟩
  | z :: l, x => by
    have ih := foldl_least l (if z < x then z else x)
    refine ⟨?_, fun y hy => ?_⟩
    · have := ih.1
      rw [List.foldl_cons]
      rcases List.mem_cons.mp this with e | e
      · rw [e]; split <;> simp
      · exact List.mem_cons_of_mem _ (List.mem_cons_of_mem _ e)
    · rw [List.foldl_cons]
      have hm := ih.2 (if z < x then z else x) (by simp)
      rcases List.mem_cons.mp hy with e | hy
      · subst e
        by_cases c : z < y
        · rw [if_pos c] at hm ⊢
          intro q
          exact hm (List.lt_trans c q)
        · rw [if_neg c] at hm ⊢
          exact hm
      · rcases List.mem_cons.mp hy with e | hy
        · subst e
          by_cases c : y < x
          · rw [if_pos c] at hm ⊢; exact hm
          · rw [if_neg c] at hm ⊢
            intro q
            -- y < m, m ≤ x, so y < x
            rcases List.le_iff_lt_or_eq.mp (show _ ≤ x from hm) with e | e
            · exact c (List.lt_trans q e)
            · rw [e] at q; exact c q
        · exact ih.2 y (List.mem_cons_of_mem _ hy)
theorem leastF_is {l : List Tx} (h : l ≠ []) : IsLeast l (leastF l) := by
  cases l with
  | nil => exact (h rfl).elim
  | cons x l => exact foldl_least l x

/-! ### least turn -/
def turns (r : Tx) : List Tx := (List.range r.length).map fun b => turned r b
def leastTurn (r : Tx) : Tx := leastF (turns r)
theorem turns_ne {r : Tx} (h : 0 < r.length) : turns r ≠ [] := fun e => by
  have := congrArg List.length e
  simp [turns] at this
  rw [this] at h; simp at h
theorem mem_turns {r x : Tx} : x ∈ turns r ↔ Rot x r := by
  unfold turns Rot
  rw [List.mem_map]
  constructor
  · rintro ⟨b, hb, rfl⟩
    have hb := List.mem_range.mp hb
    exact ⟨turned_len (by omega), b, hb, rfl⟩
  · rintro ⟨_, c, hc, e⟩
    exact ⟨c, List.mem_range.mpr hc, e.symm⟩
theorem leastTurn_is {r : Tx} (h : 0 < r.length) : IsLeast (turns r) (leastTurn r) := leastF_is (turns_ne h)
theorem leastTurn_rot {r : Tx} (h : 0 < r.length) : Rot (leastTurn r) r := mem_turns.mp (leastTurn_is h).1
theorem leastTurn_eq {a b : Tx} (ha : 0 < a.length) (hb : 0 < b.length) : leastTurn a = leastTurn b ↔ Rot a b := by
  constructor
  · intro e
    have h1 := leastTurn_rot ha
    rw [e] at h1
    exact rot_trans (rot_symm h1) (leastTurn_rot hb)
  · intro h
    refine (leastTurn_is ha).uniq ((leastTurn_is hb).congr fun x => ?_)
    rw [mem_turns, mem_turns]
    exact ⟨fun k => rot_trans k (rot_symm h), fun k => rot_trans k h⟩
/-- the law's look: of one length, and within the other one doubled -/
theorem rot_infix {a b : Tx} (ha : 0 < a.length) : Rot a b ↔ a.length = b.length ∧ a <:+: b ++ b := by
  constructor
  · rintro ⟨hl, c, hc, rfl⟩
    refine ⟨hl, b.take c, b.drop c, ?_⟩
    unfold turned
    rw [← List.append_assoc, List.take_append_drop, List.append_assoc, List.take_append_drop]
  · rintro ⟨hl, s, t, e⟩
    have hb : 0 < b.length := by omega
    have hlen : s.length + a.length + t.length = b.length + b.length := by
      have := congrArg List.length e
      simp only [List.length_append] at this; exact this
    refine rot_of_col (i := 0) (j := s.length) hl hb fun k => ?_
    rw [Nat.zero_add]
    have hk := Nat.mod_lt k ha
    rw [← col_mod a k]
    generalize hkk : k % a.length = m at hk
    have e1 : a[m]? = (b ++ b)[s.length + m]? := by
      rw [← e, List.append_assoc, List.getElem?_append_right (by omega), Nat.add_sub_cancel_left, List.getElem?_append_left hk]
    have e2 : (b ++ b)[s.length + m]? = some (col b (s.length + m)) := by
      by_cases h1 : s.length + m < b.length
      · rw [List.getElem?_append_left h1, col_lt h1]
      · rw [List.getElem?_append_right (by omega), col_lt (by omega), ← col_period, Nat.sub_add_cancel (by omega)]
    rw [col_lt hk, e2] at e1
    have e3 := Option.some.inj e1
    rw [e3]
    unfold col
    congr 1
    rw [← hkk, hl, Nat.add_mod_mod]

/-! ### roots of rows begun elsewhere -/
theorem rootLen_rot {a b : Tx} (h : Rot a b) : rootLen a = rootLen b := by
  have hb := rot_pos h
  have ha : 0 < a.length := by rw [h.1]; exact hb
  have key : ∀ {a b : Tx}, Rot a b → ∀ m, 1 ≤ m → Per b m → Per a m := fun {a b} h m hm p => by
    have hb := rot_pos h
    have ha : 0 < a.length := by rw [h.1]; exact hb
    have hd : m ∣ b.length := Nat.dvd_of_mod_eq_zero p.1
    obtain ⟨c, _, e⟩ := rot_col hb h
    refine (per_iff hm (by rw [h.1]; exact hd) ha).mpr fun s => ?_
    rw [e, e, ← Nat.add_assoc]
    exact (per_iff hm hd hb).mp p _
  obtain ⟨a1, a2, a3, a4⟩ := rootLen_spec ha
  obtain ⟨b1, b2, b3, b4⟩ := rootLen_spec hb
  rcases Nat.lt_trichotomy (rootLen a) (rootLen b) with q | q | q
  · exact (b4 _ a1 q (key (rot_symm h) _ a1 a3)).elim
  · exact q
  · exact (a4 _ b1 q (key h _ b1 b3)).elim

/-! ### parted -/
/-- both show the stretch -/
def Com (a b x : Tx) : Prop := ∃ i j, i < a.length ∧ j < b.length ∧ x = shown a i x.length ∧ x = shown b j x.length
theorem Com.symm {a b x : Tx} (h : Com a b x) : Com b a x := by
  obtain ⟨i, j, h1, h2, h3, h4⟩ := h
  exact ⟨j, i, h2, h1, h4, h3⟩
theorem shown_take {r : Tx} {b n m : Nat} (h : m ≤ n) : (shown r b n).take m = shown r b m := by
  refine List.ext_getElem? fun k => ?_
  rw [List.getElem?_take]
  by_cases hk : k < m
  · rw [if_pos hk, shown_get (by omega), shown_get hk]
  · rw [if_neg hk, List.getElem?_eq_none (by rw [shown_len]; omega)]
theorem Com.take {a b x : Tx} (h : Com a b x) (m : Nat) : Com a b (x.take m) := by
  obtain ⟨i, j, h1, h2, h3, h4⟩ := h
  have hl : (x.take m).length = min m x.length := List.length_take
  have e : x.take m = x.take (min m x.length) := by
    rcases Nat.le_total m x.length with h | h
    · rw [Nat.min_eq_left h]
    · rw [Nat.min_eq_right h, List.take_of_length_le h, List.take_length]
  refine ⟨i, j, h1, h2, ?_, ?_⟩
  · rw [hl]
    conv => lhs; rw [e, h3, shown_len]
    exact shown_take (Nat.min_le_right _ _)
  · rw [hl]
    conv => lhs; rw [e, h4, shown_len]
    exact shown_take (Nat.min_le_right _ _)
theorem Com.of {a b : Tx} {i j n : Nat} (hi : i < a.length) (hj : j < b.length) (h : ∀ t, t < n → col a (i + t) = col b (j + t)) : Com a b (shown a i n) :=
  ⟨i, j, hi, hj, by rw [shown_len], by rw [shown_len]; exact shown_eq.mpr h⟩
theorem Com.at {a b x : Tx} (h : Com a b x) : ∃ i j, i < a.length ∧ j < b.length ∧ x = shown a i x.length ∧ ∀ t, t < x.length → col a (i + t) = col b (j + t) := by
  obtain ⟨i, j, h1, h2, h3, h4⟩ := h
  exact ⟨i, j, h1, h2, h3, shown_eq.mp (h3.symm.trans h4)⟩
/-- n seconds part them, st is the least stretch of one second fewer that both show -/
structure IsParted (a b : Tx) (n : Nat) (st : Tx) : Prop where
  len : st.length + 1 = n
  com : Com a b st
  no : ∀ x, Com a b x → x.length < n
  least : ∀ x, Com a b x → x.length = st.length → ¬ x < st
theorem IsParted.symm {a b : Tx} {n : Nat} {st : Tx} (h : IsParted a b n st) : IsParted b a n st := ⟨h.len, h.com.symm, fun x hx => h.no x hx.symm, fun x hx => h.least x hx.symm⟩
theorem IsParted.uniq {a b : Tx} {n m : Nat} {st su : Tx} (h : IsParted a b n st) (k : IsParted a b m su) : n = m ∧ st = su := by
  have h1 := h.no su k.com
  have h2 := k.no st h.com
  have h3 := h.len
  have h4 := k.len
  have e : st.length = su.length := by omega
  exact ⟨by omega, lt_anti (k.least st h.com e) (h.least su k.com e.symm)⟩
/-- alike ones are never parted -/
theorem not_parted {a b : Tx} (ha : 0 < a.length) (h : Rot a b) {n : Nat} {st : Tx} : ¬ IsParted a b n st := fun p => by
  have hb := rot_pos h
  obtain ⟨c, hc, e⟩ := rot_col hb h
  have q := p.no (shown a 0 n) (Com.of (j := c) ha hc fun t _ => by rw [Nat.zero_add]; exact e t)
  rw [shown_len] at q
  omega
open Classical in
/-- what parted tells -/
noncomputable def partedF (a b : Tx) : Option (Nat × Tx) := if h : ∃ p : Nat × Tx, IsParted a b p.1 p.2 then some (Classical.choose h) else none
theorem partedF_of {a b : Tx} {n : Nat} {st : Tx} (h : IsParted a b n st) : partedF a b = some (n, st) := by
  have hx : ∃ p : Nat × Tx, IsParted a b p.1 p.2 := ⟨(n, st), h⟩
  unfold partedF
  rw [dif_pos hx]
  have q := Classical.choose_spec hx
  obtain ⟨e1, e2⟩ := q.uniq h
  exact congrArg some (Prod.ext e1 e2)
theorem partedF_rot {a b : Tx} (ha : 0 < a.length) (h : Rot a b) : partedF a b = none := by
  unfold partedF
  rw [dif_neg]
  rintro ⟨p, hp⟩
  exact not_parted ha h hp
theorem partedF_some {a b : Tx} {n : Nat} {st : Tx} (h : partedF a b = some (n, st)) : IsParted a b n st := by
  unfold partedF at h
  split at h
  · rename_i hx
    have q := Classical.choose_spec hx
    have e := Option.some.inj h
    rw [e] at q
    exact q
  · cases h

/-! #### the program's way -/
/-- for how many seconds they show the same, most at the most -/
def cf (a b : Tx) (i j most : Nat) : Nat := (firstM (fun t => decide (col a (i + t) ≠ col b (j + t))) 0 most).getD most
theorem cf_spec (a b : Tx) (i j most : Nat) : cf a b i j most ≤ most ∧ (∀ t, t < cf a b i j most → col a (i + t) = col b (j + t)) ∧ (cf a b i j most < most → col a (i + cf a b i j most) ≠ col b (j + cf a b i j most)) := by
  unfold cf
  cases e : firstM (fun t => decide (col a (i + t) ≠ col b (j + t))) 0 most with
  | none =>
    have h := firstM_none e
    refine ⟨Nat.le_refl _, fun t ht => ?_, fun z => absurd z (Nat.lt_irrefl _)⟩
    have := h t (Nat.zero_le _) (by rw [Option.getD_none] at ht; omega)
    simpa using this
  | some m =>
    obtain ⟨_, h2, h3, h4⟩ := firstM_some e
    refine ⟨by rw [Option.getD_some]; omega, fun t ht => ?_, fun _ => ?_⟩
    · have := h4 t (Nat.zero_le _) ht
      simpa using this
    · simpa using h3
theorem cf_uniq {a b : Tx} {i j most m : Nat} (h1 : m ≤ most) (h2 : ∀ t, t < m → col a (i + t) = col b (j + t)) (h3 : m < most → col a (i + m) ≠ col b (j + m)) : cf a b i j most = m := by
  obtain ⟨c1, c2, c3⟩ := cf_spec a b i j most
  rcases Nat.lt_trichotomy (cf a b i j most) m with q | q | q
  · exact (c3 (by omega) (h2 _ q)).elim
  · exact q
  · exact (h3 (by omega) (c2 _ q)).elim
/-- the one is before the other: longer, or as long and less -/
def Before (x y : Tx) : Prop := y.length < x.length ∨ (x.length = y.length ∧ x < y)
/-- best of the stretches so far -/
structure Best (P : Tx → Prop) (best : Tx) : Prop where
  is : best = [] ∨ P best
  no : ∀ x, P x → ¬ Before x best
theorem Best.start {P : Tx → Prop} (h : ∀ x, ¬ P x) : Best P [] := ⟨.inl rfl, fun x hx => (h x hx).elim⟩
theorem before_trans {x y z : Tx} (h : Before x y) (k : Before y z) : Before x z := by
  rcases h with h | ⟨h1, h2⟩ <;> rcases k with k | ⟨k1, k2⟩
  · exact .inl (by omega)
  · exact .inl (by omega)
  · exact .inl (by omega)
  · exact .inr ⟨by omega, List.lt_trans h2 k2⟩
theorem not_before_irrefl (x : Tx) : ¬ Before x x := by
  rintro (h | ⟨_, h⟩)
  · omega
  · exact List.lt_irrefl _ h
theorem before_total {x y : Tx} (h : ¬ Before x y) (k : ¬ Before y x) : x = y := by
  have e : x.length = y.length := by
    rcases Nat.lt_trichotomy x.length y.length with q | q | q
    · exact (k (.inl q)).elim
    · exact q
    · exact (h (.inl q)).elim
  exact lt_anti (fun q => h (.inr ⟨e, q⟩)) (fun q => k (.inr ⟨e.symm, q⟩))
theorem not_before_nil_of (x : Tx) : ¬ Before [] x := by
  rintro (h | ⟨_, h⟩)
  · simp at h
  · cases x with
    | nil => exact List.lt_irrefl _ h
    | cons c x => rename_i e; simp at e
theorem Best.step {P P' : Tx → Prop} {best z : Tx} (h : Best P best) (e : ∀ x, P' x ↔ P x ∨ x = z) (c : Prop) [Decidable c] (hc : c ↔ Before z best) : Best P' (if c then z else best) := by
  by_cases q : c
  · rw [if_pos q]
    have q := hc.mp q
    refine ⟨.inr ((e z).mpr (.inr rfl)), fun x hx b => ?_⟩
    rcases (e x).mp hx with p | p
    · exact h.no x p (before_trans b q)
    · subst p; exact not_before_irrefl _ b
  · rw [if_neg q]
    refine ⟨h.is.imp_right fun p => (e best).mpr (.inl p), fun x hx b => ?_⟩
    rcases (e x).mp hx with p | p
    · exact h.no x p b
    · subst p; exact q (hc.mpr b)
/-- what the two loops find -/
theorem parted_of_best {a b : Tx} {most : Nat} {best : Tx} (ha : 0 < a.length) (hb : 0 < b.length) (hm : ∀ i j, i < a.length → j < b.length → cf a b i j most < most)
    (h : Best (fun x => ∃ i j, i < a.length ∧ j < b.length ∧ x = shown a i (cf a b i j most)) best) : IsParted a b (best.length + 1) best := by
  have hmost : best.length < most := by
    rcases h.is with e | ⟨i, j, hi, hj, e⟩
    · rw [e]; have := hm 0 0 ha hb; simp; omega
    · rw [e, shown_len]; exact hm i j hi hj
  have noLong : ∀ x, Com a b x → x.length ≤ most → x.length ≤ best.length := fun x hx hxm => by
    obtain ⟨i, j, hi, hj, e, ag⟩ := hx.at
    obtain ⟨c1, c2, c3⟩ := cf_spec a b i j most
    have hle : x.length ≤ cf a b i j most := by
      rcases Nat.lt_or_ge (cf a b i j most) x.length with q | q
      · exact (c3 (by omega) (ag _ q)).elim
      · exact q
    have nb := h.no _ ⟨i, j, hi, hj, rfl⟩
    rcases Nat.lt_or_ge best.length x.length with q | q
    · exact (nb (.inl (by rw [shown_len]; omega))).elim
    · exact q
  have no : ∀ x, Com a b x → x.length < best.length + 1 := fun x hx => by
    rcases Nat.lt_or_ge most x.length with q | q
    · have := noLong (x.take most) (hx.take most) (by rw [List.length_take]; omega)
      rw [List.length_take] at this
      omega
    · have := noLong x hx q; omega
  refine ⟨rfl, ?_, no, fun x hx hl lt => ?_⟩
  · rcases h.is with e | ⟨i, j, hi, hj, e⟩
    · rw [e]
      exact Com.of (n := 0) ha hb fun t ht => by omega
    · rw [e]
      exact Com.of hi hj (cf_spec a b i j most).2.1
  · obtain ⟨i, j, hi, hj, e, ag⟩ := hx.at
    obtain ⟨c1, c2, c3⟩ := cf_spec a b i j most
    have e1 : cf a b i j most = x.length := by
      refine cf_uniq (by omega) ag fun q z => ?_
      have := no (shown a i (x.length + 1)) (Com.of hi hj fun t ht => by
        by_cases hh : t = x.length
        · rw [hh]; exact z
        · exact ag t (by omega))
      rw [shown_len] at this
      omega
    have nb := h.no x ⟨i, j, hi, hj, by rw [e1]; exact e⟩
    exact nb (.inr ⟨hl, lt⟩)
/-- full agreement somewhere: alike -/
theorem rot_of_full {a b : Tx} (ha : 0 < a.length) (hb : 0 < b.length) (pa : Prim a) (pb : Prim b) {i j : Nat} (h : cf a b i j (a.length + b.length - Nat.gcd a.length b.length) = a.length + b.length - Nat.gcd a.length b.length) : Rot a b := by
  obtain ⟨_, c2, _⟩ := cf_spec a b i j (a.length + b.length - Nat.gcd a.length b.length)
  rw [h] at c2
  exact alike_of_long ha hb pa pb c2
/-- alike: full agreement somewhere -/
theorem full_of_rot {a b : Tx} (ha : 0 < a.length) (h : Rot a b) (most : Nat) : ∃ j, j < b.length ∧ cf a b 0 j most = most := by
  obtain ⟨c, hc, e⟩ := rot_col (rot_pos h) h
  exact ⟨c, hc, cf_uniq (Nat.le_refl _) (fun t _ => by rw [Nat.zero_add]; exact e t) fun q => absurd q (Nat.lt_irrefl _)⟩

/-! #### the law's way -/
/-- all stretches of n seconds of a that b shows too -/
def commonL (a b : Tx) (n : Nat) : List Tx := ((List.range a.length).map fun i => shown a i n).filter fun x => decide (x ∈ (List.range b.length).map fun j => shown b j n)
theorem mem_commonL {a b x : Tx} {n : Nat} : x ∈ commonL a b n ↔ x.length = n ∧ Com a b x := by
  unfold commonL
  rw [List.mem_filter, decide_eq_true_iff, List.mem_map, List.mem_map]
  constructor
  · rintro ⟨⟨i, hi, rfl⟩, ⟨j, hj, e⟩⟩
    rw [shown_len]
    exact ⟨rfl, i, j, List.mem_range.mp hi, List.mem_range.mp hj, by rw [shown_len], by rw [shown_len]; exact e.symm⟩
  · rintro ⟨rfl, i, j, hi, hj, e, f⟩
    exact ⟨⟨i, List.mem_range.mpr hi, e.symm⟩, ⟨j, List.mem_range.mpr hj, f.symm⟩⟩
/-- the law's loop ends with the count and the least stretch ahead -/
theorem parted_of_law {a b : Tx} {n : Nat} {m : Tx} (h0 : commonL a b (n + 1) = []) (hm : IsLeast (commonL a b n) m) : IsParted a b (n + 1) m := by
  obtain ⟨hl, hc⟩ := mem_commonL.mp hm.1
  refine ⟨by omega, hc, fun x hx => ?_, fun x hx he => hm.2 x (mem_commonL.mpr ⟨by omega, hx⟩)⟩
  rcases Nat.lt_or_ge x.length (n + 1) with q | q
  · exact q
  · have hx' := hx.take (n + 1)
    have : x.take (n + 1) ∈ commonL a b (n + 1) := mem_commonL.mpr ⟨by rw [List.length_take]; omega, hx'⟩
    rw [h0] at this; cases this
/-- unlike rounds have no stretch in common of so many seconds -/
theorem commonL_end {a b : Tx} (ha : 0 < a.length) (hb : 0 < b.length) (pa : Prim a) (pb : Prim b) (nr : ¬ Rot a b) {n : Nat} (h : a.length + b.length ≤ n) : commonL a b n = [] := by
  cases e : commonL a b n with
  | nil => rfl
  | cons x l =>
    have hx : x ∈ commonL a b n := by rw [e]; simp
    obtain ⟨hl, hc⟩ := mem_commonL.mp hx
    obtain ⟨i, j, hi, hj, _, ag⟩ := hc.at
    exact (nr (alike_of_long ha hb pa pb fun t ht => ag t (by omega))).elim
theorem commonL_zero {a b : Tx} (ha : 0 < a.length) (hb : 0 < b.length) : IsLeast (commonL a b 0) [] := by
  refine ⟨mem_commonL.mpr ⟨rfl, ?_⟩, fun y _ q => ?_⟩
  · exact ⟨0, 0, ha, hb, rfl, rfl⟩
  · cases y <;> simp at q
end Bw
set_option maxRecDepth 100000
set_option maxHeartbeats 4000000
/-! More rules: text times, least text, tuples less, isinstance, texts' methods. -/
namespace Bw
open PySem PySem.Spec PyProof.Rows L2 Evl
/-- the addresses of the program's classes -/
structure Adr where
  C : Addr
  W : Addr
  nName : Addr
  nRow : Addr
  nSight : Addr
  tooMany : Addr
  nText : Addr
  beam : Addr

section
variable {X : Cx}
/-! ### text * int -/
def repL (l : List Nat) (n : Nat) : List Nat := (List.replicate n l).flatten
theorem foldl_app (x : Array Nat) : ∀ (n : Nat) (acc : Array Nat), ((List.replicate n x).foldl (· ++ ·) acc) = acc ++ (repL x.toList n).toArray
  | 0, acc => by simp [repL]
  | n + 1, acc => by
    rw [List.replicate_succ, List.foldl_cons, foldl_app x n]
    apply Array.toList_inj.mp
    simp [repL, List.replicate_succ]
theorem repL_one (l : List Nat) : repL l 1 = l := by simp [repL]
theorem repL_nil (n : Nat) : repL [] n = [] := by
  simp only [repL]
  induction n with
  | zero => rfl
  | succ n ih => rw [List.replicate_succ, List.flatten_cons, ih]; rfl
theorem repL_len (l : List Nat) (n : Nat) : (repL l n).length = n * l.length := by
  induction n with
  | zero => simp [repL]
  | succ n ih =>
    have e : repL l (n + 1) = l ++ repL l n := by simp [repL, List.replicate_succ]
    rw [e, List.length_append, ih, Nat.succ_mul]; omega
def rMulT : R2 := fun x y H Q => ∃ (l : List Nat) (n : Int), x = T l ∧ y = .int n ∧ -(2 ^ 62) < n ∧ n < 2 ^ 62 ∧ l.length * n.toNat ≤ 100000 ∧ Q (T (repL l n.toNat)) H
theorem op_mulT : OpR X (binaryOp .Mult) rMulT := by
  intro pins s σ H x y v u Q I rx ry h
  obtain ⟨l, n, rfl, rfl, h1, h2, h3, q⟩ := h
  obtain ⟨t1, rfl⟩ := rx
  obtain ⟨t2, rfl⟩ := ry
  have e1 : decide (n < -(2 ^ 63 : Int)) = false := decide_eq_false (by omega)
  have e2 : decide (n ≥ (2 : Int) ^ 63) = false := decide_eq_false (by omega)
  have hl : (S l).length = l.length := S_len l
  refine P.mul_str (by rw [e1, e2]; rfl) (fun hn hx hb => ?_) (fun hn hx => ?_) ?_
  · rw [hl] at hb
    have hn1 : 1 ≤ n := by omega
    have h4 : (l.length : Int) * n ≤ 100000 := by
      have : ((l.length * n.toNat : Nat) : Int) ≤ 100000 := by omega
      rw [Int.natCast_mul, Int.toNat_of_nonneg (by omega)] at this
      exact this
    have h5 : (l.length : Int) ≤ (2 ^ 63 - 1) / n := by
      rw [Int.le_ediv_iff_mul_le (by omega)]
      omega
    omega
  · rw [hl]
    unfold Builtin.Str.tooLong
    rw [decide_eq_false (by rw [sizeLine_eq]; omega)]
  · have done : ∀ (tk : Nat) (t : Tok) (m : List Nat), m = repL l n.toNat → EP X pins σ Q (.str (S m) t) { s with toks := tk } := fun tk t m e => ⟨T (repL l n.toNat), H, I.tok tk, ⟨t, by rw [e]⟩, q⟩
    by_cases hn : n < 1
    · rw [if_pos hn]
      have ez : n.toNat = 0 := by omega
      refine ⟨by decide, ?_⟩
      have := done (s.toks + 1) s.toks [] (by rw [ez]; simp [repL])
      exact this
    · rw [if_neg hn]
      by_cases hx : (n == 1 || (S l).length == 0) = true
      · rw [if_pos hx]
        show EP X pins σ Q (.str (S l) t1) s
        refine done s.toks t1 l ?_
        rcases Bool.or_eq_true_iff.mp hx with e | e
        · have e : n = 1 := by simpa using e
          rw [e]; exact (repL_one l).symm
        · have e : (S l).length = 0 := by simpa using e
          rw [hl] at e
          rw [List.eq_nil_of_length_eq_zero e, repL_nil]
      · rw [if_neg hx]
        have ef : (⟨(List.replicate n.toNat (S l).cps).foldl (· ++ ·) #[]⟩ : Str) = S (repL l n.toNat) := by
          rw [foldl_app]
          simp
        rw [ef]
        refine ⟨?_, done _ _ _ rfl⟩
        rw [S_len, repL_len, Nat.mul_comm]
        exact sz_of h3
def rMulI : R2 := rI CMul fun i j => .int (i * j)
def rMulA : R2 := fun x y H Q => rMulI x y H Q ∨ rMulT x y H Q
theorem opMul : OpR X (binaryOp .Mult) rMulA := OpR.ors op_mul op_mulT
/-! ### tuples less -/
def rLtD (K : Frag) : R2 := fun x y H Q => ∃ d e, Dp K H x d ∧ Dp K H y e ∧ PySem.W.alike d e = true ∧ d ≠ .none ∧ d.depth ≤ 40 ∧ Q (.bl (PySem.W.dataLt d e)) H
theorem op_ltD (hu : X.A.units + 64 < cLine) : OpR X (compareOp .Lt) (rLtD X.K) := by
  intro pins s σ H x y v u Q I rx ry h
  obtain ⟨d, e, hd, he, ha, hn, hz, q⟩ := h
  obtain ⟨as, r1⟩ := Dp.reads I d x v hd rx
  obtain ⟨bs, r2⟩ := Dp.reads I e y u he ry
  have hm := Nat.min_le_left d.depth e.depth
  exact PySem.W.rcLt_alike d e X.A s v u as bs r1 r2 ha hn (by omega) X.prog X.w X.xe _ ⟨.bl _, H, I, rfl, q⟩
def rLtA (K : Frag) : R2 := fun x y H Q => rLtI x y H Q ∨ rLtD K x y H Q
theorem opLtA (hu : X.A.units + 64 < cLine) : OpR X (compareOp .Lt) (rLtA X.K) := OpR.ors op_lt (op_ltD hu)
/-! ### min of a list of texts -/
def rMinT (K : Frag) : List V → Hp → VK → Prop := fun vs H Q => ∃ (a : Addr) (ls : List (List Nat)), vs = [.ref a] ∧ SqL K H a (ls.map T) ∧ ls ≠ [] ∧ ∀ m, IsLeast ls m → Q (T m) H
theorem depth_strs : ∀ ls : List (List Nat), PyData.depthAll (ls.map fun l => PyData.str (S l)) ≤ 1
  | [] => by simp [PyData.depthAll]
  | l :: ls => by
    have := depth_strs ls
    simp only [List.map_cons, PyData.depthAll, PyData.depth]
    omega
theorem dpAll_strs {K : Frag} {H : Hp} : ∀ ls : List (List Nat), DpAll K H (ls.map T) (ls.map fun l => PyData.str (S l))
  | [] => .nil
  | l :: ls => .cons (.str _) (dpAll_strs ls)
theorem minD_least : ∀ (ls : List (List Nat)) (x : List Nat), PySem.W.minD (.str (S x)) (ls.map fun l => PyData.str (S l)) = .str (S (ls.foldl (fun m y => if y < m then y else m) x))
  | [], x => rfl
  | z :: ls, x => by
    have ih := minD_least ls (if z < x then z else x)
    unfold PySem.W.minD at ih ⊢
    rw [List.map_cons, List.foldl_cons, List.foldl_cons, ← ih]
    congr 1
    rw [PySem.W.dataLt_str]
    show (if decide (z < x) = true then _ else _) = _
    by_cases h : z < x
    · rw [if_pos (decide_eq_true h), if_pos h]
    · rw [if_neg (by rw [decide_eq_false h]; decide), if_neg h]
theorem c_minT (hc : X.calm = true) (hu : X.A.units + 64 < cLine) : CallR X (.builtin "min") (rMinT X.K) := by
  intro pins s σ H vs us Q I r h
  obtain ⟨a, ls, rfl, hs, hne, q⟩ := h
  cases ls with
  | nil => exact (hne rfl).elim
  | cons x ls =>
    obtain ⟨its, rv, hl, _⟩ := I.list hs
    rw [Vals.ref1 r]
    obtain ⟨as, hr⟩ := Dp.readsAll I _ _ its (dpAll_strs (x :: ls)) rv
    have hd := depth_strs (x :: ls)
    refine PySem.W.min_list_data (I.ok.hd hc) hl.isList (x := .str (S x)) (xs := ls.map fun l => PyData.str (S l)) (as := as) hr ⟨fun d h1 e h2 => ?_, fun d h1 => ?_⟩ (by have : PyData.depthAll (PyData.str (S x) :: ls.map fun l => PyData.str (S l)) ≤ 1 := hd; omega) ?_
    · have g : ∀ d ∈ (PyData.str (S x) :: ls.map fun l => PyData.str (S l)), ∃ l, d = .str (S l) := fun d hd => by
        rcases List.mem_cons.mp hd with e | hd
        · exact ⟨x, e⟩
        · obtain ⟨l, _, e⟩ := List.mem_map.mp hd
          exact ⟨l, e.symm⟩
      obtain ⟨l1, rfl⟩ := g d h1
      obtain ⟨l2, rfl⟩ := g e h2
      rfl
    · rcases List.mem_cons.mp h1 with e | h1
      · rw [e]; exact fun z => nomatch z
      · obtain ⟨l, _, e⟩ := List.mem_map.mp h1
        rw [← e]; exact fun z => nomatch z
    · intro i v h' tk bs _ hrd hk
      rw [minD_least] at hrd
      cases hrd with
      | str _ t => exact ⟨T _, H, I.kept (t' := tk) hk, ⟨t, rfl⟩, q _ (foldl_least ls x)⟩
/-! ### isinstance -/
def rIsiA (K : Frag) : List V → Hp → VK → Prop := rIsi K
theorem c_isi : CallR X (.builtin "isinstance") (rIsiA X.K) := call_isi
/-! ### texts' methods -/
def rJoin (K : Frag) : V → List V → Hp → VK → Prop := fun x xs H Q => ∃ a p, ∃ ys : List Str, x = .str a ∧ xs = [.ref p] ∧ (SqL K H p (ys.map V.str) ∨ SqT K H p (ys.map V.str)) ∧ (ys.map (·.length)).sum + ys.length * a.length ≤ 16777216 ∧ Q (.str (Txt.join a ys)) H
def rSplit : V → List V → Hp → VK → Prop := fun x xs H Q => ∃ a b, x = .str a ∧ xs = [.str b] ∧ (b.length == 0) = false ∧ a.length + 2 ≤ sizeLine ∧ rNewStrs (Txt.split a b) H Q
def rStarts : V → List V → Hp → VK → Prop := fun x xs H Q => ∃ a b, x = .str a ∧ xs = [.str b] ∧ Q (.bl (Txt.startswith a b)) H
variable {o e : Expr} {to te : TE} {apos pos : Pos}
theorem pe_joinA (ho : PE X o to) (he : PE X e te) (hs : starEach [e] X.env = [(false, eval e X.env)] := by rfl) (hbase : attributeBase o "join" X.env (eval o X.env) = eval o X.env := by rfl) (hline : (apos.endLine == pos.line) = true := by rfl) :
    PE X (.Call (.Attribute o "join" apos) [e] [] pos) (tM1 (rJoin X.K) to te) := pe_join ho he hs hbase hline
theorem pe_splitA (ho : PE X o to) (he : PE X e te) (hs : starEach [e] X.env = [(false, eval e X.env)] := by rfl) (hbase : attributeBase o "split" X.env (eval o X.env) = eval o X.env := by rfl) (hline : (apos.endLine == pos.line) = true := by rfl) :
    PE X (.Call (.Attribute o "split" apos) [e] [] pos) (tM1 rSplit to te) := pe_split ho he hs hbase hline
end
section
variable {K : Frag} {σ : L2.St} {H H' : Hp} {ta tb tc te tx : TE} {t u : TT} {x y z v : V} {r r' : R2}
theorem rv_mulI {i j : Int} (h : CMul i j) : RV rMulA (.int i) (.int j) H (.int (i * j)) := fun H1 _ _ q => .inl ⟨i, j, rfl, rfl, h, q H1 (Ex.refl H1)⟩
theorem rv_mulT {l : List Nat} {n : Nat} (h : l.length * n ≤ 100000) (hn : n ≤ 100000) : RV rMulA (T l) (.int (n : Int)) H (T (repL l n)) := fun H1 _ _ q => .inr ⟨l, (n : Int), rfl, rfl, by omega, by omega, by rw [Int.toNat_natCast]; exact h, by rw [Int.toNat_natCast]; exact q H1 (Ex.refl H1)⟩
theorem rep_eq (l : List Nat) : ∀ n, rep l n = repL l n
  | 0 => by simp [rep, repL]
  | n + 1 => by
    have e : repL l (n + 1) = l ++ repL l n := by simp [repL, List.replicate_succ]
    rw [e, rep, rep_eq l n]
theorem ev_join {zs : List (List Nat)} (h : EvL te σ H (zs.map T)) (hz : (zs.flatten).length ≤ 100000) : Ev (tM1 (rJoin K) (tC (T [])) te) σ H (T zs.flatten) := fun H1 e Q q =>
  ⟨⟨_, rfl⟩, h H1 e _ fun p H2 _ e2 h2 => ⟨S [], p, zs.map S, rfl, rfl, .inl (sq_of (by rw [List.map_map]; exact h2)), by
    have e1 : (((zs.map S).map fun y : Str => y.length)).sum = zs.flatten.length := by
      rw [List.map_map, List.length_flatten]
      exact congrArg List.sum (List.map_congr_left fun l _ => S_len l)
    rw [e1, S_len, List.length_nil, Nat.mul_zero]
    omega, by
    have e3 : Txt.join (S []) (zs.map S) = S zs.flatten := by
      rw [TL.join_eq]
      apply TL.ext_tl
      rw [TL.tl_join]
      have : ∀ l : List (List Nat), TL.joinL (TL.tl (S [])) l = l.flatten := fun l => by
        induction l with
        | nil => rfl
        | cons a l ih =>
          cases l with
          | nil => simp [TL.joinL]
          | cons b l =>
            show a ++ (TL.tl (S []) ++ TL.joinL (TL.tl (S [])) (b :: l)) = _
            rw [ih]
            rfl
      rw [this, List.map_map]
      show (zs.map _).flatten = _
      congr 1
      conv => rhs; rw [← List.map_id zs]
      rfl
    rw [e3]
    exact q H2 e2⟩⟩
theorem ev_minT {ls : List (List Nat)} {m : List Nat} (h : EvL te σ H (ls.map T)) (hm : IsLeast ls m) : Ev (tCB (rMinT K) (tCons te tNil)) σ H (T m) := fun H1 e Q q =>
  h H1 e _ fun p H2 _ e2 h2 => ⟨p, ls, rfl, sq_of h2, fun z => by rw [z] at hm; exact absurd hm.1 (by simp), fun m' h' => by rw [h'.uniq hm]; exact q H2 e2⟩
theorem rising_head : ∀ {l : List Str} {y : Str}, risingS y l = true → ∀ z ∈ y :: l, ¬ z.cps.toList < y.cps.toList
  | [], y, _, z, hz => by
    simp at hz
    subst hz
    exact List.lt_irrefl _
  | w :: l, y, h, z, hz => by
    unfold risingS at h
    rw [Bool.and_eq_true] at h
    rcases List.mem_cons.mp hz with e | hz
    · subst e; exact List.lt_irrefl _
    · have ih := rising_head h.2 z hz
      have h1 : ¬ w.cps.toList < y.cps.toList := by
        have q := h.1
        rw [PyProof.Rows.ltCps_eq] at q
        simpa using q
      intro q
      -- w ≤ z < y, so w < y
      rcases List.le_iff_lt_or_eq.mp (show w.cps.toList ≤ z.cps.toList from ih) with g | g
      · exact h1 (List.lt_trans g q)
      · exact h1 (by rw [g]; exact q)
/-- the first of the sorted ones is the least -/
theorem sorted_least {ls : List (List Nat)} {ys : List Str} {y : Str} {l : List Str} (hp : ys.Perm (ls.map S)) (hs : sortedS ys = true) (e : ys = y :: l) : ∃ m, y = S m ∧ IsLeast ls m := by
  subst e
  have hy : y ∈ ls.map S := hp.mem_iff.mp List.mem_cons_self
  obtain ⟨m, hm, rfl⟩ := List.mem_map.mp hy
  refine ⟨m, rfl, hm, fun z hz => ?_⟩
  have := rising_head (show risingS (S m) l = true from hs) (S z) (hp.mem_iff.mpr (List.mem_map.mpr ⟨z, hz, rfl⟩))
  exact this
end
end Bw
set_option maxRecDepth 100000
set_option maxHeartbeats 4000000
/-! More readings: comprehensions without a test, items of written lists, strings' slices. -/
namespace Bw
open PySem PySem.Spec PyProof.Rows L2 Evl
theorem filter_tt {α : Type} (l : List α) : l.filter (fun _ => true) = l := by simp
theorem flat_one {α β : Type} (f : α → β) (l : List α) : (l.map fun k => [f k]).flatten = l.map f := by
  induction l with
  | nil => rfl
  | cons a l ih => simp; exact ih
section
variable {K : Frag} {σ : L2.St} {H H' : Hp} {ta tb tc te tx : TE} {t u : TT} {x y z v : V} {r r' : R2}
theorem el_mapR {ts : TA} {n : Nat} {j : Nat} {vs : List Nat} (q : Nat → V) (h : EvA ts σ H [.int (n : Int)]) (hz : n ≤ 100000) (hw : ∀ x, wipe ((wipe σ vs).set j (some x)) vs = wipe σ vs)
    (he : ∀ i H1, Ex H H1 → i < n → Ev te ((wipe σ vs).set j (some (.int (i : Int)))) H1 (q i)) : EvL (tLc (iRng1 ts) (gName j) tYes te vs) σ H ((List.range n).map q) := by
  have := el_lcR (t := tYes) (te := te) (fun _ => true) q h hz hw (fun _ _ _ _ => et_yes) (fun i H1 e hi _ => he i H1 e hi)
  rwa [filter_tt] at this
theorem el_mapS {l : List Nat} {tl : TE} {j : Nat} {vs : List Nat} (q : Nat → V) (h : Ev tl σ H (T l)) (hz : l.length ≤ 100000) (hw : ∀ x, wipe ((wipe σ vs).set j (some x)) vs = wipe σ vs)
    (he : ∀ c H1, Ex H H1 → c ∈ l → Ev te ((wipe σ vs).set j (some (T [c]))) H1 (q c)) : EvL (tLc (iStr tl) (gName j) tYes te vs) σ H (l.map q) := by
  have := el_lcS (t := tYes) (te := te) (fun _ => true) q h hz hw (fun _ _ _ _ => et_yes) (fun i H1 e hi _ => he i H1 e hi)
  rwa [filter_tt] at this
theorem el_mapI {α : Type} {a : Addr} {tl : TE} {j : Nat} {vs : List Nat} (xs : List α) (ι : α → V) (q : α → V) (h : Ev tl σ H (.ref a)) (hx : SqL K H a (xs.map ι)) (hz : xs.length ≤ 100000) (hw : ∀ x, wipe ((wipe σ vs).set j (some x)) vs = wipe σ vs)
    (he : ∀ c H1, Ex H H1 → c ∈ xs → Ev te ((wipe σ vs).set j (some (ι c))) H1 (q c)) : EvL (tLc (iList K tl) (gName j) tYes te vs) σ H (xs.map q) := by
  have := el_lcI (K := K) (t := tYes) (te := te) xs ι (fun _ => true) q h hx hz hw (fun _ _ _ _ => et_yes) (fun i H1 e hi _ => he i H1 e hi)
  rwa [filter_tt] at this
theorem el_mapN {α : Type} {tl : TE} {j : Nat} {vs : List Nat} (xs : List α) (ι : α → V) (q : α → V) (h : EvL tl σ H (xs.map ι)) (hz : xs.length ≤ 100000) (hw : ∀ x, wipe ((wipe σ vs).set j (some x)) vs = wipe σ vs)
    (he : ∀ c H1, Ex H H1 → c ∈ xs → Ev te ((wipe σ vs).set j (some (ι c))) H1 (q c)) : EvL (tLc (iList K tl) (gName j) tYes te vs) σ H (xs.map q) := by
  have := el_lcN (K := K) (t := tYes) (te := te) xs ι (fun _ => true) q h hz hw (fun _ _ _ _ => et_yes) (fun i H1 e hi _ => he i H1 e hi)
  rwa [filter_tt] at this
/-- an item of a list, seen by ι -/
theorem atI_map {α : Type} {xs : List α} {ι : α → V} {i : Int} (d : α) (h0 : 0 ≤ i) (h1 : i < xs.length) : atI (xs.map ι) i = some (ι (xs.getD i.toNat d)) := by
  rw [atI_of (ι d) h0 (by rw [List.length_map]; exact h1)]
  congr 1
  rw [List.getD_eq_getElem?_getD, List.getD_eq_getElem?_getD, List.getElem?_map]
  cases xs[i.toNat]? <;> rfl
/-- an item of a written list -/
theorem ev_ixM {α : Type} {ts : TA} {vs : List V} {i : Int} (xs : List α) (ι : α → V) (d : α) (h : EvA ts σ H vs) (hv : vs = xs.map ι) (hz : xs.length ≤ 100000) (hi : ∀ H1, Ex H H1 → Ev tb σ H1 (.int i)) (h0 : 0 ≤ i) (h1 : i < xs.length) :
    Ev (tOp (rIx K) (tLst ts) tb) σ H (ι (xs.getD i.toNat d)) := by
  subst hv
  exact ev_opL1 (el_lst h (by rw [List.length_map]; exact hz)) hi fun p H1 hp _ => rv_ixL2 (sq_of hp) (atI_map d h0 h1)
/-- an item of a list that stands -/
theorem ev_ixL {α : Type} {p : Addr} {i : Int} (xs : List α) (ι : α → V) (d : α) (h : Ev ta σ H (.ref p)) (hx : SqL K H p (xs.map ι)) (hi : Ev tb σ H (.int i)) (h0 : 0 ≤ i) (h1 : i < xs.length) :
    Ev (tOp (rIx K) ta tb) σ H (ι (xs.getD i.toNat d)) := ev_op h hi (rv_ixL2 hx (atI_map d h0 h1))
/-- an item of a new list -/
theorem ev_ixN {α : Type} {i : Int} (xs : List α) (ι : α → V) (d : α) (h : EvL ta σ H (xs.map ι)) (hi : ∀ H1, Ex H H1 → Ev tb σ H1 (.int i)) (h0 : 0 ≤ i) (h1 : i < xs.length) :
    Ev (tOp (rIx K) ta tb) σ H (ι (xs.getD i.toNat d)) := ev_opL1 h hi fun p H1 hp _ => rv_ixL2 (sq_of hp) (atI_map d h0 h1)
/-- a sign of a text -/
theorem ev_ixS {l : List Nat} {i : Int} (h : Ev ta σ H (T l)) (hz : l.length ≤ 100000) (hi : Ev tb σ H (.int i)) (h0 : 0 ≤ i) (h1 : i < l.length) : Ev (tOp (rIx K) ta tb) σ H (T [l.getD i.toNat 0]) := ev_op h hi (rv_ixS3 hz h0 h1)
/-- == of data -/
theorem rv_eqD {d e : PyData} (hd : Dp K H x d) (he : Dp K H y e) (sd : SeqAt.shaped d = true) (se : SeqAt.shaped e = true) (mono : ∀ H1, Ex H H1 → Dp K H1 x d ∧ Dp K H1 y e) : RV (rEqA K) x y H (.bl (PyData.eqv d e)) := fun H1 e1 _ q =>
  .inr ⟨d, e, (mono H1 e1).1, (mono H1 e1).2, sd, se, q H1 (Ex.refl H1)⟩
mutual
theorem dp_ex {K : Frag} {H H' : Hp} (e : Ex H H') : ∀ {x : V} {d : PyData}, Dp K H x d → Dp K H' x d
  | _, _, .non => .non
  | _, _, .bl b => .bl b
  | _, _, .int i => .int i
  | _, _, .str s => .str s
  | _, _, .lst h k => .lst (ex_l e h) (dpAll_ex e k)
  | _, _, .tup h k => .tup (ex_t e h) (dpAll_ex e k)
theorem dpAll_ex {K : Frag} {H H' : Hp} (e : Ex H H') : ∀ {xs : List V} {ds : List PyData}, DpAll K H xs ds → DpAll K H' xs ds
  | _, _, .nil => .nil
  | _, _, .cons h k => .cons (dp_ex e h) (dpAll_ex e k)
end
theorem rv_eqDp {d e : PyData} (hd : Dp K H x d) (he : Dp K H y e) (sd : SeqAt.shaped d = true) (se : SeqAt.shaped e = true) : RV (rEqA K) x y H (.bl (PyData.eqv d e)) := fun H1 e1 _ q => .inr ⟨d, e, dp_ex e1 hd, dp_ex e1 he, sd, se, q H1 (Ex.refl H1)⟩
theorem rv_neDp {d e : PyData} (hd : Dp K H x d) (he : Dp K H y e) (sd : SeqAt.shaped d = true) (se : SeqAt.shaped e = true) : RV (rNeA K) x y H (.bl (!PyData.eqv d e)) := fun H1 e1 _ q => .inr ⟨d, e, dp_ex e1 hd, dp_ex e1 he, sd, se, q H1 (Ex.refl H1)⟩
end
/-! ### data that are told by plain values -/
/-- signs that a text may have -/
def OkT (l : Tx) : Prop := ∀ c ∈ l, c < 1114112
structure Good {α : Type} [DecidableEq α] (f : α → PyData) (P : α → Prop) (n : Nat) : Prop where
  eq : ∀ a b, PyData.eqv (f a) (f b) = decide (a = b)
  lay : ∀ a, P a → (f a).canLay0 = true
  dep : ∀ a, (f a).depth ≤ n
theorem Good.shaped {α : Type} [DecidableEq α] {f : α → PyData} {P : α → Prop} {n : Nat} (h : Good f P n) {a : α} (p : P a) (hn : n ≤ 64 := by decide) : SeqAt.shaped (f a) = true := by
  unfold SeqAt.shaped
  rw [h.lay a p, decide_eq_true (Nat.le_trans (h.dep a) hn)]
  rfl
def eT (l : Tx) : PyData := .str (S l)
def eI (i : Int) : PyData := .int i
def eN (i : Nat) : PyData := .int (i : Int)
def eB (b : Bool) : PyData := .bool b
def eL {α : Type} (f : α → PyData) (l : List α) : PyData := .list (l.map f)
def eP {α β : Type} (f : α → PyData) (g : β → PyData) (p : α × β) : PyData := .tuple [f p.1, g p.2]
def e3 {α β γ : Type} (f : α → PyData) (g : β → PyData) (h : γ → PyData) (p : α × β × γ) : PyData := .tuple [f p.1, g p.2.1, h p.2.2]
abbrev Any {α : Type} : α → Prop := fun _ => True
abbrev AllP {α : Type} (P : α → Prop) : List α → Prop := fun l => ∀ a ∈ l, P a
abbrev BothP {α β : Type} (P : α → Prop) (R : β → Prop) : α × β → Prop := fun p => P p.1 ∧ R p.2
theorem good_T : Good eT OkT 0 := ⟨fun a b => by
  show (S a == S b) = _
  by_cases h : a = b
  · subst h; simp
  · rw [decide_eq_false h]
    exact beq_eq_false_iff_ne.mpr fun q => h (S_inj q), fun l h => by
      show PyData.strOk (S l) = true
      unfold PyData.strOk
      simp only [List.all_toArray, List.all_eq_true, decide_eq_true_eq]
      exact h, fun _ => by simp [eT, PyData.depth]⟩
theorem good_I : Good eI Any 0 := ⟨fun a b => by
  show (a == b) = _
  by_cases h : a = b
  · subst h; simp
  · rw [decide_eq_false h]
    exact beq_eq_false_iff_ne.mpr h, fun _ _ => by simp [eI, PyData.canLay0], fun _ => by simp [eI, PyData.depth]⟩
theorem good_N : Good eN Any 0 := ⟨fun a b => by
  show ((a : Int) == (b : Int)) = _
  by_cases h : a = b
  · subst h; simp
  · rw [decide_eq_false h]
    exact beq_eq_false_iff_ne.mpr fun q => h (by omega), fun _ _ => by simp [eN, PyData.canLay0], fun _ => by simp [eN, PyData.depth]⟩
theorem good_B : Good eB Any 0 := ⟨fun a b => by
  show (a == b) = _
  cases a <;> cases b <;> rfl, fun _ _ => by simp [eB, PyData.canLay0], fun _ => by simp [eB, PyData.depth]⟩
theorem good_all {α : Type} [DecidableEq α] {f : α → PyData} {P : α → Prop} {n : Nat} (h : Good f P n) : (∀ a b : List α, PyData.eqvAll (a.map f) (b.map f) = decide (a = b)) ∧ (∀ a : List α, AllP P a → PyData.canLayAll0 (a.map f) = true) ∧ ∀ a : List α, PyData.depthAll (a.map f) ≤ n := by
  refine ⟨fun a => ?_, fun a => ?_, fun a => ?_⟩
  · induction a with
    | nil => intro b; cases b <;> simp [PyData.eqvAll]
    | cons x a ih =>
      intro b
      cases b with
      | nil => simp [PyData.eqvAll]
      | cons y b =>
        rw [List.map_cons, List.map_cons, PyData.eqvAll, h.eq, ih]
        by_cases e : x = y <;> by_cases e2 : a = b <;> simp [e, e2]
  · induction a with
    | nil => intro _; simp [PyData.canLayAll0]
    | cons x a ih =>
      intro p
      rw [List.map_cons, PyData.canLayAll0, h.lay x (p x (by simp)), ih fun y hy => p y (by simp [hy])]; rfl
  · induction a with
    | nil => simp [PyData.depthAll]
    | cons x a ih =>
      rw [List.map_cons, PyData.depthAll]
      have := h.dep x
      omega
theorem good_L {α : Type} [DecidableEq α] {f : α → PyData} {P : α → Prop} {n : Nat} (h : Good f P n) : Good (eL f) (AllP P) (n + 1) := by
  obtain ⟨h1, h2, h3⟩ := good_all h
  exact ⟨fun a b => by simp only [eL, PyData.eqv]; exact h1 a b, fun a p => by simp only [eL, PyData.canLay0]; exact h2 a p, fun a => by simp only [eL, PyData.depth]; have := h3 a; omega⟩
theorem good_P {α β : Type} [DecidableEq α] [DecidableEq β] {f : α → PyData} {g : β → PyData} {P : α → Prop} {R : β → Prop} {n m : Nat} (h : Good f P n) (k : Good g R m) : Good (eP f g) (BothP P R) (max n m + 1) := by
  refine ⟨fun a b => ?_, fun a p => ?_, fun a => ?_⟩
  · simp only [eP, PyData.eqv, PyData.eqvAll, h.eq, k.eq]
    obtain ⟨a1, a2⟩ := a
    obtain ⟨b1, b2⟩ := b
    by_cases e : a1 = b1 <;> by_cases e2 : a2 = b2 <;> simp [e, e2]
  · simp only [eP, PyData.canLay0, PyData.canLayAll0, h.lay _ p.1, k.lay _ p.2]; rfl
  · simp only [eP, PyData.depth, PyData.depthAll]
    have := h.dep a.1
    have := k.dep a.2
    omega
theorem good_3 {α β γ : Type} [DecidableEq α] [DecidableEq β] [DecidableEq γ] {f : α → PyData} {g : β → PyData} {i : γ → PyData} {P : α → Prop} {R : β → Prop} {U : γ → Prop} {n m o : Nat} (h : Good f P n) (k : Good g R m) (l : Good i U o) :
    Good (e3 f g i) (BothP P (BothP R U)) (max n (max m o) + 1) := by
  refine ⟨fun a b => ?_, fun a p => ?_, fun a => ?_⟩
  · simp only [e3, PyData.eqv, PyData.eqvAll, h.eq, k.eq, l.eq]
    obtain ⟨a1, a2, a3⟩ := a
    obtain ⟨b1, b2, b3⟩ := b
    by_cases e : a1 = b1 <;> by_cases e2 : a2 = b2 <;> by_cases e3 : a3 = b3 <;> simp [e, e2, e3]
  · simp only [e3, PyData.canLay0, PyData.canLayAll0, h.lay _ p.1, k.lay _ p.2.1, l.lay _ p.2.2]; rfl
  · simp only [e3, PyData.depth, PyData.depthAll]
    have := h.dep a.1
    have := k.dep a.2.1
    have := l.dep a.2.2
    omega
section
variable {K : Frag} {σ : L2.St} {H H' : Hp} {ta tb tc te tx : TE} {x y z v : V}
/-- a list of flat things, as data -/
theorem dpAll_map {α : Type} {ι : α → V} {f : α → PyData} (h : ∀ a, Dp K H (ι a) (f a)) : ∀ l : List α, DpAll K H (l.map ι) (l.map f)
  | [] => .nil
  | a :: l => .cons (h a) (dpAll_map h l)
theorem dp_L {α : Type} {ι : α → V} {f : α → PyData} {p : Addr} {l : List α} (h : ∀ a, Dp K H (ι a) (f a)) (hp : SqL K H p (l.map ι)) : Dp K H (.ref p) (eL f l) := .lst hp (dpAll_map h l)
theorem dp_T (l : Tx) : Dp K H (T l) (eT l) := .str _
theorem dp_I (i : Int) : Dp K H (.int i) (eI i) := .int _
theorem dp_N (i : Nat) : Dp K H (.int (i : Int)) (eN i) := .int _
theorem dp_B (b : Bool) : Dp K H (.bl b) (eB b) := .bl _
/-- two new lists of flat things, compared -/
theorem ev_eqLL {α : Type} [DecidableEq α] {ι : α → V} {f : α → PyData} {P : α → Prop} {n : Nat} (g : Good f P n) (hf : ∀ (H : Hp) a, Dp K H (ι a) (f a)) {xs ys : List α} (ha : EvL ta σ H (xs.map ι)) (hb : EvL tb σ H (ys.map ι)) (px : AllP P xs) (py : AllP P ys) (hn : n + 1 ≤ 64 := by decide) : Ev (tOp (rEqA K) ta tb) σ H (.bl (decide (xs = ys))) :=
  ev_opLL ha hb fun p q H1 hp hq _ => by
    have := rv_eqDp (K := K) (H := H1) (dp_L (hf H1) (sq_of hp)) (dp_L (hf H1) (sq_of hq)) ((good_L g).shaped px hn) ((good_L g).shaped py hn)
    rwa [(good_L g).eq] at this
theorem ev_neLL {α : Type} [DecidableEq α] {ι : α → V} {f : α → PyData} {P : α → Prop} {n : Nat} (g : Good f P n) (hf : ∀ (H : Hp) a, Dp K H (ι a) (f a)) {xs ys : List α} (ha : EvL ta σ H (xs.map ι)) (hb : EvL tb σ H (ys.map ι)) (px : AllP P xs) (py : AllP P ys) (hn : n + 1 ≤ 64 := by decide) : Ev (tOp (rNeA K) ta tb) σ H (.bl (!decide (xs = ys))) :=
  ev_opLL ha hb fun p q H1 hp hq _ => by
    have := rv_neDp (K := K) (H := H1) (dp_L (hf H1) (sq_of hp)) (dp_L (hf H1) (sq_of hq)) ((good_L g).shaped px hn) ((good_L g).shaped py hn)
    rwa [(good_L g).eq] at this
/-- a list that stands and a new one -/
theorem ev_eqL {α : Type} [DecidableEq α] {ι : α → V} {f : α → PyData} {P : α → Prop} {n : Nat} (g : Good f P n) (hf : ∀ (H : Hp) a, Dp K H (ι a) (f a)) {xs ys : List α} {p : Addr} (ha : Ev ta σ H (.ref p)) (hx : SqL K H p (xs.map ι)) (hb : EvL tb σ H (ys.map ι)) (px : AllP P xs) (py : AllP P ys) (hn : n + 1 ≤ 64 := by decide) : Ev (tOp (rEqA K) ta tb) σ H (.bl (decide (xs = ys))) :=
  ev_opL ha hb fun q H1 hq e => by
    have := rv_eqDp (K := K) (H := H1) (dp_L (hf H1) (ex_l e hx)) (dp_L (hf H1) (sq_of hq)) ((good_L g).shaped px hn) ((good_L g).shaped py hn)
    rwa [(good_L g).eq] at this
theorem ev_neL {α : Type} [DecidableEq α] {ι : α → V} {f : α → PyData} {P : α → Prop} {n : Nat} (g : Good f P n) (hf : ∀ (H : Hp) a, Dp K H (ι a) (f a)) {xs ys : List α} {p : Addr} (ha : Ev ta σ H (.ref p)) (hx : SqL K H p (xs.map ι)) (hb : EvL tb σ H (ys.map ι)) (px : AllP P xs) (py : AllP P ys) (hn : n + 1 ≤ 64 := by decide) : Ev (tOp (rNeA K) ta tb) σ H (.bl (!decide (xs = ys))) :=
  ev_opL ha hb fun q H1 hq e => by
    have := rv_neDp (K := K) (H := H1) (dp_L (hf H1) (ex_l e hx)) (dp_L (hf H1) (sq_of hq)) ((good_L g).shaped px hn) ((good_L g).shaped py hn)
    rwa [(good_L g).eq] at this
/-- a new list compared with the empty one, whatever its items are -/
theorem eqvAll_nil : ∀ ds : List PyData, PyData.eqvAll ds [] = ds.isEmpty
  | [] => by simp [PyData.eqvAll]
  | d :: ds => by simp [PyData.eqvAll]
theorem ev_nilD {α : Type} {xs : List α} {q : α → V} {f : α → PyData} (hf : ∀ (H : Hp), ∀ a ∈ xs, Dp K H (q a) (f a)) (hs : SeqAt.shaped (.list (xs.map f)) = true) (ha : EvL ta σ H (xs.map q)) (hb : EvL tb σ H []) : Ev (tOp (rEqA K) ta tb) σ H (.bl (decide (xs = []))) :=
  ev_opLL ha hb fun p d H1 hp hd _ => by
    have h1 : Dp K H1 (.ref p) (.list (xs.map f)) := .lst (sq_of hp) (by
      clear hs ha hp
      induction xs with
      | nil => exact .nil
      | cons x xs ih => exact .cons (hf H1 x (by simp)) (ih fun H a h => hf H a (by simp [h])))
    have := rv_eqDp (K := K) h1 (.lst (sq_of hd) .nil) hs (by decide)
    have e : PyData.eqv (.list (xs.map f)) (.list []) = decide (xs = []) := by
      simp only [PyData.eqv]
      rw [eqvAll_nil]
      cases xs <;> simp
    rwa [e] at this
theorem shaped_flat {α : Type} (f : α → PyData) (h : ∀ a, (f a).canLay0 = true ∧ (f a).depth = 0) : ∀ xs : List α, PyData.canLayAll0 (xs.map f) = true ∧ PyData.depthAll (xs.map f) = 0
  | [] => by simp [PyData.canLayAll0, PyData.depthAll]
  | x :: xs => by
    obtain ⟨h1, h2⟩ := shaped_flat f h xs
    obtain ⟨h3, h4⟩ := h x
    simp [PyData.canLayAll0, PyData.depthAll, h1, h2, h3, h4]
/-- [signs ..] == [], the signs below 0x110000 -/
theorem ev_nilS {xs : List Nat} {q : Nat → V} (hq : q = fun c => T [c] := by rfl) (hok : OkT xs) (ha : EvL ta σ H (xs.map q)) (hb : EvL tb σ H []) : Ev (tOp (rEqA K) ta tb) σ H (.bl (decide (xs = []))) := by
  subst hq
  refine ev_nilD (f := fun c => eT [c]) (fun H c _ => dp_T _) ?_ ha hb
  have : ∀ xs : List Nat, OkT xs → PyData.canLayAll0 (xs.map fun c => eT [c]) = true ∧ PyData.depthAll (xs.map fun c => eT [c]) = 0 := fun xs => by
    induction xs with
    | nil => intro _; simp [PyData.canLayAll0, PyData.depthAll]
    | cons x xs ih =>
      intro h
      obtain ⟨h1, h2⟩ := ih fun c hc => h c (by simp [hc])
      have h3 := good_T.lay [x] (fun c hc => by simp at hc; subst hc; exact h _ (by simp))
      refine ⟨by rw [List.map_cons, PyData.canLayAll0, h1, h3]; rfl, ?_⟩
      rw [List.map_cons, PyData.depthAll, h2]
      simp [eT, PyData.depth]
  obtain ⟨h1, h2⟩ := this xs hok
  unfold SeqAt.shaped
  simp only [PyData.canLay0, PyData.depth, h1, h2]
  decide
/-- sorted(a list of texts)[0] -/
theorem ev_sorted0 {ls : List Tx} {m : Tx} {p : Addr} (ha : Ev ta σ H (.ref p)) (hx : SqL K H p (ls.map T)) (h64 : ls.length < 64) (hm : IsLeast ls m) : Ev (tOp (rIx K) (tCB (rSortedS K) (tCons ta tNil)) (tC (.int 0))) σ H (T m) := fun H1 e Q q =>
  ha H1 e _ fun H2 e2 => ⟨p, ls.map S, rfl, by rw [List.map_map]; exact ex_l (e.trans e2) hx, by rw [List.length_map]; exact h64, fun ys d hp hs hd => by
    have hpos : 0 < ys.length := by
      rw [hp.length_eq, List.length_map]
      cases ls with
      | nil => exact absurd hm.1 (by simp)
      | cons a l => simp
    obtain ⟨y, l, hy⟩ : ∃ y l, ys = y :: l := by
      cases ys with
      | nil => simp at hpos
      | cons y l => exact ⟨y, l, rfl⟩
    obtain ⟨m', rfl, hm'⟩ := sorted_least hp hs hy
    have em := hm'.uniq hm
    subst em
    refine .inl ⟨d, ys.map V.str, 0, T m', rfl, rfl, sq_of upd_same, ?_, q _ (e2.trans (Ex.new hd))⟩
    rw [hy]
    exact atI_nat (xs := (S m' :: l).map V.str) (j := 0) (v := T m') rfl⟩
end
end Bw
set_option maxRecDepth 100000
set_option maxHeartbeats 600000
/-! Readings: rows. -/
namespace Bw
open PySem PySem.Spec PyProof.Rows L2 Evl
local macro_rules | `(tactic| walk_at "ev") => `(tactic| repeat' (first
  | with_reducible exact ev_c
  | ((with_reducible apply ev_var); rfl)
  | with_reducible exact ea_nil
  | with_reducible apply ea_cons
  | with_reducible apply ev_op
  | with_reducible apply ev_un
  | with_reducible exact rv_addI
  | with_reducible exact rv_subI
  | with_reducible exact ru_negI
  | ((with_reducible apply rv_modI); first | (show (0 : Int) < _; decide) | omega)
  | ((with_reducible apply rv_divI); exact ⟨by decide, by decide⟩)
  | ((with_reducible apply rv_mulI); first | exact Or.inl ⟨by decide, by decide⟩ | exact Or.inr ⟨by decide, by decide⟩ | exact Or.inl ⟨by omega, by omega⟩ | exact Or.inr ⟨by omega, by omega⟩)
  | with_reducible exact rv_eqI
  | with_reducible exact rv_neI
  | with_reducible exact rv_eqT
  | with_reducible exact rv_neT
  | with_reducible exact rv_ltI
  | with_reducible exact rv_leI
  | with_reducible exact rv_gtI
  | with_reducible exact rv_geI
  | with_reducible exact rv_inC
  | with_reducible exact rv_niC
  | with_reducible exact rv_isN
  | with_reducible exact rv_notN
  | with_reducible apply ev_lenT
  | with_reducible apply et_test
  | with_reducible apply et_B
  | with_reducible apply et_not
  | with_reducible exact eo_none
  | with_reducible apply eo_some
  | with_reducible exact et_yes
  | exact ev_c
  | omega
  | (simp only [List.length_take, List.length_drop, List.length_append]; omega)))

local macro_rules | `(tactic| walk_at "evr") => `(tactic| (refine' ev_is ?evh ?eve; (case evh => walk_at "ev"); (case eve => first | rfl | skip)))
local macro_rules | `(tactic| walk_at "eva") => `(tactic| (simp only [List.map_cons, List.map_nil]; walk_at "ev"))
/-! ### root -/
def sp_root (K : Frag) (a : Adr) : Sp := fun vs H Q _ => ∃ r : Tx, vs = [T r] ∧ (1 ≤ r.length ∧ r.length ≤ 100) ∧ RetV (T (root r)) H Q
/-! root(row): 0 row 1 many -/
def t_root (K : Frag) (a : Adr) : TS :=
  (tSeq (tFor (iRng2 (tCons (tC (.int 1)) (tCons (tCB (rLenA K) (tCons (tVar 0) tNil)) tNil))) (gName 1) (tIfS (tAnd (tTest (tOp (rEqA K) (tOp rModI (tCB (rLenA K) (tCons (tVar 0) tNil)) (tVar 1)) (tC (.int 0)))) (tTest (tOp (rEqA K) (tOp rMulA (tSl (rSlA K) (tVar 0) tNoPart (tPart (tVar 1))) (tOp rDivI (tCB (rLenA K) (tCons (tVar 0) tNil)) (tVar 1))) (tVar 0)))) (tRet (tSl (rSlA K) (tVar 0) tNoPart (tPart (tVar 1)))) tNext))
    (tRet (tVar 0)))
theorem root_hit {r : Tx} {m : Nat} (h1 : 1 ≤ m) (h2 : m < r.length) (h3 : rootAt r m = true) (h4 : ∀ k, 1 ≤ k → k < m → rootAt r k = false) : root r = r.take m := by
  unfold root rootLen
  rw [firstM_of h1 (by omega) h3 h4]
  rfl
theorem root_miss {r : Tx} (h4 : ∀ k, 1 ≤ k → k < r.length → rootAt r k = false) : root r = r := by
  unfold root rootLen
  rw [firstM_none_of fun k k1 k2 => h4 k k1 (by omega)]
  simp
theorem rootAt_int {r : Tx} {m : Nat} : (decide ((r.length : Int) % ((1 : Int) + (m : Int)) = 0)) = decide (r.length % (1 + m) = 0) := by
  have e : (r.length : Int) % ((1 : Int) + (m : Int)) = ((r.length % (1 + m) : Nat) : Int) := by
    rw [Int.natCast_emod]; rfl
  rw [e]
  by_cases h : r.length % (1 + m) = 0
  · rw [decide_eq_true h, decide_eq_true (by omega)]
  · rw [decide_eq_false h, decide_eq_false (by omega)]
theorem read_root {K : Frag} {a : Adr} {vs : List V} {H : Hp} {Q : VK} {E : XK} (h : sp_root K a vs H Q E) : t_root K a { nx := fun _ H' => Q .non H', rt := Q } (start ["", ""] vs) H := by
  obtain ⟨r, rfl, ⟨h1, h2⟩, k⟩ := h
  show t_root K a _ [some (T r), none] H
  unfold t_root
  refine q_forR2 (lo := 1) (n := (r.length : Int)) (by walk_at "ev") (by omega) (fun i σ' H' => ∃ v, σ' = [some (T r), v] ∧ Ex H H' ∧ ∀ m, 1 ≤ m → m < 1 + i → rootAt r m = false) (fun H1 e1 => ⟨none, rfl, e1, fun m m1 m2 => by omega⟩) ?_ ?_
  · rintro i σ' H' hi ⟨v, rfl, e1, hm⟩
    have hdec : 0 < (1 : Int) + (i : Int) := by omega
    have hdm : (r.length : Int) / ((1 : Int) + (i : Int)) = ((r.length / (1 + i) : Nat) : Int) := by rw [Int.natCast_ediv]; rfl
    refine s_when (b := rootAt r (1 + i)) ?_ ?_ ?_
    · unfold rootAt
      refine et_and (et_is (b := decide (r.length % (1 + i) = 0)) (et_test (ev_op (ev_op ?_ ?_ (rv_modI hdec)) ev_c rv_eqI)) rootAt_int) fun hd => ?_
      · walk_at "ev"
      · walk_at "ev"
      · have hd := of_decide_eq_true hd
        have hdm2 : r.length / (1 + i) * (1 + i) = r.length := by
          have := Nat.div_add_mod r.length (1 + i)
          rw [hd, Nat.mul_comm] at this; omega
        have hl : (r.take (1 + i)).length = 1 + i := by rw [List.length_take]; omega
        refine et_is (et_test (ev_op (ev_op (ev_toT (l := r) (k := 1 + i) ?_ ?_ (by omega)) ?_ (rv_mulT (n := r.length / (1 + i)) (by rw [hl, Nat.mul_comm, hdm2]; omega) (Nat.le_trans (Nat.div_le_self _ _) (by omega)))) ?_ (rv_eqT (b := r)))) ?_
        · walk_at "ev"
        · exact ev_var rfl
        · refine ev_is (ev_op (x := .int r.length) (y := .int (1 + (i : Int))) ?_ ?_ (rv_divI ⟨hdec, by omega⟩)) (by rw [hdm])
          · walk_at "ev"
          · walk_at "ev"
        · walk_at "ev"
        · rw [rep_eq]
    · intro hb H1 e2
      refine s_ret (ev_toT (k := 1 + i) (ev_var rfl) (ev_var rfl) (by omega)) fun H2 e3 => ?_
      rw [root_hit (r := r) (m := 1 + i) (by omega) (by omega) hb hm] at k
      exact k H2 ((e1.trans e2).trans e3)
    · intro hb H1 e2
      refine ⟨_, rfl, e1.trans e2, fun m m1 m2 => ?_⟩
      by_cases hh : m = 1 + i
      · rw [hh]; exact hb
      · exact hm m m1 (by omega)
  · rintro σ' H' ⟨v, rfl, e1, hm⟩
    refine s_ret (ev_var rfl) fun H2 e3 => ?_
    rw [root_miss fun m m1 m2 => hm m m1 (by omega)] at k
    exact k H2 (e1.trans e3)

/-! ### turned, least_turn -/
def sp_turned (K : Frag) (a : Adr) : Sp := fun vs H Q _ => ∃ (r : Tx) (b : Nat), vs = [T r, .int (b : Int)] ∧ r.length ≤ 100 ∧ RetV (T (turned r b)) H Q
/-! turned(row, begin): 0 row 1 begin -/
def t_turned (K : Frag) (a : Adr) : TS :=
  (tRet (tOp (rAddA K) (tSl (rSlA K) (tVar 0) (tPart (tVar 1)) tNoPart) (tSl (rSlA K) (tVar 0) tNoPart (tPart (tVar 1)))))
theorem read_turned {K : Frag} {a : Adr} {vs : List V} {H : Hp} {Q : VK} {E : XK} (h : sp_turned K a vs H Q E) : t_turned K a { nx := fun _ H' => Q .non H', rt := Q } (start ["", ""] vs) H := by
  obtain ⟨r, b, rfl, hr, k⟩ := h
  show t_turned K a _ [some (T r), some (.int (b : Int))] H
  unfold t_turned
  exact s_ret (ev_op (ev_fromT (k := b) (ev_var rfl) (ev_var rfl) (by omega)) (ev_toT (k := b) (ev_var rfl) (ev_var rfl) (by omega)) (rv_addT (by rw [List.length_drop, List.length_take]; omega))) fun H2 e => k H2 e
def sp_least_turn (K : Frag) (a : Adr) : Sp := fun vs H Q _ => ∃ r : Tx, vs = [T r] ∧ (1 ≤ r.length ∧ r.length ≤ 100) ∧ RetV (T (leastTurn r)) H Q
/-! least_turn(row): 0 row 1 begin -/
def t_least_turn (K : Frag) (a : Adr) : TS :=
  (tRet (tCB (rMinT K) (tCons (tLc (iRng1 (tCons (tCB (rLenA K) (tCons (tVar 0) tNil)) tNil)) (gName 1) tYes (tCall (sp_turned K a) [] E0 (tCons (tVar 0) (tCons (tVar 1) tNil))) [1]) tNil)))
theorem read_least_turn {K : Frag} {a : Adr} {vs : List V} {H : Hp} {Q : VK} {E : XK} (h : sp_least_turn K a vs H Q E) : t_least_turn K a { nx := fun _ H' => Q .non H', rt := Q } (start ["", ""] vs) H := by
  obtain ⟨r, rfl, ⟨h1, h2⟩, k⟩ := h
  show t_least_turn K a _ [some (T r), none] H
  unfold t_least_turn
  refine s_ret (ev_minT (ls := turns r) ?_ (leastTurn_is h1)) fun H2 e => k H2 e
  unfold turns
  rw [List.map_map]
  refine el_mapR (n := r.length) _ (by walk_at "ev") (by omega) (fun _ => rfl) fun i H1 e1 hi => ?_
  refine ev_call (vs := [T r, .int (i : Int)]) (by walk_at "ev") fun H2 e2 Q q E => ⟨r, i, rfl, by omega, q⟩

/-! ### the law's draws -/
def mixOne (c k : Int) : Int := (c + 7919 * k + 104729) * 48271 % 2147483647
def mixed (c k : Int) : Int := (mixOne c k * mixOne c k + 69621 * mixOne c k) % 2147483629 / 7
theorem mixed_lo (c k : Int) : 0 ≤ mixed c k := by unfold mixed; omega
theorem mixed_hi (c k : Int) : mixed c k < 306783376 := by unfold mixed; omega
def sp_Lmixed (K : Frag) (a : Adr) : Sp := fun vs H Q _ => ∃ c k : Int, vs = [.int c, .int k] ∧ RetV (.int (mixed c k)) H Q
/-! _law_mixed(_law_cell, _law_k): 0 _law_cell 1 _law_k 2 _law_one -/
def t_Lmixed (K : Frag) (a : Adr) : TS :=
  (tSeq (tAsg (tOp rModI (tOp rMulA (tOp (rAddA K) (tOp (rAddA K) (tVar 0) (tOp rMulA (tC (.int 7919)) (tVar 1))) (tC (.int 104729))) (tC (.int 48271))) (tC (.int 2147483647))) (gName 2))
    (tRet (tOp rDivI (tOp rModI (tOp (rAddA K) (tOp rMulA (tVar 2) (tVar 2)) (tOp rMulA (tC (.int 69621)) (tVar 2))) (tC (.int 2147483629))) (tC (.int 7)))))
theorem read_Lmixed {K : Frag} {a : Adr} {vs : List V} {H : Hp} {Q : VK} {E : XK} (h : sp_Lmixed K a vs H Q E) : t_Lmixed K a { nx := fun _ H' => Q .non H', rt := Q } (start ["", "", ""] vs) H := by
  obtain ⟨c, k, rfl, q⟩ := h
  show t_Lmixed K a _ [some (.int c), some (.int k), none] H
  unfold t_Lmixed
  refine q_asg (v := .int (mixOne c k)) (by walk_at "evr") fun H1 e1 => ?_
  have h1 : 0 ≤ mixOne c k := by unfold mixOne; omega
  have h2 : mixOne c k < 2147483647 := by unfold mixOne; omega
  refine s_ret (v := .int (mixed c k)) (by walk_at "evr") fun H2 e2 => q H2 (e1.trans e2)
/-- a call of _law_mixed -/
theorem ev_mixed {K : Frag} {a : Adr} {σ : L2.St} {H : Hp} {ta : TA} {c k : Int} (h : EvA ta σ H [.int c, .int k]) : Ev (tCall (sp_Lmixed K a) [] E0 ta) σ H (.int (mixed c k)) := ev_call h fun H2 e2 Q q E => ⟨c, k, rfl, q⟩

def pool (m : Int) : Tx := [[46, 119], [46, 119, 114], [46, 103, 114, 119], [103, 119]].getD (m / 7 % 4).toNat []
def rowSize (m : Int) : Int := [1 + m % 4, 1 + m / 4 % 8, 2 + m / 4 % 5, 1 + m / 4 % 15].getD (m / 3 % 4).toNat 0
def row0 (m : Int) : Tx := (List.range (rowSize m).toNat).map fun (k : Nat) => (pool m).getD (mixed m (20 + (k : Int)) % ((pool m).length : Int)).toNat 0
def rowTimes (m : Int) : Nat := [1, 1, 2, 3].getD (m / 11 % 4).toNat 0
def rowF (m : Int) : Tx := (repL (row0 m) (rowTimes m)).take 30
def COLS : Tx := [46, 103, 114, 119]
theorem four {i : Int} (h0 : 0 ≤ i) (h1 : i < 4) : i.toNat = 0 ∨ i.toNat = 1 ∨ i.toNat = 2 ∨ i.toNat = 3 := by omega
theorem pool_len (m : Int) : 2 ≤ (pool m).length ∧ (pool m).length ≤ 4 := by
  unfold pool
  rcases four (i := m / 7 % 4) (by omega) (by omega) with h | h | h | h <;> rw [h] <;> decide
theorem pool_mem (m : Int) : ∀ c ∈ pool m, c ∈ COLS := by
  unfold pool
  rcases four (i := m / 7 % 4) (by omega) (by omega) with h | h | h | h <;> rw [h] <;> decide
theorem rowSize_b (m : Int) : 1 ≤ rowSize m ∧ rowSize m ≤ 15 := by
  unfold rowSize
  rcases four (i := m / 3 % 4) (by omega) (by omega) with h | h | h | h <;> rw [h] <;> simp only [List.getD_cons_zero, List.getD_cons_succ] <;> omega
theorem rowTimes_b (m : Int) : 1 ≤ rowTimes m ∧ rowTimes m ≤ 3 := by
  unfold rowTimes
  rcases four (i := m / 11 % 4) (by omega) (by omega) with h | h | h | h <;> rw [h] <;> decide
theorem row0_len (m : Int) : (row0 m).length = (rowSize m).toNat := by simp [row0]
theorem getD_mem {α : Type} {l : List α} {i : Nat} (d : α) (h : i < l.length) : l.getD i d ∈ l := by
  rw [List.getD_eq_getElem?_getD, List.getElem?_eq_getElem h]
  exact List.getElem_mem h
theorem repL_mem {l : List Nat} {n c : Nat} (h : c ∈ repL l n) : c ∈ l := by
  unfold repL at h
  obtain ⟨x, hx, hc⟩ := List.mem_flatten.mp h
  rw [(List.mem_replicate.mp hx).2] at hc
  exact hc
theorem rowF_len (m : Int) : 1 ≤ (rowF m).length ∧ (rowF m).length ≤ 30 := by
  have h1 := rowSize_b m
  have h2 := rowTimes_b m
  unfold rowF
  rw [List.length_take, repL_len, row0_len]
  have : 1 ≤ rowTimes m * (rowSize m).toNat := Nat.mul_pos (by omega) (by omega)
  omega
theorem modL {x : Int} {n : Nat} (h : 0 < n) : 0 ≤ x % (n : Int) ∧ x % (n : Int) < (n : Int) := ⟨Int.emod_nonneg _ (by omega), Int.emod_lt_of_pos _ (by omega)⟩
theorem rowF_cols (m : Int) : ∀ c ∈ rowF m, c ∈ COLS := fun c hc => by
  have hc := repL_mem (List.mem_of_mem_take hc)
  unfold row0 at hc
  obtain ⟨k, _, rfl⟩ := List.mem_map.mp hc
  refine pool_mem m _ (getD_mem 0 ?_)
  have := pool_len m
  have := modL (x := mixed m (20 + (k : Int))) (n := (pool m).length) (by omega)
  omega
def sp_Lrow (K : Frag) (a : Adr) : Sp := fun vs H Q _ => ∃ m : Int, vs = [.int m] ∧ RetV (T (rowF m)) H Q
/-! _law_row(_law_mix): 0 _law_mix 1 _law_size 2 _law_pool 3 _law_row_here 4 _law_k -/
def t_Lrow (K : Frag) (a : Adr) : TS :=
  (tSeq (tAsg (tOp (rIx K) (tLst (tCons (tOp (rAddA K) (tC (.int 1)) (tOp rModI (tVar 0) (tC (.int 4)))) (tCons (tOp (rAddA K) (tC (.int 1)) (tOp rModI (tOp rDivI (tVar 0) (tC (.int 4))) (tC (.int 8)))) (tCons (tOp (rAddA K) (tC (.int 2)) (tOp rModI (tOp rDivI (tVar 0) (tC (.int 4))) (tC (.int 5)))) (tCons (tOp (rAddA K) (tC (.int 1)) (tOp rModI (tOp rDivI (tVar 0) (tC (.int 4))) (tC (.int 15)))) tNil))))) (tOp rModI (tOp rDivI (tVar 0) (tC (.int 3))) (tC (.int 4)))) (gName 1))
    (tSeq (tAsg (tOp (rIx K) (tLst (tCons (tC (T [46, 119])) (tCons (tC (T [46, 119, 114])) (tCons (tC (T [46, 103, 114, 119])) (tCons (tC (T [103, 119])) tNil))))) (tOp rModI (tOp rDivI (tVar 0) (tC (.int 7))) (tC (.int 4)))) (gName 2))
    (tSeq (tAsg (tM1 (rJoin K) (tC (T [])) (tLc (iRng1 (tCons (tVar 1) tNil)) (gName 4) tYes (tOp (rIx K) (tVar 2) (tOp rModI (tCall (sp_Lmixed K a) [] E0 (tCons (tVar 0) (tCons (tOp (rAddA K) (tC (.int 20)) (tVar 4)) tNil))) (tCB (rLenA K) (tCons (tVar 2) tNil)))) [4])) (gName 3))
    (tRet (tSl (rSlA K) (tOp rMulA (tVar 3) (tOp (rIx K) (tLst (tCons (tC (.int 1)) (tCons (tC (.int 1)) (tCons (tC (.int 2)) (tCons (tC (.int 3)) tNil))))) (tOp rModI (tOp rDivI (tVar 0) (tC (.int 11))) (tC (.int 4))))) tNoPart (tPart (tC (.int 30))))))))
theorem read_Lrow {K : Frag} {a : Adr} {vs : List V} {H : Hp} {Q : VK} {E : XK} (h : sp_Lrow K a vs H Q E) : t_Lrow K a { nx := fun _ H' => Q .non H', rt := Q } (start ["", "", "", "", ""] vs) H := by
  obtain ⟨m, rfl, q⟩ := h
  show t_Lrow K a _ [some (.int m), none, none, none, none] H
  unfold t_Lrow
  refine q_asg (v := .int (rowSize m)) (ev_ixM [1 + m % 4, 1 + m / 4 % 8, 2 + m / 4 % 5, 1 + m / 4 % 15] V.int 0 (by walk_at "eva") rfl (by simp) (fun H1 e1 => by walk_at "ev") (by omega) (by show m / 3 % 4 < 4; omega)) fun H1 e1 => ?_
  refine q_asg (v := T (pool m)) (ev_ixM [[46, 119], [46, 119, 114], [46, 103, 114, 119], [103, 119]] T [] (by walk_at "eva") rfl (by simp) (fun H1 e1 => by walk_at "ev") (by omega) (by show m / 7 % 4 < 4; omega)) fun H2 e2 => ?_
  have hs := rowSize_b m
  have hp := pool_len m
  have ht := rowTimes_b m
  refine q_asg (v := T (row0 m)) ?_ fun H3 e3 => ?_
  · have hj : ∀ f : Nat → Nat, ((List.range (rowSize m).toNat).map fun k => [f k]).flatten = (List.range (rowSize m).toNat).map f := fun f => flat_one f _
    refine ev_is (ev_join (zs := (List.range (rowSize m).toNat).map fun (k : Nat) => [(pool m).getD (mixed m (20 + (k : Int)) % ((pool m).length : Int)).toNat 0]) ?_ (by rw [hj, List.length_map, List.length_range]; omega)) (by rw [hj]; rfl)
    rw [List.map_map]
    refine el_mapR (n := (rowSize m).toNat) _ (by rw [Int.toNat_of_nonneg (by omega)]; walk_at "ev") (by omega) (fun _ => rfl) fun i H4 e4 hi => ?_
    have hm := modL (x := mixed m (20 + (i : Int))) (n := (pool m).length) (by omega)
    refine ev_ixS (l := pool m) (by walk_at "ev") (by omega) (ev_op (ev_mixed (c := m) (k := 20 + (i : Int)) (by walk_at "ev")) (ev_lenT (l := pool m) (by walk_at "ev") (by omega)) (rv_modI (by omega))) (by omega) (by omega)
  · refine s_ret (v := T (rowF m)) ?_ fun H4 e4 => q H4 ((e1.trans e2).trans (e3.trans e4))
    unfold rowF
    refine ev_toT (l := repL (row0 m) (rowTimes m)) (k := 30) (ev_op (y := .int (rowTimes m : Int)) (by walk_at "ev") ?_ (rv_mulT (by rw [row0_len]; have := Nat.mul_le_mul (show (rowSize m).toNat ≤ 15 by omega) ht.2; omega) (by omega))) (by walk_at "ev") (by rw [repL_len, row0_len]; have := Nat.mul_le_mul ht.2 (show (rowSize m).toNat ≤ 15 by omega); omega)
    refine ev_is (ev_ixM [1, 1, 2, 3] V.int 0 (by walk_at "eva") rfl (by simp) (fun H1 e1 => by walk_at "ev") (by omega) (by show m / 11 % 4 < 4; omega)) ?_
    unfold rowTimes
    rcases four (i := m / 11 % 4) (by omega) (by omega) with h | h | h | h <;> rw [h] <;> rfl

end Bw
set_option maxRecDepth 100000
set_option maxHeartbeats 600000
/-! Readings: rows. -/
namespace Bw
open PySem PySem.Spec PyProof.Rows L2 Evl
local macro_rules | `(tactic| walk_at "ev") => `(tactic| repeat' (first
  | with_reducible exact ev_c
  | ((with_reducible apply ev_var); rfl)
  | with_reducible exact ea_nil
  | with_reducible apply ea_cons
  | with_reducible apply ev_op
  | with_reducible apply ev_un
  | with_reducible exact rv_addI
  | with_reducible exact rv_subI
  | with_reducible exact ru_negI
  | ((with_reducible apply rv_modI); first | (show (0 : Int) < _; decide) | omega)
  | ((with_reducible apply rv_divI); exact ⟨by decide, by decide⟩)
  | ((with_reducible apply rv_mulI); first | exact Or.inl ⟨by decide, by decide⟩ | exact Or.inr ⟨by decide, by decide⟩ | exact Or.inl ⟨by omega, by omega⟩ | exact Or.inr ⟨by omega, by omega⟩)
  | with_reducible exact rv_eqI
  | with_reducible exact rv_neI
  | with_reducible exact rv_eqT
  | with_reducible exact rv_neT
  | with_reducible exact rv_ltI
  | with_reducible exact rv_leI
  | with_reducible exact rv_gtI
  | with_reducible exact rv_geI
  | with_reducible exact rv_inC
  | with_reducible exact rv_niC
  | with_reducible exact rv_isN
  | with_reducible exact rv_notN
  | with_reducible apply ev_lenT
  | with_reducible apply et_test
  | with_reducible apply et_B
  | with_reducible apply et_not
  | with_reducible exact eo_none
  | with_reducible apply eo_some
  | with_reducible exact et_yes
  | exact ev_c
  | omega
  | (simp only [List.length_take, List.length_drop, List.length_append]; omega)))

local macro_rules | `(tactic| walk_at "evr") => `(tactic| (refine' ev_is ?evh ?eve; (case evh => walk_at "ev"); (case eve => first | rfl | skip)))
local macro_rules | `(tactic| walk_at "eva") => `(tactic| (simp only [List.map_cons, List.map_nil]; walk_at "ev"))
/-! ### the law's root -/
def sp_Lroot (K : Frag) (a : Adr) : Sp := fun vs H Q _ => ∃ r : Tx, vs = [T r] ∧ (1 ≤ r.length ∧ r.length ≤ 100) ∧ RetV (T (root r)) H Q
/-! _law_root(_law_row_here): 0 _law_row_here 1 _law_many 2 _law_wrong 3 _law_k -/
def t_Lroot (K : Frag) (a : Adr) : TS :=
  (tSeq (tFor (iRng2 (tCons (tC (.int 1)) (tCons (tCB (rLenA K) (tCons (tVar 0) tNil)) tNil))) (gName 1) (tSeq (tAsg (tLc (iRng1 (tCons (tCB (rLenA K) (tCons (tVar 0) tNil)) tNil)) (gName 3) (tTest (tOp (rNeA K) (tOp (rIx K) (tVar 0) (tVar 3)) (tOp (rIx K) (tVar 0) (tOp rModI (tVar 3) (tVar 1))))) (tVar 3) [3]) (gName 2))
    (tIfS (tAnd (tTest (tOp (rEqA K) (tVar 2) (tLst tNil))) (tTest (tOp (rEqA K) (tOp rModI (tCB (rLenA K) (tCons (tVar 0) tNil)) (tVar 1)) (tC (.int 0))))) (tRet (tSl (rSlA K) (tVar 0) tNoPart (tPart (tVar 1)))) tNext)))
    (tRet (tVar 0)))
/-- the law's look is the program's -/
theorem lawRoot_iff {r : Tx} {m : Nat} (h1 : 1 ≤ m) (h2 : m ≤ r.length) :
    (decide (((List.range r.length).filter fun k => !decide (r.getD k 0 = r.getD (k % m) 0)) = []) && decide (r.length % m = 0)) = rootAt r m := by
  rw [Bool.eq_iff_iff, rootAt_iff h1 h2, Bool.and_eq_true, decide_eq_true_iff, decide_eq_true_iff, List.filter_eq_nil_iff]
  unfold Per
  constructor
  · rintro ⟨h, hd⟩
    refine ⟨hd, fun k hk => ?_⟩
    have := h k (List.mem_range.mpr hk)
    simp only [Bool.not_eq_true', decide_eq_false_iff_not, Classical.not_not] at this
    have hm := Nat.mod_lt k (show m > 0 by omega)
    rw [List.getD_eq_getElem?_getD, List.getD_eq_getElem?_getD, List.getElem?_eq_getElem hk, List.getElem?_eq_getElem (show k % m < r.length by omega)] at this
    rw [List.getElem?_eq_getElem hk, List.getElem?_eq_getElem (show k % m < r.length by omega)]
    exact congrArg some this
  · rintro ⟨hd, h⟩
    refine ⟨fun k hk => ?_, hd⟩
    have := h k (List.mem_range.mp hk)
    simp only [Bool.not_eq_true', decide_eq_false_iff_not, Classical.not_not]
    rw [List.getD_eq_getElem?_getD, List.getD_eq_getElem?_getD, this]
theorem read_Lroot {K : Frag} {a : Adr} {vs : List V} {H : Hp} {Q : VK} {E : XK} (h : sp_Lroot K a vs H Q E) : t_Lroot K a { nx := fun _ H' => Q .non H', rt := Q } (start ["", "", "", ""] vs) H := by
  obtain ⟨r, rfl, ⟨h1, h2⟩, k⟩ := h
  show t_Lroot K a _ [some (T r), none, none, none] H
  unfold t_Lroot
  refine q_forR2 (lo := 1) (n := (r.length : Int)) (by walk_at "ev") (by omega) (fun i σ' H' => ∃ v w, σ' = [some (T r), v, w, none] ∧ Ex H H' ∧ ∀ m, 1 ≤ m → m < 1 + i → rootAt r m = false) (fun H1 e1 => ⟨none, none, rfl, e1, fun m m1 m2 => by omega⟩) ?_ ?_
  · rintro i σ' H' hi ⟨v, w, rfl, e1, hm⟩
    have hdec : 0 < (1 : Int) + (i : Int) := by omega
    refine q_asgL (xs := ((List.range r.length).filter fun k => !decide (r.getD k 0 = r.getD (k % (1 + i)) 0)).map fun (k : Nat) => V.int (k : Int)) ?_ fun p H1 hp e2 hl => ?_
    · refine el_lcR (n := r.length) _ (fun (k : Nat) => V.int (k : Int)) (by walk_at "ev") (by omega) (fun _ => rfl) (fun k H1 e2 hk => ?_) (fun k H1 e2 hk _ => by walk_at "ev")
      have hmm := Nat.mod_lt k (show 1 + i > 0 by omega)
      have e3 : (k : Int) % ((1 : Int) + (i : Int)) = ((k % (1 + i) : Nat) : Int) := by rw [Int.natCast_emod]; rfl
      refine et_is (et_test (ev_op (ev_ixS (l := r) (i := (k : Int)) (by walk_at "ev") (by omega) (by walk_at "ev") (by omega) (by omega)) (ev_ixS (l := r) (i := ((k % (1 + i) : Nat) : Int)) (by walk_at "ev") (by omega) (ev_is (ev_op (x := .int (k : Int)) (y := .int (1 + (i : Int))) (by walk_at "ev") (by walk_at "ev") (rv_modI hdec)) (by rw [e3])) (by omega) (by omega)) rv_neT)) ?_
      have e4 : ((k : Int) % (1 + (i : Int))).toNat = k % (1 + i) := by rw [e3]; exact Int.toNat_natCast _
      simp only [Int.toNat_natCast, e4, List.cons.injEq, and_true]
    · refine s_when (b := rootAt r (1 + i)) ?_ ?_ ?_
      · rw [← lawRoot_iff (by omega) (by omega)]
        refine et_and ?_ fun hd => ?_
        · refine et_test (ev_eqL (ι := fun k : Nat => V.int (k : Int)) good_N (fun H a => dp_N a) (p := p) (by walk_at "ev") (sq_of hl) (ys := []) (el_lst (vs := []) (by walk_at "ev") (by simp)) (fun _ _ => trivial) (fun _ _ => trivial))
        · refine et_is (a := decide ((r.length : Int) % (1 + (i : Int)) = 0)) ?_ rootAt_int
          walk_at "ev"
      · intro hb H2 e3
        refine s_ret (ev_toT (k := 1 + i) (ev_var rfl) (ev_var rfl) (by omega)) fun H3 e4 => ?_
        rw [root_hit (r := r) (m := 1 + i) (by omega) (by omega) hb hm] at k
        exact k H3 ((e1.trans e2).trans (e3.trans e4))
      · intro hb H2 e3
        refine ⟨_, _, rfl, (e1.trans e2).trans e3, fun m m1 m2 => ?_⟩
        by_cases hh : m = 1 + i
        · rw [hh]; exact hb
        · exact hm m m1 (by omega)
  · rintro σ' H' ⟨v, w, rfl, e1, hm⟩
    refine s_ret (ev_var rfl) fun H2 e3 => ?_
    rw [root_miss fun m m1 m2 => hm m m1 (by omega)] at k
    exact k H2 (e1.trans e3)
/-- calls -/
theorem ev_root {K : Frag} {a : Adr} {σ : L2.St} {H : Hp} {ta : TA} {r : Tx} (h : EvA ta σ H [T r]) (hr : 1 ≤ r.length ∧ r.length ≤ 100) : Ev (tCall (sp_root K a) [] E0 ta) σ H (T (root r)) := ev_call h fun H2 e2 Q q E => ⟨r, rfl, hr, q⟩
theorem ev_Lroot {K : Frag} {a : Adr} {σ : L2.St} {H : Hp} {ta : TA} {r : Tx} (h : EvA ta σ H [T r]) (hr : 1 ≤ r.length ∧ r.length ≤ 100) : Ev (tCall (sp_Lroot K a) [] E0 ta) σ H (T (root r)) := ev_call h fun H2 e2 Q q E => ⟨r, rfl, hr, q⟩
theorem ev_least {K : Frag} {a : Adr} {σ : L2.St} {H : Hp} {ta : TA} {r : Tx} (h : EvA ta σ H [T r]) (hr : 1 ≤ r.length ∧ r.length ≤ 100) : Ev (tCall (sp_least_turn K a) [] E0 ta) σ H (T (leastTurn r)) := ev_call h fun H2 e2 Q q E => ⟨r, rfl, hr, q⟩
theorem ev_Lrow {K : Frag} {a : Adr} {σ : L2.St} {H : Hp} {ta : TA} {m : Int} (h : EvA ta σ H [.int m]) : Ev (tCall (sp_Lrow K a) [] E0 ta) σ H (T (rowF m)) := ev_call h fun H2 e2 Q q E => ⟨m, rfl, q⟩
end Bw
set_option maxRecDepth 100000
set_option maxHeartbeats 4000000
/-! Loops over enumerate, zip, dicts; isinstance. -/
namespace Bw
open PySem PySem.Spec PyProof.Rows L2 Evl
section
variable {K : Frag} {σ : L2.St} {H H' : Hp} {ta tb tc te tx tl : TE} {t u : TT} {x y z v : V} {r r' : R2} {D : Ends} {tu tw tz : TS} {g : TG}
/-- for i, x in enumerate(a new list) -/
theorem q_forEN {α : Type} {j1 j2 : Nat} (xs : List α) (ι : α → V) (h : EvL tl σ H (xs.map ι)) (Pv : Addr → Nat → L2.St → Hp → Prop) (h0 : ∀ p H1, H p = none → Ex H H1 → H1 p = some (.lst (xs.map ι)) → Pv p 0 σ H1)
    (hG : ∀ p i σ' H', Pv p i σ' H' → SqL K H' p (xs.map ι))
    (hs : ∀ p i x σ' H' H'', xs[i]? = some x → Pv p i σ' H' → Ex H' H'' → tu { D with nx := Pv p (i + 1), ct := Pv p (i + 1), bk := tz D } ((σ'.set j1 (some (.int (i : Int)))).set j2 (some (ι x))) H'')
    (hd : ∀ p σ' H', Pv p xs.length σ' H' → tz D σ' H') : tSeq (tFor (iEnum K (tCons tl tNil)) (gTup K 2 (gCons (gName j1) (gCons (gName j2) gNil))) tu) tz D σ H :=
  h H (Ex.refl H) _ fun p H1 hp e h1 => ⟨p, xs.map ι, rfl, sq_of h1, by
    have w : Walk (Ite K p) xs.length (fun H => SqL K H p (xs.map ι)) (YPair (fun i => some (.int (i : Nat))) (fun i => (xs.map ι)[i]?)) := by
      have := walk_enum (K := K) (a := p) (xs := xs.map ι)
      rwa [List.length_map] at this
    refine for_it w (Pv p) (h0 p H1 hp e h1) (fun i σ' H' _ q => hG p i σ' H' q) ?_ (fun σ' H' q => hd p σ' H' q)
    rintro i v σ' H' H'' hi pv ⟨T', a, b, rfl, hT, rfl, ha, hb⟩
    cases ha
    obtain ⟨c, hc⟩ : ∃ c, xs[i]? = some c := ⟨xs[i], List.getElem?_eq_getElem hi⟩
    have hb : (xs.map ι)[i]? = some b := hb
    rw [List.getElem?_map, hc] at hb
    cases hb
    exact ⟨T', _, rfl, st_of upd_same, rfl, ⟨_, _, rfl, _, _, rfl, rfl, hs p i c σ' H' _ hc pv (Ex.new hT)⟩⟩⟩
/-- isinstance(text, str) -/
theorem ev_isiT {l : List Nat} (h : Ev ta σ H (T l)) : Ev (tCB (rIsiA K) (tCons ta (tCons (tC (.ty "str")) tNil))) σ H (.bl true) := fun H1 e Q q => h H1 e _ fun H2 e2 => ⟨T l, .ty "str", .type "str", .type "str", true, rfl, .ty _, .base (.str _), kit_ty (by decide +kernel), q H2 e2⟩
theorem ev_isi {n : String} {x : V} {t0 : Value} {b : Bool} (h : Ev ta σ H x) (ht : ∀ H1, Ex H H1 → TyX K H1 x t0) (hk : PySem.W.kitOne K t0 (.type n) = some b) : Ev (tCB (rIsiA K) (tCons ta (tCons (tC (.ty n)) tNil))) σ H (.bl b) := fun H1 e Q q => h H1 e _ fun H2 e2 => ⟨x, .ty n, t0, .type n, b, rfl, .ty _, ht H2 (e.trans e2), hk, q H2 e2⟩
/-- the law's own promise -/
def sp_law (K : Frag) (a : Adr) : Sp := fun vs H Q _ => ∃ (p : Addr) (ns : List Int), vs = [.ref p] ∧ SqL K H p (ns.map V.int) ∧ ns.length ≤ 63 ∧ ∀ H', Q (.bl true) H'
/-- script[:k] -/
theorem el_script {p : Addr} {ns : List Int} {k : Nat} (h : Ev te σ H (.ref p)) (hs : SqL K H p (ns.map V.int)) (hk : Ev tb σ H (.int (k : Int))) : EvL (tSl (rSlA K) te tNoPart (tPart tb)) σ H ((ns.take k).map V.int) := fun H1 e _ q =>
  h H1 e _ fun H2 e2 => hk H2 (e.trans e2) _ fun H3 e3 => ⟨(k : Int), rfl, .inl ⟨p, _, rfl, ex_l ((e.trans e2).trans e3) hs, fun d hd => q d _ (fresh_back (e2.trans e3) hd) ((e2.trans e3).trans (Ex.new hd)) (by
    rw [upd_same]
    congr 2
    unfold cutV
    rw [HT.sIx_none, HT.sIx_nat, List.drop_zero, Nat.sub_zero, List.length_map, List.map_take]
    rcases Nat.le_total k ns.length with h | h
    · rw [Nat.min_eq_left h]
    · rw [Nat.min_eq_right h, List.take_of_length_le (by rw [List.length_map]; exact Nat.le_refl _), List.take_of_length_le (by rw [List.length_map]; exact h)])⟩⟩
end
/-! ### a def of the text, and its promise -/
structure DefAt (K : Frag) (mg : Str → Option Value) (x : Str) (st : Stmt) (ps : List Str) : Prop where
  ex : ∃ (f : Addr) (fd : FuncData), Fun K x x st f fd ∧ mg x = some (.ref f) ∧ Binds K fd ps []
section
variable {P : Program} {w : World} {K : Frag} {mg : Str → Option Value} {base : Heap}
theorem DefAt.cal {x : Str} {st : Stmt} {ps N : List Str} {k : Nat} {sp : Sp} (F : DefAt K mg x st ps) (Sc : FnScope N ps (defScope st)) (len : ∀ vs H Q E, sp vs H Q E → vs.length = ps.length)
    (hbody : ∀ (f : Addr) (cdv : Value) (A : Around) (outer : List Env) (s : Shared) (H : Hp) (vs : List V) (Q : VK) (E : XK), Room k (A.deeper (envOfC x (defScope st) s.heap.objs.size f cdv)) → sp vs H Q E →
      ∃ t, PSs (cxOf CX0 P w K mg base N x (defScope st) f cdv A outer s H E).nox (defBody st) t ∧ t { nx := fun _ H' => Q .non H', rt := Q } (start N vs) H) : Cal P w K mg base (k + 1) x sp := by
  obtain ⟨f, fd, F1, hm, hb⟩ := F.ex
  exact ⟨f, fd, ps, F1.ok Sc len (hbody f), hm, F1.kp, hb⟩
theorem hu_room {A : Around} {k : Nat} (hr : Room k A) : A.units + 64 < cLine := by have := hr.un; omega
end
end Bw
set_option maxRecDepth 100000
set_option maxHeartbeats 1000000
/-! Readings: what is a row, a sight, a name. -/
namespace Bw
open PySem PySem.Spec PyProof.Rows L2 Evl
local macro_rules | `(tactic| walk_at "ev") => `(tactic| repeat' (first
  | with_reducible exact ev_c
  | ((with_reducible apply ev_var); rfl)
  | with_reducible exact ea_nil
  | with_reducible apply ea_cons
  | with_reducible apply ev_op
  | with_reducible apply ev_un
  | with_reducible exact rv_addI
  | with_reducible exact rv_subI
  | with_reducible exact ru_negI
  | ((with_reducible apply rv_modI); first | (show (0 : Int) < _; decide) | omega)
  | ((with_reducible apply rv_divI); exact ⟨by decide, by decide⟩)
  | ((with_reducible apply rv_mulI); first | exact Or.inl ⟨by decide, by decide⟩ | exact Or.inr ⟨by decide, by decide⟩ | exact Or.inl ⟨by omega, by omega⟩ | exact Or.inr ⟨by omega, by omega⟩)
  | with_reducible exact rv_eqI
  | with_reducible exact rv_neI
  | with_reducible exact rv_eqT
  | with_reducible exact rv_neT
  | with_reducible exact rv_ltI
  | with_reducible exact rv_leI
  | with_reducible exact rv_gtI
  | with_reducible exact rv_geI
  | with_reducible exact rv_inC
  | with_reducible exact rv_niC
  | with_reducible exact rv_isN
  | with_reducible exact rv_notN
  | with_reducible apply ev_lenT
  | with_reducible apply et_test
  | with_reducible apply et_B
  | with_reducible apply et_not
  | with_reducible exact eo_none
  | with_reducible apply eo_some
  | with_reducible exact et_yes
  | exact ev_c
  | omega
  | (simp only [List.length_take, List.length_drop, List.length_append]; omega)))

local macro_rules | `(tactic| walk_at "evr") => `(tactic| (refine' ev_is ?evh ?eve; (case evh => walk_at "ev"); (case eve => first | rfl | skip)))
local macro_rules | `(tactic| walk_at "eva") => `(tactic| (simp only [List.map_cons, List.map_nil]; walk_at "ev"))
def LETTERS : Tx := [97, 98, 99, 100, 101, 102, 103, 104, 105, 106, 107, 108, 109, 110, 111, 112, 113, 114, 115, 116, 117, 118, 119, 120, 121, 122]
def SEEN : Tx := [46, 103, 114, 119, 63]
/-- so many signs, each one of these -/
def ofSigns (signs : Tx) (lo hi : Nat) (l : Tx) : Bool := (decide (lo ≤ l.length) && decide (l.length ≤ hi)) && l.all fun c => decide (c ∈ signs)
def isName (l : Tx) : Bool := ofSigns LETTERS 1 8 l
def isRow (l : Tx) : Bool := ofSigns COLS 1 30 l
def isSight (l : Tx) : Bool := ofSigns SEEN 0 100 l
/-- a thing that is no text -/
def NotTxt (H : Hp) (x : V) : Prop := x = .non ∨ (∃ b, x = .bl b) ∨ (∃ i, x = .int i) ∨ (∃ p xs, x = .ref p ∧ H p = some (.lst xs)) ∨ (∃ p xs, x = .ref p ∧ H p = some (.tup xs)) ∨ ∃ p kvs, x = .ref p ∧ H p = some (.dK kvs)
theorem NotTxt.ex {H H' : Hp} {x : V} (e : Ex H H') (h : NotTxt H x) : NotTxt H' x := by
  rcases h with h | h | h | ⟨p, xs, h1, h2⟩ | ⟨p, xs, h1, h2⟩ | ⟨p, kvs, h1, h2⟩
  · exact .inl h
  · exact .inr (.inl h)
  · exact .inr (.inr (.inl h))
  · exact .inr (.inr (.inr (.inl ⟨p, xs, h1, e _ _ h2⟩)))
  · exact .inr (.inr (.inr (.inr (.inl ⟨p, xs, h1, e _ _ h2⟩))))
  · exact .inr (.inr (.inr (.inr (.inr ⟨p, kvs, h1, e _ _ h2⟩))))
theorem ev_isiN {K : Frag} {σ : L2.St} {H : Hp} {ta : TE} {x : V} (h : Ev ta σ H x) (n : NotTxt H x) : Ev (tCB (rIsiA K) (tCons ta (tCons (tC (.ty "str")) tNil))) σ H (.bl false) := by
  rcases n with rfl | ⟨b, rfl⟩ | ⟨i, rfl⟩ | ⟨p, xs, rfl, h2⟩ | ⟨p, xs, rfl, h2⟩ | ⟨p, kvs, rfl, h2⟩
  · exact ev_isi h (fun _ _ => .base .non) (kit_ty (by decide +kernel))
  · exact ev_isi h (fun _ _ => .base (.bl b)) (kit_ty (by decide +kernel))
  · exact ev_isi h (fun _ _ => .base (.int i)) (kit_ty (by decide +kernel))
  · exact ev_isi h (fun _ e => .base (.lst (e _ _ h2))) (kit_ty (by decide +kernel))
  · exact ev_isi h (fun _ e => .base (.tup (e _ _ h2))) (kit_ty (by decide +kernel))
  · exact ev_isi h (fun _ e => .base (.dK (e _ _ h2))) (kit_ty (by decide +kernel))
/-- the promise: of a text as p says, of another thing False -/
def spIs (f : Tx → Bool) : Sp := fun vs H Q _ => ∃ x, vs = [x] ∧ ((∃ l : Tx, x = T l ∧ l.length ≤ 1000 ∧ RetV (.bl (f l)) H Q) ∨ (NotTxt H x ∧ RetV (.bl false) H Q))
def sp_is_name (K : Frag) (a : Adr) : Sp := spIs isName
def sp_is_row (K : Frag) (a : Adr) : Sp := spIs isRow
def sp_is_sight (K : Frag) (a : Adr) : Sp := spIs isSight
theorem ev_is3 {σ : L2.St} {H : Hp} {f : Tx → Bool} {sp : Sp} (hsp : sp = spIs f) {E : XK} {ta : TA} {l : Tx} (h : EvA ta σ H [T l]) (hl : l.length ≤ 1000) : Ev (tCall sp [] E ta) σ H (.bl (f l)) := by
  subst hsp
  exact ev_call h fun H2 e2 Q q E => ⟨T l, rfl, .inl ⟨l, rfl, hl, q⟩⟩
theorem ev_is4 {σ : L2.St} {H : Hp} {f : Tx → Bool} {sp : Sp} (hsp : sp = spIs f) {E : XK} {ta : TA} {x : V} (h : EvA ta σ H [x]) (n : NotTxt H x) : Ev (tCall sp [] E ta) σ H (.bl false) := by
  subst hsp
  exact ev_call h fun H2 e2 Q q E => ⟨x, rfl, .inr ⟨n.ex e2, q⟩⟩
theorem all_bl (p : Nat → Bool) (l : Tx) : (l.map fun c => V.bl (p c)) = (l.map p).map V.bl := by rw [List.map_map]; rfl
theorem all_id (p : Nat → Bool) (l : Tx) : (l.map p).all id = l.all p := by rw [List.all_map]; rfl
/-! is_name(thing): 0 thing 1 sign -/
def t_is_name (K : Frag) (a : Adr) : TS :=
  (tRet (tAndV (tCB (rIsiA K) (tCons (tVar 0) (tCons (tC (.ty "str")) tNil))) (tAndV (tChain rLeI rLeI (tC (.int 1)) (tCB (rLenA K) (tCons (tVar 0) tNil)) (tC (.int 8))) (tCB (rAll K) (tCons (tLc (iStr (tVar 0)) (gName 1) tYes (tOp (rInA K) (tVar 1) (tC (T [97, 98, 99, 100, 101, 102, 103, 104, 105, 106, 107, 108, 109, 110, 111, 112, 113, 114, 115, 116, 117, 118, 119, 120, 121, 122]))) [1]) tNil)))))
/-! is_row(thing): 0 thing 1 sign -/
def t_is_row (K : Frag) (a : Adr) : TS :=
  (tRet (tAndV (tCB (rIsiA K) (tCons (tVar 0) (tCons (tC (.ty "str")) tNil))) (tAndV (tChain rLeI rLeI (tC (.int 1)) (tCB (rLenA K) (tCons (tVar 0) tNil)) (tC (.int 30))) (tCB (rAll K) (tCons (tLc (iStr (tVar 0)) (gName 1) tYes (tOp (rInA K) (tVar 1) (tC (T [46, 103, 114, 119]))) [1]) tNil)))))
/-! is_sight(thing): 0 thing 1 sign -/
def t_is_sight (K : Frag) (a : Adr) : TS :=
  (tRet (tAndV (tCB (rIsiA K) (tCons (tVar 0) (tCons (tC (.ty "str")) tNil))) (tAndV (tOp rLeI (tCB (rLenA K) (tCons (tVar 0) tNil)) (tC (.int 100))) (tCB (rAll K) (tCons (tLc (iStr (tVar 0)) (gName 1) tYes (tOp (rInA K) (tVar 1) (tOp (rAddA K) (tC (T [46, 103, 114, 119])) (tC (T [63])))) [1]) tNil)))))
theorem read_is_name {K : Frag} {a : Adr} {vs : List V} {H : Hp} {Q : VK} {E : XK} (h : sp_is_name K a vs H Q E) : t_is_name K a { nx := fun _ H' => Q .non H', rt := Q } (start ["", ""] vs) H := by
  obtain ⟨x, rfl, h⟩ := h
  show t_is_name K a _ [some x, none] H
  unfold t_is_name
  rcases h with ⟨l, rfl, hl, k⟩ | ⟨n, k⟩
  · refine s_ret (v := .bl (isName l)) (ev_is (ev_andV (ev_isiT (l := l) (by walk_at "ev")) fun _ => ev_andV (ev_chain (ev_c) (ev_lenT (l := l) (by walk_at "ev") (by omega)) rv_leI fun _ => ⟨ev_c, rv_leI⟩) fun _ => ev_all (bs := l.map fun c => decide (c ∈ LETTERS)) ?_) ?_) fun H1 e => k H1 e
    · rw [← all_bl]
      exact el_mapS _ (by walk_at "ev") (by omega) (fun _ => rfl) fun c H1 e hc => ev_op (x := T [c]) (by walk_at "ev") ev_c rv_inC
    · unfold isName ofSigns
      rw [all_id, Bool.true_and]
      congr 3 <;> (apply decide_eq_decide.mpr; omega)
  · exact s_ret (ev_is (ev_andV (b := true) (ev_isiN (x := x) (by walk_at "ev") n) fun h => nomatch h) rfl) fun H1 e => k H1 e
theorem read_is_row {K : Frag} {a : Adr} {vs : List V} {H : Hp} {Q : VK} {E : XK} (h : sp_is_row K a vs H Q E) : t_is_row K a { nx := fun _ H' => Q .non H', rt := Q } (start ["", ""] vs) H := by
  obtain ⟨x, rfl, h⟩ := h
  show t_is_row K a _ [some x, none] H
  unfold t_is_row
  rcases h with ⟨l, rfl, hl, k⟩ | ⟨n, k⟩
  · refine s_ret (v := .bl (isRow l)) (ev_is (ev_andV (ev_isiT (l := l) (by walk_at "ev")) fun _ => ev_andV (ev_chain (ev_c) (ev_lenT (l := l) (by walk_at "ev") (by omega)) rv_leI fun _ => ⟨ev_c, rv_leI⟩) fun _ => ev_all (bs := l.map fun c => decide (c ∈ COLS)) ?_) ?_) fun H1 e => k H1 e
    · rw [← all_bl]
      exact el_mapS _ (by walk_at "ev") (by omega) (fun _ => rfl) fun c H1 e hc => ev_op (x := T [c]) (by walk_at "ev") ev_c rv_inC
    · unfold isRow ofSigns
      rw [all_id, Bool.true_and]
      congr 3 <;> (apply decide_eq_decide.mpr; omega)
  · exact s_ret (ev_is (ev_andV (b := true) (ev_isiN (x := x) (by walk_at "ev") n) fun h => nomatch h) rfl) fun H1 e => k H1 e
theorem read_is_sight {K : Frag} {a : Adr} {vs : List V} {H : Hp} {Q : VK} {E : XK} (h : sp_is_sight K a vs H Q E) : t_is_sight K a { nx := fun _ H' => Q .non H', rt := Q } (start ["", ""] vs) H := by
  obtain ⟨x, rfl, h⟩ := h
  show t_is_sight K a _ [some x, none] H
  unfold t_is_sight
  rcases h with ⟨l, rfl, hl, k⟩ | ⟨n, k⟩
  · refine s_ret (v := .bl (isSight l)) (ev_is (ev_andV (ev_isiT (l := l) (by walk_at "ev")) fun _ => ev_andV (ev_op (ev_lenT (l := l) (by walk_at "ev") (by omega)) ev_c rv_leI) fun _ => ev_all (bs := l.map fun c => decide (c ∈ SEEN)) ?_) ?_) fun H1 e => k H1 e
    · rw [← all_bl]
      exact el_mapS _ (by walk_at "ev") (by omega) (fun _ => rfl) fun c H1 e hc => ev_op (x := T [c]) (by walk_at "ev") (ev_op ev_c ev_c (rv_addT (a := [46, 103, 114, 119]) (b := [63]) (by decide))) rv_inC
    · unfold isSight ofSigns
      rw [all_id, Bool.true_and, decide_eq_true (Nat.zero_le _), Bool.true_and]
      congr 2; apply decide_eq_decide.mpr; omega
  · exact s_ret (ev_is (ev_andV (b := true) (ev_isiN (x := x) (by walk_at "ev") n) fun h => nomatch h) rfl) fun H1 e => k H1 e
end Bw
set_option maxRecDepth 100000
set_option maxHeartbeats 1000000
/-! Law k01: its own readings. -/
namespace Bw
open PySem PySem.Spec PyProof.Rows L2 Evl
local macro_rules | `(tactic| walk_at "ev") => `(tactic| repeat' (first
  | with_reducible exact ev_c
  | ((with_reducible apply ev_var); rfl)
  | with_reducible exact ea_nil
  | with_reducible apply ea_cons
  | with_reducible apply ev_op
  | with_reducible apply ev_un
  | with_reducible exact rv_addI
  | with_reducible exact rv_subI
  | with_reducible exact ru_negI
  | ((with_reducible apply rv_modI); first | (show (0 : Int) < _; decide) | omega)
  | ((with_reducible apply rv_divI); exact ⟨by decide, by decide⟩)
  | ((with_reducible apply rv_mulI); first | exact Or.inl ⟨by decide, by decide⟩ | exact Or.inr ⟨by decide, by decide⟩ | exact Or.inl ⟨by omega, by omega⟩ | exact Or.inr ⟨by omega, by omega⟩)
  | with_reducible exact rv_eqI
  | with_reducible exact rv_neI
  | with_reducible exact rv_eqT
  | with_reducible exact rv_neT
  | with_reducible exact rv_ltI
  | with_reducible exact rv_leI
  | with_reducible exact rv_gtI
  | with_reducible exact rv_geI
  | with_reducible exact rv_inC
  | with_reducible exact rv_niC
  | with_reducible exact rv_isN
  | with_reducible exact rv_notN
  | with_reducible apply ev_lenT
  | with_reducible apply et_test
  | with_reducible apply et_B
  | with_reducible apply et_not
  | with_reducible exact eo_none
  | with_reducible apply eo_some
  | with_reducible exact et_yes
  | exact ev_c
  | omega
  | (simp only [List.length_take, List.length_drop, List.length_append]; omega)))

local macro_rules | `(tactic| walk_at "evr") => `(tactic| (refine' ev_is ?evh ?eve; (case evh => walk_at "ev"); (case eve => first | rfl | skip)))
local macro_rules | `(tactic| walk_at "eva") => `(tactic| (simp only [List.map_cons, List.map_nil]; walk_at "ev"))
/-- what evaluates to some value of which P holds, leaving what is known -/
def EvW (te : TE) (σ : L2.St) (H : Hp) (P : Hp → V → Prop) : Prop := ∀ H1, Ex H H1 → ∀ Q : VK, (∀ x H2, Ex H1 H2 → P H2 x → Q x H2) → te σ H1 Q
/-- all items of which P holds, so many -/
def EvB (ta : TA) (σ : L2.St) (H : Hp) (n : Nat) (P : Hp → V → Prop) : Prop := ∀ H1, Ex H H1 → ∀ Q : List V → Hp → Prop, (∀ xs H2, Ex H1 H2 → xs.length = n → (∀ x ∈ xs, P H2 x) → Q xs H2) → ta σ H1 Q
theorem eb_nil {σ : L2.St} {H : Hp} {P : Hp → V → Prop} : EvB tNil σ H 0 P := fun H1 e Q q => q [] H1 (Ex.refl _) rfl fun x hx => by simp at hx
theorem eb_cons {σ : L2.St} {H : Hp} {P : Hp → V → Prop} {n : Nat} {te : TE} {ta : TA} (mono : ∀ H H' x, Ex H H' → P H x → P H' x) (h : EvW te σ H P) (k : EvB ta σ H n P) : EvB (tCons te ta) σ H (n + 1) P := fun H1 e Q q =>
  h H1 e _ fun x H2 e2 px => k H2 (e.trans e2) _ fun xs H3 e3 hl hp => q (x :: xs) H3 (e2.trans e3) (by simp [hl]) fun y hy => by
    rcases List.mem_cons.mp hy with r | r
    · rw [r]; exact mono _ _ _ e3 px
    · exact hp y r
def NT : Hp → V → Prop := fun H x => NotTxt H x
theorem NT.mono (H H' : Hp) (x : V) (e : Ex H H') (h : NT H x) : NT H' x := NotTxt.ex e h
section
variable {σ : L2.St} {H : Hp}
theorem ew_non : EvW (tC .non) σ H NT := fun H1 e Q q => q _ H1 (Ex.refl _) (.inl rfl)
theorem ew_bl {b : Bool} : EvW (tC (.bl b)) σ H NT := fun H1 e Q q => q _ H1 (Ex.refl _) (.inr (.inl ⟨b, rfl⟩))
theorem ew_int {i : Int} : EvW (tC (.int i)) σ H NT := fun H1 e Q q => q _ H1 (Ex.refl _) (.inr (.inr (.inl ⟨i, rfl⟩)))
theorem ew_lst {ta : TA} {vs : List V} (h : EvA ta σ H vs) (hz : vs.length ≤ 100000) : EvW (tLst ta) σ H NT := fun H1 e Q q => el_lst h hz H1 e Q fun p H2 _ e2 h2 => q _ H2 e2 (.inr (.inr (.inr (.inl ⟨p, _, rfl, h2⟩))))
theorem ew_tup {ta : TA} {vs : List V} (h : EvA ta σ H vs) (hz : vs.length ≤ 100000) : EvW (tTup ta) σ H NT := fun H1 e Q q => eu_tup h hz H1 e Q fun p H2 _ e2 h2 => q _ H2 e2 (.inr (.inr (.inr (.inr (.inl ⟨p, _, rfl, h2⟩)))))
theorem ew_dnew : EvW tDNewK σ H NT := fun H1 e Q q => fun p hp => q _ _ (Ex.new hp) (.inr (.inr (.inr (.inr (.inr ⟨p, _, rfl, upd_same⟩)))))
theorem ew_disp1 {l : Tx} {i : Int} : EvW (tDisp (((tC (T l)), (tC (.int i))) :: [])) σ H NT := fun H1 e Q q => fun p hp => by
  show _ ∧ _
  refine ⟨upd_same, [(Sum.inr (S l), .int i)], rfl, by simp, ?_⟩
  rw [upd_upd]
  exact q _ _ (Ex.new hp) (.inr (.inr (.inr (.inr (.inr ⟨p, _, rfl, upd_same⟩)))))
end
theorem ew_ix {K : Frag} {σ : L2.St} {H : Hp} {P : Hp → V → Prop} {n : Nat} {ta : TA} {tb : TE} {i : Int} (mono : ∀ H H' x, Ex H H' → P H x → P H' x) (h : EvB ta σ H n P) (hi : ∀ H1, Ex H H1 → Ev tb σ H1 (.int i)) (h0 : 0 ≤ i) (h1 : i < n) (hz : n ≤ 100000) : EvW (tOp (rIx K) (tLst ta) tb) σ H P := fun H1 e Q q =>
  h H1 e _ fun xs H2 e2 hl hp => ⟨sz_of (by omega), fun p hpn => hi _ ((e.trans e2).trans (Ex.new hpn)) _ (Ex.refl _) _ fun H4 e4 => .inl ⟨p, xs, i, xs.getD i.toNat .non, rfl, rfl, sq_of (e4 _ _ upd_same), atI_of _ h0 (by omega),
    q _ H4 (e2.trans ((Ex.new hpn).trans e4)) (mono _ _ _ ((Ex.new hpn).trans e4) (hp _ (getD_mem _ (by omega))))⟩⟩
theorem ew_call {σ : L2.St} {H : Hp} {P : Hp → V → Prop} {sp : Sp} {E : XK} {ta : TA} {vs : List V} (h : EvA ta σ H vs) (k : ∀ H1, Ex H H1 → ∀ Q : VK, (∀ x H2, Ex H1 H2 → P H2 x → Q x H2) → sp vs H1 Q E) : EvW (tCall sp [] E ta) σ H P := fun H1 e Q q => h H1 e _ fun H2 e2 => by
  rw [List.append_nil]
  exact k H2 (e.trans e2) Q fun x H3 e3 => q x H3 (e2.trans e3)
theorem q_asgW {σ : L2.St} {H : Hp} {P : Hp → V → Prop} {te : TE} {i : Nat} {tz : TS} {D : Ends} (h : EvW te σ H P) (k : ∀ x H1, Ex H H1 → P H1 x → tz D (σ.set i (some x)) H1) : tSeq (tAsg te (gName i)) tz D σ H := h H (Ex.refl H) _ k
theorem s_retW {σ : L2.St} {H : Hp} {P : Hp → V → Prop} {te : TE} {D : Ends} (h : EvW te σ H P) (k : ∀ x H1, Ex H H1 → P H1 x → D.rt x H1) : tRet te D σ H := h H (Ex.refl H) _ k
/-- one of the law's things -/
def Thing : Hp → V → Prop := fun H x => (∃ l : Tx, x = T l ∧ l.length ≤ 1000 ∧ OkT l) ∨ NotTxt H x
def sp_Lthing_k01 (K : Frag) (a : Adr) : Sp := fun vs H Q _ => ∃ c : Int, vs = [.int c] ∧ ∀ x H2, Ex H H2 → Thing H2 x → Q x H2
/-! _law_thing(_law_cell): 0 _law_cell 1 _law_mix 2 _law_pool 3 _law_size 4 _law_word 5 _law_spot 6 _law_k -/
def t_Lthing_k01 (K : Frag) (a : Adr) : TS :=
  (tSeq (tAsg (tCall (sp_Lmixed K a) [] E0 (tCons (tVar 0) (tCons (tC (.int 1)) tNil))) (gName 1))
    (tSeq (tIfS (tTest (tOp (rEqA K) (tOp rModI (tVar 1) (tC (.int 6))) (tC (.int 0)))) (tRet (tOp (rIx K) (tLst (tCons (tC .non) (tCons (tC (.bl true)) (tCons (tC (.int 0)) (tCons (tLst (tCons (tC (T [119])) tNil)) (tCons (tTup (tCons (tC (T [119])) tNil)) (tCons tDNewK (tCons (tTup tNil) (tCons (tC (.int 5)) (tCons (tLst tNil) (tCons (tDisp (((tC (T [119])), (tC (.int 1))) :: [])) tNil))))))))))) (tOp rModI (tOp rDivI (tVar 1) (tC (.int 6))) (tC (.int 10))))) tNext)
    (tSeq (tAsg (tOp (rIx K) (tLst (tCons (tC (T [46, 119])) (tCons (tC (T [46, 103, 114, 119])) (tCons (tC (T [46, 103, 114, 119, 63])) (tCons (tC (T [97, 98, 99, 119])) (tCons (tC (T [103, 114])) (tCons (tC (T [97, 98, 99, 100, 101, 102, 103, 104, 105, 106, 107, 108, 109, 110, 111, 112, 113, 114, 115, 116, 117, 118, 119, 120, 121, 122])) tNil))))))) (tOp rModI (tOp rDivI (tVar 1) (tC (.int 6))) (tC (.int 6)))) (gName 2))
    (tSeq (tAsg (tOp (rIx K) (tLst (tCons (tOp rModI (tOp rDivI (tVar 1) (tC (.int 36))) (tC (.int 33))) (tCons (tC (.int 30)) (tCons (tC (.int 31)) (tCons (tC (.int 8)) (tCons (tC (.int 9)) (tCons (tC (.int 100)) (tCons (tC (.int 101)) (tCons (tOp rModI (tOp rDivI (tVar 1) (tC (.int 36))) (tC (.int 10))) tNil))))))))) (tOp rModI (tOp rDivI (tVar 1) (tC (.int 7))) (tC (.int 8)))) (gName 3))
    (tSeq (tAsg (tM1 (rJoin K) (tC (T [])) (tLc (iRng1 (tCons (tVar 3) tNil)) (gName 6) tYes (tOp (rIx K) (tVar 2) (tOp rModI (tCall (sp_Lmixed K a) [] E0 (tCons (tVar 0) (tCons (tOp (rAddA K) (tC (.int 10)) (tVar 6)) tNil))) (tCB (rLenA K) (tCons (tVar 2) tNil)))) [6])) (gName 4))
    (tSeq (tAsg (tOp rModI (tOp rDivI (tVar 1) (tC (.int 11))) (tOp (rAddA K) (tCB (rLenA K) (tCons (tVar 4) tNil)) (tC (.int 1)))) (gName 5))
    (tSeq (tIfS (tTest (tOp (rEqA K) (tOp rModI (tOp rDivI (tVar 1) (tC (.int 13))) (tC (.int 4))) (tC (.int 0)))) (tRet (tOp (rAddA K) (tOp (rAddA K) (tSl (rSlA K) (tVar 4) tNoPart (tPart (tVar 5))) (tOp (rIx K) (tC (T [87, 63, 49, 32, 45, 10])) (tOp rModI (tOp rDivI (tVar 1) (tC (.int 17))) (tC (.int 6))))) (tSl (rSlA K) (tVar 4) (tPart (tVar 5)) tNoPart))) tNext)
    (tRet (tVar 4)))))))))
def POOLS : List Tx := [[46, 119], [46, 103, 114, 119], [46, 103, 114, 119, 63], [97, 98, 99, 119], [103, 114], LETTERS]
theorem read_Lthing_k01 {K : Frag} {a : Adr} {vs : List V} {H : Hp} {Q : VK} {E : XK} (h : sp_Lthing_k01 K a vs H Q E) : t_Lthing_k01 K a { nx := fun _ H' => Q .non H', rt := Q } (start ["", "", "", "", "", "", ""] vs) H := by
  obtain ⟨c, rfl, k⟩ := h
  show t_Lthing_k01 K a _ [some (.int c), none, none, none, none, none, none] H
  unfold t_Lthing_k01
  refine q_asg (v := .int (mixed c 1)) (ev_mixed (by walk_at "ev")) fun H1 e1 => ?_
  generalize mixed c 1 = m
  refine q_when (b := decide (m % 6 = 0)) (by walk_at "ev") (fun h0 H2 e2 => ?_) fun _ H2 e2 => ?_
  · -- a thing that is no text
    have hm := modL (x := m / 6) (n := 10) (by decide)
    refine s_retW (P := NT) (ew_ix (n := 10) (i := m / 6 % 10) NT.mono ?_ (fun H3 e3 => by walk_at "ev") (by omega) (by omega) (by decide)) fun x H3 e3 hx => k _ H3 ((e1.trans e2).trans e3) (.inr hx)
    exact eb_cons NT.mono ew_non (eb_cons NT.mono ew_bl (eb_cons NT.mono ew_int (eb_cons NT.mono (ew_lst (vs := [T [119]]) (by walk_at "ev") (by decide)) (eb_cons NT.mono (ew_tup (vs := [T [119]]) (by walk_at "ev") (by decide))
      (eb_cons NT.mono ew_dnew (eb_cons NT.mono (ew_tup (vs := []) (by walk_at "ev") (by decide)) (eb_cons NT.mono ew_int (eb_cons NT.mono (ew_lst (vs := []) (by walk_at "ev") (by decide)) (eb_cons NT.mono ew_disp1 eb_nil)))))))))
  · refine q_asg (v := T (POOLS.getD (m / 6 % 6).toNat [])) (ev_ixM POOLS T [] (by unfold POOLS LETTERS; walk_at "eva") rfl (by decide) (fun H1 e1 => by walk_at "ev") (by omega) (by show m / 6 % 6 < 6; omega)) fun H3 e3 => ?_
    have hpl : 2 ≤ (POOLS.getD (m / 6 % 6).toNat []).length ∧ (POOLS.getD (m / 6 % 6).toNat []).length ≤ 26 := by
      have : ∀ p ∈ POOLS, 2 ≤ p.length ∧ p.length ≤ 26 := by decide
      exact this _ (getD_mem _ (by show _ < 6; omega))
    have hpok : OkT (POOLS.getD (m / 6 % 6).toNat []) := by
      have : ∀ p ∈ POOLS, ∀ c ∈ p, c < 1114112 := by decide
      exact this _ (getD_mem _ (by show _ < 6; omega))
    generalize POOLS.getD (m / 6 % 6).toNat [] = pl at hpl hpok
    refine q_asg (v := .int ([m / 36 % 33, 30, 31, 8, 9, 100, 101, m / 36 % 10].getD (m / 7 % 8).toNat 0)) (ev_ixM [m / 36 % 33, 30, 31, 8, 9, 100, 101, m / 36 % 10] V.int 0 (by walk_at "eva") rfl (by simp) (fun H1 e1 => by walk_at "ev") (by omega) (by show m / 7 % 8 < 8; omega)) fun H4 e4 => ?_
    have hs : 0 ≤ [m / 36 % 33, 30, 31, 8, 9, 100, 101, m / 36 % 10].getD (m / 7 % 8).toNat 0 ∧ [m / 36 % 33, 30, 31, 8, 9, 100, 101, m / 36 % 10].getD (m / 7 % 8).toNat 0 ≤ 101 := by
      have : ∀ z ∈ [m / 36 % 33, 30, 31, 8, 9, 100, 101, m / 36 % 10], 0 ≤ z ∧ z ≤ 101 := by
        intro z hz
        simp at hz
        omega
      exact this _ (getD_mem _ (by show _ < 8; omega))
    generalize [m / 36 % 33, 30, 31, 8, 9, 100, 101, m / 36 % 10].getD (m / 7 % 8).toNat 0 = sz at hs
    obtain ⟨n, hn⟩ : ∃ n : Nat, sz = (n : Int) := ⟨sz.toNat, by omega⟩
    subst hn
    have hj : ∀ f : Nat → Nat, ((List.range n).map fun k => [f k]).flatten = (List.range n).map f := fun f => flat_one f _
    refine q_asg (v := T ((List.range n).map fun (k : Nat) => pl.getD (mixed c (10 + (k : Int)) % (pl.length : Int)).toNat 0)) ?_ fun H5 e5 => ?_
    · refine ev_is (ev_join (zs := (List.range n).map fun (k : Nat) => [pl.getD (mixed c (10 + (k : Int)) % (pl.length : Int)).toNat 0]) ?_ (by rw [hj, List.length_map, List.length_range]; omega)) (by rw [hj])
      rw [List.map_map]
      refine el_mapR (n := n) _ (by walk_at "ev") (by omega) (fun _ => rfl) fun i H4 e4 hi => ?_
      have hm := modL (x := mixed c (10 + (i : Int))) (n := pl.length) (by omega)
      exact ev_ixS (l := pl) (by walk_at "ev") (by omega) (ev_op (ev_mixed (c := c) (k := 10 + (i : Int)) (by walk_at "ev")) (ev_lenT (l := pl) (by walk_at "ev") (by omega)) (rv_modI (by omega))) (by omega) (by omega)
    have hwl : ((List.range n).map fun (k : Nat) => pl.getD (mixed c (10 + (k : Int)) % (pl.length : Int)).toNat 0).length ≤ 101 := by rw [List.length_map, List.length_range]; omega
    have hwok : OkT ((List.range n).map fun (k : Nat) => pl.getD (mixed c (10 + (k : Int)) % (pl.length : Int)).toNat 0) := fun z hz => by
      obtain ⟨k, _, rfl⟩ := List.mem_map.mp hz
      have hm := modL (x := mixed c (10 + (k : Int))) (n := pl.length) (by omega)
      exact hpok _ (getD_mem _ (by omega))
    generalize (List.range n).map (fun (k : Nat) => pl.getD (mixed c (10 + (k : Int)) % (pl.length : Int)).toNat 0) = word at hwl hwok
    have hsp : 0 ≤ m / 11 % ((word.length : Int) + 1) ∧ m / 11 % ((word.length : Int) + 1) < (word.length : Int) + 1 := ⟨Int.emod_nonneg _ (by omega), Int.emod_lt_of_pos _ (by omega)⟩
    refine q_asg (v := .int (m / 11 % ((word.length : Int) + 1))) (ev_op (x := .int (m / 11)) (by walk_at "ev") (by walk_at "ev") (rv_modI (by omega))) fun H6 e6 => ?_
    obtain ⟨sp, hsp2⟩ : ∃ sp : Nat, m / 11 % ((word.length : Int) + 1) = (sp : Int) := ⟨(m / 11 % ((word.length : Int) + 1)).toNat, by omega⟩
    rw [hsp2]
    have eAll : Ex H H6 := ((((e1.trans e2).trans e3).trans e4).trans e5).trans e6
    refine q_when (b := decide (m / 13 % 4 = 0)) (by walk_at "ev") (fun _ H7 e7 => ?_) fun _ H7 e7 => ?_
    · refine s_ret (ev_op (ev_op (ev_toT (l := word) (k := sp) (by walk_at "ev") (by walk_at "ev") (by omega)) (ev_ixS (l := [87, 63, 49, 32, 45, 10]) (i := m / 17 % 6) (by walk_at "ev") (by decide) (by walk_at "ev") (by omega) (by show m / 17 % 6 < 6; omega)) (rv_addT (by rw [List.length_take, List.length_singleton]; omega)))
        (ev_fromT (l := word) (k := sp) (by walk_at "ev") (by walk_at "ev") (by omega)) (rv_addT (by rw [List.length_append, List.length_take, List.length_drop, List.length_singleton]; omega))) fun H8 e8 => k _ H8 (eAll.trans (e7.trans e8)) (.inl ⟨_, rfl, ?_, ?_⟩)
      · rw [List.length_append, List.length_append, List.length_take, List.length_drop, List.length_singleton]
        omega
      · intro z hz
        rcases List.mem_append.mp hz with hz | hz
        · rcases List.mem_append.mp hz with hz | hz
          · exact hwok z (List.mem_of_mem_take hz)
          · have hmem := getD_mem (l := [87, 63, 49, 32, 45, 10]) (i := (m / 17 % 6).toNat) 0 (by show _ < 6; omega)
            rw [List.mem_singleton.mp hz]
            have : ∀ c ∈ [87, 63, 49, 32, 45, 10], c < 1114112 := by decide
            exact this _ hmem
        · exact hwok z (List.mem_of_mem_drop hz)
    · exact s_ret (v := T word) (by walk_at "ev") fun H8 e8 => k _ H8 (eAll.trans (e7.trans e8)) (.inl ⟨word, rfl, by omega, hwok⟩)
/-! ### what is due -/
def sp_Lof_k01 (K : Frag) (a : Adr) : Sp := fun vs H Q _ => ∃ (x : V) (signs : Tx) (lo hi : Nat), vs = [x, T signs, .int (lo : Int), .int (hi : Int)] ∧ ((∃ l : Tx, x = T l ∧ (l.length ≤ 1000 ∧ OkT l) ∧ RetV (.bl (ofSigns signs lo hi l)) H Q) ∨ (NotTxt H x ∧ RetV (.bl false) H Q))
/-! _law_of(_law_thing_here, _law_signs, _law_least, _law_most): 0 _law_thing_here 1 _law_signs 2 _law_least 3 _law_most 4 _law_sign -/
def t_Lof_k01 (K : Frag) (a : Adr) : TS :=
  (tSeq (tIfS (tOr (tNot (tB (tCB (rIsiA K) (tCons (tVar 0) (tCons (tC (.ty "str")) tNil))))) (tNot (tTest (tChain rLeI rLeI (tVar 2) (tCB (rLenA K) (tCons (tVar 0) tNil)) (tVar 3))))) (tRet (tC (.bl false))) tNext)
    (tRet (tOp (rEqA K) (tLc (iStr (tVar 0)) (gName 4) (tTest (tOp (rNiA K) (tVar 4) (tVar 1))) (tVar 4) [4]) (tLst tNil))))
theorem read_Lof_k01 {K : Frag} {a : Adr} {vs : List V} {H : Hp} {Q : VK} {E : XK} (h : sp_Lof_k01 K a vs H Q E) : t_Lof_k01 K a { nx := fun _ H' => Q .non H', rt := Q } (start ["", "", "", "", ""] vs) H := by
  obtain ⟨x, signs, lo, hi, rfl, h⟩ := h
  show t_Lof_k01 K a _ [some x, some (T signs), some (.int (lo : Int)), some (.int (hi : Int)), none] H
  unfold t_Lof_k01
  rcases h with ⟨l, rfl, ⟨hl, hok⟩, k⟩ | ⟨n, k⟩
  · refine q_when (b := !(decide (lo ≤ l.length) && decide (l.length ≤ hi))) ?_ (fun hb H1 e1 => ?_) fun hb H1 e1 => ?_
    · refine et_is (et_or (et_not (et_B (ev_isiT (l := l) (by walk_at "ev")))) fun _ => et_not (et_test (ev_chain (x := .int (lo : Int)) (z := .int (hi : Int)) (by walk_at "ev") (ev_lenT (l := l) (by walk_at "ev") (by omega)) rv_leI fun _ => ⟨by walk_at "ev", rv_leI⟩))) ?_
      simp
    · refine s_ret ev_c fun H2 e2 => ?_
      have : ofSigns signs lo hi l = false := by unfold ofSigns; rw [Bool.not_eq_true'] at hb; rw [hb]; rfl
      rw [this] at k
      exact k H2 (e1.trans e2)
    · have hb : (decide (lo ≤ l.length) && decide (l.length ≤ hi)) = true := by simpa using hb
      refine s_ret (v := .bl (ofSigns signs lo hi l)) (ev_is (ev_nilS (xs := l.filter fun c => !decide (c ∈ signs)) rfl (fun c hc => hok c (List.mem_filter.mp hc).1) ?_ (el_lst (vs := []) (by walk_at "ev") (by decide))) ?_) fun H2 e2 => k H2 (e1.trans e2)
      · exact el_lcS (l := l) _ (fun c => T [c]) (by walk_at "ev") (by omega) (fun _ => rfl) (fun c H2 e2 hc => et_test (ev_op (x := T [c]) (y := T signs) (by walk_at "ev") (by walk_at "ev") rv_niC)) (fun c H2 e2 hc _ => by walk_at "ev")
      · unfold ofSigns
        rw [hb, Bool.true_and]
        congr 1
        rw [Bool.eq_iff_iff, decide_eq_true_iff, List.filter_eq_nil_iff, List.all_eq_true]
        simp
  · refine q_when (b := true) (et_or (a := !false) (b := true) (et_not (et_B (ev_isiN (x := x) (by walk_at "ev") n))) fun h => nomatch h) (fun hb H1 e1 => ?_) fun h => nomatch h
    exact s_ret ev_c fun H2 e2 => k H2 (e1.trans e2)

def dueOf (x : V) (f : Tx → Bool) (b : Bool) : Prop := (∃ l : Tx, x = T l ∧ b = f l) ∨ ((∀ l : Tx, x ≠ T l) ∧ b = false)
theorem notTxt_ne {H : Hp} {x : V} (h : NotTxt H x) (l : Tx) : x ≠ T l := by
  rintro rfl
  rcases h with h | ⟨b, h⟩ | ⟨i, h⟩ | ⟨p, xs, h, _⟩ | ⟨p, xs, h, _⟩ | ⟨p, kvs, h, _⟩ <;> cases h
/-- the three answers -/
noncomputable def three (x : V) : List Bool := by
  classical
  exact if h : ∃ l : Tx, x = T l then [isRow (Classical.choose h), isSight (Classical.choose h), isName (Classical.choose h)] else [false, false, false]
theorem three_T (l : Tx) : three (T l) = [isRow l, isSight l, isName l] := by
  have h : ∃ m : Tx, T l = T m := ⟨l, rfl⟩
  unfold three
  rw [dif_pos h]
  have e := T_inj (Classical.choose_spec h)
  rw [← e]
theorem three_N {H : Hp} {x : V} (h : NotTxt H x) : three x = [false, false, false] := by
  unfold three
  rw [dif_neg]
  rintro ⟨l, e⟩
  exact notTxt_ne h l e
def sp_Ldue_k01 (K : Frag) (a : Adr) : Sp := fun vs H Q _ => ∃ x : V, vs = [x] ∧ Thing H x ∧ RetL ((three x).map V.bl) H Q
/-! _law_due(_law_thing_here): 0 _law_thing_here 1 _law_letters -/
def t_Ldue_k01 (K : Frag) (a : Adr) : TS :=
  (tSeq (tAsg (tC (T [97, 98, 99, 100, 101, 102, 103, 104, 105, 106, 107, 108, 109, 110, 111, 112, 113, 114, 115, 116, 117, 118, 119, 120, 121, 122])) (gName 1))
    (tRet (tLst (tCons (tCall (sp_Lof_k01 K a) [] E0 (tCons (tVar 0) (tCons (tC (T [46, 103, 114, 119])) (tCons (tC (.int 1)) (tCons (tC (.int 30)) tNil))))) (tCons (tCall (sp_Lof_k01 K a) [] E0 (tCons (tVar 0) (tCons (tC (T [46, 103, 114, 119, 63])) (tCons (tC (.int 0)) (tCons (tC (.int 100)) tNil))))) (tCons (tCall (sp_Lof_k01 K a) [] E0 (tCons (tVar 0) (tCons (tVar 1) (tCons (tC (.int 1)) (tCons (tC (.int 8)) tNil))))) tNil))))))
theorem ev_of {K : Frag} {a : Adr} {σ : L2.St} {H : Hp} {E : XK} {ta : TA} {l signs : Tx} {lo hi : Nat} (h : EvA ta σ H [T l, T signs, .int (lo : Int), .int (hi : Int)]) (hl : l.length ≤ 1000) (ho : OkT l) : Ev (tCall (sp_Lof_k01 K a) [] E ta) σ H (.bl (ofSigns signs lo hi l)) :=
  ev_call h fun H2 e2 Q q E => ⟨T l, signs, lo, hi, rfl, .inl ⟨l, rfl, ⟨hl, ho⟩, q⟩⟩
theorem ev_ofN {K : Frag} {a : Adr} {σ : L2.St} {H : Hp} {E : XK} {ta : TA} {x : V} {signs : Tx} {lo hi : Nat} (h : EvA ta σ H [x, T signs, .int (lo : Int), .int (hi : Int)]) (n : NotTxt H x) : Ev (tCall (sp_Lof_k01 K a) [] E ta) σ H (.bl false) :=
  ev_call h fun H2 e2 Q q E => ⟨x, signs, lo, hi, rfl, .inr ⟨n.ex e2, q⟩⟩
theorem read_Ldue_k01 {K : Frag} {a : Adr} {vs : List V} {H : Hp} {Q : VK} {E : XK} (h : sp_Ldue_k01 K a vs H Q E) : t_Ldue_k01 K a { nx := fun _ H' => Q .non H', rt := Q } (start ["", ""] vs) H := by
  obtain ⟨x, rfl, h, k⟩ := h
  show t_Ldue_k01 K a _ [some x, none] H
  unfold t_Ldue_k01
  refine q_asg (v := T LETTERS) ev_c fun H1 e1 => ?_
  rcases h with ⟨l, rfl, hl, ho⟩ | n
  · rw [three_T] at k
    exact s_retL (el_lst (vs := [.bl (isRow l), .bl (isSight l), .bl (isName l)]) (ea_cons (ev_of (l := l) (signs := COLS) (lo := 1) (hi := 30) (ea_cons (by walk_at "ev") (ea_cons ev_c (ea_cons ev_c (ea_cons ev_c ea_nil)))) hl ho)
      (ea_cons (ev_of (l := l) (signs := SEEN) (lo := 0) (hi := 100) (ea_cons (by walk_at "ev") (ea_cons ev_c (ea_cons ev_c (ea_cons ev_c ea_nil)))) hl ho) (ea_cons (ev_of (l := l) (signs := LETTERS) (lo := 1) (hi := 8) (ea_cons (by walk_at "ev") (ea_cons (by walk_at "ev") (ea_cons ev_c (ea_cons ev_c ea_nil)))) hl ho) ea_nil))) (by simp)) fun p H2 hp e2 h2 => k.go e1 hp e2 h2
  · rw [three_N n] at k
    have n1 := n.ex e1
    exact s_retL (el_lst (vs := [.bl false, .bl false, .bl false]) (ea_cons (ev_ofN (x := x) (signs := COLS) (lo := 1) (hi := 30) (ea_cons (by walk_at "ev") (ea_cons ev_c (ea_cons ev_c (ea_cons ev_c ea_nil)))) n1)
      (ea_cons (ev_ofN (x := x) (signs := SEEN) (lo := 0) (hi := 100) (ea_cons (by walk_at "ev") (ea_cons ev_c (ea_cons ev_c (ea_cons ev_c ea_nil)))) n1) (ea_cons (ev_ofN (x := x) (signs := LETTERS) (lo := 1) (hi := 8) (ea_cons (by walk_at "ev") (ea_cons (by walk_at "ev") (ea_cons ev_c (ea_cons ev_c ea_nil)))) n1) ea_nil))) (by simp)) fun p H2 hp e2 h2 => k.go e1 hp e2 h2
/-! ### the law -/
/-! law(_law_script): 0 _law_script 1 _law_cell 2 _law_thing_here 3 _law_found 4 _law_one -/
def t_law_k01 (K : Frag) (a : Adr) : TS :=
  (tSeq (tFor (iList K (tOp (rAddA K) (tVar 0) (tSl (rSlA K) (tVar 0) tNoPart (tPart (tC (.int 5)))))) (gName 1) (tSeq (tAsg (tCall (sp_Lthing_k01 K a) [] E0 (tCons (tVar 1) tNil)) (gName 2))
    (tSeq (tAsg (tLst (tCons (tCall (sp_is_row K a) [] E0 (tCons (tVar 2) tNil)) (tCons (tCall (sp_is_sight K a) [] E0 (tCons (tVar 2) tNil)) (tCons (tCall (sp_is_name K a) [] E0 (tCons (tVar 2) tNil)) tNil)))) (gName 3))
    (tIfS (tOr (tTest (tOp (rNeA K) (tVar 3) (tCall (sp_Ldue_k01 K a) [] E0 (tCons (tVar 2) tNil)))) (tTest (tOp (rNeA K) (tLc (iList K (tVar 3)) (gName 4) (tNot (tB (tCB (rIsiA K) (tCons (tVar 4) (tCons (tC (.ty "bool")) tNil))))) (tVar 4) [4]) (tLst tNil)))) (tRet (tC (.bl false))) tNext))))
    (tRet (tOp (rEqA K) (tLst (tCons (tCall (sp_is_row K a) [] E0 (tCons (tC (T [])) tNil)) (tCons (tCall (sp_is_sight K a) [] E0 (tCons (tC (T [])) tNil)) (tCons (tCall (sp_is_name K a) [] E0 (tCons (tC (T [])) tNil)) tNil)))) (tLst (tCons (tC (.bl false)) (tCons (tC (.bl true)) (tCons (tC (.bl false)) tNil)))))))
theorem read_law_k01 {K : Frag} {a : Adr} {vs : List V} {H : Hp} {Q : VK} {E : XK} (h : sp_law K a vs H Q E) : t_law_k01 K a { nx := fun _ H' => Q .non H', rt := Q } (start ["", "", "", "", ""] vs) H := by
  obtain ⟨p, ns, rfl, hS, hn, k⟩ := h
  show t_law_k01 K a _ [some (.ref p), none, none, none, none] H
  unfold t_law_k01
  have hlen : (ns.take 5).length ≤ 5 := by rw [List.length_take]; omega
  refine q_forNLn (xs := (ns ++ ns.take 5).map V.int) (j := 1) ?_ (fun q i σ' H' => ∃ v1 v2 v3, σ' = [some (.ref p), v1, v2, v3, none] ∧ H' q = some (.lst ((ns ++ ns.take 5).map V.int))) (fun q H1 hq e1 h1 => ⟨_, _, _, rfl, h1⟩) (fun q i σ' H' _ ⟨_, _, _, _, e⟩ => sq_of e) ?_ ?_
  · rw [List.map_append]
    exact el_catLN (p := p) (by walk_at "ev") hS (el_script (k := 5) (by walk_at "ev") hS (by walk_at "ev")) (by rw [List.length_map, List.length_map]; omega)
  · rintro q i x σ' H' hx ⟨v1, v2, v3, rfl, hq⟩
    obtain ⟨c, rfl⟩ : ∃ c : Int, x = .int c := by
      rw [List.getElem?_map] at hx
      cases e : (ns ++ ns.take 5)[i]? with
      | none => rw [e] at hx; cases hx
      | some c => rw [e] at hx; exact ⟨c, (Option.some.inj hx).symm⟩
    have hc : Ev (tVar 1) ([some (V.ref p), some (.int c), v2, v3, none] : L2.St) H' (.int c) := ev_var rfl
    refine q_asgW (P := Thing) (ew_call (vs := [.int c]) (ea_cons hc ea_nil) fun H1 e1 Q q => ⟨c, rfl, q⟩) fun x H2 e12 hth => ?_
    have hq2 := e12 _ _ hq
    have hex : ∃ b1 b2 b3 : Bool, three x = [b1, b2, b3] ∧ ∀ H3, Ex H2 H3 → EvA (tCons (tCall (sp_is_row K a) [] E0 (tCons (tVar 2) tNil)) (tCons (tCall (sp_is_sight K a) [] E0 (tCons (tVar 2) tNil)) (tCons (tCall (sp_is_name K a) [] E0 (tCons (tVar 2) tNil)) tNil))) ([some (V.ref p), some (.int c), some x, v3, none] : L2.St) H3 [.bl b1, .bl b2, .bl b3] := by
      rcases hth with ⟨l, rfl, hl, ho⟩ | n
      · exact ⟨_, _, _, three_T l, fun H3 e3 => ea_cons (ev_is3 (f := isRow) rfl (l := l) (by walk_at "ev") hl) (ea_cons (ev_is3 (f := isSight) rfl (l := l) (by walk_at "ev") hl) (ea_cons (ev_is3 (f := isName) rfl (l := l) (by walk_at "ev") hl) ea_nil))⟩
      · exact ⟨_, _, _, three_N n, fun H3 e3 => ea_cons (ev_is4 (f := isRow) rfl (x := x) (by walk_at "ev") (n.ex e3)) (ea_cons (ev_is4 (f := isSight) rfl (x := x) (by walk_at "ev") (n.ex e3)) (ea_cons (ev_is4 (f := isName) rfl (x := x) (by walk_at "ev") (n.ex e3)) ea_nil))⟩
    obtain ⟨b1, b2, b3, hb, hev⟩ := hex
    refine q_asgL (xs := [b1, b2, b3].map V.bl) (el_lst (hev H2 (Ex.refl _)) (by simp)) fun d H3 hd e3 h3 => ?_
    refine s_when (b := false) ?_ (fun h => nomatch h) fun _ H4 e4 => ⟨_, _, _, rfl, e4 _ _ (e3 _ _ hq2)⟩
    refine et_is (et_or (et_test (ev_neL (ι := V.bl) good_B (fun H a => dp_B a) (xs := [b1, b2, b3]) (ys := three x) (p := d) (by walk_at "ev") (sq_of h3) ?_ (fun _ _ => trivial) (fun _ _ => trivial))) fun _ => et_test (ev_neLL (ι := V.bl) good_B (fun H a => dp_B a) (xs := [b1, b2, b3].filter fun _ => false) (ys := []) ?_ (el_lst (vs := []) ea_nil (by decide)) (fun _ _ => trivial) (fun _ _ => trivial))) ?_
    · refine el_call (vs := [x]) (by walk_at "ev") fun H4 e4 Q q E => ⟨x, rfl, ?_, q⟩
      rcases hth with ⟨l, r⟩ | n
      · exact .inl ⟨l, r⟩
      · exact .inr (n.ex (e3.trans e4))
    · refine el_lcI (a := d) [b1, b2, b3] V.bl (fun _ => false) V.bl (by walk_at "ev") (sq_of h3) (by simp) (fun _ => rfl) (fun b H4 e4 hb => ?_) (fun _ _ _ _ h => nomatch h)
      exact et_is (et_not (et_B (ev_isi (x := .bl b) (b := true) (by walk_at "ev") (fun _ _ => .base (.bl b)) (kit_ty (by decide +kernel))))) rfl
    · rw [hb]; simp
  · rintro q σ' H' ⟨v1, v2, v3, rfl, hq⟩
    refine s_ret (v := .bl true) (ev_is (ev_eqLL (ι := V.bl) good_B (fun H a => dp_B a) (xs := [false, true, false]) (ys := [false, true, false]) (el_lst (vs := [.bl false, .bl true, .bl false]) (ea_cons (ev_is (ev_is3 (f := isRow) rfl (l := []) (by walk_at "ev") (by decide)) rfl) (ea_cons (ev_is (ev_is3 (f := isSight) rfl (l := []) (by walk_at "ev") (by decide)) rfl) (ea_cons (ev_is (ev_is3 (f := isName) rfl (l := []) (by walk_at "ev") (by decide)) rfl) ea_nil))) (by simp)) (el_lst (vs := [.bl false, .bl true, .bl false]) (by walk_at "ev") (by simp)) (fun _ _ => trivial) (fun _ _ => trivial)) rfl) fun H1 e1 => k H1
end Bw
set_option maxRecDepth 100000
set_option maxHeartbeats 4000000
/-! The end of a law: what the top has written, and the law's own head. -/
namespace Bw
open PySem PySem.Spec PyProof.Rows L2 Evl
theorem def_mk {K : Frag} {h : Heap} {mg : Str → Option Value} {x : Str} {st : Stmt} {ps : List Str} {f : Addr} {oc : Value} {od an : Option Addr} {osl : Array (Option Value)} {kV doc pm cdv ct : Value} (X : K.In h) (G : h.Ns mainGlobals mg)
    (a : PySem.W.nsIn K mainGlobals x = some (some (.ref f))) (l : K.lookup f = some ⟨oc, od, .func (PySem.W.fnOf x x (defArgs st) (defBody st) (defScope st) .none kV doc pm an cdv ct), osl⟩)
    (c : PySem.W.codeIn K cdv x = true) (k : PySem.W.keepIn K (.ref f) = true)
    (hb : ∀ (kV doc pm : Value) (an : Option Addr) (cdv ct : Value) (us : List Value), us.length = ps.length → bindArgs (PySem.W.fnOf x x (defArgs st) (defBody st) (defScope st) .none kV doc pm an cdv ct) ⟨us, []⟩ = pure (ps.zip us)) : DefAt K mg x st ps := by
  have F := fun_mk (st := st) l c k
  exact ⟨f, _, F, PySem.W.mg_of X G a, F.binds hb⟩
theorem gv_mk {K : Frag} {h : Heap} {mg : Str → Option Value} {x : Str} {u : Value} {v : V} (X : K.In h) (G : h.Ns mainGlobals mg) (a : PySem.W.nsIn K mainGlobals x = some (some u)) (r : RelV v u) : GV mg x v := ⟨u, PySem.W.mg_of X G a, r⟩
theorem relT {x : Str} {l : List Nat} {t : Tok} (h : x = S l) : RelV (T l) (.str x t) := ⟨t, by rw [h]⟩
theorem law_mk {K : Frag} {h : Heap} {mg : Str → Option Value} {x : Str} {st : Stmt} {fa f : Addr} {oc : Value} {od an : Option Addr} {osl : Array (Option Value)} {kV doc pm cdv ct : Value} (X : K.In h) (G : h.Ns mainGlobals mg) (hfa : mg x = some (.ref fa))
    (a : PySem.W.nsIn K mainGlobals x = some (some (.ref f))) (l : K.lookup f = some ⟨oc, od, .func (PySem.W.fnOf x x (defArgs st) (defBody st) (defScope st) .none kV doc pm an cdv ct), osl⟩)
    (c : PySem.W.codeIn K cdv x = true) (k : PySem.W.keepIn K (.ref f) = true) : Fun K x x st fa (PySem.W.fnOf x x (defArgs st) (defBody st) (defScope st) .none kV doc pm an cdv ct) := by
  have e := hfa.symm.trans (PySem.W.mg_of X G a)
  cases e
  exact fun_mk (st := st) l c k
/-- the written part of which it is told -/
abbrev frOf {K : Frag} {h : Heap} (_ : K.In h) : Frag := K
def adr0 : Adr := ⟨0, 0, 0, 0, 0, 0, 0, 0⟩
theorem walk_end {n : Nat} {l : PySem.W.OpenLaw} {q : Program} {loose : List Str} {XP : (Str → Option Value) → Heap → Prop} {YP : World → Heap → Prop} {d : DefRec} {K : Params → PySem.W.Frag} (hn : l.most = some 63) (hdf : d.params.defaults = []) (hr : Room n callerA)
    (hY : ∀ (w : World) (h : Heap), YP w h → (K w.params).In h)
    (F : ∀ (w : World) (mg : Str → Option Value) (fa : Addr) (h : Heap), (K w.params).In h → h.Ns mainGlobals mg → mg d.name = some (.ref fa) →
      ∃ fd : FuncData, (∀ (s : Shared) (u : Value), BindsTo s fd ⟨[u], []⟩ [("_law_script", u)]) ∧ ∀ base : Heap, (K w.params).In base → base.Ns mainGlobals mg → FnOk l.prog w (K w.params) mg base CX0 n fa fd ["_law_script"] (sp_law (K w.params) adr0)) :
    PySem.W.WalkO q loose XP YP l.row.toRowW d [] (fun f vs => PySem.call f vs) :=
  L2.walk_of (n := 63) (k := n) (x := "_law_script") (CX := fun _ => CX0) (sp := fun w => sp_law (K w.params) adr0) hn (by decide) hdf hr hY F (fun _ _ a ns hl _ hS => ⟨a, ns, rfl, hS, hl, fun _ => rfl⟩) fun _ _ _ _ _ z => z
end Bw
set_option maxRecDepth 100000
set_option maxHeartbeats 4000000
/-! Law k01: each def of the text keeps its promise; the end. -/
namespace Bw
open PySem PySem.Spec PyProof.Rows L2 Evl
def top (i : Nat) : Stmt := PySem.Challenge.pw_beamwatch_k01_kinds.main.body.getD i (.Pass ⟨0, 0, 0, 0⟩)
abbrev s_is_name : Stmt := top 7
abbrev N_is_name : List Str := ["thing", "sign"]
abbrev s_is_row : Stmt := top 8
abbrev N_is_row : List Str := ["thing", "sign"]
abbrev s_is_sight : Stmt := top 9
abbrev N_is_sight : List Str := ["thing", "sign"]
abbrev s_Lmixed : Stmt := top 11
abbrev N_Lmixed : List Str := ["_law_cell", "_law_k", "_law_one"]
abbrev s_Lthing_k01 : Stmt := top 12
abbrev N_Lthing_k01 : List Str := ["_law_cell", "_law_mix", "_law_pool", "_law_size", "_law_word", "_law_spot", "_law_k"]
abbrev s_Lof_k01 : Stmt := top 13
abbrev N_Lof_k01 : List Str := ["_law_thing_here", "_law_signs", "_law_least", "_law_most", "_law_sign"]
abbrev s_Ldue_k01 : Stmt := top 14
abbrev N_Ldue_k01 : List Str := ["_law_thing_here", "_law_letters"]
abbrev s_law_k01 : Stmt := top 15
abbrev N_law_k01 : List Str := ["_law_script", "_law_cell", "_law_thing_here", "_law_found", "_law_one"]
structure Txt (K : Frag) (mg : Str → Option Value) (a : Adr) : Prop where
  b_all : mg "all" = none
  b_bool : mg "bool" = none
  b_isinstance : mg "isinstance" = none
  b_len : mg "len" = none
  b_range : mg "range" = none
  b_str : mg "str" = none
  g_COLOURS : GV mg "COLOURS" (T [46, 103, 114, 119])
  g_GAP : GV mg "GAP" (T [63])
  g_LETTERS : GV mg "LETTERS" (T [97, 98, 99, 100, 101, 102, 103, 104, 105, 106, 107, 108, 109, 110, 111, 112, 113, 114, 115, 116, 117, 118, 119, 120, 121, 122])
  g_LONGEST_NAME : GV mg "LONGEST_NAME" (.int 8)
  g_LONGEST_ROUND : GV mg "LONGEST_ROUND" (.int 30)
  g_LONGEST_SIGHT : GV mg "LONGEST_SIGHT" (.int 100)
section
variable {P : Program} {w : World} {K : Frag} {mg : Str → Option Value} {base : Heap} {a : Adr}
theorem sc_is_name : FnScope N_is_name ["thing"] (defScope s_is_name) := ⟨rfl, rfl, rfl, by decide +kernel, rfl, by decide +kernel, by decide +kernel⟩
theorem ok_is_name (D : DefAt K mg "is_name" s_is_name ["thing"]) (T : Txt K mg a)  : Cal P w K mg base 1 "is_name" (sp_is_name K a) :=
  D.cal sc_is_name (fun vs H Q E h => by (iterate 12 (first | done | (obtain ⟨rfl, _⟩ := h; rfl) | (obtain ⟨_, h⟩ := h)))) fun f cdv A outer s H vs Q E hr h => by
    have hu := hu_of hr
    have hu64 := hu_room hr
    have nd := sc_is_name.nd
    exact ⟨t_is_name K a, (pss_one (ps_ret (pe_and (pe_callB c_isi (by rfl) T.b_isinstance (by decide +kernel) (pa_cons (pv 0) (pa_cons (pe_bltn rfl T.b_str (by decide +kernel) rfl) pa_nil))) (pe_and (pe_chain opLe opLe pe_int (pe_callB c_len (by rfl) T.b_len (by decide +kernel) (pa_cons (pv 0) pa_nil)) (pe_g rfl T.g_LONGEST_NAME)) (pe_one (pe_callB (cr_all rfl) (by rfl) T.b_all (by decide +kernel) (pa_cons (pe_lc (own := [("sign", 1)]) (g := (gName 1)) (tt := tYes) rfl nd (pi_str (pv 0)) (blkOk_by (N := N_is_name) (sc := defScope s_is_name) (by decide +kernel)) (fun _ _ _ _ _ => (pg_name (i := 1) nd rfl (Or.inl rfl))) (fun _ _ _ _ _ => pts_nil) (fun _ _ _ _ _ => (pe_cmpR opIn (pv 1) (pe_g rfl T.g_LETTERS) (by with_unfolding_all rfl)))) pa_nil))))))), read_is_name h⟩
theorem sc_is_row : FnScope N_is_row ["thing"] (defScope s_is_row) := ⟨rfl, rfl, rfl, by decide +kernel, rfl, by decide +kernel, by decide +kernel⟩
theorem ok_is_row (D : DefAt K mg "is_row" s_is_row ["thing"]) (T : Txt K mg a)  : Cal P w K mg base 1 "is_row" (sp_is_row K a) :=
  D.cal sc_is_row (fun vs H Q E h => by (iterate 12 (first | done | (obtain ⟨rfl, _⟩ := h; rfl) | (obtain ⟨_, h⟩ := h)))) fun f cdv A outer s H vs Q E hr h => by
    have hu := hu_of hr
    have hu64 := hu_room hr
    have nd := sc_is_row.nd
    exact ⟨t_is_row K a, (pss_one (ps_ret (pe_and (pe_callB c_isi (by rfl) T.b_isinstance (by decide +kernel) (pa_cons (pv 0) (pa_cons (pe_bltn rfl T.b_str (by decide +kernel) rfl) pa_nil))) (pe_and (pe_chain opLe opLe pe_int (pe_callB c_len (by rfl) T.b_len (by decide +kernel) (pa_cons (pv 0) pa_nil)) (pe_g rfl T.g_LONGEST_ROUND)) (pe_one (pe_callB (cr_all rfl) (by rfl) T.b_all (by decide +kernel) (pa_cons (pe_lc (own := [("sign", 1)]) (g := (gName 1)) (tt := tYes) rfl nd (pi_str (pv 0)) (blkOk_by (N := N_is_row) (sc := defScope s_is_row) (by decide +kernel)) (fun _ _ _ _ _ => (pg_name (i := 1) nd rfl (Or.inl rfl))) (fun _ _ _ _ _ => pts_nil) (fun _ _ _ _ _ => (pe_cmpR opIn (pv 1) (pe_g rfl T.g_COLOURS) (by with_unfolding_all rfl)))) pa_nil))))))), read_is_row h⟩
theorem sc_is_sight : FnScope N_is_sight ["thing"] (defScope s_is_sight) := ⟨rfl, rfl, rfl, by decide +kernel, rfl, by decide +kernel, by decide +kernel⟩
theorem ok_is_sight (D : DefAt K mg "is_sight" s_is_sight ["thing"]) (T : Txt K mg a)  : Cal P w K mg base 1 "is_sight" (sp_is_sight K a) :=
  D.cal sc_is_sight (fun vs H Q E h => by (iterate 12 (first | done | (obtain ⟨rfl, _⟩ := h; rfl) | (obtain ⟨_, h⟩ := h)))) fun f cdv A outer s H vs Q E hr h => by
    have hu := hu_of hr
    have hu64 := hu_room hr
    have nd := sc_is_sight.nd
    exact ⟨t_is_sight K a, (pss_one (ps_ret (pe_and (pe_callB c_isi (by rfl) T.b_isinstance (by decide +kernel) (pa_cons (pv 0) (pa_cons (pe_bltn rfl T.b_str (by decide +kernel) rfl) pa_nil))) (pe_and (pe_cmpR opLe (pe_callB c_len (by rfl) T.b_len (by decide +kernel) (pa_cons (pv 0) pa_nil)) (pe_g rfl T.g_LONGEST_SIGHT) (nomark _)) (pe_one (pe_callB (cr_all rfl) (by rfl) T.b_all (by decide +kernel) (pa_cons (pe_lc (own := [("sign", 1)]) (g := (gName 1)) (tt := tYes) rfl nd (pi_str (pv 0)) (blkOk_by (N := N_is_sight) (sc := defScope s_is_sight) (by decide +kernel)) (fun _ _ _ _ _ => (pg_name (i := 1) nd rfl (Or.inl rfl))) (fun _ _ _ _ _ => pts_nil) (fun _ _ _ _ _ => (pe_cmpR opIn (pv 1) (pe_op opAdd (pe_g rfl T.g_COLOURS) (pe_g rfl T.g_GAP)) (by with_unfolding_all rfl)))) pa_nil))))))), read_is_sight h⟩
theorem sc_Lmixed : FnScope N_Lmixed ["_law_cell", "_law_k"] (defScope s_Lmixed) := ⟨rfl, rfl, rfl, by decide +kernel, rfl, by decide +kernel, by decide +kernel⟩
theorem ok_Lmixed (D : DefAt K mg "_law_mixed" s_Lmixed ["_law_cell", "_law_k"]) (T : Txt K mg a)  : Cal P w K mg base 1 "_law_mixed" (sp_Lmixed K a) :=
  D.cal sc_Lmixed (fun vs H Q E h => by (iterate 12 (first | done | (obtain ⟨rfl, _⟩ := h; rfl) | (obtain ⟨_, h⟩ := h)))) fun f cdv A outer s H vs Q E hr h => by
    have hu := hu_of hr
    have hu64 := hu_room hr
    have nd := sc_Lmixed.nd
    exact ⟨t_Lmixed K a, (pss_cons (ps_asg (pe_op opMod (pe_op opMul (pe_op opAdd (pe_op opAdd (pv 0) (pe_op opMul pe_int (pv 1))) pe_int) pe_int) pe_int) (pg_name (i := 2) nd rfl (Or.inl rfl)))
    (pss_one (ps_ret (pe_op opDiv (pe_op opMod (pe_op opAdd (pe_op opMul (pv 2) (pv 2)) (pe_op opMul pe_int (pv 2))) pe_int) pe_int)))), read_Lmixed h⟩
theorem sc_Lthing_k01 : FnScope N_Lthing_k01 ["_law_cell"] (defScope s_Lthing_k01) := ⟨rfl, rfl, rfl, by decide +kernel, rfl, by decide +kernel, by decide +kernel⟩
theorem ok_Lthing_k01 (D : DefAt K mg "_law_thing" s_Lthing_k01 ["_law_cell"]) (T : Txt K mg a) (c_Lmixed : Cal P w K mg base 1 "_law_mixed" (sp_Lmixed K a)) : Cal P w K mg base 2 "_law_thing" (sp_Lthing_k01 K a) :=
  D.cal sc_Lthing_k01 (fun vs H Q E h => by (iterate 12 (first | done | (obtain ⟨rfl, _⟩ := h; rfl) | (obtain ⟨_, h⟩ := h)))) fun f cdv A outer s H vs Q E hr h => by
    have hu := hu_of hr
    have hu64 := hu_room hr
    have nd := sc_Lthing_k01.nd
    exact ⟨t_Lthing_k01 K a, (pss_cons (ps_asg (pe_k c_Lmixed hr (by decide) rfl (pa_cons (pv 0) (pa_cons pe_int pa_nil))) (pg_name (i := 1) nd rfl (Or.inl rfl)))
    (pss_cons (ps_if (pt_cmpR (opEq hu64) (pe_op opMod (pv 1) pe_int) pe_int (nomark _)) (pss_one (ps_ret (pe_ix ix_seq (pe_lst (pa_cons pe_non (pa_cons pe_bl (pa_cons pe_int (pa_cons (pe_lst (pa_cons (pe_sT (by decide +kernel)) pa_nil)) (pa_cons (pe_tup (pa_cons (pe_sT (by decide +kernel)) pa_nil)) (pa_cons pe_dnewK (pa_cons (pe_tup pa_nil) (pa_cons pe_int (pa_cons (pe_lst pa_nil) (pa_cons (pe_disp (pps_cons (pe_sT (by decide +kernel)) pe_int pps_nil) (by rfl) (by rfl) (fun z => by cases z) (by decide)) pa_nil))))))))))) (pe_op opMod (pe_op opDiv (pv 1) pe_int) pe_int) (fun _ _ => rfl)))) pss_nil)
    (pss_cons (ps_asg (pe_ix ix_seq (pe_lst (pa_cons (pe_sT (by decide +kernel)) (pa_cons (pe_sT (by decide +kernel)) (pa_cons (pe_sT (by decide +kernel)) (pa_cons (pe_sT (by decide +kernel)) (pa_cons (pe_sT (by decide +kernel)) (pa_cons (pe_sT (by decide +kernel)) pa_nil))))))) (pe_op opMod (pe_op opDiv (pv 1) pe_int) pe_int) (fun _ _ => rfl)) (pg_name (i := 2) nd rfl (Or.inr rfl)))
    (pss_cons (ps_asg (pe_ix ix_seq (pe_lst (pa_cons (pe_op opMod (pe_op opDiv (pv 1) pe_int) pe_int) (pa_cons pe_int (pa_cons pe_int (pa_cons pe_int (pa_cons pe_int (pa_cons pe_int (pa_cons pe_int (pa_cons (pe_op opMod (pe_op opDiv (pv 1) pe_int) pe_int) pa_nil))))))))) (pe_op opMod (pe_op opDiv (pv 1) pe_int) pe_int) (fun _ _ => rfl)) (pg_name (i := 3) nd rfl (Or.inl rfl)))
    (pss_cons (ps_asg (pe_joinA (pe_sT (by decide +kernel)) (pe_lc (own := [("_law_k", 6)]) (g := (gName 6)) (tt := tYes) rfl nd (pi_range1 rfl T.b_range (pa_cons (pv 3) pa_nil)) (blkOk_by (N := N_Lthing_k01) (sc := defScope s_Lthing_k01) (by decide +kernel)) (fun _ _ _ _ _ => (pg_name (i := 6) nd rfl (Or.inl rfl))) (fun _ _ _ _ _ => pts_nil) (fun _ _ _ _ _ => (pe_ix ix_seq (pv 2) (pe_op opMod (pe_k c_Lmixed hr (by decide) rfl (pa_cons (pv 0) (pa_cons (pe_op opAdd pe_int (pv 6)) pa_nil))) (pe_callB c_len (by rfl) T.b_len (by decide +kernel) (pa_cons (pv 2) pa_nil))) (fun _ _ => rfl))))) (pg_name (i := 4) nd rfl (Or.inl rfl)))
    (pss_cons (ps_asg (pe_op opMod (pe_op opDiv (pv 1) pe_int) (pe_op opAdd (pe_callB c_len (by rfl) T.b_len (by decide +kernel) (pa_cons (pv 4) pa_nil)) pe_int)) (pg_name (i := 5) nd rfl (Or.inl rfl)))
    (pss_cons (ps_if (pt_cmpR (opEq hu64) (pe_op opMod (pe_op opDiv (pv 1) pe_int) pe_int) pe_int (nomark _)) (pss_one (ps_ret (pe_op opAdd (pe_op opAdd (pe_slice slA (pv 4) po_none (po_some (pv 5))) (pe_ix ix_seq (pe_sT (by decide +kernel)) (pe_op opMod (pe_op opDiv (pv 1) pe_int) pe_int) (fun _ _ => rfl))) (pe_slice slA (pv 4) (po_some (pv 5)) po_none)))) pss_nil)
    (pss_one (ps_ret (pv 4)))))))))), read_Lthing_k01 h⟩
theorem sc_Lof_k01 : FnScope N_Lof_k01 ["_law_thing_here", "_law_signs", "_law_least", "_law_most"] (defScope s_Lof_k01) := ⟨rfl, rfl, rfl, by decide +kernel, rfl, by decide +kernel, by decide +kernel⟩
theorem ok_Lof_k01 (D : DefAt K mg "_law_of" s_Lof_k01 ["_law_thing_here", "_law_signs", "_law_least", "_law_most"]) (T : Txt K mg a)  : Cal P w K mg base 1 "_law_of" (sp_Lof_k01 K a) :=
  D.cal sc_Lof_k01 (fun vs H Q E h => by (iterate 12 (first | done | (obtain ⟨rfl, _⟩ := h; rfl) | (obtain ⟨_, h⟩ := h)))) fun f cdv A outer s H vs Q E hr h => by
    have hu := hu_of hr
    have hu64 := hu_room hr
    have nd := sc_Lof_k01.nd
    exact ⟨t_Lof_k01 K a, (pss_cons (ps_if (PW.pt (pw_or (pt_not (pt_val (pe_callB c_isi (by rfl) T.b_isinstance (by decide +kernel) (pa_cons (pv 0) (pa_cons (pe_bltn rfl T.b_str (by decide +kernel) rfl) pa_nil))))) (pw_or1 (pt_not (pt_chain opLe opLe (pv 2) (pe_callB c_len (by rfl) T.b_len (by decide +kernel) (pa_cons (pv 0) pa_nil)) (pv 3)))))) (pss_one (ps_ret pe_bl)) pss_nil)
    (pss_one (ps_ret (pe_cmpR (opEq hu64) (pe_lc (own := [("_law_sign", 4)]) (g := (gName 4)) (tt := (tTest (tOp (rNiA K) (tVar 4) (tVar 1)))) rfl nd (pi_str (pv 0)) (blkOk_by (N := N_Lof_k01) (sc := defScope s_Lof_k01) (by decide +kernel)) (fun _ _ _ _ _ => (pg_name (i := 4) nd rfl (Or.inl rfl))) (fun _ _ _ _ _ => (pts_one (pt_cmpR opNotIn (pv 4) (pv 1) (by with_unfolding_all rfl)))) (fun _ _ _ _ _ => (pv 4))) (pe_lst pa_nil) (nomark _))))), read_Lof_k01 h⟩
theorem sc_Ldue_k01 : FnScope N_Ldue_k01 ["_law_thing_here"] (defScope s_Ldue_k01) := ⟨rfl, rfl, rfl, by decide +kernel, rfl, by decide +kernel, by decide +kernel⟩
theorem ok_Ldue_k01 (D : DefAt K mg "_law_due" s_Ldue_k01 ["_law_thing_here"]) (T : Txt K mg a) (c_Lof_k01 : Cal P w K mg base 1 "_law_of" (sp_Lof_k01 K a)) : Cal P w K mg base 2 "_law_due" (sp_Ldue_k01 K a) :=
  D.cal sc_Ldue_k01 (fun vs H Q E h => by (iterate 12 (first | done | (obtain ⟨rfl, _⟩ := h; rfl) | (obtain ⟨_, h⟩ := h)))) fun f cdv A outer s H vs Q E hr h => by
    have hu := hu_of hr
    have hu64 := hu_room hr
    have nd := sc_Ldue_k01.nd
    exact ⟨t_Ldue_k01 K a, (pss_cons (ps_asg (pe_sT (by decide +kernel)) (pg_name (i := 1) nd rfl (Or.inl rfl)))
    (pss_one (ps_ret (pe_lst (pa_cons (pe_k c_Lof_k01 hr (by decide) rfl (pa_cons (pv 0) (pa_cons (pe_sT (by decide +kernel)) (pa_cons pe_int (pa_cons pe_int pa_nil))))) (pa_cons (pe_k c_Lof_k01 hr (by decide) rfl (pa_cons (pv 0) (pa_cons (pe_sT (by decide +kernel)) (pa_cons pe_int (pa_cons pe_int pa_nil))))) (pa_cons (pe_k c_Lof_k01 hr (by decide) rfl (pa_cons (pv 0) (pa_cons (pv 1) (pa_cons pe_int (pa_cons pe_int pa_nil))))) pa_nil))))))), read_Ldue_k01 h⟩
theorem sc_law_k01 : FnScope N_law_k01 ["_law_script"] (defScope s_law_k01) := ⟨rfl, rfl, rfl, by decide +kernel, rfl, by decide +kernel, by decide +kernel⟩
theorem ok_law_k01 {f : Addr} {fd : FuncData} (F : Fun K "law" "law" s_law_k01 f fd) (T : Txt K mg a) (c_Lthing_k01 : Cal P w K mg base 2 "_law_thing" (sp_Lthing_k01 K a)) (c_is_name : Cal P w K mg base 1 "is_name" (sp_is_name K a)) (c_is_sight : Cal P w K mg base 1 "is_sight" (sp_is_sight K a)) (c_is_row : Cal P w K mg base 1 "is_row" (sp_is_row K a)) (c_Ldue_k01 : Cal P w K mg base 2 "_law_due" (sp_Ldue_k01 K a)) : FnOk P w K mg base CX0 3 f fd ["_law_script"] (sp_law K a) :=
  F.ok sc_law_k01 (fun vs H Q E h => by (iterate 12 (first | done | (obtain ⟨rfl, _⟩ := h; rfl) | (obtain ⟨_, h⟩ := h)))) fun cdv A outer s H vs Q E hr h => by
    have hu := hu_of hr
    have hu64 := hu_room hr
    have nd := sc_law_k01.nd
    exact ⟨t_law_k01 K a, (pss_cons (ps_for PassesOwn.never rfl (pi_list (pe_op opAdd (pv 0) (pe_slice slA (pv 0) po_none (po_some pe_int)))) (pg_name (i := 1) nd rfl (Or.inl rfl)) (pss_cons (ps_asg (pe_k c_Lthing_k01 hr (by decide) rfl (pa_cons (pv 1) pa_nil)) (pg_name (i := 2) nd rfl (Or.inl rfl)))
    (pss_cons (ps_asg (pe_lst (pa_cons (pe_k c_is_row hr (by decide) rfl (pa_cons (pv 2) pa_nil)) (pa_cons (pe_k c_is_sight hr (by decide) rfl (pa_cons (pv 2) pa_nil)) (pa_cons (pe_k c_is_name hr (by decide) rfl (pa_cons (pv 2) pa_nil)) pa_nil)))) (pg_name (i := 3) nd rfl (Or.inl rfl)))
    (pss_one (ps_if (PW.pt (pw_or (pt_cmpR (opNe hu64) (pv 3) (pe_k c_Ldue_k01 hr (by decide) rfl (pa_cons (pv 2) pa_nil)) (nomark _)) (pw_or1 (pt_cmpR (opNe hu64) (pe_lc (own := [("_law_one", 4)]) (g := (gName 4)) (tt := (tNot (tB (tCB (rIsiA K) (tCons (tVar 4) (tCons (tC (.ty "bool")) tNil)))))) rfl nd (pi_list (pv 3)) (blkOk_by (N := N_law_k01) (sc := defScope s_law_k01) (by decide +kernel)) (fun _ _ _ _ _ => (pg_name (i := 4) nd rfl (Or.inl rfl))) (fun _ _ _ _ _ => (pts_one (pt_not (pt_val (pe_callB c_isi (by rfl) T.b_isinstance (by decide +kernel) (pa_cons (pv 4) (pa_cons (pe_bltn rfl T.b_bool (by decide +kernel) rfl) pa_nil))))))) (fun _ _ _ _ _ => (pv 4))) (pe_lst pa_nil) (nomark _))))) (pss_one (ps_ret pe_bl)) pss_nil)))))
    (pss_one (ps_ret (pe_cmpR (opEq hu64) (pe_lst (pa_cons (pe_k c_is_row hr (by decide) rfl (pa_cons (pe_sT (by decide +kernel)) pa_nil)) (pa_cons (pe_k c_is_sight hr (by decide) rfl (pa_cons (pe_sT (by decide +kernel)) pa_nil)) (pa_cons (pe_k c_is_name hr (by decide) rfl (pa_cons (pe_sT (by decide +kernel)) pa_nil)) pa_nil)))) (pe_lst (pa_cons pe_bl (pa_cons pe_bl (pa_cons pe_bl pa_nil)))) (nomark _))))), read_law_k01 h⟩
theorem all_mk {l : PySem.W.OpenLaw} {w : World} {K : Frag} {h : Heap} {mg : Str → Option Value} {fa : Addr} (X : K.In h) (G : h.Ns mainGlobals mg) (hfa : mg "law" = some (.ref fa))
    {f_is_name : Addr} {oc_is_name : Value} {od_is_name an_is_name : Option Addr} {sl_is_name : Array (Option Value)} {kV_is_name dc_is_name pm_is_name cd_is_name ct_is_name : Value}
    {f_is_row : Addr} {oc_is_row : Value} {od_is_row an_is_row : Option Addr} {sl_is_row : Array (Option Value)} {kV_is_row dc_is_row pm_is_row cd_is_row ct_is_row : Value}
    {f_is_sight : Addr} {oc_is_sight : Value} {od_is_sight an_is_sight : Option Addr} {sl_is_sight : Array (Option Value)} {kV_is_sight dc_is_sight pm_is_sight cd_is_sight ct_is_sight : Value}
    {f_Lmixed : Addr} {oc_Lmixed : Value} {od_Lmixed an_Lmixed : Option Addr} {sl_Lmixed : Array (Option Value)} {kV_Lmixed dc_Lmixed pm_Lmixed cd_Lmixed ct_Lmixed : Value}
    {f_Lthing_k01 : Addr} {oc_Lthing_k01 : Value} {od_Lthing_k01 an_Lthing_k01 : Option Addr} {sl_Lthing_k01 : Array (Option Value)} {kV_Lthing_k01 dc_Lthing_k01 pm_Lthing_k01 cd_Lthing_k01 ct_Lthing_k01 : Value}
    {f_Lof_k01 : Addr} {oc_Lof_k01 : Value} {od_Lof_k01 an_Lof_k01 : Option Addr} {sl_Lof_k01 : Array (Option Value)} {kV_Lof_k01 dc_Lof_k01 pm_Lof_k01 cd_Lof_k01 ct_Lof_k01 : Value}
    {f_Ldue_k01 : Addr} {oc_Ldue_k01 : Value} {od_Ldue_k01 an_Ldue_k01 : Option Addr} {sl_Ldue_k01 : Array (Option Value)} {kV_Ldue_k01 dc_Ldue_k01 pm_Ldue_k01 cd_Ldue_k01 ct_Ldue_k01 : Value}
    {f_law_k01 : Addr} {oc_law_k01 : Value} {od_law_k01 an_law_k01 : Option Addr} {sl_law_k01 : Array (Option Value)} {kV_law_k01 dc_law_k01 pm_law_k01 cd_law_k01 ct_law_k01 : Value}
    {v_g_COLOURS : Value}
    {v_g_GAP : Value}
    {v_g_LETTERS : Value}
    {v_g_LONGEST_NAME : Value}
    {v_g_LONGEST_ROUND : Value}
    {v_g_LONGEST_SIGHT : Value}
    (a_is_name : PySem.W.nsIn K mainGlobals "is_name" = some (some (.ref f_is_name))) (l_is_name : K.lookup f_is_name = some ⟨oc_is_name, od_is_name, .func (PySem.W.fnOf "is_name" "is_name" (defArgs s_is_name) (defBody s_is_name) (defScope s_is_name) .none kV_is_name dc_is_name pm_is_name an_is_name cd_is_name ct_is_name), sl_is_name⟩) (c_is_name : PySem.W.codeIn K cd_is_name "is_name" = true) (k_is_name : PySem.W.keepIn K (.ref f_is_name) = true)
    (a_is_row : PySem.W.nsIn K mainGlobals "is_row" = some (some (.ref f_is_row))) (l_is_row : K.lookup f_is_row = some ⟨oc_is_row, od_is_row, .func (PySem.W.fnOf "is_row" "is_row" (defArgs s_is_row) (defBody s_is_row) (defScope s_is_row) .none kV_is_row dc_is_row pm_is_row an_is_row cd_is_row ct_is_row), sl_is_row⟩) (c_is_row : PySem.W.codeIn K cd_is_row "is_row" = true) (k_is_row : PySem.W.keepIn K (.ref f_is_row) = true)
    (a_is_sight : PySem.W.nsIn K mainGlobals "is_sight" = some (some (.ref f_is_sight))) (l_is_sight : K.lookup f_is_sight = some ⟨oc_is_sight, od_is_sight, .func (PySem.W.fnOf "is_sight" "is_sight" (defArgs s_is_sight) (defBody s_is_sight) (defScope s_is_sight) .none kV_is_sight dc_is_sight pm_is_sight an_is_sight cd_is_sight ct_is_sight), sl_is_sight⟩) (c_is_sight : PySem.W.codeIn K cd_is_sight "is_sight" = true) (k_is_sight : PySem.W.keepIn K (.ref f_is_sight) = true)
    (a_Lmixed : PySem.W.nsIn K mainGlobals "_law_mixed" = some (some (.ref f_Lmixed))) (l_Lmixed : K.lookup f_Lmixed = some ⟨oc_Lmixed, od_Lmixed, .func (PySem.W.fnOf "_law_mixed" "_law_mixed" (defArgs s_Lmixed) (defBody s_Lmixed) (defScope s_Lmixed) .none kV_Lmixed dc_Lmixed pm_Lmixed an_Lmixed cd_Lmixed ct_Lmixed), sl_Lmixed⟩) (c_Lmixed : PySem.W.codeIn K cd_Lmixed "_law_mixed" = true) (k_Lmixed : PySem.W.keepIn K (.ref f_Lmixed) = true)
    (a_Lthing_k01 : PySem.W.nsIn K mainGlobals "_law_thing" = some (some (.ref f_Lthing_k01))) (l_Lthing_k01 : K.lookup f_Lthing_k01 = some ⟨oc_Lthing_k01, od_Lthing_k01, .func (PySem.W.fnOf "_law_thing" "_law_thing" (defArgs s_Lthing_k01) (defBody s_Lthing_k01) (defScope s_Lthing_k01) .none kV_Lthing_k01 dc_Lthing_k01 pm_Lthing_k01 an_Lthing_k01 cd_Lthing_k01 ct_Lthing_k01), sl_Lthing_k01⟩) (c_Lthing_k01 : PySem.W.codeIn K cd_Lthing_k01 "_law_thing" = true) (k_Lthing_k01 : PySem.W.keepIn K (.ref f_Lthing_k01) = true)
    (a_Lof_k01 : PySem.W.nsIn K mainGlobals "_law_of" = some (some (.ref f_Lof_k01))) (l_Lof_k01 : K.lookup f_Lof_k01 = some ⟨oc_Lof_k01, od_Lof_k01, .func (PySem.W.fnOf "_law_of" "_law_of" (defArgs s_Lof_k01) (defBody s_Lof_k01) (defScope s_Lof_k01) .none kV_Lof_k01 dc_Lof_k01 pm_Lof_k01 an_Lof_k01 cd_Lof_k01 ct_Lof_k01), sl_Lof_k01⟩) (c_Lof_k01 : PySem.W.codeIn K cd_Lof_k01 "_law_of" = true) (k_Lof_k01 : PySem.W.keepIn K (.ref f_Lof_k01) = true)
    (a_Ldue_k01 : PySem.W.nsIn K mainGlobals "_law_due" = some (some (.ref f_Ldue_k01))) (l_Ldue_k01 : K.lookup f_Ldue_k01 = some ⟨oc_Ldue_k01, od_Ldue_k01, .func (PySem.W.fnOf "_law_due" "_law_due" (defArgs s_Ldue_k01) (defBody s_Ldue_k01) (defScope s_Ldue_k01) .none kV_Ldue_k01 dc_Ldue_k01 pm_Ldue_k01 an_Ldue_k01 cd_Ldue_k01 ct_Ldue_k01), sl_Ldue_k01⟩) (c_Ldue_k01 : PySem.W.codeIn K cd_Ldue_k01 "_law_due" = true) (k_Ldue_k01 : PySem.W.keepIn K (.ref f_Ldue_k01) = true)
    (a_law_k01 : PySem.W.nsIn K mainGlobals "law" = some (some (.ref f_law_k01))) (l_law_k01 : K.lookup f_law_k01 = some ⟨oc_law_k01, od_law_k01, .func (PySem.W.fnOf "law" "law" (defArgs s_law_k01) (defBody s_law_k01) (defScope s_law_k01) .none kV_law_k01 dc_law_k01 pm_law_k01 an_law_k01 cd_law_k01 ct_law_k01), sl_law_k01⟩) (c_law_k01 : PySem.W.codeIn K cd_law_k01 "law" = true) (k_law_k01 : PySem.W.keepIn K (.ref f_law_k01) = true)
    (b_all : PySem.W.nsIn K mainGlobals "all" = some none)
    (b_bool : PySem.W.nsIn K mainGlobals "bool" = some none)
    (b_isinstance : PySem.W.nsIn K mainGlobals "isinstance" = some none)
    (b_len : PySem.W.nsIn K mainGlobals "len" = some none)
    (b_range : PySem.W.nsIn K mainGlobals "range" = some none)
    (b_str : PySem.W.nsIn K mainGlobals "str" = some none)
    (g_COLOURS : PySem.W.nsIn K mainGlobals "COLOURS" = some (some v_g_COLOURS)) (r_g_COLOURS : RelV (T [46, 103, 114, 119]) v_g_COLOURS)
    (g_GAP : PySem.W.nsIn K mainGlobals "GAP" = some (some v_g_GAP)) (r_g_GAP : RelV (T [63]) v_g_GAP)
    (g_LETTERS : PySem.W.nsIn K mainGlobals "LETTERS" = some (some v_g_LETTERS)) (r_g_LETTERS : RelV (T [97, 98, 99, 100, 101, 102, 103, 104, 105, 106, 107, 108, 109, 110, 111, 112, 113, 114, 115, 116, 117, 118, 119, 120, 121, 122]) v_g_LETTERS)
    (g_LONGEST_NAME : PySem.W.nsIn K mainGlobals "LONGEST_NAME" = some (some v_g_LONGEST_NAME)) (r_g_LONGEST_NAME : RelV (.int 8) v_g_LONGEST_NAME)
    (g_LONGEST_ROUND : PySem.W.nsIn K mainGlobals "LONGEST_ROUND" = some (some v_g_LONGEST_ROUND)) (r_g_LONGEST_ROUND : RelV (.int 30) v_g_LONGEST_ROUND)
    (g_LONGEST_SIGHT : PySem.W.nsIn K mainGlobals "LONGEST_SIGHT" = some (some v_g_LONGEST_SIGHT)) (r_g_LONGEST_SIGHT : RelV (.int 100) v_g_LONGEST_SIGHT) :
    ∃ fd : FuncData, (∀ (s : Shared) (u : Value), BindsTo s fd ⟨[u], []⟩ [("_law_script", u)]) ∧ ∀ base : Heap, K.In base → base.Ns mainGlobals mg → FnOk l.prog w K mg base CX0 3 fa fd ["_law_script"] (sp_law K adr0) := by
  have D_is_name : DefAt K mg "is_name" s_is_name ["thing"] := def_mk X G a_is_name l_is_name c_is_name k_is_name (fun _ _ _ _ _ _ us hl => match us, hl with | [_], _ => rfl)
  have D_is_row : DefAt K mg "is_row" s_is_row ["thing"] := def_mk X G a_is_row l_is_row c_is_row k_is_row (fun _ _ _ _ _ _ us hl => match us, hl with | [_], _ => rfl)
  have D_is_sight : DefAt K mg "is_sight" s_is_sight ["thing"] := def_mk X G a_is_sight l_is_sight c_is_sight k_is_sight (fun _ _ _ _ _ _ us hl => match us, hl with | [_], _ => rfl)
  have D_Lmixed : DefAt K mg "_law_mixed" s_Lmixed ["_law_cell", "_law_k"] := def_mk X G a_Lmixed l_Lmixed c_Lmixed k_Lmixed (fun _ _ _ _ _ _ us hl => match us, hl with | [_, _], _ => rfl)
  have D_Lthing_k01 : DefAt K mg "_law_thing" s_Lthing_k01 ["_law_cell"] := def_mk X G a_Lthing_k01 l_Lthing_k01 c_Lthing_k01 k_Lthing_k01 (fun _ _ _ _ _ _ us hl => match us, hl with | [_], _ => rfl)
  have D_Lof_k01 : DefAt K mg "_law_of" s_Lof_k01 ["_law_thing_here", "_law_signs", "_law_least", "_law_most"] := def_mk X G a_Lof_k01 l_Lof_k01 c_Lof_k01 k_Lof_k01 (fun _ _ _ _ _ _ us hl => match us, hl with | [_, _, _, _], _ => rfl)
  have D_Ldue_k01 : DefAt K mg "_law_due" s_Ldue_k01 ["_law_thing_here"] := def_mk X G a_Ldue_k01 l_Ldue_k01 c_Ldue_k01 k_Ldue_k01 (fun _ _ _ _ _ _ us hl => match us, hl with | [_], _ => rfl)
  have F := law_mk X G hfa a_law_k01 l_law_k01 c_law_k01 k_law_k01
  have T_b_all : mg "all" = none := PySem.W.mg_none_of X G b_all
  have T_b_bool : mg "bool" = none := PySem.W.mg_none_of X G b_bool
  have T_b_isinstance : mg "isinstance" = none := PySem.W.mg_none_of X G b_isinstance
  have T_b_len : mg "len" = none := PySem.W.mg_none_of X G b_len
  have T_b_range : mg "range" = none := PySem.W.mg_none_of X G b_range
  have T_b_str : mg "str" = none := PySem.W.mg_none_of X G b_str
  have T_g_COLOURS : GV mg "COLOURS" (T [46, 103, 114, 119]) := gv_mk X G g_COLOURS r_g_COLOURS
  have T_g_GAP : GV mg "GAP" (T [63]) := gv_mk X G g_GAP r_g_GAP
  have T_g_LETTERS : GV mg "LETTERS" (T [97, 98, 99, 100, 101, 102, 103, 104, 105, 106, 107, 108, 109, 110, 111, 112, 113, 114, 115, 116, 117, 118, 119, 120, 121, 122]) := gv_mk X G g_LETTERS r_g_LETTERS
  have T_g_LONGEST_NAME : GV mg "LONGEST_NAME" (.int 8) := gv_mk X G g_LONGEST_NAME r_g_LONGEST_NAME
  have T_g_LONGEST_ROUND : GV mg "LONGEST_ROUND" (.int 30) := gv_mk X G g_LONGEST_ROUND r_g_LONGEST_ROUND
  have T_g_LONGEST_SIGHT : GV mg "LONGEST_SIGHT" (.int 100) := gv_mk X G g_LONGEST_SIGHT r_g_LONGEST_SIGHT
  have T : Txt K mg adr0 := ⟨T_b_all, T_b_bool, T_b_isinstance, T_b_len, T_b_range, T_b_str, T_g_COLOURS, T_g_GAP, T_g_LETTERS, T_g_LONGEST_NAME, T_g_LONGEST_ROUND, T_g_LONGEST_SIGHT⟩
  refine ⟨PySem.W.fnOf "law" "law" (defArgs s_law_k01) (defBody s_law_k01) (defScope s_law_k01) .none kV_law_k01 dc_law_k01 pm_law_k01 an_law_k01 cd_law_k01 ct_law_k01, fun s v => .of_eq rfl, fun base _ _ => ?_⟩
  have c_is_name : Cal l.prog w K mg base 1 "is_name" (sp_is_name K adr0) := ok_is_name D_is_name T 
  have c_is_row : Cal l.prog w K mg base 1 "is_row" (sp_is_row K adr0) := ok_is_row D_is_row T 
  have c_is_sight : Cal l.prog w K mg base 1 "is_sight" (sp_is_sight K adr0) := ok_is_sight D_is_sight T 
  have c_Lmixed : Cal l.prog w K mg base 1 "_law_mixed" (sp_Lmixed K adr0) := ok_Lmixed D_Lmixed T 
  have c_Lof_k01 : Cal l.prog w K mg base 1 "_law_of" (sp_Lof_k01 K adr0) := ok_Lof_k01 D_Lof_k01 T 
  have c_Lthing_k01 : Cal l.prog w K mg base 2 "_law_thing" (sp_Lthing_k01 K adr0) := ok_Lthing_k01 D_Lthing_k01 T c_Lmixed
  have c_Ldue_k01 : Cal l.prog w K mg base 2 "_law_due" (sp_Ldue_k01 K adr0) := ok_Ldue_k01 D_Ldue_k01 T c_Lof_k01
  exact ok_law_k01 F T c_Lthing_k01 c_is_name c_is_sight c_is_row c_Ldue_k01
end
end Bw
open PySem PySem.W PyProof.Rows
set_option maxRecDepth 100000 in
set_option maxHeartbeats 0 in
theorem PySem.Challenge.cw_beamwatch_k01_kinds_holds : PySem.Challenge.rw_beamwatch_k01_kinds.Holds := by
  w_on; o_law; k_head; (case hw => w_witness2)
  k_fill
  refine Bw.walk_end (n := 3) (l := PySem.Challenge.rw_beamwatch_k01_kinds) rfl rfl ⟨rfl, by decide, by decide⟩ (fun w h Y => PySem.W.kIn_of Y) ?F
  case F =>
    intro w mg fa h KX G hmg
    refine' Bw.all_mk KX G hmg ?a_is_name ?l_is_name ?c_is_name ?k_is_name ?a_is_row ?l_is_row ?c_is_row ?k_is_row ?a_is_sight ?l_is_sight ?c_is_sight ?k_is_sight ?a_Lmixed ?l_Lmixed ?c_Lmixed ?k_Lmixed ?a_Lthing_k01 ?l_Lthing_k01 ?c_Lthing_k01 ?k_Lthing_k01 ?a_Lof_k01 ?l_Lof_k01 ?c_Lof_k01 ?k_Lof_k01 ?a_Ldue_k01 ?l_Ldue_k01 ?c_Ldue_k01 ?k_Ldue_k01 ?a_law_k01 ?l_law_k01 ?c_law_k01 ?k_law_k01 ?b_all ?b_bool ?b_isinstance ?b_len ?b_range ?b_str ?g_COLOURS ?r_g_COLOURS ?g_GAP ?r_g_GAP ?g_LETTERS ?r_g_LETTERS ?g_LONGEST_NAME ?r_g_LONGEST_NAME ?g_LONGEST_ROUND ?r_g_LONGEST_ROUND ?g_LONGEST_SIGHT ?r_g_LONGEST_SIGHT
    (case a_is_name => k_is)
    (case l_is_name => k_is)
    (case c_is_name => k_is)
    (case k_is_name => k_is)
    (case a_is_row => k_is)
    (case l_is_row => k_is)
    (case c_is_row => k_is)
    (case k_is_row => k_is)
    (case a_is_sight => k_is)
    (case l_is_sight => k_is)
    (case c_is_sight => k_is)
    (case k_is_sight => k_is)
    (case a_Lmixed => k_is)
    (case l_Lmixed => k_is)
    (case c_Lmixed => k_is)
    (case k_Lmixed => k_is)
    (case a_Lthing_k01 => k_is)
    (case l_Lthing_k01 => k_is)
    (case c_Lthing_k01 => k_is)
    (case k_Lthing_k01 => k_is)
    (case a_Lof_k01 => k_is)
    (case l_Lof_k01 => k_is)
    (case c_Lof_k01 => k_is)
    (case k_Lof_k01 => k_is)
    (case a_Ldue_k01 => k_is)
    (case l_Ldue_k01 => k_is)
    (case c_Ldue_k01 => k_is)
    (case k_Ldue_k01 => k_is)
    (case a_law_k01 => k_is)
    (case l_law_k01 => k_is)
    (case c_law_k01 => k_is)
    (case k_law_k01 => k_is)
    (case b_all => k_is)
    (case b_bool => k_is)
    (case b_isinstance => k_is)
    (case b_len => k_is)
    (case b_range => k_is)
    (case b_str => k_is)
    (case g_COLOURS => k_is)
    (case r_g_COLOURS => exact Bw.relT (by decide +kernel))
    (case g_GAP => k_is)
    (case r_g_GAP => exact Bw.relT (by decide +kernel))
    (case g_LETTERS => k_is)
    (case r_g_LETTERS => exact Bw.relT (by decide +kernel))
    (case g_LONGEST_NAME => k_is)
    (case r_g_LONGEST_NAME => exact ⟨_, rfl⟩)
    (case g_LONGEST_ROUND => k_is)
    (case r_g_LONGEST_ROUND => exact ⟨_, rfl⟩)
    (case g_LONGEST_SIGHT => k_is)
    (case r_g_LONGEST_SIGHT => exact ⟨_, rfl⟩)
