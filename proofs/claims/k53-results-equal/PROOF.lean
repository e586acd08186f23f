import PyProof.Rows.All
import Wide.All
import OpenK.AllK
import Wide.FinOn
import HandS.ForMost
import HandS.Wide
import HandS.Walk
import HandS.IsInst
import HandS.More
import HandS.RaiseMore
import HandS.Codes
import HandS.Star
import HandS.Deep
import HandS.SetBool
import HandS.SlotsOwn
import HandS.Defaults
import KE.GoesEnumKw
import KE.GoesMore
import HandS.DictComp
import HandS.FStr
import HandS.MakeKwOnly
import HandS.Zip
import HandS.Nested
import HandS.ExcInit
import HandS.ClsMeth
import KE.KExcSuper
import HandS.ExcOwn
import HandS.ExcField
import HandS.CallSlots
import HandS.TupAny
import HandS.EndBits
import KE.RegKSuper
import PySem.Challenge.RW_midfall_k53_results_equal
set_option Elab.async false
set_option linter.all false
set_option maxRecDepth 100000
set_option maxHeartbeats 4000000
namespace Mf
open PySem L2

/-! ### heaps: all but one object stands -/
def Kp (p : Addr) (H H' : Hp) : Prop := ∀ b o, b ≠ p → H b = some o → H' b = some o
theorem Kp.refl (p : Addr) (H : Hp) : Kp p H H := fun _ _ _ h => h
theorem Kp.trans {p : Addr} {H H1 H2 : Hp} (a : Kp p H H1) (b : Kp p H1 H2) : Kp p H H2 := fun x o n h => b x o n (a x o n h)
theorem Kp.of {p : Addr} {H H' : Hp} (e : Same H H') : Kp p H H' := fun b o _ h => e b o h
theorem Kp.new {p q : Addr} {H : Hp} {o : HO} (h : H q = none) : Kp p H (upd H q o) := fun b u _ e => by
  rw [upd_ne (ne_of_none e h)]; exact e
theorem Kp.upd {p : Addr} {H : Hp} {o : HO} : Kp p H (L2.upd H p o) := fun b u n e => by
  rw [upd_ne n]; exact e
theorem Same.new {q : Addr} {H : Hp} {o : HO} (h : H q = none) : Same H (upd H q o) := fun b u e => by
  rw [upd_ne (ne_of_none e h)]; exact e
/-- a local object may change -/
theorem Same.mut {H H' : Hp} {p : Addr} {o : HO} (e : Same H H') (h : H p = none) : Same H (upd H' p o) := fun a u ha => by
  rw [upd_ne (ne_of_none ha h)]; exact e a u ha
theorem Kp.mut {H H' : Hp} {q p : Addr} {o : HO} (e : Kp q H H') (h : H p = none) : Kp q H (L2.upd H' p o) := fun a u n ha => by
  rw [upd_ne (ne_of_none ha h)]; exact e a u n ha
theorem _root_.L2.Same.tr {H H1 H2 : Hp} (a : Same H H1) (b : Same H1 H2) : Same H H2 := fun x o h => b x o (a x o h)
theorem _root_.L2.Same.rf (H : Hp) : Same H H := fun _ _ h => h
def hid (p : Addr) (H : Hp) : Hp := fun b => if b = p then none else H b
theorem hid_ne {p b : Addr} {H : Hp} (h : b ≠ p) : hid p H b = H b := by unfold hid; rw [if_neg h]
theorem hid_some {p b : Addr} {H : Hp} {o : HO} (h : hid p H b = some o) : b ≠ p ∧ H b = some o := by
  unfold hid at h
  by_cases e : b = p
  · rw [if_pos e] at h; cases h
  · rw [if_neg e] at h; exact ⟨e, h⟩
theorem hid_same {p : Addr} {H : Hp} : Same (hid p H) H := fun _ _ h => (hid_some h).2
theorem Kp.hid {p : Addr} {H H' : Hp} (e : Kp p H H') : Same (hid p H) (hid p H') := fun b o h => by
  obtain ⟨n, q⟩ := hid_some h
  rw [hid_ne n]; exact e b o n q

/-! ### defs as they stand, and what they do -/
def DefAt (K : PySem.W.Frag) (mg : Str → Option Value) (x : Str) (st : Stmt) (ps : List Str) : Prop := ∃ f fd, Fun K x x st f fd ∧ mg x = some (.ref f) ∧ Binds K fd ps []
def Does (P : Program) (w : World) (K : PySem.W.Frag) (mg : Str → Option Value) (base : Heap) (CX : CXT) (lv : Nat) (x : Str) (ps : List Str) (sp : Sp) : Prop :=
  ∃ f fd, FnOk P w K mg base CX lv f fd ps sp ∧ mg x = some (.ref f) ∧ PySem.W.keepIn K (.ref f) = true ∧ Binds K fd ps []
theorem defAt_mk {K : PySem.W.Frag} {h : Heap} {mg : Str → Option Value} {x : Str} {st : Stmt} {ps : List Str} {f : Addr} {oc : Value} {od an : Option Addr} {osl : Array (Option Value)} {kV doc pm cdv ct : Value} (X : K.In h) (G : h.Ns mainGlobals mg)
    (a : PySem.W.nsIn K mainGlobals x = some (some (.ref f))) (l : K.lookup f = some ⟨oc, od, .func (PySem.W.fnOf x x (defArgs st) (defBody st) (defScope st) .none kV doc pm an cdv ct), osl⟩)
    (c : PySem.W.codeIn K cdv x = true) (k : PySem.W.keepIn K (.ref f) = true)
    (hb : ∀ (kV doc pm : Value) (an : Option Addr) (cdv ct : Value) (us : List Value), us.length = ps.length → bindArgs (PySem.W.fnOf x x (defArgs st) (defBody st) (defScope st) .none kV doc pm an cdv ct) ⟨us, []⟩ = pure (ps.zip us)) : DefAt K mg x st ps :=
  ⟨f, _, fun_mk l c k, PySem.W.mg_of X G a, (fun_mk l c k).binds hb⟩
/-! ### the law's own source of draws -/
/-- at p: the great number, the seed, the count -/
def Src (H : Hp) (p : Addr) (c : Nat) : Prop := ∃ g s : Int, H p = some (.lst [.int g, .int s, .int (c : Int)]) ∧ 0 ≤ s ∧ s < 2147483647
theorem Src.same {H H' : Hp} {p : Addr} {c : Nat} (h : Src H p c) (e : Same H H') : Src H' p c := by
  obtain ⟨g, s, h1, h2⟩ := h
  exact ⟨g, s, e _ _ h1, h2⟩
def LIM : Nat := 1000000000

def sp_source (K : PySem.W.Frag) : Sp := fun vs H Q _ => ∃ (a : Addr) (ns : List Int), vs = [.ref a] ∧ SqL K H a (ns.map V.int) ∧ ns.length ≤ 63 ∧
  ∀ p H', Same H H' → H p = none → Src H' p 0 → Q (.ref p) H'
def sp_draw : Sp := fun vs H Q _ => ∃ (p : Addr) (c : Nat) (m : Int), vs = [.ref p, .int m] ∧ Src H p c ∧ c < LIM ∧ 0 < m ∧ m < 2 ^ 1000 ∧
  ∀ (v : Int) (c' : Nat) (o : HO), 0 ≤ v → v < m → c' ≤ c + 1 → Src (upd H p o) p c' → Q (.int v) (upd H p o)
def sp_law (K : PySem.W.Frag) : Sp := fun vs H Q _ => ∃ (a : Addr) (ns : List Int), vs = [.ref a] ∧ SqL K H a (ns.map V.int) ∧ ns.length ≤ 63 ∧ ∀ H', Q (.bl true) H'
theorem use_source {K : PySem.W.Frag} {a : Addr} {ns : List Int} {H : Hp} {Q : VK} {E : XK} (h : SqL K H a (ns.map V.int)) (hl : ns.length ≤ 63) (g : ∀ p H', Same H H' → H p = none → Src H' p 0 → Q (.ref p) H') : sp_source K ([.ref a] ++ []) H Q E := ⟨a, ns, rfl, h, hl, g⟩
end Mf

namespace Mf
open PySem L2 PyProof.Rows
/-! ### a reading, step by step, from what is known -/
section
variable {K : PySem.W.Frag} {σ : L2.St} {H : Hp} {Q : VK} {QT : Bool → Hp → Prop} {QA : List V → Hp → Prop} {D : Ends} {ta tb tc te : TE} {tt tu : TT} {tr tA : TA} {t1 t2 : TS} {i j : Int} {v x y : V} {b : Bool} {r r' : R2} {n m : Nat} {p q a : Addr} {xs ys : List V}
theorem w_var {k : Nat} (h : σ[k]? = some (some v)) (g : Q v H) : tVar k σ H Q := ⟨v, h, g⟩
theorem w_c (g : Q v H) : tC v σ H Q := g
theorem w_op (g : ta σ H fun x H1 => tb σ H1 fun y H2 => r x y H2 Q) : tOp r ta tb σ H Q := g
theorem w_un {r : V → Hp → VK → Prop} (g : ta σ H fun x H1 => r x H1 Q) : tUn r ta σ H Q := g
theorem w_I0 {f : Int → Int → V} (g : Q (f i j) H) : rI0 f (.int i) (.int j) H Q := ⟨i, j, rfl, rfl, g⟩
theorem w_I {C : Int → Int → Prop} {f : Int → Int → V} (h : C i j) (g : Q (f i j) H) : rI C f (.int i) (.int j) H Q := ⟨i, j, rfl, rfl, h, g⟩
theorem w_U {f : Int → V} (g : Q (f i) H) : rU f (.int i) H Q := ⟨i, rfl, g⟩
theorem w_eq (h : scal x y = true) (g : Q (.bl (decide (x = y))) H) : rEq x y H Q := ⟨h, g⟩
theorem w_ne (h : scal x y = true) (g : Q (.bl (!decide (x = y))) H) : rNe x y H Q := ⟨h, g⟩
theorem w_test (g : te σ H fun x H1 => ∃ k, x = .bl k ∧ QT k H1) : tTest te σ H QT := g
theorem w_tb (g : te σ H fun x H1 => ∃ k, x = .bl k ∧ QT k H1) : tB te σ H QT := g
theorem w_bl {R : Bool → Prop} (g : R b) : ∃ k, V.bl b = .bl k ∧ R k := ⟨b, rfl, g⟩
theorem w_and (g : tt σ H fun c H1 => if c = true then tu σ H1 QT else QT false H1) : tAnd tt tu σ H QT := g
theorem w_or (g : tt σ H fun c H1 => if c = true then QT true H1 else tu σ H1 QT) : tOr tt tu σ H QT := g
theorem w_not (g : tt σ H fun c H1 => QT (!c) H1) : tNot tt σ H QT := g
theorem w_yes (g : QT true H) : tYes σ H QT := g
theorem w_andV (g : ta σ H fun x H1 => ∃ c, x = .bl c ∧ if c = true then tb σ H1 Q else Q (.bl false) H1) : tAndV ta tb σ H Q := g
theorem w_orV (g : ta σ H fun x H1 => ∃ c, x = .bl c ∧ if c = true then Q (.bl true) H1 else tb σ H1 Q) : tOrV ta tb σ H Q := g
theorem w_notV (g : ta σ H fun x H1 => ∃ c, x = .bl c ∧ Q (.bl (!c)) H1) : tNotV ta σ H Q := g
theorem w_ifE (g : tt σ H fun c H1 => if c = true then ta σ H1 Q else tb σ H1 Q) : tIf tt ta tb σ H Q := g
theorem w_chain (g : ta σ H fun x H1 => tb σ H1 fun y H2 => r x y H2 fun z H3 => ∃ k, z = .bl k ∧ (if k = true then tc σ H3 fun w' H4 => r' y w' H4 Q else Q (.bl false) H3)) : tChain r r' ta tb tc σ H Q := g

variable {nx bk ct : L2.St → Hp → Prop} {rt : VK}
theorem w_next (g : nx σ H) : tNext ⟨nx, rt, bk, ct⟩ σ H := g
theorem w_seq (g : t1 ⟨t2 ⟨nx, rt, bk, ct⟩, rt, bk, ct⟩ σ H) : tSeq t1 t2 ⟨nx, rt, bk, ct⟩ σ H := g
theorem w_cut (Mid : L2.St → Hp → Prop) (h : t1 ⟨Mid, rt, bk, ct⟩ σ H) (g : ∀ σ' H', Mid σ' H' → t2 ⟨nx, rt, bk, ct⟩ σ' H') : C8.tCut t1 t2 ⟨nx, rt, bk, ct⟩ σ H := ⟨Mid, h, g⟩
theorem w_drop (g : te σ H fun _ H1 => nx σ H1) : tDrop te ⟨nx, rt, bk, ct⟩ σ H := g
theorem w_ret (g : te σ H rt) : tRet te ⟨nx, rt, bk, ct⟩ σ H := g
theorem w_retN (g : rt .non H) : tRetN ⟨nx, rt, bk, ct⟩ σ H := g
theorem w_cont (g : ct σ H) : tCont ⟨nx, rt, bk, ct⟩ σ H := g
theorem w_brk (g : bk σ H) : tBreak ⟨nx, rt, bk, ct⟩ σ H := g
theorem w_ifS (g : tt σ H fun b H1 => if b = true then t1 D σ H1 else t2 D σ H1) : tIfS tt t1 t2 D σ H := g
theorem w_asg {gg : TG} (g : te σ H fun x H1 => gg x σ H1 nx) : tAsg te gg ⟨nx, rt, bk, ct⟩ σ H := g
theorem w_fix (g : t1 ⟨nx, rt, bk, ct⟩ σ H) (e : D = ⟨nx, rt, bk, ct⟩) : t1 D σ H := by rw [e]; exact g
theorem w_if {c A B : Prop} [Decidable c] (h1 : c → A) (h2 : ¬ c → B) : if (decide c) = true then A else B := by
  by_cases h : c
  · rw [decide_eq_true h]; exact iteT (h1 h)
  · rw [decide_eq_false h]; exact iteF (h2 h)
theorem w_ifn {c A B : Prop} [Decidable c] (h1 : ¬ c → A) (h2 : c → B) : if (!decide c) = true then A else B := by
  by_cases h : c
  · rw [decide_eq_true h]; exact iteF (h2 h)
  · rw [decide_eq_false h]; exact iteT (h1 h)
theorem w_ifb {c : Bool} {A B : Prop} (h1 : c = true → A) (h2 : c = false → B) : if c = true then A else B := by
  cases c
  · exact iteF (h2 rfl)
  · exact iteT (h1 rfl)
theorem w_aug {k : Nat} {ti : TIp} (h : σ[k]? = some (some v)) (g : te σ H fun y H1 => ti v y H1 fun z H2 => nx (σ.set k (some z)) H2) : tAug k te ti ⟨nx, rt, bk, ct⟩ σ H := ⟨v, h, g⟩
theorem w_ipI {f : Int → Int → Int} (g : Q (.int (f i j)) H) : ipI f (.int i) (.int j) H Q := ⟨i, j, rfl, rfl, g⟩
theorem w_par {k l : Nat} (g : tA σ H fun vs H1 => ∃ v w, vs = [v, w] ∧ nx ((σ.set k (some v)).set l (some w)) H1) : tPar k l tA ⟨nx, rt, bk, ct⟩ σ H := g
theorem w_fld {f : Str} (g : ta σ H fun x H1 => ∃ a C dx fs v, x = .ref a ∧ H1 a = some (.ins C dx fs) ∧ Cls K C ∧ NoAttr K C f ∧ fs.lookup f = some v ∧ Q v H1) : tFld K ta f σ H Q := g
theorem w_gname {k : Nat} {R : L2.St → Hp → Prop} (g : R (σ.set k (some v)) H) : gName k v σ H R := g
theorem w_gnil {R : L2.St → Hp → Prop} (g : R σ H) : gNil [] σ H R := ⟨rfl, g⟩
theorem w_gcons {t : TG} {u : TGs} {R : L2.St → Hp → Prop} (g : t v σ H fun σ' H' => u xs σ' H' R) : gCons t u (v :: xs) σ H R := ⟨v, xs, rfl, g⟩
theorem w_gtup {t : TGs} {R : L2.St → Hp → Prop} (h : SqT K H a xs) (hn : xs.length = n) (g : t xs σ H R) : gTup K n t (.ref a) σ H R := ⟨a, xs, rfl, h, hn, g⟩
theorem w_gsub {to ti : TE} {t : TSet} {R : L2.St → Hp → Prop} (g : to σ H fun o H1 => ti σ H1 fun i H2 => t o i v H2 fun H3 => R σ H3) : gSub to ti t v σ H R := g
theorem w_setL {k : Int} {R : Hp → Prop} (h : H p = some (.lst xs)) (hk : ixN xs.length k = some n) (g : R (upd H p (.lst (xs.set n v)))) : rSetL (.ref p) (.int k) v H R := ⟨p, xs, k, n, rfl, rfl, h, hk, g⟩
theorem w_two {R : V → V → Prop} (g : R x y) : ∃ v w, [x, y] = [v, w] ∧ R v w := ⟨x, y, rfl, g⟩
theorem w_nil (g : QA [] H) : tNil σ H QA := g
theorem w_cons (g : ta σ H fun x H1 => tr σ H1 fun xs H2 => QA (x :: xs) H2) : tCons ta tr σ H QA := g
theorem w_tup (g : tA σ H fun xs H1 => xs.length ≤ sizeLine ∧ ∀ p, H1 p = none → Q (.ref p) (upd H1 p (.tup xs))) : tTup tA σ H Q := g
theorem w_lst (g : tA σ H fun xs H1 => xs.length ≤ sizeLine ∧ ∀ p, H1 p = none → Q (.ref p) (upd H1 p (.lst xs))) : tLst tA σ H Q := g
theorem w_call {sp : Sp} {dvs : List V} {E : XK} (g : tA σ H fun vs H1 => sp (vs ++ dvs) H1 Q E) : tCall sp dvs E tA σ H Q := g
theorem w_cb {r : List V → Hp → VK → Prop} (g : tA σ H fun vs H1 => r vs H1 Q) : tCB r tA σ H Q := g
theorem w_bm {T : String} {r : V → List V → Hp → VK → Prop} (g : ta σ H fun x H1 => tyV K T x H1 ∧ tA σ H1 fun xs H2 => r x xs H2 Q) : tBM K T r ta tA σ H Q := g
theorem w_bm0 {T : String} {r : V → List V → Hp → VK → Prop} (g : ta σ H fun x H1 => tyV K T x H1 ∧ r x [] H1 Q) : tBM0 K T r ta σ H Q := g
theorem w_m1 {r : V → List V → Hp → VK → Prop} (g : ta σ H fun x H1 => (∃ a, x = .str a) ∧ tb σ H1 fun y H2 => r x [y] H2 Q) : tM1 r ta tb σ H Q := g
theorem w_ixL (h : SqL K H p xs) (ha : atI xs i = some v) (g : Q v H) : rIxL K (.ref p) (.int i) H Q := ⟨p, xs, i, v, rfl, rfl, h, ha, g⟩
theorem w_ixT (h : SqT K H p xs) (ha : atI xs i = some v) (g : Q v H) : rIxT K (.ref p) (.int i) H Q := ⟨p, xs, i, v, rfl, rfl, h, ha, g⟩
theorem w_append (h : H p = some (.lst xs)) (hl : xs.length < sizeLine) (g : Q .non (upd H p (.lst (xs ++ [v])))) : rAppend (.ref p) [v] H Q := ⟨p, xs, v, rfl, rfl, h, hl, g⟩
end

/-! ### rules by a name of ours -/
section
variable {X : Cx}
def rInt1 : List V → Hp → VK → Prop := fun xs H Q => ∃ i, xs = [.int i] ∧ Q (.int i) H
theorem c_int1 : CallR X (.type "int") rInt1 := fun pins s σ H xs us Q I r ⟨i, e, q⟩ => call_int1 pins s σ H xs us Q I r (.inl ⟨i, e, q⟩)
def rStrI : List V → Hp → VK → Prop := fun xs H Q => ∃ i, xs = [.int i] ∧ i.natAbs.log2 < 1920 ∧ Q (.str (toString i)) H
theorem c_strI : CallR X (.type "str") rStrI := call_str_int
def rStrS : List V → Hp → VK → Prop := fun xs H Q => ∃ a, xs = [.str a] ∧ Q (.str a) H
theorem c_strS : CallR X (.type "str") rStrS := SkE.call_str_str
def rLenQ (K : PySem.W.Frag) : List V → Hp → VK → Prop := fun xs H Q => ∃ p ys, xs = [.ref p] ∧ (SqL K H p ys ∨ SqT K H p ys) ∧ Q (.int ys.length) H
theorem c_len : CallR X (.builtin "len") (rLenQ X.K) := call_len_seq
def rLenS : List V → Hp → VK → Prop := fun xs H Q => ∃ z, xs = [.str z] ∧ z.length ≤ sizeLine ∧ Q (.int z.length) H
theorem c_lenS : CallR X (.builtin "len") rLenS := call_len_str
def rLenD : List V → Hp → VK → Prop := fun xs H Q => ∃ a kvs, xs = [V.ref a] ∧ H a = some (.dK kvs) ∧ Q (.int kvs.length) H
theorem c_lenD : CallR X (.builtin "len") rLenD := call_lenD
def rListQ (K : PySem.W.Frag) : List V → Hp → VK → Prop := fun xs H Q => ∃ p ys, xs = [.ref p] ∧ (SqL K H p ys ∨ SqT K H p ys) ∧ ∀ l, H l = none → Q (.ref l) (upd H l (.lst ys))
theorem c_list : CallR X (.type "list") (rListQ X.K) := call_list_of
def rTupL (K : PySem.W.Frag) : List V → Hp → VK → Prop := fun xs H Q => ∃ p ys, xs = [.ref p] ∧ SqL K H p ys ∧ ∀ l, H l = none → Q (.ref l) (upd H l (.tup ys))
theorem c_tupL : CallR X (.type "tuple") (rTupL X.K) := fun pins s σ H xs us Q I r ⟨p, ys, e, h, q⟩ => call_tuple_of pins s σ H xs us Q I r ⟨p, ys, e, .inl ⟨h, q⟩⟩
def rTupT (K : PySem.W.Frag) : List V → Hp → VK → Prop := fun xs H Q => ∃ p ys, xs = [.ref p] ∧ SqT K H p ys ∧ Q (.ref p) H
theorem c_tupT : CallR X (.type "tuple") (rTupT X.K) := fun pins s σ H xs us Q I r ⟨p, ys, e, h, q⟩ => call_tuple_of pins s σ H xs us Q I r ⟨p, ys, e, .inr ⟨h, q⟩⟩
def rAddS : R2 := fun x y H Q => ∃ i j, x = .str i ∧ y = .str j ∧ i.length + j.length ≤ sizeLine ∧ Q (.str (i ++ j)) H
theorem o_addS : OpR X (binaryOp .Add) rAddS := op_add_str
def rInC (neg : Bool) : R2 := fun x y H Q => ∃ (c : Nat) (z : Str), x = .str ⟨#[c]⟩ ∧ y = .str z ∧ Q (.bl (if neg then !decide (c ∈ z.cps.toList) else decide (c ∈ z.cps.toList))) H
theorem o_inC : OpR X (compareOp .In) (rInC false) := op_in_sign
theorem o_niC : OpR X (compareOp .NotIn) (rInC true) := op_notIn_sign
def rIsN : R2 := fun x y H Q => y = .non ∧ Q (.bl (decide (x = .non))) H
def rNotN : R2 := fun x y H Q => y = .non ∧ Q (.bl (!decide (x = .non))) H
theorem o_isN : OpR X (compareOp .Is) rIsN := op_isN
theorem o_notN : OpR X (compareOp .IsNot) rNotN := op_notN
def rMax2 : List V → Hp → VK → Prop := fun xs H Q => ∃ i j, xs = [.int i, .int j] ∧ Q (.int (if j > i then j else i)) H
theorem c_max2 (hc : X.calm = true) : CallR X (.builtin "max") rMax2 := call_max2 hc
def rInsert : V → List V → Hp → VK → Prop := fun x vs H Q => ∃ (l : Addr) (xs : List V) (i : Int) (y : V), x = .ref l ∧ vs = [.int i, y] ∧ H l = some (.lst xs) ∧ xs.length < sizeLine ∧ 0 ≤ i ∧ i < 2 ^ 63 ∧ Q .non (upd H l (.lst (xs.take i.toNat ++ [y] ++ xs.drop i.toNat)))
theorem m_insert : MtR X "list.insert" rInsert := mt_insert
def rJoin (K : PySem.W.Frag) : V → List V → Hp → VK → Prop := fun x xs H Q => ∃ a p, ∃ ys : List Str, x = .str a ∧ xs = [.ref p] ∧ (SqL K H p (ys.map V.str) ∨ SqT K H p (ys.map V.str)) ∧ (ys.map (·.length)).sum + ys.length * a.length ≤ 16777216 ∧ Q (.str (Txt.join a ys)) H
theorem e_join {o e : Expr} {to te : TE} {apos pos : Pos} (ho : PE X o to) (he : PE X e te) (hs : starEach [e] X.env = [(false, eval e X.env)] := by rfl) (hbase : attributeBase o "join" X.env (eval o X.env) = eval o X.env := by rfl) (hline : (apos.endLine == pos.line) = true := by rfl) :
    PE X (.Call (.Attribute o "join" apos) [e] [] pos) (tM1 (rJoin X.K) to te) := pe_join ho he hs hbase hline
end
section
variable {K : PySem.W.Frag} {σ : L2.St} {H : Hp} {Q : VK} {i j : Int} {p q : Addr} {xs ys : List V} {v x y : V} {z z' : Str} {b : Bool}
theorem w_int1 (g : Q (.int i) H) : rInt1 [.int i] H Q := ⟨i, rfl, g⟩
theorem w_strI (h : i.natAbs.log2 < 1920) (g : Q (.str (toString i)) H) : rStrI [.int i] H Q := ⟨i, rfl, h, g⟩
theorem w_strS (g : Q (.str z) H) : rStrS [.str z] H Q := ⟨z, rfl, g⟩
theorem w_lenL (h : SqL K H p ys) (g : Q (.int ys.length) H) : rLenQ K [.ref p] H Q := ⟨p, ys, rfl, .inl h, g⟩
theorem w_lenT (h : SqT K H p ys) (g : Q (.int ys.length) H) : rLenQ K [.ref p] H Q := ⟨p, ys, rfl, .inr h, g⟩
theorem w_lenS (h : z.length ≤ sizeLine) (g : Q (.int z.length) H) : rLenS [.str z] H Q := ⟨z, rfl, h, g⟩
theorem w_lenD {kvs : List (Key × V)} (h : H p = some (.dK kvs)) (g : Q (.int kvs.length) H) : rLenD [.ref p] H Q := ⟨p, kvs, rfl, h, g⟩
theorem w_listL (h : SqL K H p ys) (g : ∀ l, H l = none → Q (.ref l) (upd H l (.lst ys))) : rListQ K [.ref p] H Q := ⟨p, ys, rfl, .inl h, g⟩
theorem w_listT (h : SqT K H p ys) (g : ∀ l, H l = none → Q (.ref l) (upd H l (.lst ys))) : rListQ K [.ref p] H Q := ⟨p, ys, rfl, .inr h, g⟩
theorem w_tupL (h : SqL K H p ys) (g : ∀ l, H l = none → Q (.ref l) (upd H l (.tup ys))) : rTupL K [.ref p] H Q := ⟨p, ys, rfl, h, g⟩
theorem w_tupT (h : SqT K H p ys) (g : Q (.ref p) H) : rTupT K [.ref p] H Q := ⟨p, ys, rfl, h, g⟩
theorem w_addS (h : z.length + z'.length ≤ sizeLine) (g : Q (.str (z ++ z')) H) : rAddS (.str z) (.str z') H Q := ⟨z, z', rfl, rfl, h, g⟩
theorem w_inC {c : Nat} (g : Q (.bl (decide (c ∈ z.cps.toList))) H) : rInC false (.str ⟨#[c]⟩) (.str z) H Q := ⟨c, z, rfl, rfl, g⟩
theorem w_niC {c : Nat} (g : Q (.bl (!decide (c ∈ z.cps.toList))) H) : rInC true (.str ⟨#[c]⟩) (.str z) H Q := ⟨c, z, rfl, rfl, g⟩
theorem w_isN (g : Q (.bl (decide (x = .non))) H) : rIsN x .non H Q := ⟨rfl, g⟩
theorem w_notN (g : Q (.bl (!decide (x = .non))) H) : rNotN x .non H Q := ⟨rfl, g⟩
theorem w_max2 (g : Q (.int (if j > i then j else i)) H) : rMax2 [.int i, .int j] H Q := ⟨i, j, rfl, g⟩
theorem w_insert (h : H p = some (.lst xs)) (hl : xs.length < sizeLine) (h0 : 0 ≤ i) (h1 : i < 2 ^ 63) (g : Q .non (upd H p (.lst (xs.take i.toNat ++ [y] ++ xs.drop i.toNat)))) : rInsert (.ref p) [.int i, y] H Q := ⟨p, xs, i, y, rfl, rfl, h, hl, h0, h1, g⟩
theorem w_clear (h : H p = some (.lst xs)) (g : Q .non (upd H p (.lst []))) : rClear (.ref p) [] H Q := ⟨p, xs, rfl, rfl, h, g⟩
theorem w_ixS {c : Nat} (h : z.length ≤ sizeLine) (ha : atI z.cps.toList i = some c) (g : Q (.str ⟨#[c]⟩) H) : rIxS (.str z) (.int i) H Q := ⟨z, i, c, rfl, rfl, h, ha, g⟩
theorem w_inL (h : SqL K H p ys) (fx : flatV x = true) (fy : ys.all flatV = true) (g : Q (.bl (inV x ys)) H) : rIn K false x (.ref p) H Q := ⟨p, ys, rfl, .inl h, fx, fy, g⟩
theorem w_inT (h : SqT K H p ys) (fx : flatV x = true) (fy : ys.all flatV = true) (g : Q (.bl (inV x ys)) H) : rIn K false x (.ref p) H Q := ⟨p, ys, rfl, .inr h, fx, fy, g⟩
theorem w_niL (h : SqL K H p ys) (fx : flatV x = true) (fy : ys.all flatV = true) (g : Q (.bl (!inV x ys)) H) : rIn K true x (.ref p) H Q := ⟨p, ys, rfl, .inl h, fx, fy, g⟩
theorem w_niT (h : SqT K H p ys) (fx : flatV x = true) (fy : ys.all flatV = true) (g : Q (.bl (!inV x ys)) H) : rIn K true x (.ref p) H Q := ⟨p, ys, rfl, .inr h, fx, fy, g⟩
theorem w_all {bs : List Bool} (h : SqL K H p (bs.map V.bl)) (g : Q (.bl (bs.all id)) H) : rAll K [.ref p] H Q := ⟨p, bs, rfl, h, g⟩
theorem w_any {bs : List Bool} (h : SqL K H p (bs.map V.bl)) (g : Q (.bl (bs.any id)) H) : rAny K [.ref p] H Q := ⟨p, bs, rfl, h, g⟩
theorem w_sort {zs : List Str} (h : SqL K H p (zs.map V.str)) (hl : zs.length < 64) (g : ∀ (ys : List Str) (p : Addr), ys.Perm zs → PyProof.Rows.sortedS ys = true → H p = none → Q (.ref p) (upd H p (.lst (ys.map V.str)))) : rSortedS K [.ref p] H Q := ⟨p, zs, rfl, h, hl, g⟩
theorem w_cat (h : H p = some (.lst xs)) (h' : H q = some (.lst ys)) (hl : xs.length + ys.length ≤ sizeLine) (g : ∀ l, H l = none → Q (.ref l) (upd H l (.lst (xs ++ ys)))) : rCat (.ref p) (.ref q) H Q := ⟨p, q, xs, ys, rfl, rfl, h, h', hl, g⟩
theorem w_isi {t u : Value} (hc : ClsV y u) (ht : TyX K H x t) (hk : PySem.W.kitOne K t u = some b) (g : Q (.bl b) H) : rIsi K [x, y] H Q := ⟨x, y, t, u, b, rfl, hc, ht, hk, g⟩
theorem w_join {zs : List Str} (h : SqL K H p (zs.map V.str)) (hl : (zs.map (·.length)).sum + zs.length * z.length ≤ 16777216) (g : Q (.str (Txt.join z zs)) H) : rJoin K (.str z) [.ref p] H Q := ⟨z, p, zs, rfl, rfl, .inl h, hl, g⟩
theorem w_slS {lo hi : Option Int} (h : z.length ≤ sizeLine) (g : Q (.str (cutS z lo hi)) H) : rSlS (.str z) lo hi H Q := ⟨z, rfl, h, g⟩
theorem w_slL {lo hi : Option Int} (h : SqL K H p xs) (g : ∀ l, H l = none → Q (.ref l) (upd H l (.lst (cutV xs lo hi)))) : rSlL K (.ref p) lo hi H Q := ⟨p, xs, rfl, h, g⟩
theorem w_sl {r : V → Option Int → Option Int → Hp → VK → Prop} {te : TE} {tl th : TO} (g : te σ H fun x H1 => tl σ H1 fun l H2 => th σ H2 fun u H3 => r x l u H3 Q) : tSl r te tl th σ H Q := g
theorem w_noP {QO : Option Int → Hp → Prop} (g : QO none H) : tNoPart σ H QO := g
theorem w_part {te : TE} {QO : Option Int → Hp → Prop} (g : te σ H fun x H1 => ∃ i, x = .int i ∧ QO (some i) H1) : tPart te σ H QO := g
theorem w_exI {R : Int → Prop} (g : R i) : ∃ k, V.int i = .int k ∧ R k := ⟨i, rfl, g⟩
theorem w_exS {R : Prop} (g : R) : (∃ a, V.str z = .str a) ∧ R := ⟨⟨z, rfl⟩, g⟩
theorem w_tyL {R : Prop} (h : SqL K H p xs) (g : R) : tyV K "list" (.ref p) H ∧ R := ⟨.inl ⟨rfl, xs, h⟩, g⟩
theorem w_size {R : Prop} {n : Nat} (h : n ≤ sizeLine) (g : R) : n ≤ sizeLine ∧ R := ⟨h, g⟩
theorem w_star {te : TE} {t : TA} {QA : List V → Hp → Prop} (g : te σ H fun x H1 => ∃ p xs, x = V.ref p ∧ (SqT K H1 p xs ∨ SqL K H1 p xs) ∧ t σ H1 fun ys H2 => QA (xs ++ ys) H2) : StX.tStar K te t σ H QA := g
theorem w_stT {R : List V → Prop} (h : SqT K H p xs) (g : R xs) : ∃ p' xs, V.ref p = V.ref p' ∧ (SqT K H p' xs ∨ SqL K H p' xs) ∧ R xs := ⟨p, xs, rfl, .inl h, g⟩
theorem w_iL {tl : TE} {R : It → Hp → Prop} (g : tl σ H fun x H1 => ∃ a, x = .ref a ∧ (∃ xs, SqL K H1 a xs) ∧ R (Itl K a) H1) : iList K tl σ H R := g
theorem w_iT {tl : TE} {R : It → Hp → Prop} (g : tl σ H fun x H1 => ∃ a, x = .ref a ∧ (∃ xs, SqT K H1 a xs) ∧ R (Itt K a) H1) : iTup K tl σ H R := g
theorem w_iLx {R : Addr → Prop} (h : SqL K H p xs) (g : R p) : ∃ a, V.ref p = .ref a ∧ (∃ xs, SqL K H a xs) ∧ R a := ⟨p, rfl, ⟨xs, h⟩, g⟩
theorem w_iTx {R : Addr → Prop} (h : SqT K H p xs) (g : R p) : ∃ a, V.ref p = .ref a ∧ (∃ xs, SqT K H a xs) ∧ R a := ⟨p, rfl, ⟨xs, h⟩, g⟩
end

/-! ### comprehensions and loops, apart from what they walk -/
section
variable {K : PySem.W.Frag} {σ : L2.St} {H : Hp} {Q : VK} {g : TG} {tt : TT} {te : TE} {vs : List Nat} {wi : TI} {J : It} {n : Nat} {G : Hp → Prop} {Y : Nat → Hp → V → Hp → Prop}
/-- one turn of a comprehension: the target, the test, the element; R: what is kept, or none -/
def Turn1 (g : TG) (tt : TT) (te : TE) (vs : List Nat) (σ : L2.St) (x : V) (H : Hp) (R : Option V → Hp → Prop) : Prop :=
  g x (wipe σ vs) H fun σ2 H2 => wipe σ2 vs = wipe σ vs ∧ tt σ2 H2 fun b H3 => if b = true then te σ2 H3 fun y H4 => R (some y) H4 else R none H3
def LcB (J : It) (g : TG) (tt : TT) (te : TE) (vs : List Nat) (σ : L2.St) (Q : VK) (H1 : Hp) : Prop :=
  ∀ D, H1 D = none → ∃ W : Nat → Nat → Hp → Prop, (∃ m, W 0 m (upd H1 D (.lst []))) ∧ ∀ i m H, W i m H →
    (J.stop i H ∧ Q (.ref D) H) ∨ (J.go i H ∧ ∃ Nx : Hp → Prop, (∀ H', Nx H' → ∃ m', m' < m ∧ W (i + 1) m' H') ∧ ∀ x H', J.yld i H x H' → g x (wipe σ vs) H' fun σ2 H2 => wipe σ2 vs = wipe σ vs ∧ tt σ2 H2 fun b H3 =>
      if b = true then te σ2 H3 fun y H4 => ∃ acc, H4 D = some (.lst acc) ∧ acc.length < sizeLine ∧ Nx (upd H4 D (.lst (acc ++ [y]))) else Nx H3)
theorem w_lc (h : wi σ H fun J H1 => LcB J g tt te vs σ Q H1) : tLc wi g tt te vs σ H Q := h
/-- what a turn must leave: the list so far stands at D, and the word holds of the longer one (or of the same, where nothing is kept) -/
def LcR (D : Addr) (P : List V → Hp → Prop) : Option V → Hp → Prop
  | some y, H => ∃ acc, H D = some (.lst acc) ∧ acc.length < sizeLine ∧ ∃ acc', P acc' (upd H D (.lst (acc ++ [y])))
  | none, H => ∃ acc', P acc' H
theorem lcr_some {D : Addr} {P : List V → Hp → Prop} {y : V} {acc : List V} (h : H D = some (.lst acc)) (hl : acc.length < sizeLine) (hp : P (acc ++ [y]) (upd H D (.lst (acc ++ [y])))) : LcR D P (some y) H := ⟨acc, h, hl, _, hp⟩
theorem lcr_none {D : Addr} {P : List V → Hp → Prop} {acc : List V} (hp : P acc H) : LcR D P none H := ⟨acc, hp⟩
/-- an invariant by the turn, the list so far and the heap -/
theorem lcb (w : Walk J n G Y) (Pv : Addr → Nat → List V → Hp → Prop) (h0 : ∀ D, H D = none → Pv D 0 [] (upd H D (.lst [])))
    (hG : ∀ D i acc H', H D = none → i ≤ n → Pv D i acc H' → G H')
    (hs : ∀ D i x acc H1 H2, H D = none → i < n → Pv D i acc H1 → Y i H1 x H2 → Turn1 g tt te vs σ x H2 (LcR D (Pv D (i + 1))))
    (hd : ∀ D acc H', H D = none → Pv D n acc H' → Q (.ref D) H') : LcB J g tt te vs σ Q H := by
  intro D nD
  refine ⟨fun i m H' => m = n - i ∧ i ≤ n ∧ ∃ acc, Pv D i acc H', ⟨n, by simp, Nat.zero_le _, [], h0 D nD⟩, ?_⟩
  rintro i m H' ⟨rfl, hi, acc, p⟩
  have q := hG D i acc H' nD hi p
  by_cases e : i = n
  · subst e
    exact .inl ⟨w.stops H' q, hd D acc H' nD p⟩
  · have hlt : i < n := by omega
    refine .inr ⟨w.goes i H' hlt q, fun H'' => ∃ acc, Pv D (i + 1) acc H'', fun H'' ⟨acc', p'⟩ => ⟨n - (i + 1), by omega, rfl, by omega, acc', p'⟩, fun x H2 y => ?_⟩
    exact hs D i x acc H' H2 nD hlt p (w.yields i H' x H2 hlt q y)
/-- a comprehension whose turn makes nothing: a filter and a map; the items by ea, what is kept by eb -/
theorem lcb_pure {α β : Type} (ea : α → V) (eb : β → V) {xs : List α} {G : Hp → Prop} (w : Walk J (xs.map ea).length G (YAt (xs.map ea))) (hG : ∀ H', Same H H' → G H') (hl : xs.length < sizeLine) (f : α → Option β)
    (hs : ∀ x H', x ∈ xs → Same H H' → ∀ R : Option V → Hp → Prop, R ((f x).map eb) H' → Turn1 g tt te vs σ (ea x) H' R)
    (hd : ∀ D, H D = none → Q (.ref D) (upd H D (.lst ((xs.filterMap f).map eb)))) : LcB J g tt te vs σ Q H := by
  refine lcb w (fun D i acc H' => H' = upd H D (.lst acc) ∧ acc = ((xs.take i).filterMap f).map eb) (fun D nD => ⟨rfl, rfl⟩) (fun D i acc H' nD _ p => ?_) (fun D i x acc H1 H2 nD hi p y => ?_) (fun D acc H' nD p => ?_)
  · obtain ⟨rfl, rfl⟩ := p
    exact hG _ (Same.new nD)
  · obtain ⟨rfl, rfl⟩ := p
    obtain ⟨rfl, hx⟩ := y
    rw [List.getElem?_map] at hx
    cases hq : xs[i]? with
    | none => rw [hq] at hx; cases hx
    | some z =>
      rw [hq] at hx
      cases hx
      refine hs z _ (List.mem_of_getElem? hq) (Same.new nD) _ ?_
      have e : xs.take (i + 1) = xs.take i ++ [z] := by
        rw [List.take_succ, hq] <;> rfl
      cases hf : f z with
      | none =>
        refine lcr_none (acc := ((xs.take (i + 1)).filterMap f).map eb) ⟨?_, rfl⟩
        rw [e, List.filterMap_append]
        simp [hf]
      | some v =>
        refine lcr_some upd_same ?_ ⟨by rw [upd_upd], ?_⟩
        · rw [List.length_map]
          refine Nat.lt_of_le_of_lt (List.length_filterMap_le _ _) ?_
          rw [List.length_take]; omega
        · rw [e, List.filterMap_append]
          simp [hf]
  · obtain ⟨rfl, rfl⟩ := p
    rw [List.length_map, List.take_length]
    exact hd D nD
theorem w_turn {x : V} {R : Option V → Hp → Prop} (h : g x (wipe σ vs) H fun σ2 H2 => wipe σ2 vs = wipe σ vs ∧ tt σ2 H2 fun b H3 => if b = true then te σ2 H3 fun y H4 => R (some y) H4 else R none H3) : Turn1 g tt te vs σ x H R := h
theorem w_wipe {σ2 : L2.St} {A : Prop} (h : wipe σ2 vs = wipe σ vs) (g : A) : wipe σ2 vs = wipe σ vs ∧ A := ⟨h, g⟩
theorem w_iR1 {ta : TA} {R : It → Hp → Prop} (g : ta σ H fun vs H1 => ∃ j : Int, vs = [.int j] ∧ -(2 ^ 62) ≤ j ∧ j < 2 ^ 62 ∧ R (Itr 0 j.toNat) H1) : iRng1 ta σ H R := g
theorem w_iR1x {R : Int → Prop} {i : Int} (h0 : -(2 ^ 62) ≤ i) (h1 : i < 2 ^ 62) (g : R i) : ∃ j : Int, [V.int i] = [.int j] ∧ -(2 ^ 62) ≤ j ∧ j < 2 ^ 62 ∧ R j := ⟨i, rfl, h0, h1, g⟩
theorem w_iR2 {ta : TA} {R : It → Hp → Prop} (g : ta σ H fun vs H1 => ∃ i j : Int, vs = [.int i, .int j] ∧ (-(2 ^ 62) ≤ i ∧ i < 2 ^ 62 ∧ -(2 ^ 62) ≤ j ∧ j < 2 ^ 62) ∧ R (Itr i (j - i).toNat) H1) : iRng2 ta σ H R := g
theorem w_iE {ta : TA} {R : It → Hp → Prop} (g : ta σ H fun vs H1 => ∃ a xs, vs = [.ref a] ∧ SqL K H1 a xs ∧ R (Ite K a) H1) : iEnum K ta σ H R := g
theorem w_iEx {R : Addr → Prop} {p : Addr} {xs : List V} (h : SqL K H p xs) (g : R p) : ∃ a xs, [V.ref p] = [.ref a] ∧ SqL K H a xs ∧ R a := ⟨p, xs, rfl, h, g⟩
theorem w_iS {R : It → Hp → Prop} (g : te σ H fun v H1 => ∃ x, v = .str x ∧ R (Its x) H1) : iStr te σ H R := g
theorem w_iSx {R : Str → Prop} {z : Str} (g : R z) : ∃ x, V.str z = .str x ∧ R x := ⟨z, rfl, g⟩
def ForB (J : It) (g : TG) (tb : TS) (D : Ends) (σ : L2.St) (H1 : Hp) : Prop := ∃ W : Nat → Nat → L2.St → Hp → Prop, (∃ m, W 0 m σ H1) ∧ ∀ i m σ H, W i m σ H →
  (J.stop i H ∧ D.nx σ H) ∨ (J.go i H ∧ ∃ N : L2.St → Hp → Prop, (∀ σ' H', N σ' H' → ∃ m', m' < m ∧ W (i + 1) m' σ' H') ∧ ∀ x H', J.yld i H x H' → g x σ H' fun σ2 H2 => tb { D with nx := N, ct := N, bk := D.nx } σ2 H2)
theorem w_for {tb : TS} {D : Ends} (h : wi σ H fun J H1 => ForB J g tb D σ H1) : tFor wi g tb D σ H := h
theorem forb {tb : TS} {nx bk ct : L2.St → Hp → Prop} {rt : VK} (w : Walk J n G Y) (Pv : Nat → L2.St → Hp → Prop) (h0 : Pv 0 σ H) (hG : ∀ i σ H, i ≤ n → Pv i σ H → G H)
    (hs : ∀ i x σ H H', i < n → Pv i σ H → Y i H x H' → g x σ H' fun σ2 H2 => tb ⟨Pv (i + 1), rt, nx, Pv (i + 1)⟩ σ2 H2) (hd : ∀ σ H, Pv n σ H → nx σ H) : ForB J g tb ⟨nx, rt, bk, ct⟩ σ H :=
  for_it w Pv h0 hG hs hd
end

/-! ### rules with the written part named -/
section
variable {X : Cx}
theorem k_ixL (K : PySem.W.Frag) (h : X.K = K := by rfl) : IxR X (rIxL K) := by subst h; exact ix_list
theorem k_ixT (K : PySem.W.Frag) (h : X.K = K := by rfl) : IxR X (rIxT K) := by subst h; exact ix_tup
theorem k_slL (K : PySem.W.Frag) (h : X.K = K := by rfl) : SlR X (rSlL K) := by subst h; exact sl_list
theorem k_slT (K : PySem.W.Frag) (h : X.K = K := by rfl) : SlR X (rSlT K) := by subst h; exact sl_tup
theorem k_in (K : PySem.W.Frag) (h : X.K = K := by rfl) : OpR X (compareOp .In) (rIn K false) := by subst h; exact op_in_seq
theorem k_ni (K : PySem.W.Frag) (h : X.K = K := by rfl) : OpR X (compareOp .NotIn) (rIn K true) := by subst h; exact op_notIn_seq
theorem k_eqD (K : PySem.W.Frag) (hu : X.A.units + 64 < cLine) (h : X.K = K := by rfl) : OpR X (compareOp .Eq) (rEqD K) := by subst h; exact op_eqD hu
theorem k_neD (K : PySem.W.Frag) (hu : X.A.units + 64 < cLine) (h : X.K = K := by rfl) : OpR X (compareOp .NotEq) (rNeD K) := by subst h; exact op_neD hu
theorem k_inD (K : PySem.W.Frag) (hu : X.A.units + 65 < cLine) (h : X.K = K := by rfl) : OpR X (compareOp .In) (rInD K) := by subst h; exact op_inD hu
theorem k_niD (K : PySem.W.Frag) (hu : X.A.units + 65 < cLine) (h : X.K = K := by rfl) : OpR X (compareOp .NotIn) (rNotInD K) := by subst h; exact op_notInD hu
theorem k_len (K : PySem.W.Frag) (h : X.K = K := by rfl) : CallR X (.builtin "len") (rLenQ K) := by subst h; exact c_len
theorem k_list (K : PySem.W.Frag) (h : X.K = K := by rfl) : CallR X (.type "list") (rListQ K) := by subst h; exact c_list
theorem k_tupL (K : PySem.W.Frag) (h : X.K = K := by rfl) : CallR X (.type "tuple") (rTupL K) := by subst h; exact c_tupL
theorem k_tupT (K : PySem.W.Frag) (h : X.K = K := by rfl) : CallR X (.type "tuple") (rTupT K) := by subst h; exact c_tupT
theorem k_all (K : PySem.W.Frag) (hc : X.calm = true) (h : X.K = K := by rfl) : CallR X (.builtin "all") (rAll K) := by subst h; exact cr_all hc
theorem k_any (K : PySem.W.Frag) (hc : X.calm = true) (h : X.K = K := by rfl) : CallR X (.builtin "any") (rAny K) := by subst h; exact cr_any hc
theorem k_sortS (K : PySem.W.Frag) (h : X.K = K := by rfl) : CallR X (.builtin "sorted") (rSortedS K) := by subst h; exact cr_sortedS
theorem k_isi (K : PySem.W.Frag) (h : X.K = K := by rfl) : CallR X (.builtin "isinstance") (rIsi K) := by subst h; exact call_isi
theorem k_index (K : PySem.W.Frag) (h : X.K = K := by rfl) : MtR X "list.index" (rIndex K) := by subst h; exact mt_index
theorem k_indexD (K : PySem.W.Frag) (hu : X.A.units + 65 < cLine) (h : X.K = K := by rfl) : MtR X "list.index" (rIndexD K) := by subst h; exact mt_indexD hu
variable {o e tg l : Expr} {es : List Expr} {te to tl ta : TE} {t : TA} {f name : Str} {pos apos cpos p tpos : Pos}
theorem k_fld (K : PySem.W.Frag) (he : PE X e ta) (hb : attributeBase e f X.env (eval e X.env) = eval e X.env) (h : X.K = K := by rfl) : PE X (.Attribute e f pos) (tFld K ta f) := by subst h; exact pe_fld he hb
theorem k_sfld (K : PySem.W.Frag) {value : Expr} {tv : TE} {pos' : Pos} (ha : PE X o ta) (hv : PE X value tv) (hs : swapsWith value (some (.Attribute o f pos')) pos.line X.env = pure false) (h : X.K = K := by rfl) : PS X (.Assign [.Attribute o f pos'] value pos) (sFld K ta tv f) := by subst h; exact ps_fld ha hv hs
theorem k_iL (K : PySem.W.Frag) (hl : PE X l tl) (h : X.K = K := by rfl) : PI X tg l (iList K tl) := by subst h; exact pi_list hl
theorem k_iT (K : PySem.W.Frag) (hl : PE X l tl) (h : X.K = K := by rfl) : PI X tg l (iTup K tl) := by subst h; exact pi_tup hl
theorem k_iE (K : PySem.W.Frag) {tA : TA} {elts : List Expr} {kk : Nat} (hg : Gl X "enumerate") (hm : X.mg "enumerate" = none) (ha : PA X [e] tA) (hs : starEach [e] X.env = [(false, eval e X.env)] := by rfl) (h : X.K = K := by rfl) :
    PI X (.Tuple elts kk tpos) (.Call (.Name "enumerate" p) [e] [] pos) (iEnum K tA) := by subst h; exact pi_enum hg hm ha hs
theorem k_gT (K : PySem.W.Frag) {k n : Nat} {tG : TGs} (hc : X.calm = true) (hp : PGs X es tG) (hn : (assignEach es X.env).length = n := by rfl) (hst : (assignEach es X.env).findIdx? (·.1) = none := by rfl) (h : X.K = K := by rfl) : PG X (.Tuple es k pos) (gTup K n tG) := by subst h; exact pg_tup hc hp hn hst
theorem k_star (K : PySem.W.Frag) (he : PE X e te) (hr : PA X es t) (hs : starEach (.Starred e p :: es) X.env = (true, eval e X.env) :: starEach es X.env := by rfl) (h : X.K = K := by rfl) : PA X (.Starred e p :: es) (StX.tStar K te t) := by subst h; exact StX.pa_star he hr hs
theorem k_join (K : PySem.W.Frag) (ho : PE X o to) (he : PE X e te) (hs : starEach [e] X.env = [(false, eval e X.env)] := by rfl) (hbase : attributeBase o "join" X.env (eval o X.env) = eval o X.env := by rfl) (hline : (apos.endLine == pos.line) = true := by rfl) (h : X.K = K := by rfl) :
    PE X (.Call (.Attribute o "join" apos) [e] [] pos) (tM1 (rJoin K) to te) := by subst h; exact pe_join ho he hs hbase hline
theorem k_bm (K : PySem.W.Frag) {T id : String} {r : V → List V → Hp → VK → Prop} (pa : PlainAttrs T) (slot : Slot T name id) (hty : typeOf (.builtin id) = pure (.type "method_descriptor")) (hm : MtR X id r) (ho : PE X o to) (ha : PA X (e :: es) t)
    (hbase : attributeBase o name X.env (eval o X.env) = eval o X.env := by rfl)
    (hfew : ((backTo cpos (starEach (e :: es) X.env)).all (fun x => !x.1) && (backToKw cpos (keywordEach [] X.env)).all (fun x => x.1.isSome)
      && decide ((e :: es).length + ([] : List Keyword).length + (if ([] : List Keyword).isEmpty then 0 else 1) < 30)) = true := by rfl)
    (hline : (apos.endLine == cpos.line) = true := by rfl) (hs : starEach (e :: es) X.env = (false, eval e X.env) :: starEach es X.env := by rfl) (hplain : (backTo cpos (starEach es X.env)).any (·.1) = false := by rfl) (h : X.K = K := by rfl) :
    PE X (.Call (.Attribute o name apos) (e :: es) [] cpos) (tBM K T r to t) := by subst h; exact pe_bm pa slot hty hm ho ha hbase hfew hline hs hplain
theorem k_bm0 (K : PySem.W.Frag) {T id : String} {r : V → List V → Hp → VK → Prop} (pa : PlainAttrs T) (slot : Slot T name id) (hty : typeOf (.builtin id) = pure (.type "method_descriptor")) (hm : MtR X id r) (ho : PE X o to)
    (hbase : attributeBase o name X.env (eval o X.env) = eval o X.env := by rfl) (hline : (apos.endLine == cpos.line) = true := by rfl) (h : X.K = K := by rfl) : PE X (.Call (.Attribute o name apos) [] [] cpos) (tBM0 K T r to) := by subst h; exact pe_bm0 pa slot hty hm ho hbase hline
end
/-! ### what may be a list or a tuple -/
def iSeq (K : PySem.W.Frag) (tl : TE) : TI := fun σ H R => tl σ H fun x H1 => ∃ a, x = .ref a ∧ (((∃ xs, SqL K H1 a xs) ∧ R (Itl K a) H1) ∨ ((∃ xs, SqT K H1 a xs) ∧ R (Itt K a) H1))
theorem k_iQ {X : Cx} {tg l : Expr} {tl : TE} (K : PySem.W.Frag) (hl : PE X l tl) (hK : X.K = K := by rfl) : PI X tg l (iSeq K tl) := by
  subst hK
  refine ⟨fun pins s σ H R I h => thn (hl.run pins s σ H _ I h) fun v s1 ⟨x, H1, I1, r1, a, e, q1⟩ => ?_⟩
  subst e
  cases r1
  have fin : ∀ b, b ∈ [s1.heap.objs.size] → FpOk X pins H1 b := fun b hb => by
    rw [List.mem_singleton.mp hb]
    exact I1.fpOk (Nat.le_refl _) (I1.hok.fresh (Nat.le_refl _))
  rcases q1 with ⟨⟨xs, hq⟩, q⟩ | ⟨⟨xs, hq⟩, q⟩
  · obtain ⟨its, rv, p, hz⟩ := I1.list hq
    exact wpAny_pyIter_list p.isList ⟨s1.heap.objs.size, [s1.heap.objs.size], _, _, H1, rfl, I1.kept (t' := s1.toks) fun b o e => Heap.get?_push_of_some _ e, turn_list a _, ⟨_, Heap.get?_push_size _ rfl, rfl, rfl⟩, fin, q⟩
  · obtain ⟨its, rv, p, hz⟩ := I1.tuple hq
    exact wpAny_pyIter_tuple (show s1.heap.IsTuple a its.toArray from p) ⟨s1.heap.objs.size, [s1.heap.objs.size], _, _, H1, rfl, I1.kept (t' := s1.toks) fun b o e => Heap.get?_push_of_some _ e, turn_tuple a _, ⟨_, Heap.get?_push_size _ rfl, rfl, rfl⟩, fin, q⟩
section
variable {K : PySem.W.Frag} {σ : L2.St} {H : Hp} {p : Addr} {xs : List V}
theorem w_iQ {tl : TE} {R : It → Hp → Prop} (g : tl σ H fun x H1 => ∃ a, x = .ref a ∧ (((∃ xs, SqL K H1 a xs) ∧ R (Itl K a) H1) ∨ ((∃ xs, SqT K H1 a xs) ∧ R (Itt K a) H1))) : iSeq K tl σ H R := g
theorem w_iQl {A B : Addr → Prop} (h : SqL K H p xs) (g : A p) : ∃ a, V.ref p = .ref a ∧ (((∃ xs, SqL K H a xs) ∧ A a) ∨ ((∃ xs, SqT K H a xs) ∧ B a)) := ⟨p, rfl, .inl ⟨⟨xs, h⟩, g⟩⟩
theorem w_iQt {A B : Addr → Prop} (h : SqT K H p xs) (g : B p) : ∃ a, V.ref p = .ref a ∧ (((∃ xs, SqL K H a xs) ∧ A a) ∨ ((∃ xs, SqT K H a xs) ∧ B a)) := ⟨p, rfl, .inr ⟨⟨xs, h⟩, g⟩⟩
end
theorem ite_nt {A B : Prop} (h : B) : if (!true) = true then A else B := by simpa using h
theorem ite_nf {A B : Prop} (h : A) : if (!false) = true then A else B := by simpa using h
end Mf

namespace Mf
open PySem L2 TL
/-! ### names -/
def IsName (x : Str) : Prop := 1 ≤ x.length ∧ x.length ≤ 8 ∧ ∀ c ∈ x.cps.toList, 97 ≤ c ∧ c ≤ 122
instance (x : Str) : Decidable (IsName x) := inferInstanceAs (Decidable (_ ∧ _ ∧ _))
theorem len_list (x : Str) : x.length = x.cps.toList.length := by
  show x.cps.size = _; rw [Array.length_toList]
theorem str_ext {x y : Str} (h : x.cps.toList = y.cps.toList) : x = y := by
  cases x; cases y
  congr
  exact Array.toList_inj.mp h
theorem app_list (x y : Str) : (x ++ y).cps.toList = x.cps.toList ++ y.cps.toList := by
  show (x.cps ++ y.cps).toList = _
  exact Array.toList_append
theorem eqV_str (x y : Str) : eqV (.str y) (.str x) = decide (y = x) := by
  show (y == x) = decide (y = x)
  by_cases h : y = x
  · rw [decide_eq_true h, h]; exact beq_self_eq_true x
  · rw [decide_eq_false h]; exact beq_eq_false_iff_ne.mpr h
theorem inV_strs (x : Str) : ∀ xs : List Str, inV (.str x) (xs.map V.str) = decide (x ∈ xs)
  | [] => by simp [inV]
  | y :: ys => by
    have ih := inV_strs x ys
    unfold inV at ih ⊢
    rw [List.map_cons, List.any_cons, ih, eqV_str]
    by_cases h : y = x
    · subst h; simp
    · have h' : ¬ x = y := fun e => h e.symm
      simp [h, h']
theorem flat_strsM (xs : List Str) : (xs.map V.str).all flatV = true := by
  rw [List.all_eq_true]
  intro v hv
  obtain ⟨x, _, rfl⟩ := List.mem_map.mp hv
  rfl
theorem atI_all {α : Type} {xs : List α} (P : α → Prop) (h : ∀ x ∈ xs, P x) {v : Int} (h0 : 0 ≤ v) (h1 : v < xs.length) : ∃ x, atI xs v = some x ∧ P x := by
  have hj : v.toNat < xs.length := by omega
  refine ⟨xs[v.toNat], ?_, h _ (List.getElem_mem hj)⟩
  have e : ((v.toNat : Nat) : Int) = v := by omega
  exact (congrArg (atI xs) e).symm.trans (atI_nat (List.getElem?_eq_getElem hj))
/-- more than the others have: one is new -/
theorem pigeon {α : Type} [DecidableEq α] : ∀ (ks xs : List α), ks.Nodup → xs.length < ks.length → ∃ k ∈ ks, k ∉ xs
  | [], xs, _, h => by simp at h
  | k :: ks, xs, nd, h => by
    obtain ⟨h1, h2⟩ := List.nodup_cons.mp nd
    by_cases hk : k ∈ xs
    · have hl : (xs.erase k).length < ks.length := by
        rw [List.length_erase_of_mem hk]
        have : 0 < xs.length := List.length_pos_of_mem hk
        simp at h
        omega
      obtain ⟨j, hj, hn⟩ := pigeon ks (xs.erase k) h2 hl
      refine ⟨j, List.mem_cons_of_mem _ hj, fun hm => hn ?_⟩
      exact (List.mem_erase_of_ne (fun (e : j = k) => h1 (by rw [← e]; exact hj))).mpr hm
    · exact ⟨k, List.mem_cons_self, hk⟩
def sign (c : Nat) : Str := ⟨#[c]⟩
theorem joinL_signs : ∀ cs : List Nat, joinL [] (cs.map fun c => [c]) = cs
  | [] => rfl
  | [c] => rfl
  | c :: d :: r => by
    have ih := joinL_signs (d :: r)
    show [c] ++ ([] ++ joinL [] ((d :: r).map fun c => [c])) = _
    rw [ih]; rfl
theorem join_signs (cs : List Nat) : Txt.join "" (cs.map sign) = ⟨cs.toArray⟩ := by
  apply str_ext
  rw [join_eq]
  have e := tl_join "" (cs.map sign)
  have e1 : tl "" = [] := by decide +kernel
  rw [e1, List.map_map] at e
  refine Eq.trans (show (Str.join "" (cs.map sign)).cps.toList = tl (Str.join "" (cs.map sign)) from rfl) (e.trans ?_)
  exact joinL_signs cs
theorem cut1 (z : Str) : (cutS z (some 1) none).cps.toList = z.cps.toList.drop 1 := by
  have e : HT.sIx z.length 0 (some 1) = min 1 z.length := by
    unfold HT.sIx
    simp
  have e2 : HT.sIx z.length z.length none = z.length := rfl
  show (((z.cps.toList.drop (HT.sIx z.length 0 (some 1))).take (HT.sIx z.length z.length none - HT.sIx z.length 0 (some 1))).toArray).toList = _
  rw [e, e2, List.toList_toArray, len_list]
  cases h : z.cps.toList with
  | nil => simp
  | cons a r => simp [List.take_of_length_le]
theorem isName_q {x : Str} (h : IsName x) (hl : 3 < x.length) : IsName ("q" ++ cutS x (some 1) none) := by
  have e : ("q" ++ cutS x (some 1) none : Str).cps.toList = 113 :: x.cps.toList.drop 1 := by
    rw [app_list, cut1]
    rfl
  refine ⟨?_, ?_, fun c hc => ?_⟩
  · rw [len_list, e]; simp
  · rw [len_list, e, List.length_cons, List.length_drop, ← len_list]
    have := h.2.1; omega
  · rw [e] at hc
    rcases List.mem_cons.mp hc with rfl | hc
    · omega
    · exact h.2.2 c (List.mem_of_mem_drop hc)
theorem signs_size (cs : List Nat) (h : cs.length ≤ 1000) : ((cs.map sign).map (·.length)).sum + (cs.map sign).length * (Str.ofString "").length ≤ 16777216 := by
  have e : (Str.ofString "").length = 0 := by decide +kernel
  have e2 : ∀ l : List Nat, ((l.map sign).map (·.length)).sum = l.length := by
    intro l
    induction l with
    | nil => rfl
    | cons a r ih => rw [List.map_cons, List.map_cons, List.sum_cons, ih, List.length_cons, show (sign a).length = 1 from rfl]; omega
  rw [e, e2]; omega
theorem walk_signs (z : Str) : Walk (Its z) (z.cps.toList.map fun c => V.str (sign c)).length (fun _ => True) (YAt (z.cps.toList.map fun c => V.str (sign c))) := by
  have e : (z.cps.toList.map fun c => V.str (sign c)).length = z.cps.size := by rw [List.length_map, Array.length_toList]
  rw [e]
  refine walk_str.mono (fun _ h => h) fun i H x H' hi _ ⟨h1, c, h2, h3⟩ => ⟨h1, ?_⟩
  rw [List.getElem?_map, Array.getElem?_toList, h2, h3]
  rfl
end Mf

namespace Mf
open PySem L2
/-! ### the law's helpers: what they promise, and how a promise is used -/
def But (p : Addr) (H H' : Hp) : Prop := ∀ b, b ≠ p → H' b = H b
theorem But.kp {p : Addr} {H H' : Hp} (h : But p H H') : Kp p H H' := fun b o n e => by rw [h b n]; exact e
theorem use_draw {p : Addr} {c : Nat} {m : Int} {H : Hp} {Q : VK} {E : XK} (h : Src H p c) (hc : c < LIM) (h0 : 0 < m) (h1 : m < 2 ^ 1000)
    (g : ∀ (v : Int) (c' : Nat) (H' : Hp), 0 ≤ v → v < m → c' ≤ c + 1 → Src H' p c' → But p H H' → Q (.int v) H') : sp_draw ([.ref p, .int m] ++ []) H Q E :=
  ⟨p, c, m, rfl, h, hc, h0, h1, fun v c' o a b d e => g v c' _ a b d e fun b n => upd_ne n⟩
theorem Src.ne {H : Hp} {p q : Addr} {c : Nat} (h : Src H p c) (n : H q = none) : q ≠ p := by
  obtain ⟨g, s, h1, _⟩ := h
  exact (ne_of_none h1 n).symm
theorem Src.tracked {H : Hp} {p q : Addr} {c : Nat} (h : Src H p c) (n : H q = none) : p ≠ q := (h.ne n).symm
theorem Src.new {H : Hp} {p q : Addr} {c : Nat} {o : HO} (h : Src H p c) (n : H q = none) : Src (upd H q o) p c := h.same (Same.new n)
theorem Src.mut {H : Hp} {p q : Addr} {c : Nat} {o : HO} (h : Src H p c) (n : p ≠ q) : Src (upd H q o) p c := by
  obtain ⟨g, s, h1, h2⟩ := h
  exact ⟨g, s, by rw [upd_ne n]; exact h1, h2⟩
def sp_name (K : PySem.W.Frag) : Sp := fun vs H Q _ => ∃ (p a : Addr) (c : Nat) (xs : List Str), vs = [.ref p, .ref a] ∧ Src H p c ∧ c + 10 < LIM ∧ SqL K (hid p H) a (xs.map V.str) ∧ xs.length ≤ 16 ∧
  ∀ (x : Str) (c' : Nat) (H' : Hp), Kp p H H' → Src H' p c' → c' ≤ c + 10 → x ∉ xs → IsName x → Q (.str x) H'
theorem letters_at {v : Int} (h0 : 0 ≤ v) (h1 : v < 26) : ∃ c, atI (Str.ofString "abcdefghijklmnopqrstuvwxyz").cps.toList v = some c ∧ 97 ≤ c ∧ c ≤ 122 := by
  have e : (Str.ofString "abcdefghijklmnopqrstuvwxyz").cps.toList = [97, 98, 99, 100, 101, 102, 103, 104, 105, 106, 107, 108, 109, 110, 111, 112, 113, 114, 115, 116, 117, 118, 119, 120, 121, 122] := by decide +kernel
  rw [e]
  exact atI_all (fun c => 97 ≤ c ∧ c ≤ 122) (by decide) h0 h1
theorem letters_len : (Str.ofString "abcdefghijklmnopqrstuvwxyz").length = 26 := by decide +kernel
def zNames : List Str := (Str.ofString "abcdefghijklmnopq").cps.toList.map fun c => Str.ofString "z" ++ sign c
theorem zNames_nodup : zNames.Nodup := by decide +kernel
theorem zNames_len : zNames.length = 17 := by decide +kernel
theorem zNames_isName : ∀ x ∈ zNames, IsName x := by decide +kernel
theorem use_name {K : PySem.W.Frag} {p a : Addr} {c : Nat} {xs : List Str} {H : Hp} {Q : VK} {E : XK} (h : Src H p c) (hc : c + 10 < LIM) (hS : SqL K (hid p H) a (xs.map V.str)) (hl : xs.length ≤ 16)
    (g : ∀ (x : Str) (c' : Nat) (H' : Hp), Kp p H H' → Src H' p c' → c' ≤ c + 10 → x ∉ xs → IsName x → Q (.str x) H') : sp_name K ([.ref p, .ref a] ++ []) H Q E :=
  ⟨p, a, c, xs, rfl, h, hc, hS, hl, g⟩
/-- names, each once -/
def Names (xs : List Str) : Prop := xs.Nodup ∧ ∀ x ∈ xs, IsName x
def sp_names : Sp := fun vs H Q _ => ∃ (p : Addr) (c n : Nat), vs = [.ref p, .int n] ∧ Src H p c ∧ c + 10 * n + 10 < LIM ∧ n ≤ 16 ∧
  ∀ (xs : List Str) (a : Addr) (c' : Nat) (H' : Hp), Kp p H H' → Src H' p c' → c' ≤ c + 10 * n → H a = none → H' a = some (.lst (xs.map V.str)) → xs.length = n → Names xs → Q (.ref a) H'
theorem use_names {p : Addr} {c n : Nat} {H : Hp} {Q : VK} {E : XK} (h : Src H p c) (hc : c + 10 * n + 10 < LIM) (hn : n ≤ 16)
    (g : ∀ (xs : List Str) (a : Addr) (c' : Nat) (H' : Hp), Kp p H H' → Src H' p c' → c' ≤ c + 10 * n → H a = none → H' a = some (.lst (xs.map V.str)) → xs.length = n → Names xs → Q (.ref a) H') : sp_names ([.ref p, .int (n : Int)] ++ []) H Q E :=
  ⟨p, c, n, rfl, h, hc, hn, g⟩
/-- some of a list, by draws -/
def sp_subset (K : PySem.W.Frag) : Sp := fun vs H Q _ => ∃ (p a : Addr) (c : Nat) (xs : List Str), vs = [.ref p, .ref a] ∧ Src H p c ∧ c + xs.length < LIM ∧ SqL K (hid p H) a (xs.map V.str) ∧ xs.length ≤ 1000 ∧
  ∀ (ys : List Str) (b : Addr) (c' : Nat) (H' : Hp), Kp p H H' → Src H' p c' → c' ≤ c + xs.length → H b = none → H' b = some (.lst (ys.map V.str)) → ys.Sublist xs → Q (.ref b) H'
theorem use_subset {K : PySem.W.Frag} {p a : Addr} {c : Nat} {xs : List Str} {H : Hp} {Q : VK} {E : XK} (h : Src H p c) (hc : c + xs.length < LIM) (hS : SqL K (hid p H) a (xs.map V.str)) (hl : xs.length ≤ 1000)
    (g : ∀ (ys : List Str) (b : Addr) (c' : Nat) (H' : Hp), Kp p H H' → Src H' p c' → c' ≤ c + xs.length → H b = none → H' b = some (.lst (ys.map V.str)) → ys.Sublist xs → Q (.ref b) H') : sp_subset K ([.ref p, .ref a] ++ []) H Q E :=
  ⟨p, a, c, xs, rfl, h, hc, hS, hl, g⟩
theorem Kp.free {p q : Addr} {H H' : Hp} (e : Kp p H H') (n : q ≠ p) (h : H' q = none) : H q = none := by
  cases z : H q with
  | none => rfl
  | some o => rw [e q o n z] at h; cases h
theorem sq_hid {K : PySem.W.Frag} {H : Hp} {p a : Addr} {xs : List V} (n : a ≠ p) (h : H a = some (.lst xs)) : SqL K (hid p H) a xs := SqL.of (by rw [hid_ne n]; exact h)
end Mf

namespace Mf
open PySem PySem.Spec PyProof.Rows L2
/-! ### sets of texts: made by a comprehension, sorted. The road is that of HandS.Set and HandS.SetBool, for texts. -/
def txt (e : Int × Value) : Str := match e.2 with | .str x _ => x | _ => Str.empty
def TxtE (w : World) (e : Int × Value) : Prop := ∃ x t, e.2 = Value.str x t ∧ e.1 = hashStr w x
/-- the set at a holds the texts xs, each once -/
def TxtSet (w : World) (h : Heap) (a : Addr) (xs : List Str) : Prop :=
  ∃ o es ep t, h.get? a = some o ∧ o.ExactSet ∧ o.data = .set es ep t ∧ (∀ e ∈ es.toList, TxtE w e) ∧ (es.toList.map txt).Perm xs ∧ xs.Nodup ∧
    es.size < scanBound ∧ t.fits es.size = true ∧ Ris t.place.toList ∧ (w.params.followText "set-order" = true ∨ t.led = true)
section
variable {P : Program} {w : World} {h h' : Heap} {a : Addr} {xs : List Str}
theorem TxtSet.at (R : TxtSet w h a xs) (k : ∀ o, h.get? a = some o → h'.get? a = some o) : TxtSet w h' a xs := by
  obtain ⟨o, es, ep, t, ho, rest⟩ := R
  exact ⟨o, es, ep, t, k o ho, rest⟩
theorem txt_kind {e : Int × Value} (g : TxtE w e) (x : Str) : (PySem.strKind P w).is x e.2 = true ↔ txt e = x := by
  obtain ⟨y, t, e1, _⟩ := g
  unfold txt
  rw [e1]
  show Value.isStrOf x (.str y t) = true ↔ y = x
  simp [Value.isStrOf]
theorem txt_elems {l : List (Int × Value)} (g : ∀ e ∈ l, TxtE w e) : ElemsOf (PySem.strKind P w) l := fun e he => by
  obtain ⟨y, t, e1, e2⟩ := g e he
  refine ⟨⟨y, ?_, e2⟩, ?_⟩
  · rw [e1]; exact strKind_is P w y t
  · rw [e1]; rfl
theorem txt_mem {l : List (Int × Value)} (g : ∀ e ∈ l, TxtE w e) (x : Str) : x ∈ l.map txt ↔ ∃ e ∈ l, (PySem.strKind P w).is x e.2 = true := by
  constructor
  · intro hx
    obtain ⟨e, he, q⟩ := List.mem_map.mp hx
    exact ⟨e, he, (txt_kind (g e he) x).2 q⟩
  · rintro ⟨e, he, q⟩
    exact List.mem_map.mpr ⟨e, he, (txt_kind (g e he) x).1 q⟩
theorem txt_stored {o : Obj} {es es' : Array (Int × Value)} {ep : Nat} {t t' : SetTable} (ho : h.get? a = some o) (hd : o.data = .set es ep t) : (h.update a (Obj.putSet es' t')).get? a = some { o with data := .set es' (ep + 1) t' } := by
  have e := putSet_of es' t' hd
  have q := Heap.get?_update_self (Obj.putSet es' t') ho (by rw [e]; rfl)
  rwa [e] at q
end
/-- the members behind one more -/
def addT (xs : List Str) (x : Str) : List Str := if x ∈ xs then xs else x :: xs
section
variable {P : Program} {w : World} {A : Around} {E : Value → Shared → Prop} {s : Shared} {a : Addr} {xs : List Str}
theorem txt_settle {g : Bool → Sem Unit} (hg : ∀ (b : Bool) (s₁ : Shared) (Q' : Unit → Shared → Prop), Q' () s₁ → wpAny (model P w) A (g b) Q' E s₁)
    {o : Obj} {es : Array (Int × Value)} {ep : Nat} {t : SetTable} (ho : s.heap.get? a = some o) (hex : o.ExactSet) (hd : o.data = .set es ep t) {es1 : Array (Int × Value)} {t2 : SetTable} {ys : List Str}
    (g1 : ∀ e ∈ es1.toList, TxtE w e) (pm1 : (es1.toList.map txt).Perm ys) (nd1 : ys.Nodup) (hb1 : es1.size < scanBound) (hf2 : t2.fits es1.size = true) (hr : Ris t2.place.toList) (hl : w.params.followText "set-order" = true ∨ t2.led = true)
    {wasDummy : Bool} {R : Option Bool → Shared → Prop} (hR : ∀ h', Heap.SameBut a s.heap h' → TxtSet w h' a ys → R (some true) { s with heap := h' }) :
    wpAny (model P w) A (do
        storeSet a es1 t2
        if (!wasDummy && t2.tooFull) = true then do
            g (relayAll t2 es1 (SetTable.grown es1.size)).2.2
            storeSet a (relayAll t2 es1 (SetTable.grown es1.size)).1 (relayAll t2 es1 (SetTable.grown es1.size)).2.1
            pure (some true)
          else pure (some true)) R E s := by
  have ho1 := txt_stored (es' := es1) (t' := t2) ho hd
  have same1 := Heap.SameBut.update s.heap a (Obj.putSet es1 t2)
  refine wpAny_bind (wpAny_storeSet_of ho hd ?_ (fits_of_scanBound hb1))
  split
  · have pm := relayAll_perm t2 es1 (SetTable.grown es1.size)
    have hf3 := relayAll_fits t2 es1 (SetTable.grown es1.size)
    have hr3 := relayAll_ris t2 es1 (SetTable.grown es1.size)
    have hl3 := relayAll_led t2 es1 (SetTable.grown es1.size)
    generalize relayAll t2 es1 (SetTable.grown es1.size) = Z at pm hf3 hr3 hl3 ⊢
    obtain ⟨es2, t3, gave⟩ := Z
    dsimp only at pm hf3 hr3 hl3 ⊢
    have hsz : es2.size = es1.size := by
      have := pm.length_eq
      rwa [Array.length_toList, Array.length_toList] at this
    have hb2 : es2.size < scanBound := hsz ▸ hb1
    have ho2 := txt_stored (es' := es2) (t' := t3) ho1 rfl
    refine wpAny_bind (hg _ _ _ ?_)
    refine wpAny_bind (wpAny_storeSet_of ho1 rfl ?_ (fits_of_scanBound hb2))
    refine wpAny_pure (hR _ (same1.trans (Heap.SameBut.update _ a _)) ?_)
    refine ⟨_, es2, _, t3, ho2, hex, rfl, fun e he => g1 e (pm.mem_iff.mp he), (pm.map txt).trans pm1, nd1, hb2, hf3, hr3, hl.imp id fun z => ?_⟩
    rw [hl3]; exact z
  · exact wpAny_pure (hR _ same1 ⟨_, es1, _, t2, ho1, hex, rfl, g1, pm1, nd1, hb1, hf2, hr, hl⟩)
theorem txt_add_hashed {x : Str} {tk : Tok} {Q : Bool → Shared → Prop} (R : TxtSet w s.heap a xs) (room : xs.length + 1 < scanBound)
    (hQ : ∀ b h', Heap.SameBut a s.heap h' → TxtSet w h' a (addT xs x) → Q b { s with heap := h' }) :
    wpAny (model P w) A (setAddHashed a (.str x tk) ((PySem.strKind P w).hash x)) Q E s := by
  obtain ⟨o, es, ep, t, ho, hex, hd, g, pm0, nd, hb, hf, hr, hl⟩ := R
  have hkey : (PySem.strKind P w).is x (.str x tk) = true := strKind_is P w x tk
  have hsc : (Value.str x tk).scannable = true := rfl
  have hel : ElemsOf (PySem.strKind P w) es.toList := txt_elems g
  have hsz0 : es.size = xs.length := by
    have := pm0.length_eq
    rwa [List.length_map, Array.length_toList] at this
  unfold setAddHashed setAddHashedIn
  refine wpAny_holding (wpAny_bind (wpAny_setState_of ho hd hf ?_))
  dsimp only
  rw [byScan_of hsc hb hel]
  simp only [↓reduceIte]
  unfold setAddByScan
  refine wpAny_bind (wpAny_bind (wpAny_rule (wpAny_bind (wpAny_setScan_of hkey ho hd hf hel ?_))))
  cases hfi : List.findIdx? (fun e => (PySem.strKind P w).is x e.2) es.toList with
  | some j =>
    dsimp only
    obtain ⟨hj, pj, _⟩ := List.findIdx?_eq_some_iff_getElem.mp hfi
    have hx : x ∈ xs := pm0.mem_iff.mp ((txt_mem (P := P) g x).2 ⟨es.toList[j], List.getElem_mem hj, pj⟩)
    have e : addT xs x = xs := if_pos hx
    refine wpAny_pure (wpAny_pure ?_)
    exact hQ _ s.heap (Heap.SameBut.refl a s.heap) (by rw [e]; exact ⟨o, es, ep, t, ho, hex, hd, g, pm0, nd, hb, hf, hr, hl⟩)
  | none =>
    dsimp only
    have hx : x ∉ xs := fun hm => by
      obtain ⟨e, he, q⟩ := (txt_mem (P := P) g x).1 (pm0.mem_iff.mpr hm)
      have c := List.findIdx?_eq_none_iff.mp hfi e he
      rw [q] at c; cases c
    have ea : addT xs x = x :: xs := if_neg hx
    rw [ea] at hQ
    have hgw : ∀ (b : Bool) {s₁ : Shared} {Q' : Unit → Shared → Prop}, Q' () s₁ → wpAny (model P w) A (match b with | true => rule "set.scan.the-table-gave-way" | false => pure ()) Q' E s₁ :=
      fun b s₁ Q' q => by cases b <;> first | exact wpAny_pure q | exact wpAny_rule q
    have pm := layNew_perm t es ((PySem.strKind P w).hash x) (.str x tk)
    have hf1 := layNew_fits t es ((PySem.strKind P w).hash x) (.str x tk)
    have hr1 := layNew_ris t es ((PySem.strKind P w).hash x) (.str x tk) hr
    have hl1 := layNew_led t es ((PySem.strKind P w).hash x) (.str x tk)
    generalize layNew t es ((PySem.strKind P w).hash x) (.str x tk) = Z at pm hf1 hr1 hl1 ⊢
    obtain ⟨es1, t1, wasDummy, gave⟩ := Z
    dsimp only at pm hf1 hr1 hl1 ⊢
    rw [Array.toList_push] at pm
    have pc : es1.toList.Perm (((PySem.strKind P w).hash x, Value.str x tk) :: es.toList) := pm.trans (List.perm_append_singleton _ _)
    have pk : (es1.toList.map txt).Perm (x :: xs) := (pc.map txt).trans (pm0.cons x)
    have g1 : ∀ e ∈ es1.toList, TxtE w e := fun e he => by
      rcases List.mem_cons.mp (pc.mem_iff.mp he) with z | z
      · subst z; exact ⟨x, tk, rfl, rfl⟩
      · exact g e z
    have nd1 : (x :: xs).Nodup := List.nodup_cons.mpr ⟨hx, nd⟩
    have hsz : es1.size = xs.length + 1 := by
      have := pk.length_eq
      rwa [List.length_map, Array.length_toList] at this
    have hb1 : es1.size < scanBound := hsz ▸ room
    have hled : w.params.followText "set-order" = true ∨ t1.led = true := hl.imp id fun z => by rw [hl1]; exact z
    refine wpAny_bind (hgw _ ?_)
    split
    · refine wpAny_bind ?_
      rw [hashByValue_scannable 8 hsc]
      refine wpAny_pure ?_
      refine txt_settle ?_ ho hex hd g1 pk nd1 hb1 ?_ ?_ ?_ ?_
      · intro b s₁ Q' q; cases b <;> first | exact wpAny_pure q | exact wpAny_rule q
      · first | (split <;> first | exact hf1 | exact SetTable.fits_plain_off hf1) | exact hf1
      · first | (split <;> exact hr1) | exact hr1
      · first | (split <;> exact hled) | exact hled
      · intro h' sb r; dsimp only; exact wpAny_pure (hQ _ h' sb r)
    · refine wpAny_bind (wpAny_pure ?_)
      simp only [↓reduceIte]
      refine txt_settle ?_ ho hex hd g1 pk nd1 hb1 hf1 hr1 hled ?_
      · intro b s₁ Q' q; cases b <;> first | exact wpAny_pure q | exact wpAny_rule q
      · intro h' sb r; dsimp only; exact wpAny_pure (hQ _ h' sb r)
theorem txt_typeIs (R : TxtSet w s.heap a xs) : s.TypeIs (.ref a) "set" := by
  obtain ⟨o, es, ep, t, ho, hex, _⟩ := R
  exact ⟨o, ho, hex.1⟩
theorem txt_add {x : Str} {tk : Tok} {Q : Value → Shared → Prop} (R : TxtSet w s.heap a xs) (room : xs.length + 1 < scanBound)
    (hQ : ∀ h', Heap.SameBut a s.heap h' → TxtSet w h' a (addT xs x) → Q .none { s with heap := h', toks := s.toks + 1 }) : wpAny (model P w) A (call (.builtin "set.add") [.ref a, .str x tk]) Q E s := by
  refine wpAny_call_entry F.slot_set_add (txt_typeIs R) F.entry_set_add ?_ (F.args_set_add_2 _ _)
  unfold Builtin.«set.add» Builtin.Frozenset.oneOther
  simp only [List.isEmpty_nil, bind_assoc]
  unfold Builtin.Frozenset.addrOf setAdd
  refine wpAny_bind (wpAny_pure ?_)
  try dsimp only
  refine wpAny_bind (wpAny_pure ?_)
  try dsimp only
  refine wpAny_bind (wpAny_holding (wpAny_bind ((PySem.strKind P w).pyHash (strKind_is P w x tk) ?_)))
  refine txt_add_hashed (s := { s with toks := s.toks + 1 }) R room fun b h' sb r => ?_
  show wpAny _ _ (ret Value.none) _ _ _
  exact wpAny_pure ⟨_, rfl, hQ h' sb r⟩
theorem txt_fresh {h : Heap} (w : World) : TxtSet w (h.push { cls := .type "set", dict := none, data := .set #[] 0 (.fresh 0 0 (!w.params.followText "set-order")) }) h.objs.size [] := by
  refine ⟨_, #[], 0, _, Heap.get?_push_size _ rfl, ⟨rfl, rfl, rfl⟩, rfl, (by simp), (by simp), List.nodup_nil, (by decide), (by rfl), List.Pairwise.nil, ?_⟩
  show _ ∨ (!w.params.followText "set-order") = true
  cases w.params.followText "set-order"
  · exact .inr rfl
  · exact .inl rfl
/-- sorted(s): the members in order -/
theorem txt_sorted {Q : Value → Shared → Prop} (R : TxtSet w s.heap a xs) (hh : A.handled = none) (h64 : xs.length < 64)
    (hQ : ∀ s' p (out : Array Value) (c : Nat) (ys : List Str), (∀ b o, s.heap.get? b = some o → s'.heap.get? b = some o) → s'.gens = s.gens → s'.os = s.os → s.heap.objs.size ≤ p →
      s'.heap.get? p = some (seqObj "list" out c) → StrsAre out.toList ys → ys.Perm xs → sortedS ys = true → Q (.ref p) s') : wpAny (model P w) A (call (.builtin "sorted") [.ref a]) Q E s := by
  obtain ⟨o, es, ep, t, ho, hex, hd, g, pm0, nd, hb, hf, hr, hl⟩ := R
  refine Calls.call_function_entry kind_sorted plain_sorted entry_sorted (args_sorted1 _) ?_
  unfold Builtin.«sorted»
  refine wpAny_bind (m := checkCount "sorted" 1 1 _) (wpAny_pure ?_)
  refine wpAny_bind (collect_set (A := A.in1) hh ⟨o, ho, hex.1, hd⟩ hf hb hr hl fun s1 vs k1 hz g1 o1 pm => ?_)
  have hvl : vs.length = xs.length := by
    rw [pm.length_eq, List.length_map, ← pm0.length_eq, List.length_map]
  have hall : ∀ v ∈ vs, ∃ x t, v = Value.str x t := fun v hv => by
    obtain ⟨e, he, q⟩ := List.mem_map.mp (pm.mem_iff.mp hv)
    obtain ⟨x, t, e1, _⟩ := g e he
    exact ⟨x, t, by rw [← q]; exact e1⟩
  have hS : StrsAre vs (vs.map strOf) := strsAre_map vs hall
  have pk : (vs.map strOf).Perm xs := by
    refine (pm.map strOf).trans ?_
    rw [List.map_map]
    have e : es.toList.map (strOf ∘ fun x => x.2) = es.toList.map txt := List.map_congr_left fun e he => by
      obtain ⟨x, t, e1, _⟩ := g e he
      show strOf e.2 = txt e
      unfold txt
      rw [e1] <;> rfl
    rw [e]
    exact pm0
  refine wpAny_bind (wpAny_newList ?_ (by rw [hvl, sizeLine_eq]; omega))
  have hoL : (s1.heap.push (seqObj "list" vs.toArray 0)).get? s1.heap.objs.size = some (seqObj "list" vs.toArray 0) := Heap.get?_push_size _ rfl
  refine wpAny_bind (wpAny_holding (wpAny_call_entry slot_list_sort ⟨_, hoL, rfl⟩ entry_list_sort
    (list_sort_treeK strKind_oneLt hoL hS.keysOf (fun v₁ v₂ rest e => keyKind_strs (by rw [← e]; exact hS)) (by rw [hvl]; exact h64) fun st' hp hs => ⟨_, rfl, ?_⟩) (args_list_sort _)))
  obtain ⟨ys, b1, b2, b3⟩ := sorted_out_str hS hp hs
  obtain ⟨c, hc⟩ := sortedHeap_at (vs := vs) (out := (arrOf st').map (·.2)) hoL
  refine wpAny_pure ⟨_, rfl, hQ _ s1.heap.objs.size _ c ys (fun b u e => ?_) g1 o1 hz hc b1 (b2.trans pk) b3⟩
  have q := k1 b u e
  have hlt := Heap.lt_size q
  show (sortedHeap (s1.heap.push (seqObj "list" vs.toArray 0)) s1.heap.objs.size vs ((arrOf st').map (·.2))).get? b = some u
  rw [sortedHeap_old (Nat.ne_of_lt hlt) (by rw [size_push']; exact Nat.lt_succ_of_lt hlt)]
  exact Heap.get?_push_of_some _ q
end
/-! ### as tracked things -/
def TxtO (w : World) (a : Addr) (xs : List Str) : HO := .ext fun h => TxtSet w h a xs
theorem txtO_ok {w : World} {P : Program} {H : Hp} {h : Heap} {a : Addr} {xs : List Str} (R : TxtSet w h a xs) : ObjOk P w H h a (TxtO w a xs) :=
  ⟨R, (let ⟨o, _, _, _, ho, _⟩ := R; ⟨o, ho⟩), fun _ _ p k => TxtSet.at p k⟩
section
variable {X : Cx} {pins : List (Addr × Obj)} {σ : L2.St} {H : Hp} {s : Shared}
theorem txtO_get {a : Addr} {xs : List Str} (I : Inv X pins σ H s) (ha : H a = some (TxtO X.w a xs)) : TxtSet X.w s.heap a xs := (I.hok a _ ha).1
theorem txtO_add {E : Value → Shared → Prop} {D : Addr} {xs : List Str} {x : Str} {t : Tok} {Q : Value → Shared → Prop} (I : Inv X pins σ H s) (hD : H D = some (TxtO X.w D xs)) (room : xs.length + 1 < scanBound)
    (h : ∀ s', Inv X pins σ (upd H D (TxtO X.w D (addT xs x))) s' → Q .none s') : wpAny (model X.prog X.w) X.A (call (.builtin "set.add") [.ref D, .str x t]) Q E s := by
  refine txt_add (txtO_get I hD) room fun h' sb new => h _ ?_
  have he : ∃ u, h'.get? D = some u := let ⟨o, _, _, _, ho, _⟩ := new; ⟨o, ho⟩
  exact I.write (e := D) (t' := s.toks + 1) (by rw [hD]; trivial) (.inl rfl) (fun b u hb hu => (sb.2 b hb).trans hu) he (txtO_ok new)
/-- sorted(set of texts) -/
def rSortT (w : World) : List V → Hp → VK → Prop := fun vs H Q => ∃ (a : Addr) (xs : List Str), vs = [V.ref a] ∧ H a = some (TxtO w a xs) ∧ xs.length < 64 ∧
  ∀ (ys : List Str) (p : Addr), ys.Perm xs → sortedS ys = true → H p = none → Q (.ref p) (upd H p (.lst (ys.map V.str)))
theorem c_sortT (w : World) (hc : X.calm = true) (hw : X.w = w := by rfl) : CallR X (.builtin "sorted") (rSortT w) := by
  subst hw
  intro pins s σ H vs us Q I r ⟨a, xs, e, ha, h64, q⟩
  subst e
  rw [Vals.ref1 r]
  refine txt_sorted (txtO_get I ha) (I.ok.hd hc) h64 fun s' p out c ys k hg ho hp hob hS pm so => ?_
  have nP : H p = none := I.hok.fresh hp
  have hlen : (ys.map V.str).length ≤ sizeLine := by rw [List.length_map, pm.length_eq]; exact small64 h64
  have I1 : Inv X pins σ (upd H p (.lst (ys.map V.str))) s' :=
    I.call' (ch := []) ho (Un.laid k hp nP) (I.hok.laid k hp ⟨hlen, out.toList, c, vals_of_strs hS, hob⟩) (by rw [hg]; exact I.bare) (fun _ z => nomatch z)
  exact ⟨.ref p, _, I1, rfl, q ys p pm so nP⟩
end

/-! ### {elt for target in iter if ..}, the elements texts -/
/-- what is walked for each item: D the new set -/
def ScB (w : World) (J : It) (g : TG) (tt : TT) (te : TE) (vs : List Nat) (σ : L2.St) (Q : VK) (H1 : Hp) : Prop :=
  ∀ D, H1 D = none → ∃ W : Nat → Nat → Hp → Prop, (∃ m, W 0 m (upd H1 D (TxtO w D []))) ∧ ∀ i m H, W i m H →
    (J.stop i H ∧ Q (.ref D) H) ∨ (J.go i H ∧ ∃ Nx : Hp → Prop, (∀ H', Nx H' → ∃ m', m' < m ∧ W (i + 1) m' H') ∧ ∀ x H', J.yld i H x H' → g x (wipe σ vs) H' fun σ2 H2 => wipe σ2 vs = wipe σ vs ∧ tt σ2 H2 fun b H3 =>
      if b = true then te σ2 H3 fun y H4 => ∃ (z : Str) (xs : List Str), y = .str z ∧ H4 D = some (TxtO w D xs) ∧ xs.length + 1 < scanBound ∧ Nx (upd H4 D (TxtO w D (addT xs z))) else Nx H3)
def tScT (w : World) (wi : TI) (g : TG) (tt : TT) (te : TE) (vs : List Nat) : TE := fun σ H Q => wi σ H fun J H1 => ScB w J g tt te vs σ Q H1
section
variable {X : Cx}
theorem e_scT (w : World) {elt tg iter : Expr} {ifs : List Expr} {scope : Scope} {own : List (PySem.Str × Nat)} {pos : Pos} {wi : TI} {g : TG} {tt : TT} {te : TE} (hc : X.calm = true) (hN : X.N.Nodup) (hi : PI X tg iter wi) (ok : BlkOk X.N X.env.scope scope own)
    (hg : ∀ (s : Shared) (H : Hp) (C : Addr) (cl : List (PySem.Str × Addr)) (fp : List Addr), PG (X.blk s H scope (compEnvC scope cl C X.env) fp) tg g) (ht : ∀ (s : Shared) (H : Hp) (C : Addr) (cl : List (PySem.Str × Addr)) (fp : List Addr), PTs (X.blk s H scope (compEnvC scope cl C X.env) fp) ifs tt)
    (he : ∀ (s : Shared) (H : Hp) (C : Addr) (cl : List (PySem.Str × Addr)) (fp : List Addr), PE (X.blk s H scope (compEnvC scope cl C X.env) fp) elt te) (hs : ∀ x, foldedSetIterable iter X.env x = pure x := by intro _; rfl) (hw : X.w = w := by rfl) :
    PE X (.SetComp elt [⟨tg, iter, ifs, 0⟩] scope pos) (tScT w wi g tt te (own.map (·.2))) := by
  subst hw
  refine ⟨fun pins s σ H Q I h => ?_⟩
  rw [PpSet.eval_SetComp]
  have hfree : ∀ y ∈ scope.names, y.2 = .free → ∃ c, X.env.cells.lookup y.1 = some c := fun y hy e => I.ok.has _ (ok.free y hy e)
  refine wpAny_comprehension_free (use := none) rfl hs (closure_ok hfree) ok.kind (fun y hy e => by rw [ok.uniq y hy, e]) (thn (hi.run pins s σ H _ I h) fun xv s1 hx => thn hx fun itv s2 h2 => ?_)
  obtain ⟨it, fp, tn, J, H2, e, I2, T, st2, f2, q⟩ := h2
  subst e
  refine PpSet.newSet_ok (newEnv_comp ?_)
  generalize hD : s2.heap.objs.size = D
  have hDn : H2 D = none := I2.hok.fresh (Nat.le_of_eq hD)
  obtain ⟨W, ⟨m0, w0⟩, turn⟩ := q D hDn
  generalize hs3 : ({ s2 with heap := s2.heap.push { cls := .type "set", dict := none, data := .set #[] 0 (.fresh 0 0 (!X.w.params.followText "set-order")) } } : Shared) = s3
  have h3 : s3.heap = s2.heap.push { cls := .type "set", dict := none, data := .set #[] 0 (.fresh 0 0 (!X.w.params.followText "set-order")) } := by rw [← hs3]
  generalize hH3 : upd H2 D (TxtO X.w D []) = H3 at w0
  have I3 : Inv X pins σ H3 s3 := by
    rw [← hs3, ← hH3]
    refine I2.laid (t' := s2.toks) (fun b o e => Heap.get?_push_of_some _ e) (Nat.le_of_eq hD) ?_
    rw [← hD]
    exact txtO_ok (txt_fresh X.w)
  have sz : ∀ b ∈ fp, b < s2.heap.objs.size := fun b hb => let ⟨o, e, _⟩ := T.obj _ _ st2 b hb; Heap.lt_size e
  have f3 : ∀ b ∈ fp, FpOk X pins H3 b ∧ b < s3.heap.objs.size := fun b hb => by
    have hlt := sz b hb
    refine ⟨⟨?_, (f2 b hb).2⟩, by rw [h3, Heap.size_push]; exact Nat.lt_succ_of_lt hlt⟩
    rw [← hH3, upd_ne (by rw [← hD]; exact Nat.ne_of_lt hlt)]
    exact (f2 b hb).1
  have nfp : ∀ b ∈ fp, H3 b = none := fun b hb => (f3 b hb).1.1
  have st3 : tn 0 s3.heap := T.keep _ _ _ st2 fun b _ o e => by rw [h3]; exact Heap.get?_push_of_some _ e
  have I4 := block_start I3 ok hN f3
  have pg := hg s3 H3 s3.heap.objs.size (cellsFrom (s3.heap.objs.size + 1) scope.names (cloFrom X.env.cells scope.names [])) fp
  have pt := ht s3 H3 s3.heap.objs.size (cellsFrom (s3.heap.objs.size + 1) scope.names (cloFrom X.env.cells scope.names [])) fp
  have pe := he s3 H3 s3.heap.objs.size (cellsFrom (s3.heap.objs.size + 1) scope.names (cloFrom X.env.cells scope.names [])) fp
  show codeAny _ _ (.compStart (.SetComp elt [⟨tg, iter, ifs, 0⟩] scope pos) 0 (.ref it) (.ref D) (compEnvC scope (cellsFrom (s3.heap.objs.size + 1) scope.names (cloFrom X.env.cells scope.names [])) s3.heap.objs.size X.env)) (compPost (model X.prog X.w) X.A X.xe none _ (.ref D) s3.heap.objs.size) { s3 with heap := pushCells (s3.heap.push { cls := .type "dict", data := .dict #[] }) scope.names }
  generalize hce : compEnvC scope (cellsFrom (s3.heap.objs.size + 1) scope.names (cloFrom X.env.cells scope.names [])) s3.heap.objs.size X.env = ce at I4 pg pt pe ⊢
  have cL : ce.locals = s3.heap.objs.size := by subst hce; rfl
  generalize hs4 : ({ s3 with heap := pushCells (s3.heap.push { cls := .type "dict", data := .dict #[] }) scope.names } : Shared) = s4 at I4 ⊢
  have st4 : tn 0 s4.heap := T.keep _ _ _ st3 fun b _ o e => by rw [← hs4]; exact pushCells_keeps _ _ _ _ (Heap.get?_push_of_some _ e)
  have stat : ∀ {σ' : L2.St} {H' : Hp} {s' : Shared}, Inv (X.blk s3 H3 scope ce fp) [] σ' H' s' → (∀ b ∈ fp, H' b = none) → ∀ b ∈ fp, FpOk (X.blk s3 H3 scope ce fp) [] H' b := fun {σ' H' s'} I' hn b hb =>
    ⟨hn b hb, (I'.ok.exf b hb).1, I'.ok.exfs b hb, .inl hb, fun x c e => (I'.ok.exf b hb).2 x c e, fun p hp => absurd (show p ∈ ([] : List (Addr × Obj)) ++ [] from hp) (by simp)⟩
  have loop : codeAny (model X.prog X.w) X.A (.compLoop (.SetComp elt [⟨tg, iter, ifs, 0⟩] scope pos) 0 (.ref it) (.ref D) ce) (compPost (model X.prog X.w) X.A X.xe none (EP X pins σ Q) (.ref D) s3.heap.objs.size) s4 := by
    refine PpSet.compLoopS_any (fun n s' => ∃ i H', Inv (X.blk s3 H3 scope ce fp) [] (wipe σ (own.map (·.2))) H' s' ∧ tn i s'.heap ∧ (∀ b ∈ fp, H' b = none) ∧ W i n H') ?_ m0 ⟨0, H3, I4, st4, nfp, w0⟩
    rintro n s5 ⟨i, H5, I5, st5, n5, w5⟩
    rcases turn i n H5 w5 with ⟨stop, qq⟩ | ⟨go, Nx, hNx, step⟩
    · refine thnF (T.done (X.blk s3 H3 scope ce fp) rfl rfl rfl hc i [] s5 _ H5 (fun _ _ => False) I5 (stat I5 n5) st5 stop) fun r s6 ⟨hr, I6⟩ => ?_
      subst hr
      have I7 : Inv X pins σ H5 s6 := I3.call' (ch := fp) I6.os I6.base I6.hok I6.bare fun b hb => ⟨(f3 b hb).1.2.2.2.1, (f3 b hb).1.2.1, (f3 b hb).1.2.2.2.2.1, (f3 b hb).1.2.2.2.2.2⟩
      have nC : H5 s3.heap.objs.size = none := cL ▸ I6.free
      obtain ⟨m, hn, _⟩ := I6.loc
      have hn : s6.heap.Ns ce.locals m := hn
      rw [cL] at hn
      refine ⟨m, hn, fun h'' sb => ?_⟩
      obtain ⟨f0, f1, f2, f3, f4, f5⟩ := I3.fpOk (Nat.le_refl _) nC
      exact ⟨.ref D, H5, I7.turned (t' := s6.toks) (fun b o hb e => (sb.2 b hb).trans e) f0 f1 f3 f4 f5, rfl, qq⟩
    · refine thnF (T.item (X.blk s3 H3 scope ce fp) rfl rfl rfl hc i [] s5 _ H5 (fun _ _ => False) I5 (stat I5 n5) st5 go) fun r s6 ⟨u, hr, h6⟩ => ?_
      subst hr
      refine thnF h6 fun _ s7 ⟨x, H7, I7, r7, y7, st7, n7⟩ => ?_
      refine thnF (pg.run _ s7 _ H7 x u _ (I7.pinned (stat I7 n7) (T.obj _ _ st7)) r7 (step x H7 y7)) fun _ s8 ⟨σ8, H8, I8, hw8, q8⟩ => ?_
      refine thnF (pt.run _ s8 σ8 H8 _ I8 q8) fun b s9 ⟨H9, I9, q9⟩ => ?_
      have fin : ∀ {s' : Shared} {H' : Hp}, Inv (X.blk s3 H3 scope ce fp) ([] ++ pinsAt fp s7.heap) σ8 H' s' → Nx H' → ∃ m, m < n ∧ ∃ i H', Inv (X.blk s3 H3 scope ce fp) [] (wipe σ (own.map (·.2))) H' s' ∧ tn i s'.heap ∧ (∀ b ∈ fp, H' b = none) ∧ W i m H' := fun {s' H'} I' nx => by
        obtain ⟨m', hm, w'⟩ := hNx H' nx
        have pin' : ∀ b ∈ fp, ∀ o, s7.heap.get? b = some o → s'.heap.get? b = some o ∧ H' b = none := fun b hb o e =>
          let z := I'.pin (b, o) (List.mem_append_right _ (List.mem_append_right _ (mem_pinsAt hb e)))
          ⟨z.1, z.2.1⟩
        refine ⟨m', hm, i + 1, H', (I'.unpinned (pins := [])).weak (by rw [← hw8, wipe_length]) (fun j v e => ?_), T.keep _ _ _ st7 fun b hb o e => (pin' b hb o e).1, fun b hb => ?_, w'⟩
        · rw [← hw8] at e
          exact (wipe_some e).1
        · obtain ⟨o, e, _⟩ := T.obj _ _ st7 b hb
          exact (pin' b hb o e).2
      cases b with
      | false =>
        simp only [Bool.false_eq_true, if_false] at q9 ⊢
        exact fin I9 q9
      | true =>
        simp only [if_true] at q9 ⊢
        refine thnF (pe.run _ s9 σ8 H9 _ I9 q9) fun z s10 ⟨yv, H10, I10, r10, zt, xs0, ey, hD10, hz10, nx⟩ => ?_
        subst ey
        obtain ⟨tz, rfl⟩ := r10
        exact txtO_add (X := X.blk s3 H3 scope ce fp) I10 hD10 hz10 fun s11 I11 => fin I11 nx
  exact PpSet.codeAny_compStart_set loop (T.self X.A 0 _ _ _ st4 loop)
end
section
variable {K : PySem.W.Frag} {w : World} {σ : L2.St} {H : Hp} {Q : VK} {g : TG} {tt : TT} {te : TE} {vs : List Nat} {wi : TI} {J : It} {n : Nat} {G : Hp → Prop} {Y : Nat → Hp → V → Hp → Prop}
theorem w_sc (h : wi σ H fun J H1 => ScB w J g tt te vs σ Q H1) : tScT w wi g tt te vs σ H Q := h
def addAll (xs : List Str) : List Str := xs.foldl addT []
theorem addT_nodup {xs : List Str} {x : Str} (h : xs.Nodup) : (addT xs x).Nodup := by
  unfold addT; split
  · exact h
  · exact List.nodup_cons.mpr ⟨by assumption, h⟩
theorem mem_addT {xs : List Str} {x y : Str} : y ∈ addT xs x ↔ y ∈ xs ∨ y = x := by
  unfold addT; split
  · constructor
    · exact .inl
    · rintro (h | rfl)
      · exact h
      · assumption
  · rw [List.mem_cons]; exact Or.comm
theorem foldl_addT : ∀ (xs acc : List Str), acc.Nodup → (xs.foldl addT acc).Nodup ∧ ∀ y, y ∈ xs.foldl addT acc ↔ y ∈ acc ∨ y ∈ xs
  | [], acc, h => ⟨h, by simp⟩
  | x :: r, acc, h => by
    obtain ⟨h1, h2⟩ := foldl_addT r (addT acc x) (addT_nodup h)
    refine ⟨h1, fun y => ?_⟩
    show y ∈ r.foldl addT (addT acc x) ↔ _
    rw [h2 y, mem_addT, List.mem_cons]
    constructor
    · rintro ((h | h) | h)
      · exact .inl h
      · exact .inr (.inl h)
      · exact .inr (.inr h)
    · rintro (h | h | h)
      · exact .inl (.inl h)
      · exact .inl (.inr h)
      · exact .inr h
theorem addT_len (xs : List Str) (x : Str) : (addT xs x).length ≤ xs.length + 1 := by
  unfold addT; split
  · omega
  · rw [List.length_cons]; exact Nat.le_refl _
theorem foldl_len : ∀ (xs acc : List Str), (xs.foldl addT acc).length ≤ acc.length + xs.length
  | [], acc => by simp
  | x :: r, acc => by
    have h1 := foldl_len r (addT acc x)
    have h2 := addT_len acc x
    simp only [List.foldl_cons, List.length_cons]
    omega
/-- a set comprehension over a list or tuple of texts, the element a text, nothing else made -/
theorem scb_pure {α : Type} (ea : α → V) {xs : List α} {G : Hp → Prop} (wk : Walk J (xs.map ea).length G (YAt (xs.map ea))) (hG : ∀ H', Same H H' → G H') (hl : xs.length + 1 < scanBound) (f : α → Str)
    (hs : ∀ x H', x ∈ xs → Same H H' → ∀ R : Option V → Hp → Prop, R (some (.str (f x))) H' → Turn1 g tt te vs σ (ea x) H' R)
    (hd : ∀ D, H D = none → Q (.ref D) (upd H D (TxtO w D (addAll (xs.map f))))) : ScB w J g tt te vs σ Q H := by
  intro D nD
  refine ⟨fun i m H' => m = xs.length - i ∧ i ≤ xs.length ∧ H' = upd H D (TxtO w D (addAll ((xs.take i).map f))), ⟨xs.length, by simp, Nat.zero_le _, rfl⟩, ?_⟩
  rintro i m H' ⟨rfl, hi, rfl⟩
  have q := hG _ (Same.new (o := TxtO w D (addAll ((xs.take i).map f))) nD)
  have eln : (xs.map ea).length = xs.length := List.length_map _
  by_cases e : i = xs.length
  · subst e
    refine .inl ⟨?_, ?_⟩
    · have := wk.stops _ q
      rwa [eln] at this
    · rw [List.take_length]; exact hd D nD
  · have hlt : i < xs.length := by omega
    refine .inr ⟨wk.goes i _ (by rw [eln]; exact hlt) q, fun H'' => H'' = upd H D (TxtO w D (addAll ((xs.take (i + 1)).map f))), fun H'' e => ⟨xs.length - (i + 1), by omega, rfl, by omega, e⟩, fun x H2 y => ?_⟩
    obtain ⟨rfl, hx⟩ := wk.yields i _ x H2 (by rw [eln]; exact hlt) q y
    rw [List.getElem?_map, List.getElem?_eq_getElem hlt] at hx
    cases hx
    have et : xs.take (i + 1) = xs.take i ++ [xs[i]] := by rw [List.take_succ, List.getElem?_eq_getElem hlt] <;> rfl
    have t := hs xs[i] _ (List.getElem_mem hlt) (Same.new (o := TxtO w D (addAll ((xs.take i).map f))) nD) (fun r H4 => match r with
      | some y => ∃ (z : Str) (xs0 : List Str), y = V.str z ∧ H4 D = some (TxtO w D xs0) ∧ xs0.length + 1 < scanBound ∧ upd H4 D (TxtO w D (addT xs0 z)) = upd H D (TxtO w D (addAll ((xs.take (i + 1)).map f)))
      | none => H4 = upd H D (TxtO w D (addAll ((xs.take (i + 1)).map f)))) ⟨f xs[i], _, rfl, upd_same, ?_, ?_⟩
    · exact t
    · have := foldl_len ((xs.take i).map f) []
      rw [List.length_map, List.length_take] at this
      simp only [List.length_nil] at this
      unfold addAll
      omega
    · rw [upd_upd, et, List.map_append]
      unfold addAll
      rw [List.foldl_append]
      rfl
end
end Mf

namespace Mf
open PySem PySem.Spec PyProof.Rows L2
section
variable {M : Model} {A : Around} {E : Value → Shared → Prop} {s : Shared} {K : PySem.W.Frag} {x C : Addr} {ox : Obj} {od : Option Obj}
theorem ifBound_objNe {args : List Value} {Q : Option Value → Shared → Prop} (X : K.In s.heap) (I : PySem.W.InstAt s.heap x ox C od) (hs : PySem.W.findIn K (.ref C) "__ne__" = some (some (.builtin "object.__ne__")))
    (h : wpAny M A (call (.builtin "object.__ne__") (.ref x :: args)) (fun v => Q (some v)) E s) : wpAny M A (callSpecialIfBound? (.ref x) "__ne__" args) Q E s := by
  have go : wpAny M A (call (.builtin "object.__ne__") ([.ref x] ++ args) >>= fun v => pure (some v)) Q E s := wpAny_bind (wpAny_mono h (fun v s' z => wpAny_pure z) fun _ _ z => z)
  simp only [callSpecialIfBound?, bindSpecialIfBound?]
  refine wpAny_holding (wpAny_bind (wpAny_bind (wpAny_bind (I.type.here ((PySem.W.looks_findIn X hs).here (wpAny_bind (wpAny_askSetting (wpAny_ite ?_))))))))
  split
  · exact wpAny_bind (wpAny_of_eq (PySem.F.cmp_object.ne.bind _) (wpAny_pure (by exact go)))
  · exact wpAny_tryCatch (wpAny_bind (wpAny_of_eq (PySem.F.cmp_object.ne.bind _) (wpAny_pure (by exact go))))
end
/-! ### operators by the defs of an own class: in, ==, !=, <=, <, |, &, -, +, len, [] -/
section
variable {X : Cx} {CX : CXT} {pins : List (Addr × Obj)} {σ : L2.St} {H : Hp} {s : Shared} {C f : Addr} {fd : FuncData} {k : Nat} {ps : List Str} {sp : Sp} {E : XK}
theorem inst_of {a dx : Addr} {fs : List (Str × V)} (I : Inv X pins σ H s) (e : H a = some (.ins C dx fs)) : ∃ od, PySem.W.InstAt s.heap a (PySem.W.instObj C dx) C (some od) := by
  obtain ⟨mA, O, _⟩ := ins_get I.hok e
  obtain ⟨od, J, _⟩ := O.look
  exact ⟨od, J⟩
/-- a def called one frame of C deeper -/
theorem run_in1 {Q : VK} {us : List Value} {vs : List V} (F : FnOk X.prog X.w X.K X.mg X.base CX k f fd ps sp) (hr : Room (k + 1) X.A) (hb : Binds X.K fd ps []) (hx : Passes CX X E) (I : Inv X pins σ H s) (r : Vals vs us) (h : sp vs H Q E) :
    wpAny (model X.prog X.w) X.A.in1 (call (.ref f) us) (EP X pins σ Q) X.xe s := by
  have hl : us.length = ps.length := by rw [← r.length]; exact F.len _ _ _ _ h
  have b := hb s us I.kIn (by rw [List.append_nil]; exact hl)
  rw [List.append_nil] at b
  refine wpAny_call (codeAny_mono (F.run X.A.in1 X.stack s H ⟨us, []⟩ us vs Q E hr.in1 I.env0.in1 b r h) fun r s' hq => ?_)
  cases r with
  | error e => exact hx pins σ H s e s' I hq
  | ok fl =>
    cases fl with
    | ret u => exact I.after hq
    | next => exact False.elim hq
    | brk => exact False.elim hq
    | cont => exact False.elim hq
theorem run_0 {Q : VK} {us : List Value} {vs : List V} (F : FnOk X.prog X.w X.K X.mg X.base CX k f fd ps sp) (hr : Room k X.A) (hb : Binds X.K fd ps []) (hx : Passes CX X E) (I : Inv X pins σ H s) (r : Vals vs us) (h : sp vs H Q E) :
    wpAny (model X.prog X.w) X.A (call (.ref f) us) (EP X pins σ Q) X.xe s := run_fn F hr hb .nil hx I r (by rw [List.append_nil]; exact h)
/-- what comes back is a truth value -/
abbrev Truth (Q : VK) : VK := fun v H' => ∃ b, v = .bl b ∧ Q (.bl b) H'
/-- x op y by a def of x's class -/
def rCmpO (K : PySem.W.Frag) (C : Addr) (sp : Sp) (E : XK) : R2 := fun x y H Q => ∃ a dx fs t, x = .ref a ∧ H a = some (.ins C dx fs) ∧ TyX K H y t ∧ PySem.W.notFirst K C t = true ∧ sp [x, y] H Q E
theorem o_cmpO (K : PySem.W.Frag) {op : CmpOp} (hop : ∀ a b, compareOp op a b = richCompare op a b) (hm : Meth X.K C (cmpInfo op).2.1 f) (F : FnOk X.prog X.w X.K X.mg X.base CX k f fd ps sp) (hr : Room k X.A) (hb : Binds X.K fd ps []) (hx : Passes CX X E) (hK : X.K = K := by rfl) :
    OpR X (compareOp op) (rCmpO K C sp E) := by
  subst hK
  intro pins s σ H x y v u Q I rx ry ⟨a, dx, fs, t, ex, ha, ht, hn, q⟩
  subst ex
  cases (show v = Value.ref a from rx)
  obtain ⟨od, J⟩ := inst_of I ha
  obtain ⟨Pp, kx, hp, _⟩ := kit_of I ry ht
  obtain ⟨m, hF⟩ := I.fr
  rw [hop]
  refine PySem.W.cmp_K (op := op) (tb := t) hr.units0 hF I.ok.mod.kin J (kx.ty _ _ I.kIn hp) hn hm.at_ hm.fn ?_
  refine wpAny_mono (run_0 (us := [.ref a, u]) (vs := [.ref a, y]) F hr hb hx I (.cons rfl (.cons ry .nil)) q) (fun w s' ⟨z, H', I', rz, qz⟩ => SlX.cmpback rz ⟨z, H', I', rz, qz⟩) fun _ _ x => x
/-- x in y, y an instance with a def __contains__ -/
def rInO (C : Addr) (sp : Sp) (E : XK) (neg : Bool) : R2 := fun x y H Q => ∃ a dx fs, y = .ref a ∧ H a = some (.ins C dx fs) ∧ sp [y, x] H (fun v H' => ∃ b, v = .bl b ∧ Q (.bl (if neg then !b else b)) H') E
theorem o_inO (hm : Meth X.K C "__contains__" f) (F : FnOk X.prog X.w X.K X.mg X.base CX k f fd ps sp) (hr : Room k X.A) (hb : Binds X.K fd ps []) (hx : Passes CX X E) : OpR X (compareOp .In) (rInO C sp E false) := by
  intro pins s σ H x y v u Q I rx ry ⟨a, dx, fs, ey, ha, q⟩
  subst ey
  cases (show u = Value.ref a from ry)
  obtain ⟨od, J⟩ := inst_of I ha
  obtain ⟨m, hF⟩ := I.fr
  refine PySem.W.in_K hF I.ok.mod.kin J hm.at_ hm.fn (wpAny_mono (run_0 (us := [.ref a, v]) (vs := [.ref a, x]) F hr hb hx I (.cons rfl (.cons rx .nil)) q) (fun w s' ⟨z, H', I', rz, b, ez, qz⟩ => ?_) fun _ _ x => x)
  subst ez
  cases (show w = Value.bool b from rz)
  exact wpAny_truthy_bool ⟨.bl b, H', I', rfl, qz⟩
theorem o_niO (hm : Meth X.K C "__contains__" f) (F : FnOk X.prog X.w X.K X.mg X.base CX k f fd ps sp) (hr : Room k X.A) (hb : Binds X.K fd ps []) (hx : Passes CX X E) : OpR X (compareOp .NotIn) (rInO C sp E true) := by
  intro pins s σ H x y v u Q I rx ry ⟨a, dx, fs, ey, ha, q⟩
  subst ey
  cases (show u = Value.ref a from ry)
  obtain ⟨od, J⟩ := inst_of I ha
  obtain ⟨m, hF⟩ := I.fr
  refine PySem.W.notIn_K hF I.ok.mod.kin J hm.at_ hm.fn (wpAny_mono (run_0 (us := [.ref a, v]) (vs := [.ref a, x]) F hr hb hx I (.cons rfl (.cons rx .nil)) q) (fun w s' ⟨z, H', I', rz, b, ez, qz⟩ => ?_) fun _ _ x => x)
  subst ez
  cases (show w = Value.bool b from rz)
  exact wpAny_truthy_bool ⟨.bl (!b), H', I', rfl, qz⟩
/-- x | y and its like, both of the one class -/
def rBinO (C : Addr) (sp : Sp) (E : XK) : R2 := fun x y H Q => ∃ a dx fs b dy gs, x = .ref a ∧ y = .ref b ∧ H a = some (.ins C dx fs) ∧ H b = some (.ins C dy gs) ∧ sp [x, y] H Q E
theorem o_binO {op : Operator} (hc : PySem.W.selfFirst X.K C = true) (hm : Meth X.K C (PySem.dunder op.info.2) f) (F : FnOk X.prog X.w X.K X.mg X.base CX k f fd ps sp) (hr : Room k X.A) (hb : Binds X.K fd ps []) (hx : Passes CX X E) : OpR X (binaryOp op) (rBinO C sp E) := by
  intro pins s σ H x y v u Q I rx ry ⟨a, dx, fs, b, dy, gs, ex, ey, ha, hb', q⟩
  subst ex; subst ey
  cases (show v = Value.ref a from rx)
  cases (show u = Value.ref b from ry)
  obtain ⟨od, J⟩ := inst_of I ha
  obtain ⟨od', J'⟩ := inst_of I hb'
  obtain ⟨m, hF⟩ := I.fr
  refine PySem.W.binop_K hF I.ok.mod.kin J J'.type hc hm.at_ hm.fn ?_
  refine wpAny_mono (run_0 (us := [.ref a, .ref b]) (vs := [.ref a, .ref b]) F hr hb hx I (.cons rfl (.cons rfl .nil)) q) (fun w s' ⟨z, H', I', rz, qz⟩ => SlX.cmpback rz ⟨z, H', I', rz, qz⟩) fun _ _ x => x
/-- len(x) by a def __len__ -/
def rLenO (C : Addr) (sp : Sp) (E : XK) : List V → Hp → VK → Prop := fun xs H Q => ∃ a dx fs, xs = [.ref a] ∧ H a = some (.ins C dx fs) ∧ sp [.ref a] H (fun v H' => ∃ n : Nat, v = .int n ∧ n ≤ sizeLine ∧ Q (.int n) H') E
theorem c_lenO (hm : Meth X.K C "__len__" f) (F : FnOk X.prog X.w X.K X.mg X.base CX k f fd ps sp) (hr : Room (k + 1) X.A) (hb : Binds X.K fd ps []) (hx : Passes CX X E) : CallR X (.builtin "len") (rLenO C sp E) := by
  intro pins s σ H xs us Q I r ⟨a, dx, fs, ex, ha, q⟩
  subst ex
  rw [Vals.ref1 r]
  obtain ⟨od, J⟩ := inst_of I ha
  obtain ⟨m, hF⟩ := I.fr
  refine PySem.W.len_K hF I.ok.mod.kin J hm.at_ hm.fn (wpAny_mono (run_in1 (us := [.ref a]) (vs := [.ref a]) F hr hb hx I (.cons rfl .nil) q) (fun w s' ⟨z, H', I', rz, n, ez, hn, qz⟩ => ?_) fun _ _ x => x)
  subst ez
  obtain ⟨t, rfl⟩ := rz
  rw [sizeLine_eq] at hn
  exact ⟨⟨by omega, by omega⟩, .int n, H', I'.tok _, ⟨_, rfl⟩, qz⟩
/-- x[i] by a def __getitem__ -/
def rGetO (C : Addr) (sp : Sp) (E : XK) : R2 := fun x y H Q => ∃ a dx fs, x = .ref a ∧ H a = some (.ins C dx fs) ∧ sp [x, y] H Q E
/-- x != y where the class has a def __eq__ alone -/
def rNeO (K : PySem.W.Frag) (C : Addr) (sp : Sp) (E : XK) : R2 := fun x y H Q => ∃ a dx fs t, x = .ref a ∧ H a = some (.ins C dx fs) ∧ TyX K H y t ∧ PySem.W.notFirst K C t = true ∧ sp [x, y] H (fun v H' => ∃ b, v = .bl b ∧ Q (.bl (!b)) H') E
theorem o_neO (K : PySem.W.Frag) (hne : PySem.W.findIn X.K (.ref C) "__ne__" = some (some (.builtin "object.__ne__"))) (hob : PySem.W.mroIn X.K C (.type "object") = some true) (hm : Meth X.K C "__eq__" f)
    (F : FnOk X.prog X.w X.K X.mg X.base CX k f fd ps sp) (hr : Room (k + 1) X.A) (hb : Binds X.K fd ps []) (hx : Passes CX X E) (hK : X.K = K := by rfl) : OpR X (compareOp .NotEq) (rNeO K C sp E) := by
  subst hK
  intro pins s σ H x y v u Q I rx ry ⟨a, dx, fs, t, ex, ha, ht, hn, q⟩
  subst ex
  cases (show v = Value.ref a from rx)
  obtain ⟨od, J⟩ := inst_of I ha
  obtain ⟨Pp, kx, hp, _⟩ := kit_of I ry ht
  have hu : X.A.units + 1 < cLine := hu_of hr
  have one : wpAny (model X.prog X.w) X.A (tryCompare (.ref a) "__ne__" u) (fun r s' => ∃ b H', r = some (.bool (!b)) ∧ Inv X pins σ H' s' ∧ Q (.bl (!b)) H') X.xe s := by
    have body : wpAny (model X.prog X.w) X.A.in1 (Builtin.«object.__ne__» ⟨[.ref a, u], []⟩) (fun r s' => ∃ b H', r = .done (.ret (.bool (!b))) ∧ Inv X pins σ H' s' ∧ Q (.bl (!b)) H') X.xe s := by
      unfold Builtin.«object.__ne__»
      refine wpAny_bind (wpAny_pure ?_)
      dsimp only
      refine wpAny_bind (wpAny_cRoomFor (show X.A.in1.units < cLine from hu) ?_)
      refine wpAny_bind (PySem.W.ifBound_K I.kIn J hm.at_ hm.fn (wpAny_mono (run_in1 (us := [.ref a, u]) (vs := [.ref a, y]) F hr hb hx I (.cons rfl (.cons ry .nil)) q) (fun w s' ⟨z, H', I', rz, b, ez, qz⟩ => ?_) fun _ _ x => x))
      subst ez
      cases (show w = Value.bool b from rz)
      dsimp only
      exact wpAny_bind (wpAny_truthy_bool (wpAny_pure ⟨b, H', rfl, I', qz⟩))
    unfold tryCompare
    refine wpAny_bind (ifBound_objNe I.kIn J hne (wpAny_call (codeAny_call_builtin PySem.F.cmp_object.ne.plain PySem.F.cmpEntry_ne (PySem.W.check_slot PySem.F.cmpKind_ne PySem.F.cmpSplit_ne (J.type.andThen (PySem.W.looks_mroIn I.kIn hob)) (PySem.F.cmpArgs_ne _ _)
      (wpAny_mono body (fun r s' ⟨b, H', er, I', qz⟩ => ?_) fun _ _ x => x)))))
    subst er
    exact wpAny_pure ⟨b, H', rfl, I', qz⟩
  show wpAny _ _ (richCompare .NotEq (.ref a) u) _ _ _
  unfold richCompare
  simp only [oneThing_ref]
  refine wpAny_holding (wpAny_bind (wpAny_cRoomFor (Nat.lt_of_succ_lt hu) ?_))
  refine wpAny_bind (J.type.here (wpAny_bind ((kx.ty _ _ I.kIn hp).here ?_)))
  split
  · rename_i ne
    have e : PySem.W.subIn X.K t (.ref C) = some false := by
      rcases Bool.or_eq_true_iff.mp hn with e | e
      · rw [beq_iff_eq.mp e] at ne; simp at ne
      · exact beq_iff_eq.mp e
    refine wpAny_bind ((PySem.W.looks_subIn I.kIn e).here ?_)
    simp only [Bool.false_eq_true, if_false]
    refine wpAny_bind (wpAny_mono one (fun r s' ⟨b, H', er, I', qz⟩ => ?_) fun _ _ e => e)
    subst er
    exact wpAny_pure ⟨.bl (!b), H', I', rfl, qz⟩
  · refine wpAny_bind (wpAny_pure ?_)
    simp only [Bool.false_eq_true, if_false]
    refine wpAny_bind (wpAny_mono one (fun r s' ⟨b, H', er, I', qz⟩ => ?_) fun _ _ e => e)
    subst er
    exact wpAny_pure ⟨.bl (!b), H', I', rfl, qz⟩
end
end Mf

namespace Mf
open PySem L2
/-! ### texts in order -/
def sle (a b : Str) : Bool := decide (a.cps.toList ≤ b.cps.toList)
theorem sle_trans (a b c : Str) (h1 : sle a b = true) (h2 : sle b c = true) : sle a c = true := by
  unfold sle at *
  rw [decide_eq_true_eq] at *
  exact List.le_trans h1 h2
theorem sle_total (a b : Str) : (sle a b || sle b a) = true := by
  unfold sle
  rw [Bool.or_eq_true, decide_eq_true_eq, decide_eq_true_eq]
  exact List.le_total _ _
theorem sle_anti {a b : Str} (h1 : sle a b = true) (h2 : sle b a = true) : a = b := by
  unfold sle at *
  rw [decide_eq_true_eq] at *
  exact str_ext (List.le_antisymm h1 h2)
theorem rising_pw : ∀ (p : Str) (l : List Str), PyProof.Rows.risingS p l = true → (p :: l).Pairwise (fun a b => sle a b = true)
  | p, [], _ => by simp
  | p, x :: r, h => by
    have h' : (!PySem.Spec.ltCps x.cps.toList p.cps.toList && PyProof.Rows.risingS x r) = true := h
    rw [Bool.and_eq_true] at h'
    have ih := rising_pw x r h'.2
    have h1 : sle p x = true := by
      have := h'.1
      rw [PyProof.Rows.ltCps_eq] at this
      unfold sle
      rw [decide_eq_true_eq]
      simpa using this
    refine List.pairwise_cons.mpr ⟨fun y hy => ?_, ih⟩
    rcases List.mem_cons.mp hy with rfl | hy
    · exact h1
    · exact sle_trans _ _ _ h1 ((List.pairwise_cons.mp ih).1 y hy)
theorem sortedS_pw : ∀ l : List Str, PyProof.Rows.sortedS l = true → l.Pairwise (fun a b => sle a b = true)
  | [], _ => List.Pairwise.nil
  | x :: r, h => rising_pw x r h
def srt (xs : List Str) : List Str := xs.mergeSort sle
theorem srt_perm (xs : List Str) : (srt xs).Perm xs := List.mergeSort_perm _ _
theorem srt_pw (xs : List Str) : (srt xs).Pairwise (fun a b => sle a b = true) := List.pairwise_mergeSort sle_trans sle_total xs
theorem srt_uniq {xs ys : List Str} (h : ys.Perm xs) (hs : ys.Pairwise (fun a b => sle a b = true)) : ys = srt xs :=
  List.Perm.eq_of_pairwise (fun _ _ _ _ h1 h2 => sle_anti h1 h2) hs (srt_pw xs) (h.trans (srt_perm xs).symm)
theorem sorted_is {xs ys : List Str} (h : ys.Perm xs) (hs : PyProof.Rows.sortedS ys = true) : ys = srt xs := srt_uniq h (sortedS_pw ys hs)
theorem srt_congr {xs ys : List Str} (h : xs.Perm ys) : srt xs = srt ys := srt_uniq ((srt_perm xs).trans h) (srt_pw xs)
theorem srt_len (xs : List Str) : (srt xs).length = xs.length := (srt_perm xs).length_eq
/-! ### sets of names: in order, each once -/
def nset (xs : List Str) : List Str := srt (addAll xs)
theorem addAll_nodup (xs : List Str) : (addAll xs).Nodup := (foldl_addT xs [] List.nodup_nil).1
theorem mem_addAll {xs : List Str} {z : Str} : z ∈ addAll xs ↔ z ∈ xs := by
  rw [show addAll xs = xs.foldl addT [] from rfl, (foldl_addT xs [] List.nodup_nil).2 z]; simp
theorem addAll_len (xs : List Str) : (addAll xs).length ≤ xs.length := by
  have := foldl_len xs []
  unfold addAll
  simpa using this
theorem nset_nodup (xs : List Str) : (nset xs).Nodup := (srt_perm _).nodup_iff.mpr (addAll_nodup xs)
theorem mem_nset {xs : List Str} {z : Str} : z ∈ nset xs ↔ z ∈ xs := by
  unfold nset; rw [(srt_perm _).mem_iff, mem_addAll]
theorem nset_len (xs : List Str) : (nset xs).length ≤ xs.length := by unfold nset; rw [srt_len]; exact addAll_len xs
theorem perm_of_mem {xs ys : List Str} (h1 : xs.Nodup) (h2 : ys.Nodup) (h : ∀ z, z ∈ xs ↔ z ∈ ys) : xs.Perm ys := (List.perm_ext_iff_of_nodup h1 h2).mpr h
theorem nset_congr {xs ys : List Str} (h : ∀ z, z ∈ xs ↔ z ∈ ys) : nset xs = nset ys :=
  srt_congr (perm_of_mem (addAll_nodup xs) (addAll_nodup ys) fun z => by rw [mem_addAll, mem_addAll]; exact h z)
theorem srt_nset {xs : List Str} (h : xs.Nodup) : srt xs = nset xs := srt_congr (perm_of_mem h (addAll_nodup xs) fun z => mem_addAll.symm)
theorem nset_nset (xs : List Str) : nset (nset xs) = nset xs := nset_congr fun z => mem_nset
theorem nset_len_nodup {xs : List Str} (h : xs.Nodup) : (nset xs).length = xs.length := by rw [← srt_nset h, srt_len]
theorem nset_inj {xs ys : List Str} (h : nset xs = nset ys) (z : Str) : z ∈ xs ↔ z ∈ ys := by
  rw [← mem_nset (xs := xs), h, mem_nset]
theorem nset_nil : nset [] = [] := by unfold nset srt addAll; simp
theorem nset_filter (p : Str → Bool) (xs : List Str) : nset ((nset xs).filter p) = nset (xs.filter p) := nset_congr fun z => by
  rw [List.mem_filter, List.mem_filter, mem_nset]
/-! ### classes and methods as they stand, and what methods do -/
structure ClsF (K : PySem.W.Frag) (mg : Str → Option Value) (x : Str) (C : Addr) : Prop where
  g : mg x = some (.ref C)
  ic : C8.InsC K C
  sf : PySem.W.selfFirst K C = true
  ne : PySem.W.findIn K (.ref C) "__ne__" = some (some (.builtin "object.__ne__"))
def MethAt (K : PySem.W.Frag) (C : Addr) (m q : Str) (st : Stmt) (ps : List Str) : Prop := ∃ f fd, Fun K m q st f fd ∧ Meth K C m f ∧ Binds K fd ps []
def MDoes (P : Program) (w : World) (K : PySem.W.Frag) (mg : Str → Option Value) (base : Heap) (CX : CXT) (lv : Nat) (C : Addr) (m : Str) (ps : List Str) (sp : Sp) : Prop :=
  ∃ f fd, FnOk P w K mg base CX lv f fd ps sp ∧ Meth K C m f ∧ Binds K fd ps [] ∧ PySem.W.fnIn K f = true
theorem _root_.L2.Fun.isIn {K : PySem.W.Frag} {x q : Str} {st : Stmt} {f : Addr} {fd : FuncData} (F : Fun K x q st f fd) : PySem.W.fnIn K f = true := by
  obtain ⟨oc, od, kV, doc, pm, an, cdv, ct, osl, rfl, h, _⟩ := F.ex
  unfold PySem.W.fnIn
  rw [h]
theorem filterMap_if {α : Type} (p : α → Prop) [DecidablePred p] : ∀ xs : List α, (xs.filterMap fun z => if p z then some z else none) = xs.filter fun z => decide (p z)
  | [] => rfl
  | q :: r => by
    have ih := filterMap_if p r
    rw [List.filterMap_cons, List.filter_cons]
    by_cases h : p q
    · simp only [h, if_true, decide_true]; rw [ih]
    · simp only [h, if_false, decide_false]; rw [ih]; rfl
/-! ### texts as data -/
def Oks (xs : List Str) : Prop := ∀ x ∈ xs, PyData.strOk x = true
theorem Oks.nset {xs : List Str} (h : Oks xs) : Oks (nset xs) := fun x hx => h x (mem_nset.mp hx)
theorem Oks.filter {xs : List Str} (h : Oks xs) (p : Str → Bool) : Oks (xs.filter p) := fun x hx => h x (List.mem_filter.mp hx).1
theorem Oks.append {xs ys : List Str} (h : Oks xs) (h' : Oks ys) : Oks (xs ++ ys) := fun x hx => (List.mem_append.mp hx).elim (h x) (h' x)
theorem IsName.ok {x : Str} (h : IsName x) : PyData.strOk x = true := by
  unfold PyData.strOk
  rw [Array.all_eq_true']
  intro c hc
  have := h.2.2 c (Array.mem_toList_iff.mpr hc)
  simp
  omega
theorem Names.oks {xs : List Str} (h : Names xs) : Oks xs := fun x hx => (h.2 x hx).ok
theorem dpAll_strs (K : PySem.W.Frag) (H : Hp) : ∀ xs : List Str, DpAll K H (xs.map V.str) (xs.map PyData.str)
  | [] => .nil
  | x :: r => .cons (.str x) (dpAll_strs K H r)
theorem dp_strsT {K : PySem.W.Frag} {H : Hp} {a : Addr} {xs : List Str} (h : SqT K H a (xs.map V.str)) : Dp K H (.ref a) (.tuple (xs.map PyData.str)) := .tup h (dpAll_strs K H xs)
theorem dp_strsL {K : PySem.W.Frag} {H : Hp} {a : Addr} {xs : List Str} (h : SqL K H a (xs.map V.str)) : Dp K H (.ref a) (.list (xs.map PyData.str)) := .lst h (dpAll_strs K H xs)
theorem lay_strs : ∀ {xs : List Str}, Oks xs → PyData.canLayAll0 (xs.map PyData.str) = true
  | [], _ => by simp [PyData.canLayAll0]
  | x :: r, h => by
    have h1 := h x List.mem_cons_self
    have h2 := lay_strs (xs := r) fun y hy => h y (List.mem_cons_of_mem _ hy)
    simp only [List.map_cons, PyData.canLayAll0, PyData.canLay0, h1, h2, Bool.and_self]
theorem depth_strs : ∀ xs : List Str, PyData.depthAll (xs.map PyData.str) = 0
  | [] => by simp [PyData.depthAll]
  | x :: r => by simp only [List.map_cons, PyData.depthAll, PyData.depth, depth_strs r, Nat.max_self]
theorem shaped_strsT {xs : List Str} (h : Oks xs) : SeqAt.shaped (.tuple (xs.map PyData.str)) = true := by
  unfold SeqAt.shaped
  simp only [PyData.canLay0, PyData.depth, depth_strs, lay_strs h]
  rfl
theorem shaped_strsL {xs : List Str} (h : Oks xs) : SeqAt.shaped (.list (xs.map PyData.str)) = true := by
  unfold SeqAt.shaped
  simp only [PyData.canLay0, PyData.depth, depth_strs, lay_strs h]
  rfl
theorem eqvAll_strs : ∀ xs ys : List Str, PyData.eqvAll (xs.map PyData.str) (ys.map PyData.str) = decide (xs = ys)
  | [], [] => by simp [PyData.eqvAll]
  | [], y :: ys => by simp [PyData.eqvAll]
  | x :: xs, [] => by simp [PyData.eqvAll]
  | x :: xs, y :: ys => by
    simp only [List.map_cons, PyData.eqvAll, PyData.eqv, eqvAll_strs xs ys]
    by_cases h1 : x = y
    · by_cases h2 : xs = ys <;> simp [h1, h2]
    · simp [h1]
theorem eqv_strsT (xs ys : List Str) : PyData.eqv (.tuple (xs.map PyData.str)) (.tuple (ys.map PyData.str)) = decide (xs = ys) := by
  simp only [PyData.eqv]; exact eqvAll_strs xs ys
theorem eqv_strsL (xs ys : List Str) : PyData.eqv (.list (xs.map PyData.str)) (.list (ys.map PyData.str)) = decide (xs = ys) := by
  simp only [PyData.eqv]; exact eqvAll_strs xs ys
section
variable {K : PySem.W.Frag} {H : Hp} {Q : VK} {a b : Addr} {xs ys : List Str}
theorem w_eqT (ha : SqT K H a (xs.map V.str)) (hb : SqT K H b (ys.map V.str)) (h1 : Oks xs) (h2 : Oks ys) (g : Q (.bl (decide (xs = ys))) H) : rEqD K (.ref a) (.ref b) H Q :=
  ⟨_, _, dp_strsT ha, dp_strsT hb, shaped_strsT h1, shaped_strsT h2, by rw [eqv_strsT]; exact g⟩
theorem w_eqL (ha : SqL K H a (xs.map V.str)) (hb : SqL K H b (ys.map V.str)) (h1 : Oks xs) (h2 : Oks ys) (g : Q (.bl (decide (xs = ys))) H) : rEqD K (.ref a) (.ref b) H Q :=
  ⟨_, _, dp_strsL ha, dp_strsL hb, shaped_strsL h1, shaped_strsL h2, by rw [eqv_strsL]; exact g⟩
theorem w_neL (ha : SqL K H a (xs.map V.str)) (hb : SqL K H b (ys.map V.str)) (h1 : Oks xs) (h2 : Oks ys) (g : Q (.bl (!decide (xs = ys))) H) : rNeD K (.ref a) (.ref b) H Q :=
  ⟨_, _, dp_strsL ha, dp_strsL hb, shaped_strsL h1, shaped_strsL h2, by rw [eqv_strsL]; exact g⟩
theorem w_neT (ha : SqT K H a (xs.map V.str)) (hb : SqT K H b (ys.map V.str)) (h1 : Oks xs) (h2 : Oks ys) (g : Q (.bl (!decide (xs = ys))) H) : rNeD K (.ref a) (.ref b) H Q :=
  ⟨_, _, dp_strsT ha, dp_strsT hb, shaped_strsT h1, shaped_strsT h2, by rw [eqv_strsT]; exact g⟩
end
/-! ### NameSet -/
def fldM (t : Addr) : List (Str × V) := [("members", .ref t)]
/-- at a: a NameSet of the names xs -/
def NsAt (K : PySem.W.Frag) (C : Addr) (H : Hp) (a : Addr) (xs : List Str) : Prop := ∃ dx t, H a = some (.ins C dx (fldM t)) ∧ SqT K H t (xs.map V.str) ∧ Oks xs
theorem Same.sqt {K : PySem.W.Frag} {H H' : Hp} {a : Addr} {xs : List V} (e : Same H H') (h : SqT K H a xs) : SqT K H' a xs := by
  rcases h with (h | ⟨o, h⟩) | h
  · exact .inl (.inl (e _ _ h))
  · exact .inl (.inr ⟨o, e _ _ h⟩)
  · exact .inr h
theorem NsAt.same {K : PySem.W.Frag} {C : Addr} {H H' : Hp} {a : Addr} {xs : List Str} (h : NsAt K C H a xs) (e : Same H H') : NsAt K C H' a xs := by
  obtain ⟨dx, t, h1, h2, h3⟩ := h
  exact ⟨dx, t, e _ _ h1, Same.sqt e h2, h3⟩
def sp_nsContains (K : PySem.W.Frag) (C : Addr) : Sp := fun vs H Q _ => ∃ (a : Addr) (xs : List Str) (z : Str), vs = [.ref a, .str z] ∧ NsAt K C H a xs ∧ Q (.bl (decide (z ∈ xs))) H
def sp_nsLen (K : PySem.W.Frag) (C : Addr) : Sp := fun vs H Q _ => ∃ (a : Addr) (xs : List Str), vs = [.ref a] ∧ NsAt K C H a xs ∧ Q (.int xs.length) H
/-- two sets -/
def sp_nsCmp (K : PySem.W.Frag) (C : Addr) (f : List Str → List Str → Bool) : Sp := fun vs H Q _ => ∃ (a b : Addr) (xs ys : List Str), vs = [.ref a, .ref b] ∧ NsAt K C H a xs ∧ NsAt K C H b ys ∧ xs.length ≤ 1000 ∧ ∀ H', Same H H' → Q (.bl (f xs ys)) H'
/-- a set and anything that is of another type -/
def sp_nsEq (K : PySem.W.Frag) (C : Addr) : Sp := fun vs H Q _ => ∃ (a : Addr) (y : V) (xs : List Str), vs = [.ref a, y] ∧ NsAt K C H a xs ∧
  ((∃ b ys, y = .ref b ∧ NsAt K C H b ys ∧ Q (.bl (decide (xs = ys))) H) ∨ (∃ t, TyX K H y t ∧ PySem.W.kitOne K t (.ref C) = some false ∧ Q (.bl false) H))
def sp_nsBin (K : PySem.W.Frag) (C : Addr) (f : List Str → List Str → List Str) : Sp := fun vs H Q _ => ∃ (a b : Addr) (xs ys : List Str), vs = [.ref a, .ref b] ∧ NsAt K C H a xs ∧ NsAt K C H b ys ∧ xs.length + ys.length < 64 ∧
  ∀ c H', Same H H' → H c = none → NsAt K C H' c (nset (f xs ys)) → Q (.ref c) H'
/-- __init__: a list or tuple of texts, or a set of names -/
def Coll (K : PySem.W.Frag) (C : Addr) (H : Hp) (v : V) (xs : List Str) : Prop := ∃ b, v = .ref b ∧ (SqL K H b (xs.map V.str) ∨ SqT K H b (xs.map V.str) ∨ (NsAt K C H b xs ∧ nset xs = xs))
def sp_nsInit (K : PySem.W.Frag) (C : Addr) : Sp := fun vs H Q _ => ∃ (x dx : Addr) (v : V) (xs : List Str), vs = [.ref x, v] ∧ H x = some (.ins C dx []) ∧ Coll K C H v xs ∧ Oks xs ∧ xs.length < 64 ∧
  ∀ H' t, (∀ b o, b ≠ x → H b = some o → H' b = some o) → H' x = some (.ins C dx (fldM t)) → SqT K H' t ((nset xs).map V.str) → Q .non H'
/-! ### making instances -/
def MkDoes (P : Program) (w : World) (K : PySem.W.Frag) (mg : Str → Option Value) (base : Heap) (CX : CXT) (lv : Nat) (x : Str) (C : Addr) (ps : List Str) (dvs : List V) (sp : Sp) : Prop :=
  ∃ f fd ds, Mk K C f ∧ FnOk P w K mg base CX lv f fd ps sp ∧ Binds K fd ps ds ∧ Vals dvs ds ∧ mg x = some (.ref C)
def MkAt (K : PySem.W.Frag) (C : Addr) (q : Str) (st : Stmt) (ps : List Str) : Prop := ∃ f fd, Fun K "__init__" q st f fd ∧ Mk K C f ∧ Binds K fd ps []
theorem tyx_l {K : PySem.W.Frag} {H : Hp} {a : Addr} {xs : List V} (h : SqL K H a xs) : TyX K H (.ref a) (.type "list") := by
  rcases h with (h | ⟨o, h⟩) | ⟨o, its, n, h, hc, _⟩
  · exact .base (.lst h)
  · exact .base (.frz h)
  · exact .kList h hc
theorem tyx_t {K : PySem.W.Frag} {H : Hp} {a : Addr} {xs : List V} (h : SqT K H a xs) : TyX K H (.ref a) (.type "tuple") := by
  rcases h with (h | ⟨o, h⟩) | ⟨o, its, n, h, hc, _⟩
  · exact .base (.tup h)
  · exact .fTuple h
  · exact .kTuple h hc
theorem tyx_i {K : PySem.W.Frag} {C : Addr} {H : Hp} {a dx : Addr} {fs : List (Str × V)} (c : C8.InsC K C) (h : H a = some (.ins C dx fs)) : TyX K H (.ref a) (.ref C) := .base (.ins h c.cl c.ha c.hn c.htk c.hm)
theorem look_hd {k : Str} {v : V} {r : List (Str × V)} : ((k, v) :: r).lookup k = some v := List.lookup_cons_self
section
variable {K : PySem.W.Frag} {σ : L2.St} {H : Hp} {Q : VK} {a C dx : Addr} {fs : List (Str × V)} {v : V} {f : Str}
theorem w_fldx {R : V → Prop} (h : H a = some (.ins C dx fs)) (hc : Cls K C) (hn : NoAttr K C f) (hl : fs.lookup f = some v) (g : R v) : ∃ a' C dx fs v, V.ref a = .ref a' ∧ H a' = some (.ins C dx fs) ∧ Cls K C ∧ NoAttr K C f ∧ fs.lookup f = some v ∧ R v :=
  ⟨a, C, dx, fs, v, rfl, h, hc, hn, hl, g⟩
theorem w_sfld {ta tv : TE} {nx bk ct : L2.St → Hp → Prop} {rt : VK} (g : tv σ H fun y H1 => ta σ H1 fun x H2 => ∃ a C dx fs, x = .ref a ∧ H2 a = some (.ins C dx fs) ∧ Cls K C ∧ NoAttr K C f ∧ fs.length < 1000 ∧ nx σ (upd H2 a (.ins C dx (putF f y fs)))) : sFld K ta tv f ⟨nx, rt, bk, ct⟩ σ H := g
theorem w_sfldx {y : V} {R : Hp → Prop} (h : H a = some (.ins C dx fs)) (hc : Cls K C) (hn : NoAttr K C f) (hl : fs.length < 1000) (g : R (upd H a (.ins C dx (putF f y fs)))) :
    ∃ a' C dx fs, V.ref a = .ref a' ∧ H a' = some (.ins C dx fs) ∧ Cls K C ∧ NoAttr K C f ∧ fs.length < 1000 ∧ R (upd H a' (.ins C dx (putF f y fs))) := ⟨a, C, dx, fs, rfl, h, hc, hn, hl, g⟩
/-- an instance is made, and its __init__ run -/
def MkB (C : Addr) (sp : Sp) (E : XK) (Q : VK) (vs : List V) (H1 : Hp) : Prop := ∀ x dx, H1 x = none → H1 dx = none → dx ≠ x → sp (.ref x :: vs) (upd (upd H1 dx (.own x)) x (.ins C dx [])) (fun v H2 => v = .non ∧ Q (.ref x) H2) E
theorem w_make {sp : Sp} {dvs : List V} {E : XK} {tA : TA} (g : tA σ H fun vs H1 => MkB C sp E Q (vs ++ dvs) H1) : tMake C sp dvs E tA σ H Q := g
end
theorem Coll.same {K : PySem.W.Frag} {C : Addr} {H H' : Hp} {v : V} {xs : List Str} (h : Coll K C H v xs) (e : Same H H') : Coll K C H' v xs := by
  obtain ⟨b, rfl, h | h | ⟨h, h'⟩⟩ := h
  · exact ⟨b, rfl, .inl (e.seq h)⟩
  · exact ⟨b, rfl, .inr (.inl (Same.sqt e h))⟩
  · exact ⟨b, rfl, .inr (.inr ⟨h.same e, h'⟩)⟩
theorem use_nsMake {K : PySem.W.Frag} {C : Addr} {H : Hp} {Q : VK} {E : XK} {v : V} {vs : List V} {xs : List Str} (hv : vs = [v]) (hC : Coll K C H v xs) (hO : Oks xs) (hl : xs.length < 64) (g : ∀ x H', Same H H' → H x = none → NsAt K C H' x (nset xs) → Q (.ref x) H') : MkB C (sp_nsInit K C) E Q vs H := by
  intro x dx nx nd ne
  subst hv
  have s0 : Same H (upd (upd H dx (.own x)) x (.ins C dx [])) := Same.mut (Same.new nd) nx
  refine ⟨x, dx, v, xs, rfl, upd_same, hC.same s0, hO, hl, fun H' t k hx hT => ⟨rfl, ?_⟩⟩
  exact g x H' (fun b o e => k b o (ne_of_none e nx) (s0 b o e)) nx ⟨dx, t, hx, hT, hO.nset⟩
def nsLe (xs ys : List Str) : Bool := xs.all fun z => decide (z ∈ ys)
def nsLt (xs ys : List Str) : Bool := decide (xs.length < ys.length) && nsLe xs ys
def nsOr (xs ys : List Str) : List Str := xs ++ ys
def nsAnd (xs ys : List Str) : List Str := xs.filter fun z => decide (z ∈ ys)
def nsSub (xs ys : List Str) : List Str := xs.filter fun z => decide (z ∉ ys)
theorem FunD.okN {P : Program} {w : World} {K : PySem.W.Frag} {mg : Str → Option Value} {base : Heap} {x qual : Str} {params : Arguments} {body : List Stmt} {scope : Scope} {dvs : List V} {kws : List (Str × V)} {f : Addr} {fd : FuncData} {N ps : List Str} {k : Nat} {sp : Sp}
    (F : FunD K x qual params body scope dvs kws f fd) (S : FnScope N ps scope) (len : ∀ vs H Q E, sp vs H Q E → vs.length = ps.length)
    (hbody : ∀ (cdv : Value) (A : Around) (outer : List Env) (s : Shared) (H : Hp) (vs : List V) (Q : VK) (E : XK), Room k (A.deeper (PyProof.Rows.envOfC qual scope s.heap.objs.size f cdv)) → sp vs H Q E →
      ∃ t, PSs (cxOf CX0 P w K mg base N qual scope f cdv A outer s H E).nox body t ∧ t { nx := fun _ H' => Q .non H', rt := Q } (start N vs) H) : FnOk P w K mg base CX0 (k + 1) f fd ps sp :=
  F.ok S len fun cdv A outer s H vs Q E hr h => let ⟨t, d, q⟩ := hbody cdv A outer s H vs Q E hr h; ⟨t, d.nox, q⟩
/-! ### the operators of sets, used -/
section
variable {K : PySem.W.Frag} {C : Addr} {H : Hp} {Q : VK} {E : XK} {a b : Addr} {xs ys : List Str}
theorem nf_self : PySem.W.notFirst K C (.ref C) = true := by unfold PySem.W.notFirst; simp
theorem u_nsCmp {f : List Str → List Str → Bool} (ic : C8.InsC K C) (h1 : NsAt K C H a xs) (h2 : NsAt K C H b ys) (hl : xs.length ≤ 1000) (g : ∀ H', Same H H' → Q (.bl (f xs ys)) H') : rCmpO K C (sp_nsCmp K C f) E (.ref a) (.ref b) H Q := by
  obtain ⟨dx, t, ha, _⟩ := id h1
  obtain ⟨dy, u, hb, _⟩ := id h2
  exact ⟨a, dx, _, _, rfl, ha, tyx_i ic hb, nf_self, a, b, xs, ys, rfl, h1, h2, hl, g⟩
theorem u_nsEq (ic : C8.InsC K C) (h1 : NsAt K C H a xs) (h2 : NsAt K C H b ys) (g : Q (.bl (decide (xs = ys))) H) : rCmpO K C (sp_nsEq K C) E (.ref a) (.ref b) H Q := by
  obtain ⟨dx, t, ha, _⟩ := id h1
  obtain ⟨dy, u, hb, _⟩ := id h2
  exact ⟨a, dx, _, _, rfl, ha, tyx_i ic hb, nf_self, a, .ref b, xs, rfl, h1, .inl ⟨b, ys, rfl, h2, g⟩⟩
theorem u_nsEqO {y : V} {t : Value} (h1 : NsAt K C H a xs) (ht : TyX K H y t) (hn : PySem.W.notFirst K C t = true) (hk : PySem.W.kitOne K t (.ref C) = some false) (g : Q (.bl false) H) : rCmpO K C (sp_nsEq K C) E (.ref a) y H Q := by
  obtain ⟨dx, t', ha, _⟩ := id h1
  exact ⟨a, dx, _, _, rfl, ha, ht, hn, a, y, xs, rfl, h1, .inr ⟨t, ht, hk, g⟩⟩
theorem u_nsNe (ic : C8.InsC K C) (h1 : NsAt K C H a xs) (h2 : NsAt K C H b ys) (g : Q (.bl (!decide (xs = ys))) H) : rNeO K C (sp_nsEq K C) E (.ref a) (.ref b) H Q := by
  obtain ⟨dx, t, ha, _⟩ := id h1
  obtain ⟨dy, u, hb, _⟩ := id h2
  exact ⟨a, dx, _, _, rfl, ha, tyx_i ic hb, nf_self, a, .ref b, xs, rfl, h1, .inl ⟨b, ys, rfl, h2, _, rfl, g⟩⟩
theorem u_nsBin {f : List Str → List Str → List Str} (h1 : NsAt K C H a xs) (h2 : NsAt K C H b ys) (hl : xs.length + ys.length < 64) (g : ∀ c H', Same H H' → H c = none → NsAt K C H' c (nset (f xs ys)) → Q (.ref c) H') : rBinO C (sp_nsBin K C f) E (.ref a) (.ref b) H Q := by
  obtain ⟨dx, t, ha, _⟩ := id h1
  obtain ⟨dy, u, hb, _⟩ := id h2
  exact ⟨a, dx, _, b, dy, _, rfl, rfl, ha, hb, a, b, xs, ys, rfl, h1, h2, hl, g⟩
theorem u_nsIn {z : Str} (h1 : NsAt K C H a xs) (g : Q (.bl (decide (z ∈ xs))) H) : rInO C (sp_nsContains K C) E false (.str z) (.ref a) H Q := by
  obtain ⟨dx, t, ha, _⟩ := id h1
  exact ⟨a, dx, _, rfl, ha, a, xs, z, rfl, h1, _, rfl, g⟩
theorem u_nsNi {z : Str} (h1 : NsAt K C H a xs) (g : Q (.bl (!decide (z ∈ xs))) H) : rInO C (sp_nsContains K C) E true (.str z) (.ref a) H Q := by
  obtain ⟨dx, t, ha, _⟩ := id h1
  exact ⟨a, dx, _, rfl, ha, a, xs, z, rfl, h1, _, rfl, g⟩
theorem u_nsLen (h1 : NsAt K C H a xs) (hl : xs.length ≤ 1000) (g : Q (.int xs.length) H) : rLenO C (sp_nsLen K C) E [.ref a] H Q := by
  obtain ⟨dx, t, ha, _⟩ := id h1
  exact ⟨a, dx, _, rfl, ha, a, xs, rfl, h1, xs.length, rfl, by rw [PySem.sizeLine_eq]; omega, g⟩
end
theorem nsLe_nset (xs ys : List Str) : nsLe (nset xs) (nset ys) = nsLe xs ys := by
  unfold nsLe
  rw [Bool.eq_iff_iff, List.all_eq_true, List.all_eq_true]
  constructor
  · intro h z hz
    have := h z (mem_nset.mpr hz)
    rw [decide_eq_true_eq, mem_nset] at this
    rw [decide_eq_true_eq]; exact this
  · intro h z hz
    have := h z (mem_nset.mp hz)
    rw [decide_eq_true_eq] at this ⊢
    rw [mem_nset]; exact this
theorem nset_and (xs ys : List Str) : nset (nsAnd (nset xs) (nset ys)) = nset (xs.filter fun z => decide (z ∈ ys)) := nset_congr fun z => by
  unfold nsAnd; simp only [List.mem_filter, mem_nset, decide_eq_true_eq]
theorem nset_sub (xs ys : List Str) : nset (nsSub (nset xs) (nset ys)) = nset (xs.filter fun z => decide (z ∉ ys)) := nset_congr fun z => by
  unfold nsSub; simp only [List.mem_filter, mem_nset, decide_eq_true_eq]
theorem nset_or (xs ys : List Str) : nset (nsOr (nset xs) (nset ys)) = nset (xs ++ ys) := nset_congr fun z => by
  unfold nsOr; simp only [List.mem_append, mem_nset]
theorem NsAt.mut {K : PySem.W.Frag} {C : Addr} {H : Hp} {a f : Addr} {xs : List Str} {us ws : List V} (h : NsAt K C H a xs) (hf : H f = some (.lst us)) : NsAt K C (upd H f (.lst ws)) a xs := by
  obtain ⟨dx, t, h1, h2, h3⟩ := h
  refine ⟨dx, t, by rw [upd_ne (ne_of h1 hf (by intro z; cases z))]; exact h1, ?_, h3⟩
  rcases h2 with (h | ⟨o, h⟩) | h
  · exact SqT.of (by rw [upd_ne (ne_of h hf (by intro z; cases z))]; exact h)
  · exact .inl (.inr ⟨o, by rw [upd_ne (ne_of h hf (by intro z; cases z))]; exact h⟩)
  · exact .inr h
theorem Coll.lst {K : PySem.W.Frag} {C : Addr} {H : Hp} {b : Addr} {xs : List Str} (h : H b = some (.lst (xs.map V.str))) : Coll K C H (.ref b) xs := ⟨b, rfl, .inl (SqL.of h)⟩
theorem Coll.tup {K : PySem.W.Frag} {C : Addr} {H : Hp} {b : Addr} {xs : List Str} (h : H b = some (.tup (xs.map V.str))) : Coll K C H (.ref b) xs := ⟨b, rfl, .inr (.inl (SqT.of h))⟩
theorem Coll.ns {K : PySem.W.Frag} {C : Addr} {H : Hp} {b : Addr} {xs : List Str} (h : NsAt K C H b (nset xs)) : Coll K C H (.ref b) (nset xs) := ⟨b, rfl, .inr (.inr ⟨h, nset_nset xs⟩)⟩
end Mf

namespace Mf
open PySem L2 PyProof.Rows
/-! ### what is never reached -/
def tDead : TS := fun _ _ _ => False
theorem ps_dead {X : Cx} {st : Stmt} : PS X st tDead := ⟨fun _ _ _ _ _ _ h => h.elim⟩
/-! ### f-strings -/
theorem empty_len : Str.empty.length = 0 := rfl
def tJoin (ts : List TE) : TE := fun σ H Q => tJs ts Str.empty σ H fun out H1 => Q (.str out) H1
theorem e_joined {X : Cx} {v1 v2 : Expr} {rest : List Expr} {ts : List TE} {pos : Pos} (h : PJ X (v1 :: v2 :: rest) ts) : PE X (.JoinedStr (v1 :: v2 :: rest) pos) (tJoin ts) := pe_joined h
section
variable {σ : L2.St} {H : Hp} {Q : VK} {QS : Str → Hp → Prop} {t te : TE} {ts : List TE} {acc z : Str}
theorem w_joined (h : tJs ts Str.empty σ H fun out H1 => Q (.str out) H1) : tJoin ts σ H Q := h
theorem w_js (h : t σ H fun x H1 => ∃ y : Str, x = .str y ∧ (acc ++ y).length ≤ sizeLine ∧ tJs ts (acc ++ y) σ H1 QS) : tJs (t :: ts) acc σ H QS := h
theorem w_js0 (h : QS acc H) : tJs [] acc σ H QS := h
theorem w_jx {R : Str → Prop} (hl : (acc ++ z).length ≤ sizeLine) (h : R z) : ∃ y : Str, V.str z = .str y ∧ (acc ++ y).length ≤ sizeLine ∧ R y := ⟨z, rfl, hl, h⟩
theorem w_fmt (h : te σ H fun x H1 => (∃ y : Str, x = .str y ∧ y.length ≤ sizeLine ∧ Q (.str y) H1) ∨ ∃ i : Int, x = .int i ∧ i.natAbs.log2 < 1920 ∧ Q (.str (toString i)) H1) : tFmt te σ H Q := h
theorem w_fmtS {B : Prop} {R : Str → Prop} (hl : z.length ≤ sizeLine) (h : R z) : (∃ y : Str, V.str z = .str y ∧ y.length ≤ sizeLine ∧ R y) ∨ B := .inl ⟨z, rfl, hl, h⟩
end
/-! ### enumerate(rows, start=k): a list or a tuple -/
def SqB (K : PySem.W.Frag) (b : Bool) (H : Hp) (a : Addr) (xs : List V) : Prop := if b = true then SqT K H a xs else SqL K H a xs
def IteS (K : PySem.W.Frag) (b : Bool) (a : Addr) (k : Int) : It :=
  ⟨fun i H => ∃ (xs : List V) (x : V), SqB K b H a xs ∧ xs[i]? = some x, fun i H v H' => ∃ T x, v = .ref T ∧ H T = none ∧ H' = upd H T (.tup [.int (k + (i : Nat)), x]) ∧ ∀ xs, SqB K b H a xs → xs[i]? = some x, fun i H => ∃ xs : List V, SqB K b H a xs ∧ xs.length = i⟩
def IsItB (b : Bool) (h : Heap) (it a : Addr) (i : Nat) : Prop := if b = true then h.IsTupleIter it a i else h.IsListIter it a i
/-- the walked thing as the heap has it, and what draws it -/
theorem drawsB {X : Cx} {pins : List (Addr × Obj)} {s : Shared} {σ : L2.St} {H : Hp} {b : Bool} {it e a : Addr} {i : Nat} {c : Int} {old : Value} {xs : List V} (hc : X.calm = true) (I : Inv X pins σ H s) (hq : SqB X.K b H a xs) (hit : IsItB b s.heap it a i) (he : IsEnum s.heap e it c old) :
    ∃ (its : List Value) (St : Nat → Heap → Prop), Vals xs its ∧ Draws X.prog X.w X.A.in1 it [it, a] its.toArray.size (fun i v => its.toArray[i]? = some v) St ∧ St i s.heap ∧ (∀ j h, St j h → IsItB b h it a j) ∧ e ∉ [it, a] ∧ (∀ ys, SqB X.K b H a ys → ys = xs) := by
  cases b with
  | false =>
    have hq' : SqL X.K H a xs := hq
    obtain ⟨its, rv, p, hz⟩ := I.list hq'
    obtain ⟨o, ho, hoc, hd⟩ := (show s.heap.IsListIter it a i from hit)
    obtain ⟨n', q, hqc, _⟩ := id p
    have na : a ≠ it := by
      rintro rfl
      obtain ⟨o', n2, ho', hc', _⟩ := id p
      rw [ho'] at ho; cases ho; rw [hc'] at hoc; injection hoc with z; exact absurd z (by decide)
    refine ⟨its, _, rv, Draws.list (show X.A.in1.handled = none from I.ok.hd hc) it a na its.toArray, ⟨hit, p.isList⟩, fun j h st => st.1, ?_, fun ys hy => I.list_inj hy hq'⟩
    intro hm
    rcases List.mem_cons.mp hm with z | z
    · subst z; rw [he] at ho; cases ho; injection hoc with z; exact absurd z (by decide)
    · rw [List.mem_singleton] at z; subst z
      obtain ⟨o', n2, ho', hc', _⟩ := id p
      rw [he] at ho'; cases ho'; injection hc' with z; exact absurd z (by decide)
  | true =>
    have hq' : SqT X.K H a xs := hq
    obtain ⟨its, rv, p, hz⟩ := I.tuple hq'
    obtain ⟨o, ho, hoc, hd⟩ := (show s.heap.IsTupleIter it a i from hit)
    have na : a ≠ it := by
      rintro rfl
      obtain ⟨o', ho', hc', _⟩ := id p
      rw [ho'] at ho; cases ho; rw [hc'] at hoc; injection hoc with z; exact absurd z (by decide)
    refine ⟨its, _, rv, Draws.tuple (show X.A.in1.handled = none from I.ok.hd hc) it a na its.toArray, ⟨hit, p⟩, fun j h st => st.1, ?_, fun ys hy => I.tuple_inj hy hq'⟩
    intro hm
    rcases List.mem_cons.mp hm with z | z
    · subst z; rw [he] at ho; cases ho; injection hoc with z; exact absurd z (by decide)
    · rw [List.mem_singleton] at z; subst z
      obtain ⟨o', ho', hc', _⟩ := id p
      rw [he] at ho'; cases ho'; injection hc' with z; exact absurd z (by decide)
theorem turn_enumS {P : Program} {w : World} {K : PySem.W.Frag} {elts : List Expr} {kk : Nat} {tpos : Pos} (b : Bool) (a e it : Addr) (k : Int) :
    Turn P w K (.Tuple elts kk tpos) (IteS K b a k) [e, it] e (fun i h => (∃ old, IsEnum h e it (k + ((i : Nat) : Int)) old) ∧ IsItB b h it a i ∧ e ≠ it) where
  mem := by simp
  obj := fun i h st c hb => by
    obtain ⟨⟨old, he⟩, hi, _⟩ := st
    have e' : c = e ∨ c = it := by simpa using hb
    rcases e' with z | z
    · rw [z]; exact ⟨_, he, fun v q => nomatch q⟩
    · rw [z]
      cases b with
      | false => obtain ⟨o, ho, hc, hd⟩ := hi; exact ⟨o, ho, fun v q => by rw [hd] at q; cases q⟩
      | true => obtain ⟨o, ho, hc, hd⟩ := hi; exact ⟨o, ho, fun v q => by rw [hd] at q; cases q⟩
  keep := fun i h h' st q => by
    obtain ⟨⟨old, he⟩, hi, hne⟩ := st
    refine ⟨⟨old, q e (by simp) _ he⟩, ?_, hne⟩
    cases b with
    | false => exact (show h.IsListIter it a i from hi).at fun o z => q it (by simp) o z
    | true => exact (show h.IsTupleIter it a i from hi).at fun o z => q it (by simp) o z
  item := by
    intro X hP hw hK hc i pins s σ H E I hf st hg
    subst hP hw hK
    obtain ⟨⟨old, he⟩, hit, hne⟩ := st
    obtain ⟨xs, x, hq, hx⟩ := hg
    obtain ⟨its, St, rv, D, hst, hback, hen, inj⟩ := drawsB hc I hq hit he
    have hel : e < s.heap.objs.size := Heap.lt_size he
    obtain ⟨oi, hoi⟩ := D.live _ _ hst
    have hil : it < s.heap.objs.size := Heap.lt_size hoi
    obtain ⟨u, hu, ru⟩ := rv.get hx
    have hlt : i < its.toArray.size := by
      rw [List.size_toArray]
      rcases Nat.lt_or_ge i its.length with z | z
      · exact z
      · rw [List.getElem?_eq_none z] at hu; cases hu
    refine wpAny_pyNext_enum_itemC D he hst hlt hne hen fun y h' tk hy ho hst' hT hsz hk => ?_
    have ey : y = u := by rw [List.getElem?_toArray, hu] at hy; cases hy; rfl
    subst ey
    refine ⟨_, rfl, wpAny_letOwnedTupleGo_enum (s := { s with heap := h', toks := tk + 1 }) ho fun h'' he' sb => ?_⟩
    have hT2 : h''.get? s.heap.objs.size = some { cls := .type "tuple", data := .seq #[.int (k + (i : Int)) tk, y] } := (sb.2 _ (Nat.ne_of_gt hel)).trans hT
    have new : ObjOk X.prog X.w (upd H s.heap.objs.size (.tup [.int (k + (i : Nat)), x])) h'' s.heap.objs.size (.tup [.int (k + (i : Nat)), x]) :=
      ⟨by show 2 ≤ sizeLine; decide, [.int (k + i) tk, y], .cons ⟨_, rfl⟩ (.cons ru .nil), ⟨_, hT2, rfl, _, rfl⟩⟩
    have I1 : Inv X pins σ (upd H s.heap.objs.size (.tup [.int (k + (i : Nat)), x])) { s with heap := h'', toks := tk + 1 } :=
      I.turnedNew (ch := [e, it]) (fun b ob hb q => (sb.2 b (fun z => hb (by simp [z]))).trans (hk b ob (fun z => hb (by simp [z])) (fun z => hb (by simp [z])) q)) hf (Nat.le_refl _) new
    refine ⟨.ref s.heap.objs.size, _, I1, rfl, ⟨_, x, rfl, I.hok.fresh (Nat.le_refl _), rfl, fun ys hy => by rw [inj ys hy]; exact hx⟩, ⟨⟨y, ?_⟩, ?_, hne⟩, fun b hb => ?_⟩
    · have e1 : k + ((i + 1 : Nat) : Int) = k + (i : Int) + 1 := by omega
      rw [e1]; exact he'
    · have z := hback _ _ hst'
      cases b with
      | false => exact (show h'.IsListIter it a (i + 1) from z).at fun o q => (sb.2 it (Ne.symm hne)).trans q
      | true => exact (show h'.IsTupleIter it a (i + 1) from z).at fun o q => (sb.2 it (Ne.symm hne)).trans q
    · have hb' : b < s.heap.objs.size := by
        have e' : b = e ∨ b = it := by simpa using hb
        rcases e' with z | z
        · rw [z]; exact hel
        · rw [z]; exact hil
      rw [upd_ne (Nat.ne_of_lt hb')]
      exact (hf b hb).1
  done := by
    intro X hP hw hK hc i pins s σ H E I hf st hg
    subst hP hw hK
    obtain ⟨⟨old, he⟩, hit, hne⟩ := st
    obtain ⟨xs, hq, hx⟩ := hg
    obtain ⟨f0, f1, f2, f3, f4, f5⟩ := hf it (by simp)
    obtain ⟨its, St, rv, D, hst, hback, hen, inj⟩ := drawsB hc I hq hit he
    have hn : i = its.toArray.size := by rw [List.size_toArray, ← rv.length]; exact hx.symm
    rw [hn] at hst
    exact wpAny_pyNext_enum_endD D he hst fun h' eb => ⟨rfl, I.turned (t' := s.toks) (fun b o hb q => eb b o hb q) f0 f1 f3 f4 f5⟩
  self := fun A i s Q E st h => let ⟨⟨_, he⟩, _⟩ := st; wpAny_pyIter_enum he h
theorem callWith_typeKw {M : Model} {A : Around} {E : Value → Shared → Prop} {s : Shared} {env : Env} {pos : Pos} {T : String} {e : Expr} {rest : List Expr} {kws : List Keyword} {Q : Value → Shared → Prop}
    (h : wpAny M A (spliced (backTo pos (starEach (e :: rest) env))) (fun vs s₁ => wpAny M A (evalAll ((backToKw pos (keywordEach kws env)).map (·.2)))
      (fun kvs s₂ => wpAny M A (call (.type T) vs (((backToKw pos (keywordEach kws env)).filterMap (·.1)).zip kvs)) Q E s₂) E s₁) E s)
    (he : backTo pos (starEach (e :: rest) env) = (false, eval e env) :: backTo pos (starEach rest env) := by rfl)
    (hplain : (backTo pos (starEach (e :: rest) env)).any (·.1) = false := by rfl)
    (hall : (backToKw pos (keywordEach kws env)).all (·.1.isSome) = true := by rfl)
    (hkw : (backToKw pos (keywordEach kws env)).any (·.1.isNone) = false := by rfl) :
    wpAny M A (callWith pos (.type T) [] (backTo pos (starEach (e :: rest) env)) (backToKw pos (keywordEach kws env))) Q E s := by
  have hev : wpAny M A (evalArgs (.type T) true (backTo pos (starEach (e :: rest) env)) (backToKw pos (keywordEach kws env))) (fun a s₁ => wpAny M A (call (.type T) ([] ++ a.pos) a.kw) Q E s₁) E s := by
    rw [he] at h ⊢
    exact evalArgs_kwB hall h
  unfold callWith
  refine wpAny_bind (wpAny_holding (wpAny_mono hev (fun a s₁ h₁ => wpAny_bind (wpAny_standAt ?_)) fun _ _ x => x))
  simp only [hplain, hkw, Bool.or_false]
  refine wpAny_bind (wpAny_pure ?_)
  exact wpAny_bind (wpAny_mono h₁ (fun r s₂ hr => wpAny_bind (wpAny_holding (wpAny_point (wpAny_pure hr)))) fun _ _ x => x)
def iEnumS (K : PySem.W.Frag) (ta tk : TA) : TI := fun σ H R => ta σ H fun vs H1 => tk σ H1 fun zs H2 => ∃ a xs b k, vs = [.ref a] ∧ zs = [.int k] ∧ (-(2 ^ 63) ≤ k ∧ k < 2 ^ 63) ∧ SqB K b H2 a xs ∧ R (IteS K b a k) H2
theorem k_iES {X : Cx} (K : PySem.W.Frag) {e : Expr} {ta tk : TA} {p pos tpos kp : Pos} {elts : List Expr} {kk : Nat} {v : Expr} (hg : Gl X "enumerate") (hm : X.mg "enumerate" = none) (ha : PA X [e] ta) (hk : PK X [⟨some "start", v, kp⟩] tk)
    (he : backTo pos (starEach [e] X.env) = (false, eval e X.env) :: backTo pos (starEach [] X.env) := by rfl) (hK : X.K = K := by rfl) :
    PI X (.Tuple elts kk tpos) (.Call (.Name "enumerate" p) [e] [⟨some "start", v, kp⟩] pos) (iEnumS K ta tk) := by
  subst hK
  refine ⟨fun pins s σ H R I h => ?_⟩
  refine wpAny_Call_Name_kw (ld_blt I hg hm boot_enumerate (callWith_typeKw (thn (ha.run pos pins s σ H _ I h) fun us s1 ⟨vs, H1, I1, r1, q1⟩ => thn (hk.run pos pins s1 σ H1 _ I1 q1) fun ws s2 ⟨zs, H2, I2, r2, q2⟩ => ?_) he (by rw [he]; rfl)))
  obtain ⟨a, xs, b, k, ex, ez, ⟨hk0, hk1⟩, hq, q⟩ := q2
  subst ex ez
  cases r1 with
  | cons r rr =>
    cases rr
    cases r
    cases r2 with
    | cons r' rr' =>
      cases rr'
      obtain ⟨t, rfl⟩ := r'
      show wpAny _ _ (call (.type "enumerate") [.ref a] [(Str.ofString "start", .int k t)]) _ _ s2
      have fin : ∀ h', IsEnum h' (s2.heap.objs.size + 1) s2.heap.objs.size k .none → IsItB b h' s2.heap.objs.size a 0 → (∀ b o, s2.heap.get? b = some o → h'.get? b = some o) →
          wpAny (model X.prog X.w) X.A (pyIter (.ref (s2.heap.objs.size + 1))) (PIE X pins σ (.Tuple elts kk tpos) R) X.xe { s2 with heap := h' } := fun h' hen hi hkp => by
        refine wpAny_pyIter_enum hen ?_
        have I3 : Inv X pins σ H2 { s2 with heap := h' } := I2.kept (t' := s2.toks) hkp
        refine ⟨s2.heap.objs.size + 1, [s2.heap.objs.size + 1, s2.heap.objs.size], _, _, H2, rfl, I3, turn_enumS b a (s2.heap.objs.size + 1) s2.heap.objs.size k, ⟨⟨.none, by simpa using hen⟩, hi, Nat.succ_ne_self _⟩, fun b hb => ?_, q⟩
        have e' : b = s2.heap.objs.size + 1 ∨ b = s2.heap.objs.size := by simpa using hb
        have hle : s2.heap.objs.size ≤ b := by
          rcases e' with z | z
          · rw [z]; exact Nat.le_add_right _ _
          · rw [z]; exact Nat.le_refl _
        exact I2.fpOk hle (I2.hok.fresh hle)
      cases b with
      | false =>
        obtain ⟨its, rv, p', hz⟩ := I2.list (show SqL X.K H2 a xs from hq)
        exact enum_begins_start (begins_list a its.toArray) p'.isList hk0 hk1 fun h' hen hit hsz hkp => fin h' hen ⟨_, hit, rfl, rfl⟩ hkp
      | true =>
        obtain ⟨its, rv, p', hz⟩ := I2.tuple (show SqT X.K H2 a xs from hq)
        exact enum_begins_start (begins_tuple a its.toArray) p' hk0 hk1 fun h' hen hit hsz hkp => fin h' hen ⟨_, hit, rfl, rfl⟩ hkp
end Mf

namespace Mf
open PySem L2 PyProof.Rows
/-! ### a comprehension within another -/
def relab (scope sc : Scope) : Scope := { scope with names := scope.names.map fun (n, k) => if (k == .free && sc.kind == .function && sc.names.lookup n == some .cell) then (n, .cell) else (n, k) }
theorem blkOk_nest {N : List Str} {lit sc scope : Scope} {env : Env} {own : List (Str × Nat)} (hs : env.scope = sc) (h : blkC N (relab lit sc) scope own = true) : BlkOk N (relabel lit env) scope own := by
  have e : relabel lit env = relab lit sc := by subst hs; rfl
  rw [e]
  exact blkOk_by h
section
variable {σ : L2.St} {H : Hp} {Q : VK} {td ty : TE} {a : Addr} {n : Str} {kvs : List (Key × V)} {v : V}
theorem w_dget (h : td σ H fun x H1 => ty σ H1 fun y H2 => ∃ a v, x = .ref a ∧ DGet H2 a y (some v) ∧ Q v H2) : tDGet td ty σ H Q := h
theorem w_din (h : ty σ H fun y H1 => td σ H1 fun x H2 => ∃ a o, x = .ref a ∧ DGet H2 a y o ∧ Q (.bl o.isSome) H2) : tDIn ty td σ H Q := h
theorem w_dni (h : ty σ H fun y H1 => td σ H1 fun x H2 => ∃ a o, x = .ref a ∧ DGet H2 a y o ∧ Q (.bl (!o.isSome)) H2) : tDNotIn ty td σ H Q := h
theorem w_dgetx {R : V → Prop} (h : H a = some (.dK kvs)) (hv : valV kvs (Sum.inr n) = some v) (g : R v) : ∃ a' v, V.ref a = .ref a' ∧ DGet H a' (.str n) (some v) ∧ R v := ⟨a, v, rfl, by rw [← hv]; exact DGet.k (k := Sum.inr n) h, g⟩
theorem w_dinx {R : Option V → Prop} (h : H a = some (.dK kvs)) (g : R (valV kvs (Sum.inr n))) : ∃ a' o, V.ref a = .ref a' ∧ DGet H a' (.str n) o ∧ R o := ⟨a, _, rfl, DGet.k (k := Sum.inr n) h, g⟩
end
/-! ### two rows, item by item -/
inductive Fa {α β : Type} (R : α → β → Prop) : List α → List β → Prop
  | nil : Fa R [] []
  | cons {a : α} {b : β} {as : List α} {bs : List β} : R a b → Fa R as bs → Fa R (a :: as) (b :: bs)
namespace Fa
variable {α β γ : Type} {R S : α → β → Prop} {as as' : List α} {bs bs' : List β}
theorem len (h : Fa R as bs) : as.length = bs.length := by induction h with | nil => rfl | cons _ _ ih => simp [ih]
theorem imp (f : ∀ a b, a ∈ as → R a b → S a b) (h : Fa R as bs) : Fa S as bs := by
  induction h with
  | nil => exact .nil
  | cons r _ ih => exact .cons (f _ _ List.mem_cons_self r) (ih fun a b ha => f a b (List.mem_cons_of_mem _ ha))
theorem get {b : β} {i : Nat} (h : Fa R as bs) (e : bs[i]? = some b) : ∃ a, as[i]? = some a ∧ R a b := by
  induction h generalizing i with
  | nil => cases e
  | cons r _ ih =>
    cases i with
    | zero => cases e; exact ⟨_, rfl, r⟩
    | succ i => exact ih e
theorem getL {a : α} {i : Nat} (h : Fa R as bs) (e : as[i]? = some a) : ∃ b, bs[i]? = some b ∧ R a b := by
  induction h generalizing i with
  | nil => cases e
  | cons r _ ih =>
    cases i with
    | zero => cases e; exact ⟨_, rfl, r⟩
    | succ i => exact ih e
theorem app (h : Fa R as bs) (h' : Fa R as' bs') : Fa R (as ++ as') (bs ++ bs') := by
  induction h with
  | nil => exact h'
  | cons r _ ih => exact .cons r ih
theorem one {a : α} {b : β} (r : R a b) : Fa R [a] [b] := .cons r .nil
theorem same (f : α → β) : ∀ as : List α, Fa (fun a b => b = f a) as (as.map f)
  | [] => .nil
  | _ :: r => .cons rfl (same f r)
theorem eq {f : α → β} (h : Fa (fun a b => b = f a) as bs) : bs = as.map f := by
  induction h with
  | nil => rfl
  | cons r _ ih => rw [List.map_cons, ← r, ← ih]
theorem mapL {f : γ → α} {cs : List γ} (h : Fa R (cs.map f) bs) : Fa (fun c b => R (f c) b) cs bs := by
  induction cs generalizing bs with
  | nil => cases h; exact .nil
  | cons c cs ih => cases h with | cons r t => exact .cons r (ih t)
theorem toMapL {f : γ → α} {cs : List γ} (h : Fa (fun c b => R (f c) b) cs bs) : Fa R (cs.map f) bs := by
  induction h with
  | nil => exact .nil
  | cons r _ ih => exact .cons r ih
theorem right {b : β} (h : Fa R as bs) (m : b ∈ bs) : ∃ a, a ∈ as ∧ R a b := by
  obtain ⟨i, hi⟩ := List.getElem?_of_mem m
  obtain ⟨a, ha, r⟩ := h.get hi
  exact ⟨a, List.mem_of_getElem? ha, r⟩
theorem left {a : α} (h : Fa R as bs) (m : a ∈ as) : ∃ b, b ∈ bs ∧ R a b := by
  obtain ⟨i, hi⟩ := List.getElem?_of_mem m
  obtain ⟨b, hb, r⟩ := h.getL hi
  exact ⟨b, List.mem_of_getElem? hb, r⟩
end Fa
theorem hid_upd {D : Addr} {H : Hp} {o : HO} : hid D (upd H D o) = hid D H := by
  funext b
  unfold hid
  by_cases e : b = D
  · rw [if_pos e, if_pos e]
  · rw [if_neg e, if_neg e, upd_ne e]
theorem hid_none {D : Addr} {H : Hp} (h : H D = none) : hid D H = H := by
  funext b
  unfold hid
  by_cases e : b = D
  · rw [if_pos e, e, h]
  · rw [if_neg e]
theorem hid_mono {p : Addr} {H H' : Hp} (e : Same H H') : Same (hid p H) (hid p H') := (Kp.of e).hid
def RelR {β : Type} (P : β → V → Hp → Prop) (o : Option β) (r : Option V) (H : Hp) : Prop := match o with
  | none => r = none
  | some b => ∃ y, r = some y ∧ P b y H
section
variable {K : PySem.W.Frag} {σ : L2.St} {H : Hp} {Q : VK} {g : TG} {tt : TT} {te : TE} {vs : List Nat} {wi : TI} {J : It} {n : Nat} {G : Hp → Prop}
theorem take_next {α : Type} {as : List α} {i : Nat} {a : α} (h : as[i]? = some a) : as.take (i + 1) = as.take i ++ [a] := by
  rw [List.take_succ, h] <;> rfl
/-- a list comprehension that changes nothing old: a filter and a map, what is kept told by P -/
theorem lcb_rel {α β : Type} {xs : List V} {as : List α} {Ra : α → V → Prop} (hR : Fa Ra as xs) (w : Walk J xs.length G (YAt xs)) (hG : ∀ H', Same H H' → G H') (hl : xs.length < sizeLine) (f : α → Option β) (P : β → V → Hp → Prop) (mono : ∀ b y H1 H2, Same H1 H2 → P b y H1 → P b y H2)
    (hs : ∀ D a x H1, H D = none → a ∈ as → Ra a x → Same H H1 → (∃ acc, H1 D = some (.lst acc)) → ∀ R : Option V → Hp → Prop, (∀ r H2, Same H1 H2 → RelR P (f a) r (hid D H2) → R r H2) → Turn1 g tt te vs σ x H1 R)
    (hd : ∀ D ys H', H D = none → Same H H' → H' D = some (.lst ys) → Fa (fun b y => P b y (hid D H')) (as.filterMap f) ys → Q (.ref D) H') : LcB J g tt te vs σ Q H := by
  have hlen := hR.len
  refine lcb w (fun D i acc H' => Same H H' ∧ H' D = some (.lst acc) ∧ acc.length ≤ i ∧ Fa (fun b y => P b y (hid D H')) ((as.take i).filterMap f) acc) (fun D nD => ⟨Same.new nD, upd_same, Nat.le_refl _, .nil⟩) (fun D i acc H' nD _ p => hG _ p.1) (fun D i x acc H1 H2 nD hi p y => ?_) (fun D acc H' nD p => ?_)
  · obtain ⟨s1, hD, hal, hF⟩ := p
    obtain ⟨rfl, hx⟩ := y
    obtain ⟨a, ha, r⟩ := hR.get hx
    refine hs D a x H2 nD (List.mem_of_getElem? ha) r s1 ⟨_, hD⟩ _ fun r H3 s2 hr => ?_
    have hD3 : H3 D = some (.lst acc) := s2 _ _ hD
    have hF3 : Fa (fun b y => P b y (hid D H3)) ((as.take i).filterMap f) acc := hF.imp fun b y _ z => mono b y _ _ (hid_mono s2) z
    unfold RelR at hr
    cases hf : f a with
    | none =>
      rw [hf] at hr
      subst hr
      refine lcr_none (acc := acc) ⟨fun b o z => s2 b o (s1 b o z), hD3, by omega, ?_⟩
      rw [take_next ha, List.filterMap_append]
      simp only [List.filterMap_cons, hf, List.filterMap_nil, List.append_nil]
      exact hF3
    | some b =>
      rw [hf] at hr
      obtain ⟨y, rfl, py⟩ := hr
      refine lcr_some hD3 (by omega) ⟨Same.mut (fun b o z => s2 b o (s1 b o z)) nD, upd_same, by rw [List.length_append]; simp; omega, ?_⟩
      rw [take_next ha, List.filterMap_append]
      simp only [hid_upd, List.filterMap_cons, hf, List.filterMap_nil]
      exact hF3.app (.one py)
  · obtain ⟨s1, hD, hal, hF⟩ := p
    rw [← hlen, List.take_length] at hF
    exact hd D acc H' nD s1 hD hF
/-- one turn of a dict comprehension -/
def TurnD (g : TG) (tt : TT) (tk tv : TE) (vs : List Nat) (σ : L2.St) (x : V) (H : Hp) (R : Option (V × V) → Hp → Prop) : Prop :=
  g x (wipe σ vs) H fun σ2 H2 => wipe σ2 vs = wipe σ vs ∧ tt σ2 H2 fun b H3 => if b = true then tk σ2 H3 fun y H4 => tv σ2 H4 fun z H5 => R (some (y, z)) H5 else R none H3
def DcB (J : It) (g : TG) (tt : TT) (tk tv : TE) (vs : List Nat) (σ : L2.St) (Q : VK) (H1 : Hp) : Prop := ∀ D, H1 D = none → ∃ W : Nat → Nat → Hp → Prop, (∃ m, W 0 m (upd H1 D (.dK []))) ∧ ∀ i m H, W i m H →
  (J.stop i H ∧ Q (.ref D) H) ∨ (J.go i H ∧ ∃ Nx : Hp → Prop, (∀ H', Nx H' → ∃ m', m' < m ∧ W (i + 1) m' H') ∧ ∀ x H', J.yld i H x H' → g x (wipe σ vs) H' fun σ2 H2 => wipe σ2 vs = wipe σ vs ∧ tt σ2 H2 fun b H3 =>
    if b = true then tk σ2 H3 fun y H4 => tv σ2 H4 fun z H5 => ∃ kvs k, y = kV k ∧ H5 D = some (.dK kvs) ∧ kvs.length < sizeLine ∧ Nx (upd H5 D (.dK (putK kvs k z))) else Nx H3)
theorem w_dc {tk tv : TE} (h : wi σ H fun J H1 => DcB J g tt tk tv vs σ Q H1) : tDc wi g tt tk tv vs σ H Q := h
theorem w_turnD {tk tv : TE} {x : V} {R : Option (V × V) → Hp → Prop} (h : g x (wipe σ vs) H fun σ2 H2 => wipe σ2 vs = wipe σ vs ∧ tt σ2 H2 fun b H3 => if b = true then tk σ2 H3 fun y H4 => tv σ2 H4 fun z H5 => R (some (y, z)) H5 else R none H3) : TurnD g tt tk tv vs σ x H R := h
theorem putK_new {kvs : List (Key × V)} {k : Key} {v : V} (h : ∀ p ∈ kvs, p.1 ≠ k) : putK kvs k v = kvs ++ [(k, v)] := by
  unfold putK
  rw [if_neg]
  intro z
  rw [List.any_eq_true] at z
  obtain ⟨p, hp, e⟩ := z
  exact h p hp (by simpa using e)
/-- a dict comprehension over texts, each key once, no test -/
theorem dcb_rel {α : Type} {tk tv : TE} {xs : List V} {as : List α} {Ra : α → V → Prop} (hR : Fa Ra as xs) (w : Walk J xs.length G (YAt xs)) (hG : ∀ H', Same H H' → G H') (hl : xs.length < sizeLine) (key : α → Key) (nd : (as.map key).Nodup) (P : α → V → Hp → Prop) (mono : ∀ b y H1 H2, Same H1 H2 → P b y H1 → P b y H2)
    (hs : ∀ D a x H1, H D = none → a ∈ as → Ra a x → Same H H1 → (∃ kvs, H1 D = some (.dK kvs)) → ∀ R : Option (V × V) → Hp → Prop, (∀ z H2, Same H1 H2 → P a z (hid D H2) → R (some (kV (key a), z)) H2) → TurnD g tt tk tv vs σ x H1 R)
    (hd : ∀ D kvs H', H D = none → Same H H' → H' D = some (.dK kvs) → Fa (fun a p => p.1 = key a ∧ P a p.2 (hid D H')) as kvs → Q (.ref D) H') : DcB J g tt tk tv vs σ Q H := by
  have hlen := hR.len
  intro D nD
  refine ⟨fun i m H' => m = xs.length - i ∧ i ≤ xs.length ∧ ∃ kvs, Same H H' ∧ H' D = some (.dK kvs) ∧ kvs.length = i ∧ Fa (fun a p => p.1 = key a ∧ P a p.2 (hid D H')) (as.take i) kvs, ⟨xs.length, by simp, Nat.zero_le _, [], Same.new nD, upd_same, rfl, .nil⟩, ?_⟩
  rintro i m H' ⟨rfl, hi, kvs, s1, hD, hal, hF⟩
  have q := hG _ s1
  by_cases e : i = xs.length
  · subst e
    refine .inl ⟨w.stops H' q, hd D kvs H' nD s1 hD ?_⟩
    rw [← hlen, List.take_length] at hF
    exact hF
  · have hlt : i < xs.length := by omega
    refine .inr ⟨w.goes i H' hlt q, fun H'' => ∃ kvs, Same H H'' ∧ H'' D = some (.dK kvs) ∧ kvs.length = i + 1 ∧ Fa (fun a p => p.1 = key a ∧ P a p.2 (hid D H'')) (as.take (i + 1)) kvs, fun H'' p' => ⟨xs.length - (i + 1), by omega, rfl, by omega, p'⟩, fun x H2 y => ?_⟩
    obtain ⟨rfl, hx⟩ := w.yields i H' x H2 hlt q y
    obtain ⟨a, ha, r⟩ := hR.get hx
    refine hs D a x H2 nD (List.mem_of_getElem? ha) r s1 ⟨_, hD⟩ (fun r H3 => match r with
      | some (y, z) => ∃ kvs k, y = kV k ∧ H3 D = some (.dK kvs) ∧ kvs.length < sizeLine ∧ ∃ kvs', Same H (upd H3 D (.dK (putK kvs k z))) ∧ (upd H3 D (.dK (putK kvs k z))) D = some (.dK kvs') ∧ kvs'.length = i + 1 ∧ Fa (fun a p => p.1 = key a ∧ P a p.2 (hid D (upd H3 D (.dK (putK kvs k z))))) (as.take (i + 1)) kvs'
      | none => ∃ kvs, Same H H3 ∧ H3 D = some (.dK kvs) ∧ kvs.length = i + 1 ∧ Fa (fun a p => p.1 = key a ∧ P a p.2 (hid D H3)) (as.take (i + 1)) kvs) fun z H3 s2 pz => ?_
    have hD3 : H3 D = some (.dK kvs) := s2 _ _ hD
    have hF3 : Fa (fun a p => p.1 = key a ∧ P a p.2 (hid D H3)) (as.take i) kvs := hF.imp fun b y _ z => ⟨z.1, mono b _ _ _ (hid_mono s2) z.2⟩
    have ek : putK kvs (key a) z = kvs ++ [(key a, z)] := putK_new fun p hp e => by
      obtain ⟨a', ha', e', _⟩ := hF3.right hp
      have h1 : key a' = key a := by rw [← e', e]
      have h2 : (as.take (i + 1)).map key = (as.take i).map key ++ [key a] := by rw [take_next ha, List.map_append]; rfl
      have h3 : ((as.take (i + 1)).map key).Nodup := by rw [List.map_take]; exact nd.sublist (List.take_sublist _ _)
      rw [h2] at h3
      exact (List.nodup_append.mp h3).2.2 _ (List.mem_map.mpr ⟨a', ha', rfl⟩) _ List.mem_cons_self h1
    refine ⟨kvs, key a, rfl, hD3, by omega, kvs ++ [(key a, z)], Same.mut (fun b o z => s2 b o (s1 b o z)) nD, by rw [upd_same, ek], by rw [List.length_append]; simp; omega, ?_⟩
    rw [take_next ha]
    simp only [hid_upd]
    exact hF3.app (.one ⟨rfl, pz⟩)
/-! ### two fors -/
def Turn2 (g1 : TG) (tt1 : TT) (te : TE) (vs1 : List Nat) (σ : L2.St) (x : V) (H : Hp) (R : Option V → Hp → Prop) : Prop :=
  g1 x (wipe σ vs1) H fun σ3 H5 => wipe σ3 vs1 = wipe σ vs1 ∧ tt1 σ3 H5 fun b H6 => if b = true then te σ3 H6 fun y H7 => R (some y) H7 else R none H6
def Lc2In (D : Addr) (J1 : It) (g1 : TG) (tt1 : TT) (te : TE) (vs1 : List Nat) (σ2 : L2.St) (Nx : Hp → Prop) (H4 : Hp) : Prop := ∃ W1 : Nat → Nat → Hp → Prop, (∃ m, W1 0 m H4) ∧ ∀ j k H, W1 j k H →
      (J1.stop j H ∧ Nx H) ∨ (J1.go j H ∧ ∃ Nx1 : Hp → Prop, (∀ H', Nx1 H' → ∃ k', k' < k ∧ W1 (j + 1) k' H') ∧ ∀ x H', J1.yld j H x H' → g1 x (wipe σ2 vs1) H' fun σ3 H5 => wipe σ3 vs1 = wipe σ2 vs1 ∧ tt1 σ3 H5 fun b H6 =>
        if b = true then te σ3 H6 fun y H7 => ∃ acc, H7 D = some (.lst acc) ∧ acc.length < sizeLine ∧ Nx1 (upd H7 D (.lst (acc ++ [y]))) else Nx1 H6)
def TurnO (g : TG) (tt : TT) (wi1 : TI) (vs : List Nat) (σ : L2.St) (x : V) (H : Hp) (B : L2.St → It → Hp → Prop) (R : Hp → Prop) : Prop :=
  g x (wipe σ vs) H fun σ2 H2 => wipe σ2 vs = wipe σ vs ∧ tt σ2 H2 fun b H3 => if b = true then wi1 σ2 H3 fun J1 H4 => B σ2 J1 H4 else R H3
def Lc2B (J : It) (g : TG) (tt : TT) (wi1 : TI) (g1 : TG) (tt1 : TT) (te : TE) (vs vs1 : List Nat) (σ : L2.St) (Q : VK) (H1 : Hp) : Prop := ∀ D, H1 D = none → ∃ W : Nat → Nat → Hp → Prop, (∃ m, W 0 m (upd H1 D (.lst []))) ∧ ∀ i m H, W i m H →
  (J.stop i H ∧ Q (.ref D) H) ∨ (J.go i H ∧ ∃ Nx : Hp → Prop, (∀ H', Nx H' → ∃ m', m' < m ∧ W (i + 1) m' H') ∧ ∀ x H', J.yld i H x H' → TurnO g tt wi1 vs σ x H' (fun σ2 J1 H4 => Lc2In D J1 g1 tt1 te vs1 σ2 Nx H4) Nx)
theorem w_lc2 {wi1 : TI} {g1 : TG} {tt1 : TT} {vs1 : List Nat} (h : wi σ H fun J H1 => Lc2B J g tt wi1 g1 tt1 te vs vs1 σ Q H1) : tLc2 wi g tt wi1 g1 tt1 te vs vs1 σ H Q := h
theorem w_turnO {wi1 : TI} {x : V} {B : L2.St → It → Hp → Prop} {R : Hp → Prop} (h : g x (wipe σ vs) H fun σ2 H2 => wipe σ2 vs = wipe σ vs ∧ tt σ2 H2 fun b H3 => if b = true then wi1 σ2 H3 fun J1 H4 => B σ2 J1 H4 else R H3) : TurnO g tt wi1 vs σ x H B R := h
theorem w_turn2 {x : V} {R : Option V → Hp → Prop} (h : g x (wipe σ vs) H fun σ3 H5 => wipe σ3 vs = wipe σ vs ∧ tt σ3 H5 fun b H6 => if b = true then te σ3 H6 fun y H7 => R (some y) H7 else R none H6) : Turn2 g tt te vs σ x H R := h
/-- the inner row, a filter and a map -/
theorem lc2In_rel {α β : Type} {D : Addr} {Nx : Hp → Prop} {acc0 : List V} {xs : List V} {as : List α} {Ra : α → V → Prop} (hR : Fa Ra as xs) (w : Walk J xs.length G (YAt xs)) (hG : ∀ H', Same (hid D H) (hid D H') → H' D ≠ none → G H') (hD0 : H D = some (.lst acc0)) (hl : acc0.length + xs.length < sizeLine) (f : α → Option β) (e : β → V)
    (hs : ∀ a x H1, a ∈ as → Ra a x → Same (hid D H) (hid D H1) → H1 D ≠ none → ∀ R : Option V → Hp → Prop, R ((f a).map e) H1 → Turn2 g tt te vs σ x H1 R)
    (hd : ∀ H', Same (hid D H) (hid D H') → H' D = some (.lst (acc0 ++ (as.filterMap f).map e)) → Nx H') : Lc2In D J g tt te vs σ Nx H := by
  have hlen := hR.len
  refine ⟨fun i m H' => m = xs.length - i ∧ i ≤ xs.length ∧ Same (hid D H) (hid D H') ∧ H' D = some (.lst (acc0 ++ ((as.take i).filterMap f).map e)), ⟨xs.length, by simp, Nat.zero_le _, fun _ _ z => z, by simpa using hD0⟩, ?_⟩
  rintro i m H' ⟨rfl, hi, s1, hD⟩
  have q := hG H' s1 (by rw [hD]; intro z; cases z)
  by_cases e' : i = xs.length
  · subst e'
    refine .inl ⟨w.stops H' q, hd H' s1 ?_⟩
    rw [← hlen, List.take_length] at hD
    exact hD
  · have hlt : i < xs.length := by omega
    refine .inr ⟨w.goes i H' hlt q, fun H'' => Same (hid D H) (hid D H'') ∧ H'' D = some (.lst (acc0 ++ ((as.take (i + 1)).filterMap f).map e)), fun H'' p' => ⟨xs.length - (i + 1), by omega, rfl, by omega, p'⟩, fun x H2 y => ?_⟩
    obtain ⟨rfl, hx⟩ := w.yields i H' x H2 hlt q y
    obtain ⟨a, ha, r⟩ := hR.get hx
    refine hs a x H2 (List.mem_of_getElem? ha) r s1 (by rw [hD]; intro z; cases z) (fun r H3 => match r with
      | some y => ∃ acc, H3 D = some (.lst acc) ∧ acc.length < sizeLine ∧ Same (hid D H) (hid D (upd H3 D (.lst (acc ++ [y])))) ∧ (upd H3 D (.lst (acc ++ [y]))) D = some (.lst (acc0 ++ ((as.take (i + 1)).filterMap f).map e))
      | none => Same (hid D H) (hid D H3) ∧ H3 D = some (.lst (acc0 ++ ((as.take (i + 1)).filterMap f).map e))) ?_
    rw [take_next ha, List.filterMap_append]
    cases hf : f a with
    | none =>
      simp only [Option.map_none, List.filterMap_cons, hf, List.filterMap_nil, List.append_nil]
      exact ⟨s1, hD⟩
    | some b =>
      simp only [Option.map_some, List.filterMap_cons, hf, List.filterMap_nil]
      refine ⟨_, hD, ?_, ?_, ?_⟩
      · rw [List.length_append, List.length_map]
        have := List.length_filterMap_le f (as.take i)
        rw [List.length_take] at this
        omega
      · rw [hid_upd]; exact s1
      · rw [upd_same, List.map_append, List.append_assoc]; rfl
theorem flat_len {α β : Type} {f : α → List β} {n : Nat} : ∀ (as : List α), (∀ a ∈ as, (f a).length ≤ n) → (as.flatMap f).length ≤ as.length * n
  | [], _ => by simp
  | a :: r, h => by
    have h1 := h a List.mem_cons_self
    have h2 := flat_len r fun x hx => h x (List.mem_cons_of_mem _ hx)
    rw [List.flatMap_cons, List.length_append, List.length_cons, Nat.add_mul]
    omega
/-- the whole: row by row -/
theorem lc2b_rel {α β : Type} {wi1 : TI} {g1 : TG} {tt1 : TT} {vs1 : List Nat} {xs : List V} {as : List α} {Ra : α → V → Prop} (hR : Fa Ra as xs) (w : Walk J xs.length G (YAt xs)) (hG : ∀ H', Same H H' → G H') (f : α → List β) (e : β → V) (N : Nat) (hN : N < 16777000) (hb : ∀ i, ((as.take i).flatMap f).length ≤ N)
    (hs : ∀ D a x H1 acc, acc.length ≤ N → H D = none → a ∈ as → Ra a x → Same H H1 → H1 D = some (.lst acc) → ∀ Nx : Hp → Prop, (∀ H2, Same (hid D H1) (hid D H2) → H2 D = some (.lst (acc ++ (f a).map e)) → Nx H2) → TurnO g tt wi1 vs σ x H1 (fun σ2 J1 H4 => Lc2In D J1 g1 tt1 te vs1 σ2 Nx H4) Nx)
    (hd : ∀ D H', H D = none → Same H H' → H' D = some (.lst ((as.flatMap f).map e)) → Q (.ref D) H') : Lc2B J g tt wi1 g1 tt1 te vs vs1 σ Q H := by
  have hlen := hR.len
  intro D nD
  refine ⟨fun i m H' => m = xs.length - i ∧ i ≤ xs.length ∧ Same H H' ∧ H' D = some (.lst (((as.take i).flatMap f).map e)), ⟨xs.length, by simp, Nat.zero_le _, Same.new nD, upd_same⟩, ?_⟩
  rintro i m H' ⟨rfl, hi, s1, hD⟩
  have q := hG H' s1
  by_cases e' : i = xs.length
  · subst e'
    refine .inl ⟨w.stops H' q, hd D H' nD s1 ?_⟩
    rw [← hlen, List.take_length] at hD
    exact hD
  · have hlt : i < xs.length := by omega
    refine .inr ⟨w.goes i H' hlt q, fun H'' => Same H H'' ∧ H'' D = some (.lst (((as.take (i + 1)).flatMap f).map e)), fun H'' p' => ⟨xs.length - (i + 1), by omega, rfl, by omega, p'⟩, fun x H2 y => ?_⟩
    obtain ⟨rfl, hx⟩ := w.yields i H' x H2 hlt q y
    obtain ⟨a, ha, r⟩ := hR.get hx
    refine hs D a x H2 _ (by rw [List.length_map]; exact hb i) nD (List.mem_of_getElem? ha) r s1 hD _ fun H3 s2 hD3 => ⟨fun b o z => ?_, ?_⟩
    · have nb := ne_of_none z nD
      have := s2 b o (by rw [hid_ne nb]; exact s1 b o z)
      rw [hid_ne nb] at this; exact this
    · rw [hD3, take_next ha, List.flatMap_append, List.map_append]
      simp
end
/-! ### rows apart from an object of another kind -/
def NoT (w : HO) : Prop := (∀ xs, w ≠ .tup xs) ∧ ∀ o u, w ≠ .frz o u
def NoR (w : HO) : Prop := NoT w ∧ ∀ xs, w ≠ .lst xs
theorem noT_lst {xs : List V} : NoT (.lst xs) := ⟨fun _ z => (by cases z), fun _ _ z => (by cases z)⟩
theorem noR_dK {kvs : List (Key × V)} : NoR (.dK kvs) := ⟨⟨fun _ z => (by cases z), fun _ _ z => (by cases z)⟩, fun _ z => (by cases z)⟩
theorem noR_ins {C dx : Addr} {fs : List (Str × V)} : NoR (.ins C dx fs) := ⟨⟨fun _ z => (by cases z), fun _ _ z => (by cases z)⟩, fun _ z => (by cases z)⟩
theorem Rd.hide {H : Hp} {D a : Addr} {w u : HO} (hD : H D = some w) (n : w ≠ u) (n' : ∀ o, w ≠ .frz o u) (h : Rd H a u) : Rd (hid D H) a u := by
  rcases h with h | ⟨o, h⟩
  · exact .inl (by rw [hid_ne (ne_of h hD (Ne.symm n))]; exact h)
  · exact .inr ⟨o, by rw [hid_ne (ne_of h hD (Ne.symm (n' o)))]; exact h⟩
theorem SqT.hide {K : PySem.W.Frag} {H : Hp} {D a : Addr} {w : HO} {xs : List V} (hD : H D = some w) (n : NoT w) (h : SqT K H a xs) : SqT K (hid D H) a xs := h.imp (Rd.hide hD (n.1 xs) fun o => n.2 o _) id
theorem SqL.hide {K : PySem.W.Frag} {H : Hp} {D a : Addr} {w : HO} {xs : List V} (hD : H D = some w) (n : NoR w) (h : SqL K H a xs) : SqL K (hid D H) a xs := h.imp (Rd.hide hD (n.2 xs) fun o => n.1.2 o _) id
theorem Sq2.hide {K : PySem.W.Frag} {H : Hp} {D a : Addr} {w : HO} {xs : List V} (hD : H D = some w) (n : NoR w) (h : SqL K H a xs ∨ SqT K H a xs) : SqL K (hid D H) a xs ∨ SqT K (hid D H) a xs := h.imp (SqL.hide hD n) (SqT.hide hD n.1)
theorem hid_put {x : Addr} {H H' : Hp} {o : HO} (e : Same (hid x H) H') : Same (hid x H) (upd H' x o) := fun b u z => by
  rw [upd_ne (hid_some z).1]; exact e b u z
theorem _root_.L2.Same.vac {H0 H1 : Hp} {D : Addr} (a : Same H0 H1) (n : H1 D = none) : H0 D = none := by
  cases z : H0 D with
  | none => rfl
  | some o => rw [a _ _ z] at n; cases n
theorem same_via {H0 H1 H2 : Hp} {D : Addr} (h : H0 D = none) (a : Same H0 H1) (e : Same (hid D H1) (hid D H2)) : Same H0 H2 := fun b o z => by
  have nb : b ≠ D := ne_of_none z h
  have := e b o (by rw [hid_ne nb]; exact a b o z)
  rw [hid_ne nb] at this
  exact this
/-! ### walking what may be a list or a tuple -/
section
variable {K : PySem.W.Frag} {σ : L2.St} {H : Hp} {p : Addr} {xs : List V}
def Sq2 (K : PySem.W.Frag) (H : Hp) (a : Addr) (xs : List V) : Prop := SqL K H a xs ∨ SqT K H a xs
theorem Sq2.same {H' : Hp} {a : Addr} (e : Same H H') (h : Sq2 K H a xs) : Sq2 K H' a xs := Or.imp e.seq (Same.sqt e) h
theorem w_iQ2 {R : It → Hp → Prop} {H0 : Hp} (h : Sq2 K H0 p xs) (hs : Same H0 H) (g : ∀ J G, Walk J xs.length G (YAt xs) → (∀ H', Same H0 H' → G H') → R J H) :
    ∃ a, V.ref p = .ref a ∧ (((∃ xs, SqL K H a xs) ∧ R (Itl K a) H) ∨ ((∃ xs, SqT K H a xs) ∧ R (Itt K a) H)) := by
  rcases h with h | h
  · exact ⟨p, rfl, .inl ⟨⟨xs, hs.seq h⟩, g _ _ walk_list fun H' a => a.seq h⟩⟩
  · exact ⟨p, rfl, .inr ⟨⟨xs, Same.sqt hs h⟩, g _ _ walk_tup fun H' a => Same.sqt a h⟩⟩
theorem w_lenQ {Q : VK} (h : Sq2 K H p xs) (g : Q (.int xs.length) H) : rLenQ K [.ref p] H Q := ⟨p, xs, rfl, h, g⟩
theorem w_iES {ta tk : TA} {R : It → Hp → Prop} (g : ta σ H fun vs H1 => tk σ H1 fun zs H2 => ∃ a xs b k, vs = [.ref a] ∧ zs = [.int k] ∧ (-(2 ^ 63) ≤ k ∧ k < 2 ^ 63) ∧ SqB K b H2 a xs ∧ R (IteS K b a k) H2) : iEnumS K ta tk σ H R := g
def YEn (xs : List V) (k : Int) : Nat → Hp → V → Hp → Prop := fun i H v H' => ∃ T x, v = .ref T ∧ H T = none ∧ H' = upd H T (.tup [.int (k + (i : Nat)), x]) ∧ xs[i]? = some x
theorem w_iESx {R : It → Hp → Prop} {k : Int} {H0 : Hp} (hk : -(2 ^ 63) ≤ k ∧ k < 2 ^ 63) (h : Sq2 K H0 p xs) (hs : Same H0 H) (g : ∀ J G, Walk J xs.length G (YEn xs k) → (∀ H', Same H0 H' → G H') → R J H) :
    ∃ a xs b k', [V.ref p] = [.ref a] ∧ [V.int k] = [.int k'] ∧ (-(2 ^ 63) ≤ k' ∧ k' < 2 ^ 63) ∧ SqB K b H a xs ∧ R (IteS K b a k') H := by
  have w : ∀ b, Walk (IteS K b p k) xs.length (fun H => SqB K b H p xs) (YEn xs k) := fun b =>
    ⟨fun i H hi q => ⟨xs, xs[i], q, by simp [hi]⟩, fun _ q => ⟨xs, q, rfl⟩, fun i H x H' hi q ⟨T, x', e, n, e', h⟩ => ⟨T, x', e, n, e', h xs q⟩⟩
  rcases h with h | h
  · exact ⟨p, xs, false, k, rfl, rfl, hk, hs.seq h, g _ _ (w false) fun H' a => a.seq h⟩
  · exact ⟨p, xs, true, k, rfl, rfl, hk, Same.sqt hs h, g _ _ (w true) fun H' a => Same.sqt a h⟩
end
/-! ### x[i] by a def __getitem__ -/
section
variable {X : Cx} {CX : CXT} {k : Nat} {C f : Addr} {fd : FuncData} {ps : List Str} {sp : Sp} {E : XK}
theorem e_getO {a b : Expr} {ta tb : TE} {pos : Pos} (hm : Meth X.K C "__getitem__" f) (hf : PySem.W.fnIn X.K f = true) (F : FnOk X.prog X.w X.K X.mg X.base CX k f fd ps sp) (hr : Room (k + 1) X.A) (hb : Binds X.K fd ps []) (hx : Passes CX X E) (ha : PE X a ta) (hb' : PE X b tb)
    (hsl : ∀ o i, subscripted b true o i = runValue (.builtin "lifetime.subscript" ⟨[o, i], []⟩) := by intro _ _; with_unfolding_all rfl) : PE X (.Subscript a b pos) (tOp (rGetO C sp E) ta tb) := by
  refine ⟨fun pins s σ H Q I h => ?_⟩
  refine Subscript_ (binT ha hb' I h fun v u s2 x y H2 I2 rx ry ⟨p, dx, fs, ex, hp, q⟩ => ?_)
  subst ex
  cases (show v = Value.ref p from rx)
  obtain ⟨od, Jn⟩ := inst_of I2 hp
  obtain ⟨m, hF⟩ := I2.fr
  exact PySem.W.sub_K hF I2.ok.mod.kin Jn hm.at_ hf hm.fn (run_in1 (us := [.ref p, u]) (vs := [.ref p, y]) F hr hb hx I2 (.cons rfl (.cons ry .nil)) q) (hsl _ _)
/-! ### dicts of data compared -/
inductive HitsV (K : PySem.W.Frag) (H : Hp) (ls : List (Key × V)) : List (Key × V) → Bool → Prop
  | nil : HitsV K H ls [] true
  | miss {k : Key} {v : V} {r : List (Key × V)} : valV ls k = none → HitsV K H ls ((k, v) :: r) false
  | hit {k : Key} {v y : V} {r : List (Key × V)} {d e : PyData} {b : Bool} : valV ls k = some y → Dp K H v d → Dp K H y e → SeqAt.shaped d = true → SeqAt.shaped e = true → HitsV K H ls r b → HitsV K H ls ((k, v) :: r) (PyData.eqv d e && b)
theorem HitsV.keq {pins : List (Addr × Obj)} {σ : L2.St} {H : Hp} {s : Shared} {ls : List (Key × V)} {vb : List (Key × Value)} (I : Inv X pins σ H s) (rb : KV ls vb) (hu : X.A.in1.units + 64 < cLine) {ks : List (Key × V)} {r : Bool} (h : HitsV X.K H ls ks r) :
    ∀ {va : List (Key × Value)}, KV ks va → PySem.W.KeqHits X.A.in1 s vb va r := by
  induction h with
  | nil => intro va hv; cases hv; exact .nil
  | @miss k v r hm =>
    intro va hv
    cases hv with
    | @cons _ q _ qs h t =>
      obtain ⟨k', v'⟩ := q
      obtain ⟨h1, h2⟩ := h
      have h1' : k = k' := h1
      subst h1'
      have rr := rb.val k
      rw [hm] at rr
      refine .miss ?_
      cases z : valueAt vb k with
      | none => rfl
      | some u => rw [z] at rr; exact rr.elim
  | @hit k v y r d e b hy hd he sd se hr ih =>
    intro va hv
    cases hv with
    | @cons _ q _ qs h t =>
      obtain ⟨k', v'⟩ := q
      obtain ⟨h1, h2⟩ := h
      have h1' : k = k' := h1
      subst h1'
      have rr := rb.val k
      rw [hy] at rr
      obtain ⟨u, hu', ru⟩ := rr.some_of
      obtain ⟨as, r1⟩ := Dp.reads I d v v' hd h2
      obtain ⟨bs, r2⟩ := Dp.reads I e y u he ru
      exact .hit hu' (PySem.W.keq_at r1 r2 sd se hu) (ih t)
theorem u65 {k : Nat} {A : Around} (r : Room k A) : A.in1.units + 64 < cLine := by
  have := r.un
  have e : A.in1.units ≤ A.units + 1 := by first | exact Nat.le_refl _ | exact Nat.le_succ _
  omega
def rEqDD (K : PySem.W.Frag) : R2 := fun x y H Q => ∃ a b ks ls r, x = .ref a ∧ y = .ref b ∧ H a = some (.dK ks) ∧ H b = some (.dK ls) ∧ (ks.length = ls.length → HitsV K H ls ks r) ∧ Q (.bl (ks.length == ls.length && r)) H
theorem k_eqDD (K : PySem.W.Frag) (hu : X.A.in1.units + 64 < cLine) (hK : X.K = K := by rfl) : OpR X (compareOp .Eq) (rEqDD K) := by
  subst hK
  intro pins s σ H x y v u Q I rx ry h
  obtain ⟨a, b, ks, ls, r, rfl, rfl, ea, eb, hh, q⟩ := h
  obtain rfl : v = Value.ref a := rx
  obtain rfl : u = Value.ref b := ry
  obtain ⟨_, ya, va, ra, da⟩ := (show ObjOk X.prog X.w H s.heap a (.dK ks) from I.hok a _ ea)
  obtain ⟨_, yb, vb, rb, db⟩ := (show ObjOk X.prog X.w H s.heap b (.dK ls) from I.hok b _ eb)
  have h1 := ra.length
  have h2 := rb.length
  have hl : (va.length == vb.length) = (ks.length == ls.length) := by rw [← h1, ← h2]
  have hin : X.A.units ≤ X.A.in1.units := by first | exact Nat.le_refl _ | exact Nat.le_succ _
  refine PySem.W.keq_eq (knd := mixKind X.prog X.w) (r := r) ya yb da db (Nat.lt_of_le_of_lt (Nat.le_trans hin (Nat.le_add_right _ 64)) hu) (fun e => HitsV.keq I rb hu (hh (by omega)) ra) ⟨.bl _, H, I, rfl, ?_⟩
  rw [hl]; exact q
end
end Mf

namespace Mf
open PySem L2 PyProof.Rows
/-! ### data stays -/
mutual
theorem Dp.same {K : PySem.W.Frag} {H H' : Hp} (e : Same H H') : ∀ {v : V} {d : PyData}, Dp K H v d → Dp K H' v d
  | _, _, .non => .non
  | _, _, .bl b => .bl b
  | _, _, .int i => .int i
  | _, _, .str x => .str x
  | _, _, .lst h a => .lst (e.seq h) (DpAll.same e a)
  | _, _, .tup h a => .tup (Same.sqt e h) (DpAll.same e a)
theorem DpAll.same {K : PySem.W.Frag} {H H' : Hp} (e : Same H H') : ∀ {vs : List V} {ds : List PyData}, DpAll K H vs ds → DpAll K H' vs ds
  | _, _, .nil => .nil
  | _, _, .cons h r => .cons (Dp.same e h) (DpAll.same e r)
end
theorem dpAll_fa {α : Type} {K : PySem.W.Frag} {H : Hp} {f : α → PyData} {as : List α} {vs : List V} (h : Fa (fun a v => Dp K H v (f a)) as vs) : DpAll K H vs (as.map f) := by
  induction h with
  | nil => exact .nil
  | cons r _ ih => exact .cons r ih
theorem fa_dpAll {α : Type} {K : PySem.W.Frag} {H : Hp} {f : α → PyData} : ∀ {as : List α} {vs : List V}, DpAll K H vs (as.map f) → Fa (fun a v => Dp K H v (f a)) as vs
  | [], _, h => by cases h; exact .nil
  | a :: as, _, h => by cases h with | cons r t => exact .cons r (fa_dpAll t)
theorem len_cps (x : Str) : x.cps.toList.length = x.length := by rw [Array.length_toList]; rfl
theorem letters_mem (z : Nat) : decide (z ∈ (Str.ofString "abcdefghijklmnopqrstuvwxyz").cps.toList) = decide (97 ≤ z ∧ z ≤ 122) := by
  have e : (Str.ofString "abcdefghijklmnopqrstuvwxyz").cps.toList = [97, 98, 99, 100, 101, 102, 103, 104, 105, 106, 107, 108, 109, 110, 111, 112, 113, 114, 115, 116, 117, 118, 119, 120, 121, 122] := by decide +kernel
  rw [e]
  refine decide_eq_decide.mpr ⟨fun h => ?_, fun h => ?_⟩
  · simp only [List.mem_cons, List.not_mem_nil, or_false] at h
    omega
  · simp only [List.mem_cons, List.not_mem_nil, or_false]
    omega
/-! ### steps, bodies, procedures -/
abbrev Stp := Str × Str
abbrev Prc := Str × List Stp
def dStp (s : Stp) : PyData := .tuple [.str s.1, .str s.2]
def dRowT (ss : List Stp) : PyData := .tuple (ss.map dStp)
def dRowL (ss : List Stp) : PyData := .list (ss.map dStp)
def dPrc (p : Prc) : PyData := .tuple [.str p.1, dRowL p.2]
def dPrg (ps : List Prc) : PyData := .list (ps.map dPrc)
def StV (K : PySem.W.Frag) (H : Hp) (s : Stp) (v : V) : Prop := ∃ t, v = .ref t ∧ SqT K H t [.str s.1, .str s.2]
def RowT (K : PySem.W.Frag) (H : Hp) (ss : List Stp) (v : V) : Prop := ∃ b vs, v = .ref b ∧ SqT K H b vs ∧ Fa (StV K H) ss vs
def RowL (K : PySem.W.Frag) (H : Hp) (ss : List Stp) (v : V) : Prop := ∃ b vs, v = .ref b ∧ SqL K H b vs ∧ Fa (StV K H) ss vs
def RowV (K : PySem.W.Frag) (H : Hp) (ss : List Stp) (v : V) : Prop := RowL K H ss v ∨ RowT K H ss v
def PrV (K : PySem.W.Frag) (H : Hp) (R : List Stp → V → Prop) (p : Prc) (v : V) : Prop := ∃ t b, v = .ref t ∧ SqT K H t [.str p.1, b] ∧ R p.2 b
/-- procedures as any rows -/
def PgV (K : PySem.W.Frag) (H : Hp) (ps : List Prc) (v : V) : Prop := ∃ a vs, v = .ref a ∧ (SqL K H a vs ∨ SqT K H a vs) ∧ Fa (PrV K H (RowV K H)) ps vs
/-- a list of (name, list of steps) -/
def PgL (K : PySem.W.Frag) (H : Hp) (ps : List Prc) (v : V) : Prop := ∃ a vs, v = .ref a ∧ SqL K H a vs ∧ Fa (PrV K H (RowL K H)) ps vs
section
variable {K : PySem.W.Frag} {H H' : Hp} {s : Stp} {ss : List Stp} {p : Prc} {ps : List Prc} {v : V}
theorem StV.same (e : Same H H') (h : StV K H s v) : StV K H' s v := let ⟨t, a, b⟩ := h; ⟨t, a, Same.sqt e b⟩
theorem RowT.same (e : Same H H') (h : RowT K H ss v) : RowT K H' ss v := let ⟨t, vs, a, b, c⟩ := h; ⟨t, vs, a, Same.sqt e b, c.imp fun _ _ _ => StV.same e⟩
theorem RowL.same (e : Same H H') (h : RowL K H ss v) : RowL K H' ss v := let ⟨t, vs, a, b, c⟩ := h; ⟨t, vs, a, e.seq b, c.imp fun _ _ _ => StV.same e⟩
theorem RowV.same (e : Same H H') (h : RowV K H ss v) : RowV K H' ss v := h.imp (RowL.same e) (RowT.same e)
theorem PrV.same {R R' : List Stp → V → Prop} (e : Same H H') (f : ∀ ss v, R ss v → R' ss v) (h : PrV K H R p v) : PrV K H' R' p v := let ⟨t, b, a, c, d⟩ := h; ⟨t, b, a, Same.sqt e c, f _ _ d⟩
theorem PgV.same (e : Same H H') (h : PgV K H ps v) : PgV K H' ps v := let ⟨a, vs, b, c, d⟩ := h; ⟨a, vs, b, c.imp e.seq (Same.sqt e), d.imp fun _ _ _ z => z.same e fun _ _ => RowV.same e⟩
theorem PgL.same (e : Same H H') (h : PgL K H ps v) : PgL K H' ps v := let ⟨a, vs, b, c, d⟩ := h; ⟨a, vs, b, e.seq c, d.imp fun _ _ _ z => z.same e fun _ _ => RowL.same e⟩
theorem PgL.any (h : PgL K H ps v) : PgV K H ps v := let ⟨a, vs, b, c, d⟩ := h; ⟨a, vs, b, .inl c, d.imp fun _ _ _ ⟨t, b, x, y, z⟩ => ⟨t, b, x, y, .inl z⟩⟩
theorem StV.dp (h : StV K H s v) : Dp K H v (dStp s) := by
  obtain ⟨t, rfl, h⟩ := h
  exact .tup h (.cons (.str _) (.cons (.str _) .nil))
theorem RowT.dp (h : RowT K H ss v) : Dp K H v (dRowT ss) := by
  obtain ⟨t, vs, rfl, h, f⟩ := h
  exact .tup h (dpAll_fa (f.imp fun _ _ _ z => z.dp))
theorem RowL.dp (h : RowL K H ss v) : Dp K H v (dRowL ss) := by
  obtain ⟨t, vs, rfl, h, f⟩ := h
  exact .lst h (dpAll_fa (f.imp fun _ _ _ z => z.dp))
theorem PrV.dp (h : PrV K H (RowL K H) p v) : Dp K H v (dPrc p) := by
  obtain ⟨t, b, rfl, h, f⟩ := h
  exact .tup h (.cons (.str _) (.cons f.dp .nil))
theorem PgL.dp (h : PgL K H ps v) : Dp K H v (dPrg ps) := by
  obtain ⟨t, vs, rfl, h, f⟩ := h
  exact .lst h (dpAll_fa (f.imp fun _ _ _ z => z.dp))
end
section
variable {K : PySem.W.Frag} {H : Hp} {D : Addr} {w : HO} {s : Stp} {ss : List Stp} {p : Prc} {ps : List Prc} {v : V}
theorem StV.hide (hD : H D = some w) (n : NoT w) (h : StV K H s v) : StV K (hid D H) s v := let ⟨t, a, b⟩ := h; ⟨t, a, SqT.hide hD n b⟩
theorem RowT.hide (hD : H D = some w) (n : NoT w) (h : RowT K H ss v) : RowT K (hid D H) ss v := let ⟨t, vs, a, b, c⟩ := h; ⟨t, vs, a, SqT.hide hD n b, c.imp fun _ _ _ => StV.hide hD n⟩
theorem RowL.hide (hD : H D = some w) (n : NoR w) (h : RowL K H ss v) : RowL K (hid D H) ss v := let ⟨t, vs, a, b, c⟩ := h; ⟨t, vs, a, SqL.hide hD n b, c.imp fun _ _ _ => StV.hide hD n.1⟩
theorem RowV.hide (hD : H D = some w) (n : NoR w) (h : RowV K H ss v) : RowV K (hid D H) ss v := h.imp (RowL.hide hD n) (RowT.hide hD n.1)
theorem PgV.hide (hD : H D = some w) (n : NoR w) (h : PgV K H ps v) : PgV K (hid D H) ps v := let ⟨a, vs, b, c, d⟩ := h; ⟨a, vs, b, Sq2.hide hD n c, d.imp fun _ _ _ ⟨t, b, x, y, z⟩ => ⟨t, b, x, SqT.hide hD n.1 y, z.hide hD n⟩⟩
theorem RowV.sq (h : RowV K H ss v) : ∃ b vs, v = .ref b ∧ Sq2 K H b vs ∧ Fa (StV K H) ss vs := by
  rcases h with ⟨b, vs, e, h, f⟩ | ⟨b, vs, e, h, f⟩
  · exact ⟨b, vs, e, .inl h, f⟩
  · exact ⟨b, vs, e, .inr h, f⟩
end
/-! ### programs that are valid -/
def kinds : List Str := ["read", "say", "call", "try"]
def calls : List Str := ["call", "try"]
def GoodStp (ns : List Str) (s : Stp) : Prop := s.1 ∈ kinds ∧ IsName s.2 ∧ (s.1 ∈ calls → s.2 ∈ ns)
def nms (ps : List Prc) : List Str := ps.map Prod.fst
def rdOf (s : Stp) : Option Str := if s.1 = "read" then some s.2 else none
def reads (ps : List Prc) : List Str := ps.flatMap fun p => p.2.filterMap rdOf
structure Good (ps : List Prc) : Prop where
  pos : 0 < ps.length
  few : ps.length ≤ 16
  nd : (nms ps).Nodup
  name : ∀ p ∈ ps, IsName p.1
  short : ∀ p ∈ ps, p.2.length ≤ 12
  step : ∀ p ∈ ps, ∀ s ∈ p.2, GoodStp (nms ps) s
  plc : (addAll (reads ps)).length < 64
def places (ps : List Prc) : List Str := nset (reads ps)
theorem kinds_ok {x : Str} (h : x ∈ kinds) : PyData.strOk x = true := by
  unfold kinds at h
  simp only [List.mem_cons, List.not_mem_nil, or_false] at h
  rcases h with rfl | rfl | rfl | rfl <;> decide +kernel
theorem kinds_len {x : Str} (h : x ∈ kinds) : x.length ≤ 4 := by
  unfold kinds at h
  simp only [List.mem_cons, List.not_mem_nil, or_false] at h
  rcases h with rfl | rfl | rfl | rfl <;> decide +kernel
theorem GoodStp.lay {ns : List Str} {s : Stp} (h : GoodStp ns s) : PyData.canLay0 (dStp s) = true := by
  unfold dStp
  simp only [PyData.canLay0, PyData.canLayAll0, kinds_ok h.1, h.2.1.ok, Bool.and_self]
theorem lay_all {α : Type} {f : α → PyData} : ∀ {as : List α}, (∀ a ∈ as, PyData.canLay0 (f a) = true) → PyData.canLayAll0 (as.map f) = true
  | [], _ => by simp [PyData.canLayAll0]
  | a :: as, h => by
    simp only [List.map_cons, PyData.canLayAll0, h a List.mem_cons_self, lay_all (as := as) fun x hx => h x (List.mem_cons_of_mem _ hx), Bool.and_self]
theorem depth_all {α : Type} {f : α → PyData} {n : Nat} : ∀ {as : List α}, (∀ a ∈ as, PyData.depth (f a) ≤ n) → PyData.depthAll (as.map f) ≤ n
  | [], _ => by simp [PyData.depthAll]
  | a :: as, h => by
    simp only [List.map_cons, PyData.depthAll]
    exact Nat.max_le.mpr ⟨h a List.mem_cons_self, depth_all (as := as) fun x hx => h x (List.mem_cons_of_mem _ hx)⟩
theorem depth_stp (s : Stp) : PyData.depth (dStp s) ≤ 1 := by
  unfold dStp
  simp [PyData.depth, PyData.depthAll]
theorem shaped_rowT {ns : List Str} {ss : List Stp} (h : ∀ s ∈ ss, GoodStp ns s) : SeqAt.shaped (dRowT ss) = true := by
  unfold SeqAt.shaped dRowT
  rw [Bool.and_eq_true]
  refine ⟨?_, decide_eq_true ?_⟩
  · simp only [PyData.canLay0]
    exact lay_all fun s hs => (h s hs).lay
  · simp only [PyData.depth]
    have := depth_all (f := dStp) (as := ss) (n := 1) fun s _ => depth_stp s
    omega
theorem eqv_stp (s t : Stp) : PyData.eqv (dStp s) (dStp t) = decide (s = t) := by
  obtain ⟨a, b⟩ := s
  obtain ⟨c, d⟩ := t
  unfold dStp
  simp only [PyData.eqv, PyData.eqvAll]
  by_cases h1 : a = c
  · by_cases h2 : b = d <;> simp [h1, h2]
  · simp [h1]
theorem eqvAll_map {α : Type} [DecidableEq α] {f : α → PyData} (hf : ∀ a b, PyData.eqv (f a) (f b) = decide (a = b)) : ∀ as bs : List α, PyData.eqvAll (as.map f) (bs.map f) = decide (as = bs)
  | [], [] => by simp [PyData.eqvAll]
  | [], y :: ys => by simp [PyData.eqvAll]
  | x :: xs, [] => by simp [PyData.eqvAll]
  | x :: xs, y :: ys => by
    simp only [List.map_cons, PyData.eqvAll, hf, eqvAll_map hf xs ys]
    by_cases h1 : x = y
    · by_cases h2 : xs = ys <;> simp [h1, h2]
    · simp [h1]
theorem eqv_rowT (ss ts : List Stp) : PyData.eqv (dRowT ss) (dRowT ts) = decide (ss = ts) := by
  unfold dRowT; simp only [PyData.eqv]; exact eqvAll_map eqv_stp ss ts
theorem eqv_rowL (ss ts : List Stp) : PyData.eqv (dRowL ss) (dRowL ts) = decide (ss = ts) := by
  unfold dRowL; simp only [PyData.eqv]; exact eqvAll_map eqv_stp ss ts
theorem eqv_prc (p q : Prc) : PyData.eqv (dPrc p) (dPrc q) = decide (p = q) := by
  obtain ⟨a, b⟩ := p
  obtain ⟨c, d⟩ := q
  unfold dPrc
  simp only [PyData.eqv, PyData.eqvAll, eqv_rowL]
  by_cases h1 : a = c
  · by_cases h2 : b = d <;> simp [h1, h2]
  · simp [h1]
theorem eqv_prg (ps qs : List Prc) : PyData.eqv (dPrg ps) (dPrg qs) = decide (ps = qs) := by
  unfold dPrg; simp only [PyData.eqv]; exact eqvAll_map eqv_prc ps qs
/-! ### Program -/
def pgF (tn db tp : Addr) : List (Str × V) := [("names", .ref tn), ("bodies", .ref db), ("places", .ref tp)]
structure PgAt (K : PySem.W.Frag) (C : Addr) (H : Hp) (a : Addr) (ps : List Prc) : Prop where
  ex : ∃ dx tn db tp kvs, H a = some (.ins C dx (pgF tn db tp)) ∧ SqT K H tn ((nms ps).map V.str) ∧ H db = some (.dK kvs) ∧ Fa (fun p q => q.1 = Sum.inr p.1 ∧ RowT K H p.2 q.2) ps kvs ∧ SqT K H tp ((places ps).map V.str)
  good : Good ps
theorem PgAt.same {K : PySem.W.Frag} {C : Addr} {H H' : Hp} {a : Addr} {ps : List Prc} (e : Same H H') (h : PgAt K C H a ps) : PgAt K C H' a ps := by
  obtain ⟨⟨dx, tn, db, tp, kvs, h1, h2, h3, h4, h5⟩, g⟩ := h
  exact ⟨⟨dx, tn, db, tp, kvs, e _ _ h1, Same.sqt e h2, e _ _ h3, h4.imp fun _ _ _ z => ⟨z.1, z.2.same e⟩, Same.sqt e h5⟩, g⟩
theorem val_of_mem {kvs : List (Key × V)} {k : Key} {v : V} (nd : (kvs.map (·.1)).Nodup) (h : (k, v) ∈ kvs) : valV kvs k = some v := val_nodup nd (k, v) h
theorem keys_of {K : PySem.W.Frag} {H : Hp} {ps : List Prc} {kvs : List (Key × V)} (h : Fa (fun p q => q.1 = Sum.inr p.1 ∧ RowT K H p.2 q.2) ps kvs) : kvs.map (·.1) = (nms ps).map Sum.inr := by
  induction h with
  | nil => rfl
  | cons r _ ih => unfold nms at *; simp only [List.map_cons]; rw [r.1, ih]
theorem Good.keys {K : PySem.W.Frag} {H : Hp} {ps : List Prc} {kvs : List (Key × V)} (hg : Good ps) (h : Fa (fun p q => q.1 = Sum.inr p.1 ∧ RowT K H p.2 q.2) ps kvs) : (kvs.map (·.1)).Nodup := by
  rw [keys_of h]
  exact List.pairwise_map.mpr (List.Pairwise.imp (fun h z => h (Sum.inr.inj z)) hg.nd)
theorem body_at {K : PySem.W.Frag} {H : Hp} {ps : List Prc} {kvs : List (Key × V)} {n : Str} {ss : List Stp} (hg : Good ps) (h : Fa (fun p q => q.1 = Sum.inr p.1 ∧ RowT K H p.2 q.2) ps kvs) (hm : (n, ss) ∈ ps) : ∃ v, valV kvs (Sum.inr n) = some v ∧ RowT K H ss v := by
  obtain ⟨⟨k, v⟩, hq, e, r⟩ := h.left hm
  have e' : k = Sum.inr n := e
  subst e'
  exact ⟨v, val_of_mem (hg.keys h) hq, r⟩
theorem Good.oks {ps : List Prc} (h : Good ps) : Oks (nms ps) := fun x hx => by
  obtain ⟨p, hp, rfl⟩ := List.mem_map.mp hx
  exact (h.name p hp).ok
theorem nms_inj {ps : List Prc} (nd : (nms ps).Nodup) {p q : Prc} (hp : p ∈ ps) (hq : q ∈ ps) (e : p.1 = q.1) : p = q := by
  induction ps with
  | nil => cases hp
  | cons r rs ih =>
    unfold nms at nd
    rw [List.map_cons, List.nodup_cons] at nd
    rcases List.mem_cons.mp hp with rfl | hp' <;> rcases List.mem_cons.mp hq with rfl | hq'
    · rfl
    · exact absurd (List.mem_map.mpr ⟨q, hq', e.symm⟩) nd.1
    · exact absurd (List.mem_map.mpr ⟨p, hp', e⟩) nd.1
    · exact ih nd.2 hp' hq'
theorem hits_aux {K : PySem.W.Frag} {H : Hp} {ps qs : List Prc} {kvs lvs : List (Key × V)} {ns : List Str} (hs : ∀ p ∈ ps, ∀ s ∈ p.2, GoodStp ns s) (hs' : ∀ p ∈ qs, ∀ s ∈ p.2, GoodStp ns s)
    (look : ∀ q ∈ qs, ∃ v, valV lvs (Sum.inr q.1) = some v ∧ RowT K H q.2 v) (hn : nms ps = nms qs) (hK : Fa (fun p q => q.1 = Sum.inr p.1 ∧ RowT K H p.2 q.2) ps kvs) : HitsV K H lvs kvs (decide (ps = qs)) := by
  induction hK generalizing qs with
  | nil =>
    cases qs with
    | nil => exact .nil
    | cons q qs => cases hn
  | @cons p kv ps' kvs' r t ih =>
    cases qs with
    | nil => cases hn
    | cons q qs' =>
      have hn' : p.1 = q.1 ∧ nms ps' = nms qs' := by
        unfold nms at hn ⊢
        rw [List.map_cons, List.map_cons] at hn
        injection hn with a b
        exact ⟨a, b⟩
      obtain ⟨k, v⟩ := kv
      obtain ⟨rk, rv⟩ := r
      have rk' : k = Sum.inr p.1 := rk
      subst rk'
      obtain ⟨v', hv', rv'⟩ := look q List.mem_cons_self
      rw [← hn'.1] at hv'
      have ih' := ih (qs := qs') (fun a ha => hs a (List.mem_cons_of_mem _ ha)) (fun a ha => hs' a (List.mem_cons_of_mem _ ha)) (fun a ha => look a (List.mem_cons_of_mem _ ha)) hn'.2
      have hit := HitsV.hit hv' rv.dp rv'.dp (shaped_rowT fun s hm => hs p List.mem_cons_self s hm) (shaped_rowT fun s hm => hs' q List.mem_cons_self s hm) ih'
      rw [eqv_rowT] at hit
      have e : (decide (p.2 = q.2) && decide (ps' = qs')) = decide (p :: ps' = q :: qs') := by
        obtain ⟨p1, p2⟩ := p
        obtain ⟨q1, q2⟩ := q
        have : p1 = q1 := hn'.1
        subst this
        by_cases h1 : p2 = q2 <;> by_cases h2 : ps' = qs' <;> simp [h1, h2]
      rw [e] at hit
      exact hit
theorem hits_pg {K : PySem.W.Frag} {H : Hp} {ps qs : List Prc} {kvs lvs : List (Key × V)} (hg : Good ps) (hg' : Good qs) (hn : nms ps = nms qs) (hK : Fa (fun p q => q.1 = Sum.inr p.1 ∧ RowT K H p.2 q.2) ps kvs) (hL : Fa (fun p q => q.1 = Sum.inr p.1 ∧ RowT K H p.2 q.2) qs lvs) : HitsV K H lvs kvs (decide (ps = qs)) :=
  hits_aux (ns := nms ps) hg.step (by rw [hn]; exact hg'.step) (fun q hq => body_at hg' hL hq) hn hK
def sp_isName : Sp := fun vs H Q _ => ∃ v, vs = [v] ∧ ((∃ x : Str, v = .str x ∧ x.length ≤ 1000 ∧ ∀ H', Same H H' → Q (.bl (decide (IsName x))) H') ∨ (∃ i : Int, v = .int i ∧ Q (.bl false) H))
theorem use_isName {x : Str} {H : Hp} {Q : VK} {E : XK} (hl : x.length ≤ 1000) (g : ∀ H', Same H H' → Q (.bl (decide (IsName x))) H') : sp_isName ([.str x] ++ []) H Q E := ⟨_, rfl, .inl ⟨x, rfl, hl, g⟩⟩
/-! ### procedures as they are handed in: names may be any texts or numbers -/
abbrev GStp := Str × V
abbrev GPrc := V × List GStp
def GSt (K : PySem.W.Frag) (H : Hp) (s : GStp) (v : V) : Prop := ∃ t, v = .ref t ∧ SqT K H t [.str s.1, s.2]
def GRow (K : PySem.W.Frag) (H : Hp) (ss : List GStp) (v : V) : Prop := ∃ b vs, v = .ref b ∧ Sq2 K H b vs ∧ Fa (GSt K H) ss vs
def GPr (K : PySem.W.Frag) (H : Hp) (p : GPrc) (v : V) : Prop := ∃ t b, v = .ref t ∧ SqT K H t [p.1, b] ∧ GRow K H p.2 b
def GPg (K : PySem.W.Frag) (H : Hp) (ps : List GPrc) (v : V) : Prop := ∃ a vs, v = .ref a ∧ Sq2 K H a vs ∧ Fa (GPr K H) ps vs
section
variable {K : PySem.W.Frag} {H H' : Hp} {v : V}
theorem GSt.same {s : GStp} (e : Same H H') (h : GSt K H s v) : GSt K H' s v := let ⟨t, a, b⟩ := h; ⟨t, a, Same.sqt e b⟩
theorem GRow.same {ss : List GStp} (e : Same H H') (h : GRow K H ss v) : GRow K H' ss v := let ⟨t, vs, a, b, c⟩ := h; ⟨t, vs, a, b.same e, c.imp fun _ _ _ => GSt.same e⟩
theorem GPr.same {p : GPrc} (e : Same H H') (h : GPr K H p v) : GPr K H' p v := let ⟨t, b, a, c, d⟩ := h; ⟨t, b, a, Same.sqt e c, d.same e⟩
theorem GPg.same {ps : List GPrc} (e : Same H H') (h : GPg K H ps v) : GPg K H' ps v := let ⟨a, vs, b, c, d⟩ := h; ⟨a, vs, b, c.same e, d.imp fun _ _ _ => GPr.same e⟩
end
def gS (s : Stp) : GStp := (s.1, .str s.2)
def gP (p : Prc) : GPrc := (.str p.1, p.2.map gS)
theorem faMap {α β γ : Type} {R : α → β → Prop} {S : γ → β → Prop} {f : α → γ} {as : List α} {bs : List β} (h : Fa R as bs) (i : ∀ a b, R a b → S (f a) b) : Fa S (as.map f) bs := Fa.toMapL (h.imp fun a b _ => i a b)
theorem RowV.g {K : PySem.W.Frag} {H : Hp} {ss : List Stp} {v : V} (h : RowV K H ss v) : GRow K H (ss.map gS) v := by
  rcases h with ⟨b, vs, e, h, f⟩ | ⟨b, vs, e, h, f⟩
  · exact ⟨b, vs, e, .inl h, faMap f fun s v ⟨t, a, b⟩ => ⟨t, a, b⟩⟩
  · exact ⟨b, vs, e, .inr h, faMap f fun s v ⟨t, a, b⟩ => ⟨t, a, b⟩⟩
theorem PgV.g {K : PySem.W.Frag} {H : Hp} {ps : List Prc} {v : V} (h : PgV K H ps v) : GPg K H (ps.map gP) v := by
  obtain ⟨a, vs, e, h, f⟩ := h
  exact ⟨a, vs, e, h, faMap f fun p v ⟨t, b, x, y, z⟩ => ⟨t, b, x, y, z.g⟩⟩
/-- a text or a number -/
def Wd (v : V) : Prop := (∃ x : Str, v = .str x ∧ x.length ≤ 1000) ∨ ∃ i : Int, v = .int i
theorem Wd.flat {v : V} (h : Wd v) : flatV v = true := by
  rcases h with ⟨x, rfl, _⟩ | ⟨i, rfl⟩ <;> rfl
def isNm : V → Bool
  | .str x => decide (IsName x)
  | _ => false
def isSt (s : GStp) : Bool := decide (s.1 ∈ kinds) && isNm s.2
def badA (i : Nat) (p : GPrc) (earlier : List V) : Bool := decide (16 < i + 1) || !isNm p.1 || inV p.1 earlier || decide (12 < p.2.length) || !p.2.all isSt
def scanA : Nat → List V → List GPrc → Option Nat
  | _, _, [] => none
  | i, ea, p :: r => if badA i p ea = true then some (i + 1) else scanA (i + 1) (ea ++ [p.1]) r
def badB (ns : List V) (p : GPrc) : Bool := p.2.any fun s => decide (s.1 ∈ calls) && !inV s.2 ns
def scanB (ns : List V) : Nat → List GPrc → Nat
  | _, [] => 0
  | i, p :: r => if badB ns p = true then i + 1 else scanB ns (i + 1) r
def invLine (ps : List GPrc) : Nat := if ps = [] then 1 else match scanA 0 [] ps with
  | some n => n
  | none => scanB (ps.map Prod.fst) 0 ps
def FlatG (ps : List GPrc) : Prop := ps.length ≤ 1000 ∧ ∀ p ∈ ps, Wd p.1 ∧ p.2.length ≤ 1000 ∧ ∀ s ∈ p.2, Wd s.2
theorem use_nm {v : V} {H : Hp} {Q : VK} {E : XK} (h : Wd v) (g : ∀ H', Same H H' → Q (.bl (isNm v)) H') : sp_isName ([v] ++ []) H Q E := by
  rcases h with ⟨x, rfl, hl⟩ | ⟨i, rfl⟩
  · exact ⟨_, rfl, .inl ⟨x, rfl, hl, g⟩⟩
  · exact ⟨_, rfl, .inr ⟨i, rfl, g _ fun _ _ z => z⟩⟩
def sp_isStep (K : PySem.W.Frag) : Sp := fun vs H Q _ => ∃ v s, vs = [v] ∧ GSt K H s v ∧ Wd s.2 ∧ ∀ H', Same H H' → Q (.bl (isSt s)) H'
theorem use_isStep {K : PySem.W.Frag} {v : V} {s : GStp} {H : Hp} {Q : VK} {E : XK} (h : GSt K H s v) (hl : Wd s.2) (g : ∀ H', Same H H' → Q (.bl (isSt s)) H') : sp_isStep K ([v] ++ []) H Q E := ⟨v, s, rfl, h, hl, g⟩
def sp_invLine (K : PySem.W.Frag) : Sp := fun vs H Q _ => ∃ v ps, vs = [v] ∧ GPg K H ps v ∧ FlatG ps ∧ ∀ H', Same H H' → Q (.int (invLine ps : Nat)) H'
theorem drop_at {α : Type} {ps : List α} {i : Nat} {p : α} (h : ps[i]? = some p) : ps.drop i = p :: ps.drop (i + 1) := by
  obtain ⟨hi, e⟩ := List.getElem?_eq_some_iff.mp h
  rw [List.drop_eq_getElem_cons hi, e]
theorem scanA_yes {ps : List GPrc} {i : Nat} {p : GPrc} {r : Option Nat} (h : ps[i]? = some p) (e : r = scanA i ((ps.take i).map Prod.fst) (ps.drop i)) (hb : badA i p ((ps.take i).map Prod.fst) = true) : r = some (i + 1) := by
  rw [e, drop_at h, scanA, if_pos hb]
theorem scanA_no {ps : List GPrc} {i : Nat} {p : GPrc} {r : Option Nat} (h : ps[i]? = some p) (e : r = scanA i ((ps.take i).map Prod.fst) (ps.drop i)) (hb : badA i p ((ps.take i).map Prod.fst) = false) : r = scanA (i + 1) ((ps.take (i + 1)).map Prod.fst) (ps.drop (i + 1)) := by
  rw [e, drop_at h, scanA, if_neg (by rw [hb]; exact Bool.false_ne_true), take_next h, List.map_append]; rfl
theorem scanB_yes {ns : List V} {ps : List GPrc} {i : Nat} {p : GPrc} {r : Nat} (h : ps[i]? = some p) (e : r = scanB ns i (ps.drop i)) (hb : badB ns p = true) : r = i + 1 := by
  rw [e, drop_at h, scanB, if_pos hb]
theorem scanB_no {ns : List V} {ps : List GPrc} {i : Nat} {p : GPrc} {r : Nat} (h : ps[i]? = some p) (e : r = scanB ns i (ps.drop i)) (hb : badB ns p = false) : r = scanB ns (i + 1) (ps.drop (i + 1)) := by
  rw [e, drop_at h, scanB, if_neg (by rw [hb]; exact Bool.false_ne_true)]
theorem inV_str {x : Str} {xs : List Str} : inV (.str x) (xs.map V.str) = decide (x ∈ xs) := inV_strs ..
theorem scanA_good : ∀ (qs : List Prc) (i : Nat) (es : List Str), i + qs.length ≤ 16 → (∀ p ∈ qs, IsName p.1 ∧ p.2.length ≤ 12 ∧ ∀ s ∈ p.2, s.1 ∈ kinds ∧ IsName s.2) → (es ++ nms qs).Nodup → scanA i (es.map V.str) (qs.map gP) = none
  | [], _, _, _, _, _ => rfl
  | q :: r, i, es, h16, hg, nd => by
    obtain ⟨h1, h2, h3⟩ := hg q List.mem_cons_self
    have hb : badA i (gP q) (es.map V.str) = false := by
      unfold badA gP
      simp only
      have hn : q.1 ∉ es := fun z => by
        rw [List.nodup_append] at nd
        exact nd.2.2 _ z _ (by unfold nms; simp) rfl
      have ha : (q.2.map gS).all isSt = true := by
        rw [List.all_map, List.all_eq_true]
        intro s hs
        obtain ⟨a, b⟩ := h3 s hs
        show (decide (s.1 ∈ kinds) && decide (IsName s.2)) = true
        rw [decide_eq_true a, decide_eq_true b]; rfl
      have hi : isNm (V.str q.1) = true := decide_eq_true h1
      rw [inV_str, decide_eq_false hn, ha, hi, List.length_map, decide_eq_false (show ¬ 12 < q.2.length by omega), decide_eq_false (show ¬ 16 < i + 1 by simp at h16; omega)]
      rfl
    rw [List.map_cons, scanA, if_neg (by rw [hb]; exact Bool.false_ne_true)]
    have e : es.map V.str ++ [(gP q).1] = (es ++ [q.1]).map V.str := by simp [gP]
    rw [e]
    refine scanA_good r (i + 1) (es ++ [q.1]) (by simp at h16; omega) (fun p hp => hg p (List.mem_cons_of_mem _ hp)) ?_
    have : es ++ [q.1] ++ nms r = es ++ nms (q :: r) := by unfold nms; simp
    rw [this]; exact nd
theorem scanB_good {ns : List Str} : ∀ (qs : List Prc) (i : Nat), (∀ p ∈ qs, ∀ s ∈ p.2, s.1 ∈ calls → s.2 ∈ ns) → scanB (ns.map V.str) i (qs.map gP) = 0
  | [], _, _ => rfl
  | q :: r, i, h => by
    have hb : badB (ns.map V.str) (gP q) = false := by
      unfold badB gP
      rw [List.any_eq_false]
      intro s hs
      obtain ⟨s', hs', rfl⟩ := List.mem_map.mp hs
      simp only [gS, inV_str]
      by_cases hc : s'.1 ∈ calls
      · simp [h q List.mem_cons_self s' hs' hc]
      · simp [hc]
    rw [List.map_cons, scanB, if_neg (by rw [hb]; exact Bool.false_ne_true)]
    exact scanB_good r (i + 1) fun p hp => h p (List.mem_cons_of_mem _ hp)
theorem Good.inv {ps : List Prc} (h : Good ps) : invLine (ps.map gP) = 0 := by
  have e1 : scanA 0 [] (ps.map gP) = none := scanA_good ps 0 [] (by have := h.few; omega) (fun p hp => ⟨h.name p hp, h.short p hp, fun s hs => ⟨(h.step p hp s hs).1, (h.step p hp s hs).2.1⟩⟩) (by simpa using h.nd)
  have e2 : (ps.map gP).map Prod.fst = (nms ps).map V.str := by unfold nms; simp [gP, Function.comp_def]
  have hne : ps.map gP ≠ [] := by
    intro z
    have := h.pos
    rw [List.map_eq_nil_iff.mp z] at this
    cases this
  unfold invLine
  rw [if_neg hne, e1, e2]
  exact scanB_good ps 0 fun p hp s hs => (h.step p hp s hs).2.2
theorem IsName.short {x : Str} (h : IsName x) : x.length ≤ 8 := h.2.1
theorem Good.flat {ps : List Prc} (h : Good ps) : FlatG (ps.map gP) := by
  refine ⟨by rw [List.length_map]; have := h.few; omega, fun p hp => ?_⟩
  obtain ⟨q, hq, rfl⟩ := List.mem_map.mp hp
  refine ⟨.inl ⟨q.1, rfl, by have := (h.name q hq).short; omega⟩, by unfold gP; rw [List.length_map]; have := h.short q hq; omega, fun s hs => ?_⟩
  obtain ⟨s', hs', rfl⟩ := List.mem_map.mp hs
  exact .inl ⟨s'.2, rfl, by have := (h.step q hq s' hs').2.1.short; omega⟩
theorem use_invLine {K : PySem.W.Frag} {v : V} {ps : List Prc} {H : Hp} {Q : VK} {E : XK} (h : PgV K H ps v) (hg : Good ps) (g : ∀ H', Same H H' → Q (.int 0) H') : sp_invLine K ([v] ++ []) H Q E :=
  ⟨v, ps.map gP, rfl, h.g, hg.flat, by rw [hg.inv]; exact g⟩
theorem sjoin_len (y : Str) (B : Nat) : ∀ ps : List Str, (∀ p ∈ ps, p.length ≤ B) → (Str.join y ps).length ≤ ps.length * (B + y.length)
  | [], _ => by show (0 : Nat) ≤ _; omega
  | [p], h => by
    have := h p List.mem_cons_self
    show p.length ≤ _
    simp; omega
  | p :: q :: r, h => by
    have h1 := h p List.mem_cons_self
    have h2 := sjoin_len y B (q :: r) fun x hx => h x (List.mem_cons_of_mem _ hx)
    show (p ++ y ++ Str.join y (q :: r)).length ≤ _
    rw [Str.length_append, Str.length_append, List.length_cons, Nat.add_mul]
    omega
theorem join_len {y : Str} {B : Nat} {ps : List Str} (h : ∀ p ∈ ps, p.length ≤ B) : (Txt.join y ps).length ≤ ps.length * (B + y.length) := by
  rw [TL.join_eq]; exact sjoin_len y B ps h
theorem sum_len {B : Nat} : ∀ {ps : List Str}, (∀ p ∈ ps, p.length ≤ B) → (ps.map (·.length)).sum ≤ ps.length * B
  | [], _ => by simp
  | p :: r, h => by
    have h1 := h p List.mem_cons_self
    have h2 := sum_len (ps := r) fun x hx => h x (List.mem_cons_of_mem _ hx)
    rw [List.map_cons, List.sum_cons, List.length_cons, Nat.add_mul]
    omega
def stpTxt (s : Stp) : Str := s.1 ++ Str.ofString " " ++ s.2
def lineOf (p : Prc) : Str := if p.2 = [] then p.1 ++ Str.ofString ":" else p.1 ++ Str.ofString ": " ++ Txt.join (Str.ofString ", ") (p.2.map stpTxt)
def textOf (ps : List Prc) : Str := Txt.join (Str.ofString "\n") (ps.map lineOf)
theorem stpTxt_len {ns : List Str} {s : Stp} (h : GoodStp ns s) : (stpTxt s).length ≤ 13 := by
  unfold stpTxt
  rw [Str.length_append, Str.length_append, show (Str.ofString " ").length = 1 from by decide +kernel]
  have h1 := kinds_len h.1
  have h2 := h.2.1.short
  omega
theorem lineOf_len {ns : List Str} {p : Prc} (hn : IsName p.1) (hl : p.2.length ≤ 12) (h : ∀ s ∈ p.2, GoodStp ns s) : (lineOf p).length ≤ 200 := by
  have e1 : (Str.ofString ":").length = 1 := by decide +kernel
  have e2 : (Str.ofString ": ").length = 2 := by decide +kernel
  have e4 : (Str.ofString ", ").length = 2 := by decide +kernel
  have h8 := hn.short
  unfold lineOf
  by_cases e : p.2 = []
  · rw [if_pos e, Str.length_append]; omega
  · rw [if_neg e, Str.length_append, Str.length_append]
    have := join_len (y := Str.ofString ", ") (B := 13) (ps := p.2.map stpTxt) fun q hq => by
      obtain ⟨s, hs, rfl⟩ := List.mem_map.mp hq
      exact stpTxt_len (h s hs)
    rw [List.length_map, e4] at this
    omega
theorem empty_app (z : Str) : Str.empty ++ z = z := by
  apply str_ext
  simp [Str.cps_append, Str.empty]
def sp_lineText (K : PySem.W.Frag) : Sp := fun vs H Q _ => ∃ (n : Str) (v : V) (ss : List Stp) (ns : List Str), vs = [.str n, v] ∧ RowT K H ss v ∧ IsName n ∧ ss.length ≤ 12 ∧ (∀ s ∈ ss, GoodStp ns s) ∧ ∀ H', Same H H' → Q (.str (lineOf (n, ss))) H'
theorem use_lineText {K : PySem.W.Frag} {n : Str} {v : V} {ss : List Stp} {ns : List Str} {H : Hp} {Q : VK} {E : XK} (h : RowT K H ss v) (hn : IsName n) (hl : ss.length ≤ 12) (hg : ∀ s ∈ ss, GoodStp ns s) (g : ∀ H', Same H H' → Q (.str (lineOf (n, ss))) H') : sp_lineText K ([.str n, v] ++ []) H Q E :=
  ⟨n, v, ss, ns, rfl, h, hn, hl, hg, g⟩
theorem fa_nms : ∀ ps : List Prc, Fa (fun p v => v = V.str p.1) ps ((nms ps).map V.str)
  | [] => .nil
  | _ :: r => .cons rfl (fa_nms r)
def sp_pgInit (K : PySem.W.Frag) (C : Addr) : Sp := fun vs H Q _ => ∃ (x dx : Addr) (v : V) (ps : List Prc), vs = [.ref x, v] ∧ H x = some (.ins C dx []) ∧ PgV K H ps v ∧ Good ps ∧
  ∀ H', (∀ b o, b ≠ x → H b = some o → H' b = some o) → PgAt K C H' x ps → Q .non H'
def sp_pgGet (K : PySem.W.Frag) (C : Addr) : Sp := fun vs H Q _ => ∃ (a : Addr) (n : Str) (ps : List Prc) (ss : List Stp), vs = [.ref a, .str n] ∧ PgAt K C H a ps ∧ (n, ss) ∈ ps ∧ ∀ v, RowT K H ss v → Q v H
theorem u_pgGet {K : PySem.W.Frag} {C : Addr} {a : Addr} {p : Prc} {ps : List Prc} {H : Hp} {Q : VK} {E : XK} (h : PgAt K C H a ps) (hm : p ∈ ps) (g : ∀ v, RowT K H p.2 v → Q v H) : rGetO C (sp_pgGet K C) E (.ref a) (.str p.1) H Q := by
  obtain ⟨⟨dx, tn, db, tp, kvs, ha, h2⟩, h3⟩ := id h
  exact ⟨a, dx, _, rfl, ha, a, p.1, ps, p.2, rfl, h, hm, g⟩
theorem use_pgMake {K : PySem.W.Frag} {C : Addr} {H : Hp} {Q : VK} {E : XK} {v : V} {vs : List V} {ps : List Prc} (hv : vs = [v]) (hC : PgV K H ps v) (hg : Good ps) (g : ∀ x H', Same H H' → H x = none → PgAt K C H' x ps → Q (.ref x) H') : MkB C (sp_pgInit K C) E Q vs H := by
  intro x dx nx nd ne
  subst hv
  have s0 : Same H (upd (upd H dx (.own x)) x (.ins C dx [])) := Same.mut (Same.new nd) nx
  refine ⟨x, dx, v, ps, rfl, upd_same, hC.same s0, hg, fun H' k hx => ⟨rfl, ?_⟩⟩
  exact g x H' (fun b o e => k b o (ne_of_none e nx) (s0 b o e)) nx hx
def sp_pgText (K : PySem.W.Frag) (C : Addr) : Sp := fun vs H Q _ => ∃ (a : Addr) (ps : List Prc), vs = [.ref a] ∧ PgAt K C H a ps ∧ ∀ H', Same H H' → Q (.str (textOf ps)) H'
def sp_pgEq (K : PySem.W.Frag) (C : Addr) : Sp := fun vs H Q _ => ∃ (a : Addr) (y : V) (ps : List Prc), vs = [.ref a, y] ∧ PgAt K C H a ps ∧
  ((∃ b qs, y = .ref b ∧ PgAt K C H b qs ∧ Q (.bl (decide (ps = qs))) H) ∨ (∃ t, TyX K H y t ∧ PySem.W.kitOne K t (.ref C) = some false ∧ Q (.bl false) H))
def isRd (s : Stp) : Bool := decide (s.1 = ("read" : Str))
def rf (p : Prc) : Prc := (p.1, p.2.filter isRd ++ p.2.filter fun s => !isRd s)
def sp_readsFirst (K : PySem.W.Frag) (C : Addr) : Sp := fun vs H Q _ => ∃ (a : Addr) (ps : List Prc), vs = [.ref a] ∧ PgAt K C H a ps ∧ ∀ x H', Same H H' → H x = none → PgAt K C H' x (ps.map rf) → Q (.ref x) H'
def keepIf (b : Stp → Bool) (s : Stp) : Option Stp := if b s = true then some s else none
theorem keepIf_all (b : Stp → Bool) (ss : List Stp) : ss.filterMap (keepIf b) = ss.filter b := by
  induction ss with
  | nil => rfl
  | cons s r ih =>
    rw [List.filterMap_cons, List.filter_cons]
    unfold keepIf at *
    by_cases h : b s = true
    · rw [if_pos h, if_pos h, ih]
    · rw [if_neg h, if_neg h, ih]
theorem rf_fst (ps : List Prc) : nms (ps.map rf) = nms ps := by unfold nms; rw [List.map_map]; rfl
theorem rf_mem {p : Prc} {s : Stp} : s ∈ (rf p).2 ↔ s ∈ p.2 := by
  unfold rf
  simp only [List.mem_append, List.mem_filter]
  constructor
  · rintro (⟨h, _⟩ | ⟨h, _⟩) <;> exact h
  · intro h
    by_cases e : isRd s = true
    · exact .inl ⟨h, e⟩
    · exact .inr ⟨h, by simpa using e⟩
theorem filter_split {α : Type} (b : α → Bool) : ∀ xs : List α, (xs.filter b).length + (xs.filter fun s => !b s).length = xs.length
  | [] => rfl
  | x :: r => by
    have ih := filter_split b r
    rw [List.filter_cons, List.filter_cons]
    cases h : b x <;> simp [h] <;> omega
theorem rf_len (p : Prc) : (rf p).2.length = p.2.length := by
  unfold rf
  rw [List.length_append]
  exact filter_split isRd p.2
theorem mem_reads {ps : List Prc} {x : Str} : x ∈ reads ps ↔ ∃ p ∈ ps, ∃ s ∈ p.2, rdOf s = some x := by
  unfold reads
  simp only [List.mem_flatMap, List.mem_filterMap]
theorem nodup_le {xs ys : List Str} (nd : xs.Nodup) (h : ∀ z ∈ xs, z ∈ ys) : xs.length ≤ ys.length := by
  refine Nat.le_of_not_lt fun z => ?_
  obtain ⟨k, hk, hn⟩ := pigeon xs ys nd z
  exact hn (h k hk)
theorem addAll_sub {xs ys : List Str} (h : ∀ z ∈ xs, z ∈ ys) : (addAll xs).length ≤ (addAll ys).length :=
  nodup_le (addAll_nodup xs) fun z hz => mem_addAll.mpr (h z (mem_addAll.mp hz))
theorem Good.rf {ps : List Prc} (h : Good ps) : Good (ps.map rf) := by
  refine ⟨by rw [List.length_map]; exact h.pos, by rw [List.length_map]; exact h.few, by rw [rf_fst]; exact h.nd, fun p hp => ?_, fun p hp => ?_, fun p hp s hs => ?_, ?_⟩
  · obtain ⟨q, hq, rfl⟩ := List.mem_map.mp hp
    exact h.name q hq
  · obtain ⟨q, hq, rfl⟩ := List.mem_map.mp hp
    rw [rf_len]; exact h.short q hq
  · obtain ⟨q, hq, rfl⟩ := List.mem_map.mp hp
    rw [rf_fst]
    exact h.step q hq s (rf_mem.mp hs)
  · refine Nat.lt_of_le_of_lt (addAll_sub fun z hz => ?_) h.plc
    obtain ⟨p, hp, s, hs, e⟩ := mem_reads.mp hz
    obtain ⟨q, hq, rfl⟩ := List.mem_map.mp hp
    exact mem_reads.mpr ⟨q, hq, s, rf_mem.mp hs, e⟩
end Mf

namespace Mf
open PySem L2 PyProof.Rows
/-! ### how a value stands for a thing -/
def BIG : Nat := 1048576
theorem big_size {n : Nat} (h : n ≤ BIG) : n ≤ sizeLine := by rw [PySem.sizeLine_eq]; unfold BIG at h; omega
theorem big_lt {n : Nat} (h : n ≤ BIG) : n < sizeLine := by rw [PySem.sizeLine_eq]; unfold BIG at h; omega
theorem big_add {n m : Nat} (h : n ≤ BIG) (h' : m ≤ BIG) : n + m ≤ sizeLine := by rw [PySem.sizeLine_eq]; unfold BIG at h h'; omega
structure Rl (α : Type) where
  rel : Hp → α → V → Prop
  mono : ∀ {H H' : Hp} {x : α} {v : V}, Same H H' → rel H x v → rel H' x v
def dInt : Rl Int := ⟨fun _ x v => v = .int x, fun _ h => h⟩
def dStr : Rl Str := ⟨fun _ x v => v = .str x, fun _ h => h⟩
def dBool : Rl Bool := ⟨fun _ x v => v = .bl x, fun _ h => h⟩
def dNone : Rl Unit := ⟨fun _ _ v => v = .non, fun _ h => h⟩
theorem fa_mono {α : Type} {R : Rl α} {H H' : Hp} {xs : List α} {vs : List V} (e : Same H H') (h : Fa (R.rel H) xs vs) : Fa (R.rel H') xs vs := h.imp fun _ _ _ => R.mono e
def dList {α : Type} (R : Rl α) : Rl (List α) := ⟨fun H xs v => ∃ p vs, v = .ref p ∧ H p = some (.lst vs) ∧ Fa (R.rel H) xs vs ∧ xs.length ≤ BIG, fun e ⟨p, vs, a, b, c, d⟩ => ⟨p, vs, a, e _ _ b, fa_mono e c, d⟩⟩
def dTup {α : Type} (K : PySem.W.Frag) (R : Rl α) : Rl (List α) := ⟨fun H xs v => ∃ p vs, v = .ref p ∧ SqT K H p vs ∧ Fa (R.rel H) xs vs ∧ xs.length ≤ BIG, fun e ⟨p, vs, a, b, c, d⟩ => ⟨p, vs, a, Same.sqt e b, fa_mono e c, d⟩⟩
def dSeq {α : Type} (K : PySem.W.Frag) (R : Rl α) : Rl (List α) := ⟨fun H xs v => ∃ p vs, v = .ref p ∧ Sq2 K H p vs ∧ Fa (R.rel H) xs vs ∧ xs.length ≤ BIG, fun e ⟨p, vs, a, b, c, d⟩ => ⟨p, vs, a, Sq2.same e b, fa_mono e c, d⟩⟩
def dOne {α : Type} (K : PySem.W.Frag) (R : Rl α) : Rl α := ⟨fun H x v => ∃ p a, v = .ref p ∧ SqT K H p [a] ∧ R.rel H x a, fun e ⟨p, a, h, s, r⟩ => ⟨p, a, h, Same.sqt e s, R.mono e r⟩⟩
def dPair {α β : Type} (K : PySem.W.Frag) (R : Rl α) (S : Rl β) : Rl (α × β) := ⟨fun H x v => ∃ p a b, v = .ref p ∧ SqT K H p [a, b] ∧ R.rel H x.1 a ∧ S.rel H x.2 b, fun e ⟨p, a, b, h, s, r, t⟩ => ⟨p, a, b, h, Same.sqt e s, R.mono e r, S.mono e t⟩⟩
def dTrip {α β γ : Type} (K : PySem.W.Frag) (R : Rl α) (S : Rl β) (T : Rl γ) : Rl (α × β × γ) := ⟨fun H x v => ∃ p a b c, v = .ref p ∧ SqT K H p [a, b, c] ∧ R.rel H x.1 a ∧ S.rel H x.2.1 b ∧ T.rel H x.2.2 c, fun e ⟨p, a, b, c, h, s, r, t, u⟩ => ⟨p, a, b, c, h, Same.sqt e s, R.mono e r, S.mono e t, T.mono e u⟩⟩
def dQuad {α β γ δ : Type} (K : PySem.W.Frag) (R : Rl α) (S : Rl β) (T : Rl γ) (U : Rl δ) : Rl (α × β × γ × δ) := ⟨fun H x v => ∃ p a b c d, v = .ref p ∧ SqT K H p [a, b, c, d] ∧ R.rel H x.1 a ∧ S.rel H x.2.1 b ∧ T.rel H x.2.2.1 c ∧ U.rel H x.2.2.2 d, fun e ⟨p, a, b, c, d, h, s, r, t, u, w⟩ => ⟨p, a, b, c, d, h, Same.sqt e s, R.mono e r, S.mono e t, T.mono e u, U.mono e w⟩⟩
def FaD {α : Type} (R : Rl α) (H : Hp) (xs : List (Str × α)) (kvs : List (Key × V)) : Prop := Fa (fun x (kv : Key × V) => kv.1 = .inr x.1 ∧ R.rel H x.2 kv.2) xs kvs
theorem faD_mono {α : Type} {R : Rl α} {H H' : Hp} {xs : List (Str × α)} {kvs : List (Key × V)} (e : Same H H') (h : FaD R H xs kvs) : FaD R H' xs kvs := h.imp fun _ _ _ z => ⟨z.1, R.mono e z.2⟩
def dDict {α : Type} (R : Rl α) : Rl (List (Str × α)) := ⟨fun H xs v => ∃ p kvs, v = .ref p ∧ H p = some (.dK kvs) ∧ FaD R H xs kvs ∧ xs.length ≤ BIG, fun e ⟨p, kvs, a, b, c, d⟩ => ⟨p, kvs, a, e _ _ b, faD_mono e c, d⟩⟩
mutual
theorem dp_same {K : PySem.W.Frag} {H H' : Hp} (e : Same H H') : ∀ {v : V} {d : PyData}, Dp K H v d → Dp K H' v d
  | _, _, .non => .non
  | _, _, .bl b => .bl b
  | _, _, .int i => .int i
  | _, _, .str x => .str x
  | _, _, .lst h a => .lst (e.seq h) (dpAll_same e a)
  | _, _, .tup h a => .tup (Same.sqt e h) (dpAll_same e a)
theorem dpAll_same {K : PySem.W.Frag} {H H' : Hp} (e : Same H H') : ∀ {vs : List V} {ds : List PyData}, DpAll K H vs ds → DpAll K H' vs ds
  | _, _, .nil => .nil
  | _, _, .cons h r => .cons (dp_same e h) (dpAll_same e r)
end
def dAny (K : PySem.W.Frag) : Rl PyData := ⟨fun H d v => Dp K H v d, fun e h => dp_same e h⟩
/-- None, or a thing that is not None -/
def dOpt {α : Type} (R : Rl α) : Rl (Option α) := ⟨fun H o v => match o with | none => v = .non | some x => R.rel H x v ∧ v ≠ .non, fun {H H' x v} e h => by cases x with | none => exact h | some x => exact ⟨R.mono e h.1, h.2⟩⟩
/-! ### what stands in an object of one's own that may change -/
structure Cl (α : Type) where
  rel : Hp → α → HO → Prop
  mono : ∀ {H H' : Hp} {x : α} {o : HO}, Same H H' → rel H x o → rel H' x o
def cList {α : Type} (R : Rl α) : Cl (List α) := ⟨fun B xs o => ∃ vs, o = .lst vs ∧ Fa (R.rel B) xs vs ∧ xs.length ≤ BIG, fun e ⟨vs, a, c, d⟩ => ⟨vs, a, fa_mono e c, d⟩⟩
def cDict {α : Type} (R : Rl α) : Cl (List (Str × α)) := ⟨fun B xs o => ∃ kvs, o = .dK kvs ∧ FaD R B xs kvs ∧ xs.length ≤ BIG, fun e ⟨vs, a, c, d⟩ => ⟨vs, a, faD_mono e c, d⟩⟩
/-! ### where one stands: B what stays for ever, cs what is one's own to change -/
structure Fr where
  B : Hp
  H : Hp
  ps : List Addr
structure Sit (Φ : Fr) (B H : Hp) (cs : List (Addr × HO)) : Prop where
  sub : Same B H
  grow : Same Φ.B B
  new : ∀ a, Φ.H a ≠ none → B a = Φ.B a
  keep : ∀ a o, a ∉ Φ.ps → Φ.H a = some o → H a = some o
  cell : ∀ c ∈ cs, H c.1 = some c.2 ∧ B c.1 = none ∧ (c.1 ∈ Φ.ps ∨ Φ.H c.1 = none)
  nd : (cs.map Prod.fst).Nodup
  par : ∀ a ∈ Φ.ps, H a ≠ none
namespace Sit
variable {Φ : Fr} {B H B' H' : Hp} {cs cq : List (Addr × HO)} {p : Addr} {o o' : HO}
theorem stay (S : Sit Φ B H cs) {a : Addr} (h : Φ.H a ≠ none) : H a ≠ none := by
  by_cases e : a ∈ Φ.ps
  · exact S.par a e
  · cases q : Φ.H a with
    | none => exact absurd q h
    | some u => rw [S.keep a u e q]; intro z; cases z
theorem fresh (S : Sit Φ B H cs) (h : H p = none) : Φ.H p = none := by
  cases q : Φ.H p with
  | none => rfl
  | some u => exact absurd h (S.stay (by rw [q]; intro z; cases z))
theorem bn (S : Sit Φ B H cs) (h : H p = none) : B p = none := by
  cases q : B p with
  | none => rfl
  | some u => rw [S.sub _ _ q] at h; cases h
theorem start (h : Same B H) (hc : ∀ c ∈ cs, H c.1 = some c.2 ∧ B c.1 = none) (nd : (cs.map Prod.fst).Nodup) : Sit ⟨B, H, cs.map Prod.fst⟩ B H cs where
  sub := h
  grow := Same.rf _
  new := fun _ _ => rfl
  keep := fun _ _ _ e => e
  cell := fun c m => ⟨(hc c m).1, (hc c m).2, .inl (List.mem_map.mpr ⟨c, m, rfl⟩)⟩
  nd := nd
  par := fun a m => by
    obtain ⟨c, hm, rfl⟩ := List.mem_map.mp m
    rw [(hc c hm).1]; intro z; cases z
theorem start0 (h : Same B H) : Sit ⟨B, H, []⟩ B H [] := start (cs := []) h (fun _ m => by cases m) List.nodup_nil
theorem start1 (h : Same B H) (hp : H p = some o) (hb : B p = none) : Sit ⟨B, H, [p]⟩ B H [(p, o)] := start (cs := [(p, o)]) h (fun c m => by cases List.mem_singleton.mp m; exact ⟨hp, hb⟩) (by simp)
theorem start2 {q : Addr} {u : HO} (h : Same B H) (hp : H p = some o) (hb : B p = none) (hq : H q = some u) (hbq : B q = none) (n : p ≠ q) : Sit ⟨B, H, [p, q]⟩ B H [(p, o), (q, u)] :=
  start (cs := [(p, o), (q, u)]) h (fun c m => by
    simp only [List.mem_cons, List.not_mem_nil, or_false] at m
    rcases m with rfl | rfl
    · exact ⟨hp, hb⟩
    · exact ⟨hq, hbq⟩) (by simp [n])
theorem updB (S : Sit Φ B H cs) (h : H p = none) : Same B (upd B p o) := Same.new (S.bn h)
theorem neC (S : Sit Φ B H cs) (h : H p = none) {c : Addr × HO} (m : c ∈ cs) : c.1 ≠ p := fun e => by
  have := (S.cell c m).1
  rw [e, h] at this; cases this
/-- a new object that stays as it is -/
theorem put (S : Sit Φ B H cs) (h : H p = none) : Sit Φ (upd B p o) (upd H p o) cs where
  sub := fun a u e => by
    by_cases q : a = p
    · subst q; rw [upd_same] at e ⊢; exact e
    · rw [upd_ne q] at e ⊢; exact S.sub a u e
  grow := S.grow.tr (Same.new (S.bn h))
  new := fun a ha => by
    have : a ≠ p := fun e => S.stay ha (e ▸ h)
    rw [upd_ne this]; exact S.new a ha
  keep := fun a u n e => by
    have q := S.keep a u n e
    rw [upd_ne (ne_of_none q h)]; exact q
  cell := fun c m => by
    have q := S.neC h m
    rw [upd_ne q, upd_ne q]; exact S.cell c m
  nd := S.nd
  par := fun a m => by
    by_cases q : a = p
    · subst q; rw [upd_same]; intro z; cases z
    · rw [upd_ne q]; exact S.par a m
/-- a new object that may change -/
theorem own (S : Sit Φ B H cs) (h : H p = none) : Sit Φ B (upd H p o) ((p, o) :: cs) where
  sub := fun a u e => by rw [upd_ne (ne_of_none (S.sub a u e) h)]; exact S.sub a u e
  grow := S.grow
  new := S.new
  keep := fun a u n e => by
    have q := S.keep a u n e
    rw [upd_ne (ne_of_none q h)]; exact q
  cell := fun c m => by
    rcases List.mem_cons.mp m with rfl | m
    · exact ⟨upd_same, S.bn h, .inr (S.fresh h)⟩
    · rw [upd_ne (S.neC h m)]; exact S.cell c m
  nd := by
    rw [List.map_cons, List.nodup_cons]
    refine ⟨fun m => ?_, S.nd⟩
    obtain ⟨c, hm, e⟩ := List.mem_map.mp m
    exact S.neC h hm e
  par := fun a m => by
    by_cases q : a = p
    · subst q; rw [upd_same]; intro z; cases z
    · rw [upd_ne q]; exact S.par a m
theorem at' {i : Nat} (S : Sit Φ B H cs) (h : cs[i]? = some (p, o)) : H p = some o := (S.cell (p, o) (List.mem_of_getElem? h)).1
theorem atB {i : Nat} (S : Sit Φ B H cs) (h : cs[i]? = some (p, o)) : B p = none := (S.cell (p, o) (List.mem_of_getElem? h)).2.1
theorem map_set {i : Nat} (h : cs[i]? = some (p, o)) : (cs.set i (p, o')).map Prod.fst = cs.map Prod.fst := by
  rw [List.map_set]
  refine List.ext_getElem? fun j => ?_
  rw [List.getElem?_set]
  by_cases e : i = j
  · subst e
    rw [if_pos rfl, List.getElem?_map, h]
    have := (List.getElem?_eq_some_iff.mp h).1
    rw [if_pos (by simpa using this)]
    rfl
  · rw [if_neg e]
theorem nodup_inj {α : Type} : ∀ {l : List α} {i j : Nat} {x : α}, l.Nodup → l[i]? = some x → l[j]? = some x → i = j
  | [], _, _, _, _, h, _ => by cases h
  | y :: l, i, j, x, nd, h, h' => by
    rw [List.nodup_cons] at nd
    cases i with
    | zero =>
      cases j with
      | zero => rfl
      | succ j => cases h; exact absurd (List.mem_of_getElem? (show l[j]? = some y from h')) nd.1
    | succ i =>
      cases j with
      | zero => cases h'; exact absurd (List.mem_of_getElem? (show l[i]? = some y from h)) nd.1
      | succ j => rw [nodup_inj nd.2 (show l[i]? = some x from h) (show l[j]? = some x from h')]
theorem inj {i j : Nat} {q : Addr} {u : HO} (nd : (cs.map Prod.fst).Nodup) (h : cs[i]? = some (p, o)) (h' : cs[j]? = some (q, u)) (e : p = q) : i = j := by
  have a : (cs.map Prod.fst)[i]? = some p := by rw [List.getElem?_map, h]; rfl
  have b : (cs.map Prod.fst)[j]? = some p := by rw [List.getElem?_map, h', e]; rfl
  exact nodup_inj nd a b
/-- an own object changes -/
theorem set {i : Nat} (S : Sit Φ B H cs) (h : cs[i]? = some (p, o)) : Sit Φ B (upd H p o') (cs.set i (p, o')) where
  sub := fun a u e => by
    have n : a ≠ p := fun z => by rw [z, S.atB h] at e; cases e
    rw [upd_ne n]; exact S.sub a u e
  grow := S.grow
  new := S.new
  keep := fun a u n e => by
    have q : a ≠ p := fun z => by
      rcases (S.cell (p, o) (List.mem_of_getElem? h)).2.2 with y | y
      · exact n (z ▸ y)
      · rw [z] at e; rw [show Φ.H p = none from y] at e; cases e
    rw [upd_ne q]; exact S.keep a u n e
  cell := fun c m => by
    obtain ⟨j, hj⟩ := List.getElem?_of_mem m
    rw [List.getElem?_set] at hj
    by_cases e : i = j
    · rw [if_pos e] at hj
      have hl := (List.getElem?_eq_some_iff.mp h).1
      rw [if_pos hl] at hj
      cases hj
      exact ⟨upd_same, S.atB h, (S.cell (p, o) (List.mem_of_getElem? h)).2.2⟩
    · rw [if_neg e] at hj
      have n : c.1 ≠ p := fun z => e (inj S.nd h (show cs[j]? = some (c.1, c.2) from hj) z.symm)
      rw [upd_ne n]; exact S.cell c (List.mem_of_getElem? hj)
  nd := by rw [map_set h]; exact S.nd
  par := fun a m => by
    by_cases q : a = p
    · subst q; rw [upd_same]; intro z; cases z
    · rw [upd_ne q]; exact S.par a m
/-- an own object stays from now on -/
theorem frz {i : Nat} (S : Sit Φ B H cs) (h : cs[i]? = some (p, o)) (n : Φ.H p = none) : Sit Φ (upd B p o) H (cs.eraseIdx i) where
  sub := fun a u e => by
    by_cases q : a = p
    · subst q; rw [upd_same] at e; rw [S.at' h]; exact e
    · rw [upd_ne q] at e; exact S.sub a u e
  grow := S.grow.tr (Same.new (S.atB h))
  new := fun a ha => by
    have : a ≠ p := fun e => ha (e ▸ n)
    rw [upd_ne this]; exact S.new a ha
  keep := S.keep
  cell := fun c m => by
    obtain ⟨j, hj, hc⟩ := List.mem_eraseIdx_iff_getElem?.mp m
    have ne : c.1 ≠ p := fun z => hj (inj S.nd (show cs[j]? = some (c.1, c.2) from hc) h z)
    rw [upd_ne ne]; exact S.cell c (List.mem_of_getElem? hc)
  nd := by
    refine S.nd.sublist ?_
    exact (List.eraseIdx_sublist cs i).map _
  par := S.par
theorem frzS {i : Nat} (S : Sit Φ B H cs) (h : cs[i]? = some (p, o)) : Same B (upd B p o) := Same.new (S.atB h)
theorem only (S : Sit Φ B H cs) (hs : cq.Sublist cs) : Sit Φ B H cq := ⟨S.sub, S.grow, S.new, S.keep, fun c m => S.cell c (hs.subset m), S.nd.sublist (hs.map _), S.par⟩
theorem tl {c : Addr × HO} (S : Sit Φ B H (c :: cs)) : Sit Φ B H cs := S.only (List.sublist_cons_self _ _)
theorem none (S : Sit Φ B H cs) : Sit Φ B H [] := S.only (List.nil_sublist _)
/-- a call that owns the cells qs -/
theorem call {cs' : List (Addr × HO)} {qs : List Addr} (S : Sit Φ B H cs) (S' : Sit ⟨B, H, qs⟩ B' H' cq) (hq : ∀ q ∈ qs, ∃ u, (q, u) ∈ cs) (hc : ∀ c ∈ cs', c ∈ cq ∨ (c ∈ cs ∧ c.1 ∉ qs)) (nd : (cs'.map Prod.fst).Nodup) : Sit Φ B' H' cs' where
  sub := S'.sub
  grow := S.grow.tr S'.grow
  new := fun a ha => by
    have : B' a = B a := S'.new a (S.stay ha)
    rw [this]; exact S.new a ha
  keep := fun a u n e => by
    refine S'.keep a u (fun m => ?_) (S.keep a u n e)
    obtain ⟨v, hv⟩ := hq a m
    rcases (S.cell _ hv).2.2 with y | y
    · exact n y
    · rw [show Φ.H a = Option.none from y] at e; cases e
  cell := fun c m => by
    rcases hc c m with m | ⟨m, n⟩
    · obtain ⟨h1, h2, h3⟩ := S'.cell c m
      refine ⟨h1, h2, ?_⟩
      rcases h3 with h3 | h3
      · obtain ⟨v, hv⟩ := hq c.1 h3
        exact (S.cell _ hv).2.2
      · exact .inr (S.fresh h3)
    · obtain ⟨h1, h2, h3⟩ := S.cell c m
      refine ⟨S'.keep _ _ n h1, ?_, h3⟩
      have : B' c.1 = B c.1 := S'.new c.1 (by show H c.1 ≠ Option.none; rw [h1]; intro z; cases z)
      rw [this]; exact h2
  nd := nd
  par := fun a m => S'.stay (show H a ≠ Option.none from S.par a m)
theorem call0 (S : Sit Φ B H cs) (S' : Sit ⟨B, H, []⟩ B' H' cq) : Sit Φ B' H' cs := S.call S' (fun _ m => by cases m) (fun c m => .inr ⟨m, fun z => by cases z⟩) S.nd
theorem call1 {i : Nat} (S : Sit Φ B H cs) (h : cs[i]? = some (p, o)) (S' : Sit ⟨B, H, [p]⟩ B' H' [(p, o')]) : Sit Φ B' H' (cs.set i (p, o')) :=
  S.call S' (fun q m => ⟨o, by rw [List.mem_singleton.mp m]; exact List.mem_of_getElem? h⟩) (fun c m => by
    obtain ⟨j, hj⟩ := List.getElem?_of_mem m
    rw [List.getElem?_set] at hj
    by_cases e : i = j
    · rw [if_pos e] at hj
      have hl := (List.getElem?_eq_some_iff.mp h).1
      rw [if_pos hl] at hj
      cases hj
      exact .inl List.mem_cons_self
    · rw [if_neg e] at hj
      refine .inr ⟨List.mem_of_getElem? hj, fun z => e (inj S.nd h (show cs[j]? = some (c.1, c.2) from hj) (List.mem_singleton.mp z).symm)⟩) (by rw [map_set h]; exact S.nd)
/-- a call that reads own objects as they are (base b), whose answer does not hang on the heap -/
theorem callR {b : Hp} (S : Sit Φ B H cs) (S' : Sit ⟨b, H, []⟩ B' H' cq) : Sit Φ B H' cs where
  sub := fun a u e => S'.keep a u (fun z => by cases z) (S.sub a u e)
  grow := S.grow
  new := S.new
  keep := fun a u n e => S'.keep a u (fun z => by cases z) (S.keep a u n e)
  cell := fun c m => ⟨S'.keep _ _ (fun z => by cases z) (S.cell c m).1, (S.cell c m).2⟩
  nd := S.nd
  par := fun a m => S'.stay (show H a ≠ Option.none from S.par a m)
/-- the base with an own object -/
theorem withC {i : Nat} (S : Sit Φ B H cs) (h : cs[i]? = some (p, o)) : Same (upd B p o) H := fun a u e => by
  by_cases q : a = p
  · subst q; rw [upd_same] at e; rw [S.at' h]; exact e
  · rw [upd_ne q] at e; exact S.sub a u e
end Sit
theorem start_call {Φ : Fr} {B H : Hp} {cs : List (Addr × HO)} (S : Sit Φ B H cs) : Sit Φ B H cs := S
section
variable {α : Type} {K : PySem.W.Frag} {R : Rl α} {B H : Hp} {xs : List α} {o : HO} {p : Addr} {kvs : List (Str × α)} {vs : List V}
theorem frzL (h : (cList R).rel B xs o) (n : B p = none) : (dList R).rel (upd B p o) xs (.ref p) := by
  obtain ⟨vs, rfl, f, l⟩ := h
  exact ⟨p, vs, rfl, upd_same, fa_mono (Same.new n) f, l⟩
theorem frzD {xs : List (Str × α)} (h : (cDict R).rel B xs o) (n : B p = none) : (dDict R).rel (upd B p o) xs (.ref p) := by
  obtain ⟨vs, rfl, f, l⟩ := h
  exact ⟨p, vs, rfl, upd_same, faD_mono (Same.new n) f, l⟩
theorem dList.seq {v : V} (h : (dList R).rel B xs v) : (dSeq K R).rel B xs v := let ⟨p, vs, a, b, c, d⟩ := h; ⟨p, vs, a, .inl (SqL.of b), c, d⟩
theorem dTup.seq {v : V} (h : (dTup K R).rel B xs v) : (dSeq K R).rel B xs v := let ⟨p, vs, a, b, c, d⟩ := h; ⟨p, vs, a, .inr b, c, d⟩
theorem fa_str {xs : List Str} {vs : List V} (h : Fa (dStr.rel H) xs vs) : vs = xs.map V.str := Fa.eq h
theorem fa_int {xs : List Int} {vs : List V} (h : Fa (dInt.rel H) xs vs) : vs = xs.map V.int := Fa.eq h
theorem fa_bool {xs : List Bool} {vs : List V} (h : Fa (dBool.rel H) xs vs) : vs = xs.map V.bl := Fa.eq h
theorem strs_fa {xs : List Str} : Fa (dStr.rel H) xs (xs.map V.str) := Fa.same V.str xs
theorem ints_fa {xs : List Int} : Fa (dInt.rel H) xs (xs.map V.int) := Fa.same V.int xs
theorem fa_at {i : Int} {x : α} (h : Fa (R.rel H) xs vs) (e : atI xs i = some x) : ∃ v, atI vs i = some v ∧ R.rel H x v := by
  unfold atI at e ⊢
  rw [← h.len]
  cases q : ixN xs.length i with
  | none => rw [q] at e; cases e
  | some j => rw [q] at e; exact h.getL e
end
/-! ### mirrors -/
theorem bs {α β : Type} {o : Option α} {f : α → Option β} {r : β} (h : o.bind f = some r) : ∃ a, o = some a ∧ f a = some r := by
  cases o with
  | none => cases h
  | some a => exact ⟨a, rfl, h⟩
inductive Ctl (S R : Type)
  | nx (s : S)
  | brk (s : S)
  | ret (r : R)
def Ctl.on {S R T : Type} (c : Ctl S R) (f : S → Option T) (g : R → Option T) : Option T := match c with
  | .nx s => f s
  | .ret r => g r
  | .brk _ => none
def forL {α S : Type} (f : α → S → Option S) : List α → S → Option S
  | [], s => some s
  | a :: as, s => (f a s).bind fun s' => forL f as s'
def forC {α S R : Type} (f : α → S → Option (Ctl S R)) : List α → S → Option (Ctl S R)
  | [], s => some (.nx s)
  | a :: as, s => (f a s).bind fun o => match o with
    | .nx s' => forC f as s'
    | .brk s' => some (.nx s')
    | .ret r => some (.ret r)
def whC {S R : Type} (f : S → Option (Ctl S R)) : Nat → S → Option (Ctl S R)
  | 0, _ => none
  | n + 1, s => (f s).bind fun o => match o with
    | .nx s' => whC f n s'
    | .brk s' => some (.nx s')
    | .ret r => some (.ret r)
def lcM {α β : Type} (f : α → Option (Option β)) : List α → Option (List β)
  | [] => some []
  | a :: as => (f a).bind fun o => (lcM f as).bind fun bs => some (match o with | some b => b :: bs | none => bs)
def lcS {α β S : Type} (f : α → S → Option (Option β × S)) : List α → S → Option (List β × S)
  | [], s => some ([], s)
  | a :: as, s => (f a s).bind fun o => (lcS f as o.2).bind fun t => some ((match o.1 with | some b => b :: t.1 | none => t.1), t.2)
def dcM {α β : Type} (f : α → Option (Option (Str × β))) : List α → List (Str × β) → Option (List (Str × β)) := fun as kvs => forL (fun a kvs => (f a).bind fun o => match o with
    | none => some kvs
    | some kv => some (if (kvs.any fun x => decide (x.1 = kv.1)) = true then kvs.map (fun x => if x.1 = kv.1 then (x.1, kv.2) else x) else kvs ++ [kv])) as kvs
def pushM {α : Type} (xs : List α) (x : α) : Option (List α) := if xs.length < BIG then some (xs ++ [x]) else none
def catM {α : Type} (xs ys : List α) : Option (List α) := if xs.length + ys.length ≤ BIG then some (xs ++ ys) else none
def rngM (i : Int) : Option (List Int) := if -(2 ^ 62) ≤ i ∧ i ≤ BIG then some ((List.range i.toNat).map fun k => ((k : Nat) : Int)) else none
def rng2M (i j : Int) : Option (List Int) := if (-(2 ^ 62) ≤ i ∧ i < 2 ^ 62 ∧ -(2 ^ 62) ≤ j ∧ j < 2 ^ 62) ∧ j - i ≤ BIG then some ((List.range (j - i).toNat).map fun k => i + ((k : Nat) : Int)) else none
def lenS (z : Str) : Option Int := if z.length ≤ sizeLine then some z.length else none
def ixS (z : Str) (i : Int) : Option Str := if z.length ≤ sizeLine then (atI z.cps.toList i).map fun c => ⟨#[c]⟩ else none
def addS (a b : Str) : Option Str := if a.length + b.length ≤ sizeLine then some (a ++ b) else none
def modM (i j : Int) : Option Int := if 0 < j then some (i % j) else none
def chars (z : Str) : List Str := z.cps.toList.map fun c => ⟨#[c]⟩
def enumM {α : Type} (k : Int) (xs : List α) : List (Int × α) := (List.range xs.length).zipWith (fun i x => (k + ((i : Nat) : Int), x)) xs
theorem lcM_total {α β : Type} (g : α → Option β) (as : List α) : lcM (fun a => some (g a)) as = some (as.filterMap g) := by
  induction as with
  | nil => rfl
  | cons a as ih =>
    unfold lcM
    rw [ih]
    cases h : g a with
    | none => simp [List.filterMap_cons, h]
    | some b => simp [List.filterMap_cons, h]
theorem lcM_map {α β : Type} (g : α → β) (as : List α) : lcM (fun a => some (some (g a))) as = some (as.map g) := by
  rw [lcM_total]; simp
/-! ### cuts: what follows is shown once -/
theorem cutT {tt : TT} {σ : L2.St} {H : Hp} {Q : Bool → Hp → Prop} (P : Bool → Hp → Prop) (h : (∀ b H', P b H' → Q b H') → tt σ H Q) (g : ∀ b H', P b H' → Q b H') : tt σ H Q := h g
theorem cutE {te : TE} {σ : L2.St} {H : Hp} {Q : VK} (P : V → Hp → Prop) (h : (∀ v H', P v H' → Q v H') → te σ H Q) (g : ∀ v H', P v H' → Q v H') : te σ H Q := h g
theorem w_sig {t : TS} {D : Ends} {σ σ' : L2.St} {H : Hp} (e : σ = σ') (g : t D σ' H) : t D σ H := e ▸ g
theorem w_nx {P : L2.St → Hp → Prop} {σ σ' : L2.St} {H : Hp} (e : σ = σ') (g : P σ' H) : P σ H := e ▸ g
end Mf

namespace Mf
open PySem L2 PyProof.Rows
/-! ### what is evaluated and changes nothing -/
def Ev (te : TE) (σ : L2.St) (H : Hp) (v : V) : Prop := ∀ Q : VK, Q v H → te σ H Q
def EvT (tt : TT) (σ : L2.St) (H : Hp) (b : Bool) : Prop := ∀ Q : Bool → Hp → Prop, Q b H → tt σ H Q
def EvA (ta : TA) (σ : L2.St) (H : Hp) (vs : List V) : Prop := ∀ Q : List V → Hp → Prop, Q vs H → ta σ H Q
def RV (r : R2) (x y : V) (H : Hp) (z : V) : Prop := ∀ Q : VK, Q z H → r x y H Q
section
variable {K : PySem.W.Frag} {σ : L2.St} {H : Hp} {ta tb tc te : TE} {tt tu : TT} {tA : TA} {v x y z w : V} {vs : List V} {a b : Bool} {r r' : R2} {i j : Int} {s t : Str}
theorem Ev.var {k : Nat} (h : σ[k]? = some (some v)) : Ev (tVar k) σ H v := fun _ q => ⟨v, h, q⟩
theorem Ev.c : Ev (tC v) σ H v := fun _ q => q
theorem Ev.op (ha : Ev ta σ H x) (hb : Ev tb σ H y) (hr : RV r x y H z) : Ev (tOp r ta tb) σ H z := fun Q q => ha _ (hb _ (hr Q q))
theorem Ev.un {r : V → Hp → VK → Prop} (ha : Ev ta σ H x) (hr : ∀ Q : VK, Q z H → r x H Q) : Ev (tUn r ta) σ H z := fun Q q => ha _ (hr Q q)
theorem EvA.nil : EvA tNil σ H [] := fun _ q => q
theorem EvA.cons (ha : Ev ta σ H x) (hr : EvA tA σ H vs) : EvA (tCons ta tA) σ H (x :: vs) := fun Q q => ha _ (hr _ q)
theorem Ev.cb {r : List V → Hp → VK → Prop} (ha : EvA tA σ H vs) (hr : ∀ Q : VK, Q z H → r vs H Q) : Ev (tCB r tA) σ H z := fun Q q => ha _ (hr Q q)
theorem EvT.test (h : Ev te σ H (.bl b)) : EvT (tTest te) σ H b := fun Q q => h _ ⟨b, rfl, q⟩
theorem EvT.tB (h : Ev te σ H (.bl b)) : EvT (tB te) σ H b := fun Q q => h _ ⟨b, rfl, q⟩
theorem EvT.and (ha : EvT tt σ H a) (hb : a = true → EvT tu σ H b) : EvT (tAnd tt tu) σ H (a && b) := fun Q q => ha _ (by
  cases a with
  | true => exact iteT (hb rfl _ q)
  | false => exact iteF q)
theorem EvT.or (ha : EvT tt σ H a) (hb : a = false → EvT tu σ H b) : EvT (tOr tt tu) σ H (a || b) := fun Q q => ha _ (by
  cases a with
  | true => exact iteT q
  | false => exact iteF (hb rfl _ q))
theorem EvT.not (ha : EvT tt σ H a) : EvT (tNot tt) σ H (!a) := fun Q q => ha _ q
theorem EvT.yes : EvT tYes σ H true := fun _ q => q
theorem Ev.and (ha : Ev ta σ H (.bl a)) (hb : a = true → Ev tb σ H (.bl b)) : Ev (tAndV ta tb) σ H (.bl (a && b)) := fun Q q => ha _ ⟨a, rfl, by
  cases a with
  | true => exact iteT (hb rfl _ q)
  | false => exact iteF q⟩
theorem Ev.or (ha : Ev ta σ H (.bl a)) (hb : a = false → Ev tb σ H (.bl b)) : Ev (tOrV ta tb) σ H (.bl (a || b)) := fun Q q => ha _ ⟨a, rfl, by
  cases a with
  | true => exact iteT q
  | false => exact iteF (hb rfl _ q)⟩
theorem Ev.not (ha : Ev ta σ H (.bl a)) : Ev (tNotV ta) σ H (.bl (!a)) := fun Q q => ha _ ⟨a, rfl, q⟩
theorem Ev.ite (ha : EvT tt σ H a) (h1 : a = true → Ev ta σ H z) (h2 : a = false → Ev tb σ H z) : Ev (tIf tt ta tb) σ H z := fun Q q => ha _ (by
  cases a with
  | true => exact iteT (h1 rfl _ q)
  | false => exact iteF (h2 rfl _ q))
theorem Ev.iteI (ha : EvT tt σ H a) (h1 : a = true → Ev ta σ H (.int i)) (h2 : a = false → Ev tb σ H (.int j)) : Ev (tIf tt ta tb) σ H (.int (if a = true then i else j)) := Ev.ite ha (fun e => by rw [if_pos e]; exact h1 e) (fun e => by rw [if_neg (by rw [e]; decide)]; exact h2 e)
theorem Ev.iteS (ha : EvT tt σ H a) (h1 : a = true → Ev ta σ H (.str s)) (h2 : a = false → Ev tb σ H (.str t)) : Ev (tIf tt ta tb) σ H (.str (if a = true then s else t)) := Ev.ite ha (fun e => by rw [if_pos e]; exact h1 e) (fun e => by rw [if_neg (by rw [e]; decide)]; exact h2 e)
theorem Ev.iteB {c d : Bool} (ha : EvT tt σ H a) (h1 : a = true → Ev ta σ H (.bl c)) (h2 : a = false → Ev tb σ H (.bl d)) : Ev (tIf tt ta tb) σ H (.bl (if a = true then c else d)) := Ev.ite ha (fun e => by rw [if_pos e]; exact h1 e) (fun e => by rw [if_neg (by rw [e]; decide)]; exact h2 e)
theorem Ev.chain (ha : Ev ta σ H x) (hb : Ev tb σ H y) (hc : Ev tc σ H w) (h1 : RV r x y H (.bl a)) (h2 : RV r' y w H (.bl b)) : Ev (tChain r r' ta tb tc) σ H (.bl (a && b)) := fun Q q => ha _ (hb _ (h1 _ ⟨a, rfl, by
  cases a with
  | true => exact iteT (hc _ (h2 _ q))
  | false => exact iteF q⟩))
theorem rv_I0 {f : Int → Int → V} : RV (rI0 f) (.int i) (.int j) H (f i j) := fun _ q => ⟨i, j, rfl, rfl, q⟩
theorem rv_I {C : Int → Int → Prop} {f : Int → Int → V} (h : C i j) : RV (rI C f) (.int i) (.int j) H (f i j) := fun _ q => ⟨i, j, rfl, rfl, h, q⟩
theorem rv_eqI : RV rEq (.int i) (.int j) H (.bl (decide (i = j))) := fun _ q => ⟨rfl, by rw [show decide (V.int i = V.int j) = decide (i = j) from decide_eq_decide.mpr ⟨fun e => by injection e, fun e => by rw [e]⟩]; exact q⟩
theorem rv_neI : RV rNe (.int i) (.int j) H (.bl (!decide (i = j))) := fun _ q => ⟨rfl, by rw [show decide (V.int i = V.int j) = decide (i = j) from decide_eq_decide.mpr ⟨fun e => by injection e, fun e => by rw [e]⟩]; exact q⟩
theorem rv_eqS : RV rEq (.str s) (.str t) H (.bl (decide (s = t))) := fun _ q => ⟨rfl, by rw [show decide (V.str s = V.str t) = decide (s = t) from decide_eq_decide.mpr ⟨fun e => by injection e, fun e => by rw [e]⟩]; exact q⟩
theorem rv_neS : RV rNe (.str s) (.str t) H (.bl (!decide (s = t))) := fun _ q => ⟨rfl, by rw [show decide (V.str s = V.str t) = decide (s = t) from decide_eq_decide.mpr ⟨fun e => by injection e, fun e => by rw [e]⟩]; exact q⟩
theorem rv_eqB : RV rEq (.bl a) (.bl b) H (.bl (decide (a = b))) := fun _ q => ⟨rfl, by rw [show decide (V.bl a = V.bl b) = decide (a = b) from decide_eq_decide.mpr ⟨fun e => by injection e, fun e => by rw [e]⟩]; exact q⟩
theorem rv_neB : RV rNe (.bl a) (.bl b) H (.bl (!decide (a = b))) := fun _ q => ⟨rfl, by rw [show decide (V.bl a = V.bl b) = decide (a = b) from decide_eq_decide.mpr ⟨fun e => by injection e, fun e => by rw [e]⟩]; exact q⟩
theorem inV_ints {zs : List Int} : inV (.int i) (zs.map V.int) = decide (i ∈ zs) := by
  unfold inV
  rw [List.any_map, Bool.eq_iff_iff, decide_eq_true_iff, List.any_eq_true]
  constructor
  · rintro ⟨u, hu, e⟩
    have : u = i := by simpa [eqV] using e
    exact this ▸ hu
  · exact fun h => ⟨i, h, by simp [eqV]⟩
theorem flat_strs {zs : List Str} : (zs.map V.str).all flatV = true := by simp [List.all_eq_true, flatV]
theorem flat_ints {zs : List Int} : (zs.map V.int).all flatV = true := by simp [List.all_eq_true, flatV]
variable {α β γ δ : Type} {R : Rl α} {S : Rl β} {T : Rl γ} {U : Rl δ} {B : Hp}
/-! `in` of texts -/
theorem inV_strs' {zs : List Str} : inV (.str s) (zs.map V.str) = decide (s ∈ zs) := by
  unfold inV
  rw [List.any_map, Bool.eq_iff_iff, decide_eq_true_iff, List.any_eq_true]
  constructor
  · rintro ⟨u, hu, e⟩
    have : u = s := by simpa [eqV] using e
    exact this ▸ hu
  · exact fun h => ⟨s, h, by simp [eqV]⟩
theorem rv_inQ {zs : List Str} (h : (dSeq K dStr).rel H zs v) : RV (rIn K false) (.str s) v H (.bl (decide (s ∈ zs))) := fun Q q => by
  obtain ⟨p, vs, rfl, h, f, _⟩ := h
  cases fa_str f
  exact ⟨p, _, rfl, h, rfl, flat_strs, by rw [← inV_strs'] at q; exact q⟩
theorem rv_niQ {zs : List Str} (h : (dSeq K dStr).rel H zs v) : RV (rIn K true) (.str s) v H (.bl (!decide (s ∈ zs))) := fun Q q => by
  obtain ⟨p, vs, rfl, h, f, _⟩ := h
  cases fa_str f
  exact ⟨p, _, rfl, h, rfl, flat_strs, by rw [← inV_strs'] at q; exact q⟩
theorem rv_inI {zs : List Int} (h : (dSeq K dInt).rel H zs v) : RV (rIn K false) (.int i) v H (.bl (decide (i ∈ zs))) := fun Q q => by
  obtain ⟨p, vs, rfl, h, f, _⟩ := h
  cases fa_int f
  exact ⟨p, _, rfl, h, rfl, flat_ints, by rw [← inV_ints] at q; exact q⟩
theorem rv_niI {zs : List Int} (h : (dSeq K dInt).rel H zs v) : RV (rIn K true) (.int i) v H (.bl (!decide (i ∈ zs))) := fun Q q => by
  obtain ⟨p, vs, rfl, h, f, _⟩ := h
  cases fa_int f
  exact ⟨p, _, rfl, h, rfl, flat_ints, by rw [← inV_ints] at q; exact q⟩
theorem rv_inC {c : Str} (h : c.length = 1) : RV (rInC false) (.str c) (.str t) H (.bl (decide (c ∈ chars t))) := fun Q q => by
  have e : ∃ n, c = ⟨#[n]⟩ := by
    obtain ⟨⟨l⟩⟩ := c
    match l, h with
    | [n], _ => exact ⟨n, rfl⟩
  obtain ⟨n, rfl⟩ := e
  refine ⟨n, t, rfl, rfl, ?_⟩
  have : decide (n ∈ t.cps.toList) = decide ((⟨#[n]⟩ : Str) ∈ chars t) := by
    refine decide_eq_decide.mpr ⟨fun z => List.mem_map.mpr ⟨n, z, rfl⟩, fun z => ?_⟩
    obtain ⟨m, hm, e⟩ := List.mem_map.mp z
    injection e with e
    have : m = n := by simpa using e
    exact this ▸ hm
  simp only [Bool.false_eq_true, if_false]
  rw [this]; exact q
/-! len -/
theorem len_seq (h : (dSeq K R).rel H xs v) : ∀ Q : VK, Q (.int (xs.length : Int)) H → rLenQ K [v] H Q := fun Q q => by
  obtain ⟨p, vs, rfl, h, f, _⟩ := h
  exact ⟨p, vs, rfl, h, by rw [← f.len]; exact q⟩
theorem len_str (h : lenS s = some i) : ∀ Q : VK, Q (.int i) H → rLenS [.str s] H Q := fun Q q => by
  unfold lenS at h
  by_cases e : s.length ≤ sizeLine
  · rw [if_pos e] at h; cases h; exact ⟨s, rfl, e, q⟩
  · rw [if_neg e] at h; cases h
theorem len_dict {xs : List (Str × α)} (h : (dDict R).rel H xs v) : ∀ Q : VK, Q (.int (xs.length : Int)) H → rLenD [v] H Q := fun Q q => by
  obtain ⟨p, kvs, rfl, h, f, _⟩ := h
  exact ⟨p, kvs, rfl, h, by rw [← f.len]; exact q⟩
/-! x[i] -/
theorem ix_L {xs : List α} {a : α} (h : (dList R).rel B xs v) (e : atI xs i = some a) : ∃ w, R.rel B a w ∧ ∀ H, Same B H → RV (rIxL K) v (.int i) H w := by
  obtain ⟨p, vs, rfl, h, f, _⟩ := h
  obtain ⟨w, hw, r⟩ := fa_at f e
  exact ⟨w, r, fun H s Q q => ⟨p, vs, i, w, rfl, rfl, SqL.of (s _ _ h), hw, q⟩⟩
theorem ix_T {xs : List α} {a : α} (h : (dTup K R).rel B xs v) (e : atI xs i = some a) : ∃ w, R.rel B a w ∧ ∀ H, Same B H → RV (rIxT K) v (.int i) H w := by
  obtain ⟨p, vs, rfl, h, f, _⟩ := h
  obtain ⟨w, hw, r⟩ := fa_at f e
  exact ⟨w, r, fun H s Q q => ⟨p, vs, i, w, rfl, rfl, Same.sqt s h, hw, q⟩⟩
theorem ix_C {xs : List α} {a : α} {o : HO} {p : Addr} (h : (cList R).rel B xs o) (e : atI xs i = some a) : ∃ w, R.rel B a w ∧ ∀ H, H p = some o → RV (rIxL K) (.ref p) (.int i) H w := by
  obtain ⟨vs, rfl, f, _⟩ := h
  obtain ⟨w, hw, r⟩ := fa_at f e
  exact ⟨w, r, fun H s Q q => ⟨p, vs, i, w, rfl, rfl, SqL.of s, hw, q⟩⟩
theorem ix_S {z c : Str} (h : ixS z i = some c) : RV rIxS (.str z) (.int i) H (.str c) := fun Q q => by
  unfold ixS at h
  by_cases e : z.length ≤ sizeLine
  · rw [if_pos e] at h
    cases g : atI z.cps.toList i with
    | none => rw [g] at h; cases h
    | some n => rw [g] at h; cases h; exact ⟨z, i, n, rfl, rfl, e, g, q⟩
  · rw [if_neg e] at h; cases h
theorem ix_p0 {x : α × β} (h : (dPair K R S).rel B x v) : ∃ w, R.rel B x.1 w ∧ ∀ H, Same B H → RV (rIxT K) v (.int 0) H w := by
  obtain ⟨p, a, b, rfl, h, r, s⟩ := h
  exact ⟨a, r, fun H e Q q => ⟨p, _, 0, a, rfl, rfl, Same.sqt e h, rfl, q⟩⟩
theorem ix_p1 {x : α × β} (h : (dPair K R S).rel B x v) : ∃ w, S.rel B x.2 w ∧ ∀ H, Same B H → RV (rIxT K) v (.int 1) H w := by
  obtain ⟨p, a, b, rfl, h, r, s⟩ := h
  exact ⟨b, s, fun H e Q q => ⟨p, _, 1, b, rfl, rfl, Same.sqt e h, rfl, q⟩⟩
theorem ix_t0 {x : α × β × γ} (h : (dTrip K R S T).rel B x v) : ∃ w, R.rel B x.1 w ∧ ∀ H, Same B H → RV (rIxT K) v (.int 0) H w := by
  obtain ⟨p, a, b, c, rfl, h, r, s, t⟩ := h
  exact ⟨a, r, fun H e Q q => ⟨p, _, 0, a, rfl, rfl, Same.sqt e h, rfl, q⟩⟩
theorem ix_t1 {x : α × β × γ} (h : (dTrip K R S T).rel B x v) : ∃ w, S.rel B x.2.1 w ∧ ∀ H, Same B H → RV (rIxT K) v (.int 1) H w := by
  obtain ⟨p, a, b, c, rfl, h, r, s, t⟩ := h
  exact ⟨b, s, fun H e Q q => ⟨p, _, 1, b, rfl, rfl, Same.sqt e h, rfl, q⟩⟩
theorem ix_t2 {x : α × β × γ} (h : (dTrip K R S T).rel B x v) : ∃ w, T.rel B x.2.2 w ∧ ∀ H, Same B H → RV (rIxT K) v (.int 2) H w := by
  obtain ⟨p, a, b, c, rfl, h, r, s, t⟩ := h
  exact ⟨c, t, fun H e Q q => ⟨p, _, 2, c, rfl, rfl, Same.sqt e h, rfl, q⟩⟩
/-! unpacking -/
theorem un_p {x : α × β} (h : (dPair K R S).rel B x v) : ∃ a b, R.rel B x.1 a ∧ S.rel B x.2 b ∧ ∀ H, Same B H → ∃ p, v = .ref p ∧ SqT K H p [a, b] := by
  obtain ⟨p, a, b, rfl, h, r, s⟩ := h
  exact ⟨a, b, r, s, fun H e => ⟨p, rfl, Same.sqt e h⟩⟩
theorem un_t {x : α × β × γ} (h : (dTrip K R S T).rel B x v) : ∃ a b c, R.rel B x.1 a ∧ S.rel B x.2.1 b ∧ T.rel B x.2.2 c ∧ ∀ H, Same B H → ∃ p, v = .ref p ∧ SqT K H p [a, b, c] := by
  obtain ⟨p, a, b, c, rfl, h, r, s, t⟩ := h
  exact ⟨a, b, c, r, s, t, fun H e => ⟨p, rfl, Same.sqt e h⟩⟩
theorem un_q {x : α × β × γ × δ} (h : (dQuad K R S T U).rel B x v) : ∃ a b c d, R.rel B x.1 a ∧ S.rel B x.2.1 b ∧ T.rel B x.2.2.1 c ∧ U.rel B x.2.2.2 d ∧ ∀ H, Same B H → ∃ p, v = .ref p ∧ SqT K H p [a, b, c, d] := by
  obtain ⟨p, a, b, c, d, rfl, h, r, s, t, u⟩ := h
  exact ⟨a, b, c, d, r, s, t, u, fun H e => ⟨p, rfl, Same.sqt e h⟩⟩
theorem w_gun {n : Nat} {t : TGs} {QQ : L2.St → Hp → Prop} (h : ∃ p, v = .ref p ∧ SqT K H p vs) (hn : vs.length = n) (g : t vs σ H QQ) : gTup K n t v σ H QQ := by
  obtain ⟨p, rfl, h⟩ := h
  exact ⟨p, vs, rfl, h, hn, g⟩
end
/-! ### what is walked -/
def ItOk {α : Type} (J : It) (Bi B : Hp) (as : List α) (R : Rl α) : Prop := ∃ (G : Hp → Prop) (Y : Nat → Hp → V → Hp → Prop), Walk J as.length G Y ∧ (∀ H, Same Bi H → G H) ∧
  ∀ i H x H', i < as.length → Y i H x H' → ∃ a, as[i]? = some a ∧ ∀ Φ b cs, Sit Φ b H cs → Same B b → ∃ b', Sit Φ b' H' cs ∧ Same b b' ∧ R.rel b' a x
section
variable {α β : Type} {K : PySem.W.Frag} {R : Rl α} {B : Hp} {as : List α} {p : Addr} {v : V}
theorem it_at {J : It} {Bi : Hp} {vs : List V} {G : Hp → Prop} (w : Walk J vs.length G (YAt vs)) (hG : ∀ H, Same Bi H → G H) (f : Fa (R.rel B) as vs) : ItOk J Bi B as R := by
  refine ⟨G, _, by rw [f.len]; exact w, hG, ?_⟩
  rintro i H x H' hi ⟨rfl, hx⟩
  obtain ⟨a, ha, r⟩ := f.get hx
  exact ⟨a, ha, fun Φ b cs S e => ⟨b, S, Same.rf _, R.mono e r⟩⟩
theorem it_pair {J : It} {Bi : Hp} {vs : List V} {k : Int} {G : Hp → Prop} (w : Walk J vs.length G (YEn vs k)) (hG : ∀ H, Same Bi H → G H) (f : Fa (R.rel B) as vs) : ItOk J Bi B (enumM k as) (dPair K dInt R) := by
  have e : (enumM k as).length = as.length := by unfold enumM; simp
  refine ⟨G, _, by rw [e, f.len]; exact w, hG, ?_⟩
  rintro i H x H' hi ⟨T, y, rfl, nT, rfl, hx⟩
  obtain ⟨a, ha, r⟩ := f.get hx
  have hi' := (List.getElem?_eq_some_iff.mp ha).1
  refine ⟨(k + (i : Nat), a), by unfold enumM; rw [List.getElem?_zipWith, ha, List.getElem?_range hi'], fun Φ b cs S e => ⟨upd b T (.tup [.int (k + (i : Nat)), y]), S.put nT, S.updB nT, T, _, _, rfl, SqT.of upd_same, rfl, R.mono (e.tr (S.updB nT)) r⟩⟩
def WL (K : PySem.W.Frag) (R' : It → Hp → Prop) (v : V) (H : Hp) : Prop := ∃ a, v = .ref a ∧ (∃ xs, SqL K H a xs) ∧ R' (Itl K a) H
def WT (K : PySem.W.Frag) (R' : It → Hp → Prop) (v : V) (H : Hp) : Prop := ∃ a, v = .ref a ∧ (∃ xs, SqT K H a xs) ∧ R' (Itt K a) H
def WQ (K : PySem.W.Frag) (R' : It → Hp → Prop) (v : V) (H : Hp) : Prop := ∃ a, v = .ref a ∧ (((∃ xs, SqL K H a xs) ∧ R' (Itl K a) H) ∨ ((∃ xs, SqT K H a xs) ∧ R' (Itt K a) H))
def WE (K : PySem.W.Frag) (R' : It → Hp → Prop) (vs : List V) (H : Hp) : Prop := ∃ a xs, vs = [.ref a] ∧ SqL K H a xs ∧ R' (Ite K a) H
def WES (K : PySem.W.Frag) (R' : It → Hp → Prop) (vs zs : List V) (H : Hp) : Prop := ∃ a xs b k, vs = [.ref a] ∧ zs = [.int k] ∧ (-(2 ^ 63) ≤ k ∧ k < 2 ^ 63) ∧ SqB K b H a xs ∧ R' (IteS K b a k) H
def WR1 (R' : It → Hp → Prop) (vs : List V) (H : Hp) : Prop := ∃ j : Int, vs = [.int j] ∧ -(2 ^ 62) ≤ j ∧ j < 2 ^ 62 ∧ R' (Itr 0 j.toNat) H
def WR2 (R' : It → Hp → Prop) (vs : List V) (H : Hp) : Prop := ∃ i j : Int, vs = [.int i, .int j] ∧ (-(2 ^ 62) ≤ i ∧ i < 2 ^ 62 ∧ -(2 ^ 62) ≤ j ∧ j < 2 ^ 62) ∧ R' (Itr i (j - i).toNat) H
def WS (R' : It → Hp → Prop) (v : V) (H : Hp) : Prop := ∃ x, v = .str x ∧ R' (Its x) H
section
variable {σ : L2.St} {H : Hp} {tl : TE} {ta tk : TA} {R' : It → Hp → Prop}
theorem x_iL (g : tl σ H fun x H1 => WL K R' x H1) : iList K tl σ H R' := g
theorem x_iT (g : tl σ H fun x H1 => WT K R' x H1) : iTup K tl σ H R' := g
theorem x_iQ (g : tl σ H fun x H1 => WQ K R' x H1) : iSeq K tl σ H R' := g
theorem x_iS (g : tl σ H fun x H1 => WS R' x H1) : iStr tl σ H R' := g
theorem x_iE (g : ta σ H fun vs H1 => WE K R' vs H1) : iEnum K ta σ H R' := g
theorem x_iES (g : ta σ H fun vs H1 => tk σ H1 fun zs H2 => WES K R' vs zs H2) : iEnumS K ta tk σ H R' := g
theorem x_iR1 (g : ta σ H fun vs H1 => WR1 R' vs H1) : iRng1 ta σ H R' := g
theorem x_iR2 (g : ta σ H fun vs H1 => WR2 R' vs H1) : iRng2 ta σ H R' := g
end
theorem w_itL {R' : It → Hp → Prop} {H : Hp} (h : (dList R).rel B as v) (s : Same B H) (g : ∀ J, ItOk J B B as R → R' J H) : WL K R' v H := by
  obtain ⟨p, vs, rfl, h, f, _⟩ := h
  exact ⟨p, rfl, ⟨vs, SqL.of (s _ _ h)⟩, g _ (it_at walk_list (fun H' e => SqL.of (e _ _ h)) f)⟩
theorem w_itT {R' : It → Hp → Prop} {H : Hp} (h : (dTup K R).rel B as v) (s : Same B H) (g : ∀ J, ItOk J B B as R → R' J H) : WT K R' v H := by
  obtain ⟨p, vs, rfl, h, f, _⟩ := h
  exact ⟨p, rfl, ⟨vs, Same.sqt s h⟩, g _ (it_at walk_tup (fun H' e => Same.sqt e h) f)⟩
theorem w_itC {R' : It → Hp → Prop} {H : Hp} {o : HO} (h : (cList R).rel B as o) (hp : H p = some o) (g : ∀ J, ItOk J (upd B p o) B as R → R' J H) : WL K R' (.ref p) H := by
  obtain ⟨vs, rfl, f, _⟩ := h
  exact ⟨p, rfl, ⟨vs, SqL.of hp⟩, g _ (it_at walk_list (fun H' e => SqL.of (e _ _ upd_same)) f)⟩
theorem w_itQ {R' : It → Hp → Prop} {H : Hp} (h : (dSeq K R).rel B as v) (s : Same B H) (g : ∀ J, ItOk J B B as R → R' J H) : WQ K R' v H := by
  obtain ⟨p, vs, rfl, h, f, _⟩ := h
  exact w_iQ2 h s fun J G w hG => g J (it_at w hG f)
theorem w_itE {R' : It → Hp → Prop} {H : Hp} (h : (dList R).rel B as v) (s : Same B H) (g : ∀ J, ItOk J B B (enumM 0 as) (dPair K dInt R) → R' J H) : WE K R' [v] H := by
  obtain ⟨p, vs, rfl, h, f, _⟩ := h
  refine ⟨p, vs, rfl, SqL.of (s _ _ h), g _ (it_pair (G := fun H => SqL K H p vs) ?_ (fun H' e => SqL.of (e _ _ h)) f)⟩
  refine (walk_enum (K := K) (a := p) (xs := vs)).mono (fun _ z => z) ?_
  rintro i H x H' hi _ ⟨T, a, b, rfl, n, rfl, ha, hb⟩
  cases ha
  exact ⟨T, b, rfl, n, by rw [Int.zero_add], hb⟩
theorem w_itES {R' : It → Hp → Prop} {H : Hp} {k : Int} (hk : -(2 ^ 63) ≤ k ∧ k < 2 ^ 63) (h : (dSeq K R).rel B as v) (s : Same B H) (g : ∀ J, ItOk J B B (enumM k as) (dPair K dInt R) → R' J H) : WES K R' [v] [.int k] H := by
  obtain ⟨p, vs, rfl, h, f, _⟩ := h
  exact w_iESx hk h s fun J G w hG => g J (it_pair w hG f)
theorem w_itR1 {R' : It → Hp → Prop} {H : Hp} {i : Int} {is : List Int} (h : rngM i = some is) (g : ∀ J, ItOk J B B is dInt → is.length ≤ BIG → R' J H) : WR1 R' [.int i] H := by
  unfold rngM at h
  by_cases e : -(2 ^ 62) ≤ i ∧ i ≤ BIG
  · rw [if_pos e] at h
    cases h
    unfold BIG at e
    have e0 : ((List.range i.toNat).map fun k => ((k : Nat) : Int)).length = i.toNat := by simp
    refine ⟨i, rfl, e.1, by omega, g _ ⟨_, _, by rw [e0]; exact walk_range, fun _ _ => trivial, ?_⟩ (by rw [e0]; unfold BIG; omega)⟩
    rintro k H x H' hk ⟨rfl, rfl⟩
    rw [e0] at hk
    exact ⟨(k : Int), by rw [List.getElem?_map, List.getElem?_range hk]; rfl, fun Φ b cs S e => ⟨b, S, Same.rf _, by show V.int _ = V.int _; rw [Int.zero_add]⟩⟩
  · rw [if_neg e] at h; cases h
theorem w_itR2 {R' : It → Hp → Prop} {H : Hp} {i j : Int} {is : List Int} (h : rng2M i j = some is) (g : ∀ J, ItOk J B B is dInt → is.length ≤ BIG → R' J H) : WR2 R' [.int i, .int j] H := by
  unfold rng2M at h
  by_cases e : (-(2 ^ 62) ≤ i ∧ i < 2 ^ 62 ∧ -(2 ^ 62) ≤ j ∧ j < 2 ^ 62) ∧ j - i ≤ BIG
  · rw [if_pos e] at h
    cases h
    unfold BIG at e
    have e0 : ((List.range (j - i).toNat).map fun k => i + ((k : Nat) : Int)).length = (j - i).toNat := by simp
    refine ⟨i, j, rfl, e.1, g _ ⟨_, _, by rw [e0]; exact walk_range, fun _ _ => trivial, ?_⟩ (by rw [e0]; unfold BIG; omega)⟩
    rintro k H x H' hk ⟨rfl, rfl⟩
    rw [e0] at hk
    exact ⟨i + (k : Int), by rw [List.getElem?_map, List.getElem?_range hk]; rfl, fun Φ b cs S e => ⟨b, S, Same.rf _, rfl⟩⟩
  · rw [if_neg e] at h; cases h
theorem w_itS {R' : It → Hp → Prop} {H : Hp} {z : Str} (g : ∀ J, ItOk J B B (chars z) dStr → R' J H) : WS R' (.str z) H := by
  refine ⟨z, rfl, g _ ?_⟩
  have e : (chars z).length = z.cps.size := by unfold chars; simp
  refine ⟨_, _, by rw [e]; exact walk_str, fun _ _ => trivial, ?_⟩
  rintro i H x H' hi ⟨rfl, c, hc, rfl⟩
  refine ⟨⟨#[c]⟩, by unfold chars; simp [hc], fun Φ b cs S e => ⟨b, S, Same.rf _, rfl⟩⟩
end
/-! ### loops -/
def Nxt {S : Type} (Φ : Fr) (B : Hp) (I : S → Hp → L2.St → List (Addr × HO) → Prop) (s : S) : L2.St → Hp → Prop := fun σ' H' => ∃ b' cs', Sit Φ b' H' cs' ∧ Same B b' ∧ I s b' σ' cs'
def NxC {S R : Type} (Φ : Fr) (B : Hp) (I : S → Hp → L2.St → List (Addr × HO) → Prop) (o : Ctl S R) : L2.St → Hp → Prop := fun σ' H' => ∃ s', o = .nx s' ∧ Nxt Φ B I s' σ' H'
section
variable {α S R' : Type} {Φ : Fr} {as : List α} {R : Rl α} {J : It} {Bi B H : Hp} {cs : List (Addr × HO)} {σ : L2.St} {g : TG} {tb : TS} {nx bk ct : L2.St → Hp → Prop} {rt : VK} {s0 s1 : S}
theorem forS (it : ItOk J Bi B as R) (S0 : Sit Φ B H cs) (I : S → Hp → L2.St → List (Addr × HO) → Prop) (h0 : I s0 B σ cs) {f : α → S → Option S} (hm : forL f as s0 = some s1)
    (hB : ∀ s b H σ cs, Sit Φ b H cs → Same B b → I s b σ cs → Same Bi H)
    (hs : ∀ a s s' x b0 b H σ cs, a ∈ as → Sit Φ b H cs → Same B b0 → Same b0 b → I s b0 σ cs → R.rel b a x → f a s = some s' → g x σ H fun σ2 H2 => tb ⟨Nxt Φ B I s', rt, nx, Nxt Φ B I s'⟩ σ2 H2)
    (hd : ∀ b H σ cs, Sit Φ b H cs → Same B b → I s1 b σ cs → nx σ H) : ForB J g tb ⟨nx, rt, bk, ct⟩ σ H := by
  obtain ⟨G, Y, w, hG, hY⟩ := it
  refine ⟨fun i m σ H => m = as.length - i ∧ i ≤ as.length ∧ ∃ s b cs, Sit Φ b H cs ∧ Same B b ∧ I s b σ cs ∧ forL f (as.drop i) s = some s1, ⟨_, rfl, Nat.zero_le _, s0, B, cs, S0, Same.rf _, h0, hm⟩, ?_⟩
  rintro i m σ H ⟨rfl, hi, s, b, cs, S, e, h, hf⟩
  have q := hG H (hB s b H σ cs S e h)
  by_cases hlt : i < as.length
  · refine .inr ⟨w.goes i H hlt q, ?_⟩
    have hd' : as.drop i = as[i] :: as.drop (i + 1) := List.drop_eq_getElem_cons hlt
    rw [hd'] at hf
    obtain ⟨s', hs', hf⟩ := bs hf
    refine ⟨Nxt Φ B I s', fun σ' H' ⟨b', cs', S', e', h'⟩ => ⟨_, by omega, rfl, by omega, s', b', cs', S', e', h', hf⟩, fun x H' y => ?_⟩
    obtain ⟨a, ha, q2⟩ := hY i H x H' hlt (w.yields i H x H' hlt q y)
    obtain ⟨b', S', e', r⟩ := q2 Φ b cs S e
    rw [List.getElem?_eq_getElem hlt] at ha
    cases ha
    exact hs _ s s' x b b' H' σ cs (List.getElem_mem hlt) S' e e' h r hs'
  · have ei : i = as.length := by omega
    subst ei
    rw [List.drop_length] at hf
    cases hf
    exact .inl ⟨w.stops H q, hd b H σ cs S e h⟩
/-- with return, break -/
theorem forK (it : ItOk J Bi B as R) (S0 : Sit Φ B H cs) (I : S → Hp → L2.St → List (Addr × HO) → Prop) (h0 : I s0 B σ cs) {f : α → S → Option (Ctl S R')} {c : Ctl S R'} (hm : forC f as s0 = some c)
    (hB : ∀ s b H σ cs, Sit Φ b H cs → Same B b → I s b σ cs → Same Bi H)
    (hs : ∀ a s o x b0 b H σ cs, a ∈ as → Sit Φ b H cs → Same B b0 → Same b0 b → I s b0 σ cs → R.rel b a x → f a s = some o → (∀ r, o = .ret r → c = .ret r) → (∀ s' σ' H', o = .brk s' → Nxt Φ B I s' σ' H' → nx σ' H') →
      g x σ H fun σ2 H2 => tb ⟨NxC Φ B I o, rt, nx, NxC Φ B I o⟩ σ2 H2)
    (hd : ∀ s1 b H σ cs, c = .nx s1 → Sit Φ b H cs → Same B b → I s1 b σ cs → nx σ H) : ForB J g tb ⟨nx, rt, bk, ct⟩ σ H := by
  obtain ⟨G, Y, w, hG, hY⟩ := it
  refine ⟨fun i m σ H => m = as.length - i ∧ i ≤ as.length ∧ ∃ s b cs, Sit Φ b H cs ∧ Same B b ∧ I s b σ cs ∧ forC f (as.drop i) s = some c, ⟨_, rfl, Nat.zero_le _, s0, B, cs, S0, Same.rf _, h0, hm⟩, ?_⟩
  rintro i m σ H ⟨rfl, hi, s, b, cs, S, e, h, hf⟩
  have q := hG H (hB s b H σ cs S e h)
  by_cases hlt : i < as.length
  · refine .inr ⟨w.goes i H hlt q, ?_⟩
    have hd' : as.drop i = as[i] :: as.drop (i + 1) := List.drop_eq_getElem_cons hlt
    rw [hd'] at hf
    obtain ⟨o, ho, hf⟩ := bs hf
    refine ⟨NxC Φ B I o, fun σ' H' ⟨s', es, b', cs', S', e', h'⟩ => ⟨_, by omega, rfl, by omega, s', b', cs', S', e', h', by subst es; exact hf⟩, fun x H' y => ?_⟩
    obtain ⟨a, ha, q2⟩ := hY i H x H' hlt (w.yields i H x H' hlt q y)
    obtain ⟨b', S', e', r⟩ := q2 Φ b cs S e
    rw [List.getElem?_eq_getElem hlt] at ha
    cases ha
    refine hs _ s o x b b' H' σ cs (List.getElem_mem hlt) S' e e' h r ho (fun r er => ?_) (fun s' σ' H'' es ⟨b2, cs2, S2, e2, h2⟩ => ?_)
    · subst er; cases hf; rfl
    · subst es; cases hf; exact hd _ _ _ _ _ rfl S2 e2 h2
  · have ei : i = as.length := by omega
    subst ei
    rw [List.drop_length] at hf
    cases hf
    exact .inl ⟨w.stops H q, hd s b H σ cs rfl S e h⟩
theorem wh_go {D : Ends} {o : Ctl S R'} {I : S → Hp → L2.St → List (Addr × HO) → Prop} {W : Nat → L2.St → Hp → Prop} {m : Nat} (hW : ∀ σ' H', NxC Φ B I o σ' H' → ∃ m', m' < m ∧ W m' σ' H') (h : tb ⟨NxC Φ B I o, rt, nx, NxC Φ B I o⟩ σ H) :
    ∃ N : L2.St → Hp → Prop, (∀ σ' H', N σ' H' → ∃ m', m' < m ∧ W m' σ' H') ∧ tb ⟨N, rt, nx, N⟩ σ H := ⟨_, hW, h⟩
theorem whK {c : TT} (S0 : Sit Φ B H cs) (I : S → Hp → L2.St → List (Addr × HO) → Prop) (h0 : I s0 B σ cs) {f : S → Option (Ctl S R')} {oc : Ctl S R'} {n : Nat} (hm : whC f n s0 = some oc)
    (hs : ∀ s o b H σ cs (W : Nat → L2.St → Hp → Prop) m, Sit Φ b H cs → Same B b → I s b σ cs → f s = some o → (∀ r, o = .ret r → oc = .ret r) → (∀ s' σ' H', o = .brk s' → Nxt Φ B I s' σ' H' → nx σ' H') →
      (∀ σ' H', NxC Φ B I o σ' H' → ∃ m', m' < m ∧ W m' σ' H') → c σ H fun q H1 => if q = true then ∃ N : L2.St → Hp → Prop, (∀ σ' H', N σ' H' → ∃ m', m' < m ∧ W m' σ' H') ∧ tb ⟨N, rt, nx, N⟩ σ H1 else nx σ H1)
    (hd : ∀ s1 b H σ cs, oc = .nx s1 → Sit Φ b H cs → Same B b → I s1 b σ cs → nx σ H) : tWhile c tb ⟨nx, rt, bk, ct⟩ σ H := by
  refine ⟨fun m σ H => ∃ s b cs, Sit Φ b H cs ∧ Same B b ∧ I s b σ cs ∧ whC f m s = some oc, ⟨n, s0, B, cs, S0, Same.rf _, h0, hm⟩, ?_⟩
  rintro m σ H ⟨s, b, cs, S, e, h, hf⟩
  cases m with
  | zero => cases hf
  | succ m =>
    obtain ⟨o, ho, hf⟩ := bs hf
    refine hs s o b H σ cs _ (m + 1) S e h ho (fun r er => ?_) (fun s' σ' H'' es ⟨b2, cs2, S2, e2, h2⟩ => ?_) (fun σ' H' ⟨s', es, b', cs', S', e', h'⟩ => ⟨m, Nat.lt_succ_self _, s', b', cs', S', e', h', by subst es; exact hf⟩)
    · subst er; cases hf; rfl
    · subst es; cases hf; exact hd _ _ _ _ _ rfl S2 e2 h2
end
/-! ### comprehensions -/
def Kept {β : Type} (P : Rl β) (o : Option β) (r : Option V) (B : Hp) : Prop := match o with
  | none => r = none
  | some y => ∃ v, r = some v ∧ P.rel B y v
section
variable {α β S : Type} {Φ : Fr} {as : List α} {R : Rl α} {P : Rl β} {J : It} {Bi B H : Hp} {cs : List (Addr × HO)} {σ : L2.St} {g : TG} {tt : TT} {te : TE} {vs : List Nat} {Q : VK} {ys : List β}
theorem lcR (it : ItOk J Bi B as R) (S0 : Sit Φ B H cs) (hl : as.length ≤ BIG) {f : α → Option (Option β)} (hm : lcM f as = some ys)
    (hB : ∀ b H' cs', Sit Φ b H' cs' → Same B b → cs <:+ cs' → Same Bi H')
    (hs : ∀ D acc a o x b0 b H', a ∈ as → Sit Φ b H' ((D, .lst acc) :: cs) → Same B b0 → Same b0 b → R.rel b a x → f a = some o → ∀ RR : Option V → Hp → Prop,
      (∀ r b2 H2, Sit Φ b2 H2 ((D, .lst acc) :: cs) → Same b b2 → Kept P o r b2 → RR r H2) → Turn1 g tt te vs σ x H' RR)
    (hd : ∀ D b H' o, Sit Φ b H' ((D, o) :: cs) → Same B b → Φ.H D = none → (cList P).rel b ys o → Q (.ref D) H') : LcB J g tt te vs σ Q H := by
  obtain ⟨G, Y, w, hG, hY⟩ := it
  refine lcb w (fun D i acc H' => Φ.H D = none ∧ ∃ b zs rest, Sit Φ b H' ((D, .lst acc) :: cs) ∧ Same B b ∧ Fa (P.rel b) zs acc ∧ zs.length ≤ i ∧ lcM f (as.drop i) = some rest ∧ ys = zs ++ rest) (fun D nD => ⟨S0.fresh nD, B, [], ys, S0.own nD, Same.rf _, .nil, Nat.le_refl _, hm, rfl⟩) (fun D i acc H' nD _ ⟨_, b, zs, rest, S, e, _⟩ => hG H' (hB b H' _ S e (List.suffix_cons _ _))) ?_ ?_
  · rintro D i x acc H1 H2 nD hi ⟨n0, b, zs, rest, S, e, hF, hz, hf, ey⟩ y
    obtain ⟨a, ha, q⟩ := hY i H1 x H2 hi y
    obtain ⟨b', S', e', r⟩ := q Φ b _ S e
    have hd' : as.drop i = a :: as.drop (i + 1) := by
      have hi' := (List.getElem?_eq_some_iff.mp ha)
      rw [List.drop_eq_getElem_cons hi'.1, hi'.2]
    rw [hd'] at hf
    obtain ⟨o, ho, hf⟩ := bs hf
    obtain ⟨rs, hrs, hf⟩ := bs hf
    refine hs D acc a o x b b' H2 (List.mem_of_getElem? ha) S' e e' r ho _ fun r b2 H3 S2 e2 hk => ?_
    have hF2 := fa_mono (e'.tr e2) hF
    unfold Kept at hk
    cases o with
    | none =>
      subst hk
      cases hf
      exact lcr_none (acc := acc) ⟨n0, b2, zs, _, S2, (e.tr e').tr e2, hF2, by omega, hrs, ey⟩
    | some y =>
      obtain ⟨v, rfl, hv⟩ := hk
      cases hf
      have la := hF.len
      refine lcr_some (S2.at' (i := 0) rfl) (by rw [← la]; exact big_lt (by omega)) ⟨n0, b2, zs ++ [y], rs, S2.set (i := 0) rfl, (e.tr e').tr e2, hF2.app (.one hv), by rw [List.length_append]; simp; omega, hrs, by rw [ey]; simp⟩
  · rintro D acc H' nD ⟨n0, b, zs, rest, S, e, hF, hz, hf, ey⟩
    rw [List.drop_length] at hf
    cases hf
    rw [List.append_nil] at ey
    subst ey
    exact hd D b H' _ S e n0 ⟨acc, rfl, hF, by omega⟩
/-- with a state (draws) -/
theorem lcRS (it : ItOk J Bi B as R) (S0 : Sit Φ B H cs) (hl : as.length ≤ BIG) (I : S → Hp → List (Addr × HO) → Prop) {s0 s1 : S} (h0 : I s0 B cs) {f : α → S → Option (Option β × S)} (hm : lcS f as s0 = some (ys, s1))
    (hB : ∀ s b H' c cs', Sit Φ b H' (c :: cs') → Same B b → I s b cs' → Same Bi H')
    (hs : ∀ D acc a s o x b0 b H' cs, a ∈ as → Sit Φ b H' ((D, .lst acc) :: cs) → Same B b0 → Same b0 b → I s b0 cs → R.rel b a x → f a s = some o → ∀ RR : Option V → Hp → Prop,
      (∀ r b2 H2 cs2, Sit Φ b2 H2 ((D, .lst acc) :: cs2) → Same b b2 → I o.2 b2 cs2 → Kept P o.1 r b2 → RR r H2) → Turn1 g tt te vs σ x H' RR)
    (hd : ∀ D b H' o cs, Sit Φ b H' ((D, o) :: cs) → Same B b → I s1 b cs → Φ.H D = none → (cList P).rel b ys o → Q (.ref D) H') : LcB J g tt te vs σ Q H := by
  obtain ⟨G, Y, w, hG, hY⟩ := it
  refine lcb w (fun D i acc H' => Φ.H D = none ∧ ∃ b zs rest s cs, Sit Φ b H' ((D, .lst acc) :: cs) ∧ Same B b ∧ I s b cs ∧ Fa (P.rel b) zs acc ∧ zs.length ≤ i ∧ lcS f (as.drop i) s = some (rest, s1) ∧ ys = zs ++ rest) (fun D nD => ⟨S0.fresh nD, B, [], ys, s0, cs, S0.own nD, Same.rf _, h0, .nil, Nat.le_refl _, hm, rfl⟩) (fun D i acc H' nD _ ⟨_, b, zs, rest, s, cs, S, e, hI, _⟩ => hG H' (hB s b H' _ cs S e hI)) ?_ ?_
  · rintro D i x acc H1 H2 nD hi ⟨n0, b, zs, rest, s, cs, S, e, hI, hF, hz, hf, ey⟩ y
    obtain ⟨a, ha, q⟩ := hY i H1 x H2 hi y
    obtain ⟨b', S', e', r⟩ := q Φ b _ S e
    have hd' : as.drop i = a :: as.drop (i + 1) := by
      have hi' := (List.getElem?_eq_some_iff.mp ha)
      rw [List.drop_eq_getElem_cons hi'.1, hi'.2]
    rw [hd'] at hf
    obtain ⟨o, ho, hf⟩ := bs hf
    obtain ⟨⟨rs, s2⟩, hrs, hf⟩ := bs hf
    refine hs D acc a s o x b b' H2 cs (List.mem_of_getElem? ha) S' e e' hI r ho _ fun r b2 H3 cs2 S2 e2 hI2 hk => ?_
    have hF2 := fa_mono (e'.tr e2) hF
    obtain ⟨o1, o2⟩ := o
    unfold Kept at hk
    cases o1 with
    | none =>
      subst hk
      cases hf
      exact lcr_none (acc := acc) ⟨n0, b2, zs, _, _, cs2, S2, (e.tr e').tr e2, hI2, hF2, by omega, hrs, ey⟩
    | some y =>
      obtain ⟨v, rfl, hv⟩ := hk
      cases hf
      have la := hF.len
      refine lcr_some (S2.at' (i := 0) rfl) (by rw [← la]; exact big_lt (by omega)) ⟨n0, b2, zs ++ [y], rs, _, cs2, S2.set (i := 0) rfl, (e.tr e').tr e2, hI2, hF2.app (.one hv), by rw [List.length_append]; simp; omega, hrs, by rw [ey]; simp⟩
  · rintro D acc H' nD ⟨n0, b, zs, rest, s, cs, S, e, hI, hF, hz, hf, ey⟩
    rw [List.drop_length] at hf
    cases hf
    rw [List.append_nil] at ey
    subst ey
    exact hd D b H' _ cs S e hI n0 ⟨acc, rfl, hF, by omega⟩
end
end Mf

namespace Mf
open PySem L2 PyProof.Rows
section
variable {K : PySem.W.Frag} {σ : L2.St} {H B : Hp} {Q : VK} {QT : Bool → Hp → Prop} {QA : List V → Hp → Prop} {ta tb te : TE} {tt : TT} {tA : TA} {v w x y : V} {vs : List V} {b : Bool} {Φ : Fr} {cs : List (Addr × HO)} {p : Addr} {o : HO} {α β γ δ : Type} {R : Rl α} {S : Rl β} {T : Rl γ} {U : Rl δ} {i j : Int} {s z : Str}
theorem w_ev (h : Ev te σ H v) (g : Q v H) : te σ H Q := h Q g
theorem w_evT (h : EvT tt σ H b) (g : QT b H) : tt σ H QT := h QT g
theorem w_evA (h : EvA tA σ H vs) (g : QA vs H) : tA σ H QA := h QA g
theorem w_rv {r : R2} (h : RV r x y H w) (g : Q w H) : r x y H Q := h Q g
theorem dList.le {xs : List α} (h : (dList R).rel H xs v) : xs.length ≤ BIG := let ⟨_, _, _, _, _, d⟩ := h; d
theorem dTup.le {xs : List α} (h : (dTup K R).rel H xs v) : xs.length ≤ BIG := let ⟨_, _, _, _, _, d⟩ := h; d
theorem dSeq.le {xs : List α} (h : (dSeq K R).rel H xs v) : xs.length ≤ BIG := let ⟨_, _, _, _, _, d⟩ := h; d
theorem cList.le {xs : List α} (h : (cList R).rel H xs o) : xs.length ≤ BIG := let ⟨_, _, _, d⟩ := h; d
theorem enum_le {k : Int} {xs : List α} (h : xs.length ≤ BIG) : (enumM k xs).length ≤ BIG := by unfold enumM; simpa using h
/-- a cell, as it may be read -/
theorem cList.seq {xs : List α} (h : (cList R).rel B xs o) (hp : H p = some o) (s : Same B H) : (dSeq K R).rel H xs (.ref p) := by
  obtain ⟨vs, rfl, f, l⟩ := h
  exact ⟨p, vs, rfl, .inl (SqL.of hp), fa_mono s f, l⟩
theorem cList.lst {xs : List α} (h : (cList R).rel B xs o) (n : B p = none) : (dList R).rel (upd B p o) xs (.ref p) := frzL h n
theorem cDict.dct {xs : List (Str × α)} (h : (cDict R).rel B xs o) (n : B p = none) : (dDict R).rel (upd B p o) xs (.ref p) := frzD h n
/-! new things -/
def TupQ (Q : VK) (vs : List V) (H : Hp) : Prop := vs.length ≤ sizeLine ∧ ∀ p, H p = none → Q (.ref p) (upd H p (.tup vs))
def LstQ (Q : VK) (vs : List V) (H : Hp) : Prop := vs.length ≤ sizeLine ∧ ∀ p, H p = none → Q (.ref p) (upd H p (.lst vs))
theorem x_tup (g : tA σ H fun vs H1 => TupQ Q vs H1) : tTup tA σ H Q := g
theorem x_lst (g : tA σ H fun vs H1 => LstQ Q vs H1) : tLst tA σ H Q := g
theorem mk1 {a : V} {x : α} (Z : Sit Φ B H cs) (h1 : R.rel B x a) (k : ∀ v B' H', Sit Φ B' H' cs → Same B B' → (dOne K R).rel B' x v → Q v H') : TupQ Q [a] H :=
  ⟨by show 1 ≤ sizeLine; decide, fun p n => k _ _ _ (Z.put n) (Z.updB n) ⟨p, a, rfl, SqT.of upd_same, R.mono (Z.updB n) h1⟩⟩
theorem mk2 {a b : V} {x : α} {y : β} (Z : Sit Φ B H cs) (h1 : R.rel B x a) (h2 : S.rel B y b) (k : ∀ v B' H', Sit Φ B' H' cs → Same B B' → (dPair K R S).rel B' (x, y) v → Q v H') : TupQ Q [a, b] H :=
  ⟨by show 2 ≤ sizeLine; decide, fun p n => k _ _ _ (Z.put n) (Z.updB n) ⟨p, a, b, rfl, SqT.of upd_same, R.mono (Z.updB n) h1, S.mono (Z.updB n) h2⟩⟩
theorem mk3 {a b c : V} {x : α} {y : β} {z : γ} (Z : Sit Φ B H cs) (h1 : R.rel B x a) (h2 : S.rel B y b) (h3 : T.rel B z c) (k : ∀ v B' H', Sit Φ B' H' cs → Same B B' → (dTrip K R S T).rel B' (x, y, z) v → Q v H') : TupQ Q [a, b, c] H :=
  ⟨by show 3 ≤ sizeLine; decide, fun p n => k _ _ _ (Z.put n) (Z.updB n) ⟨p, a, b, c, rfl, SqT.of upd_same, R.mono (Z.updB n) h1, S.mono (Z.updB n) h2, T.mono (Z.updB n) h3⟩⟩
theorem mk4 {a b c d : V} {x : α} {y : β} {z : γ} {w : δ} (Z : Sit Φ B H cs) (h1 : R.rel B x a) (h2 : S.rel B y b) (h3 : T.rel B z c) (h4 : U.rel B w d) (k : ∀ v B' H', Sit Φ B' H' cs → Same B B' → (dQuad K R S T U).rel B' (x, y, z, w) v → Q v H') : TupQ Q [a, b, c, d] H :=
  ⟨by show 4 ≤ sizeLine; decide, fun p n => k _ _ _ (Z.put n) (Z.updB n) ⟨p, a, b, c, d, rfl, SqT.of upd_same, R.mono (Z.updB n) h1, S.mono (Z.updB n) h2, T.mono (Z.updB n) h3, U.mono (Z.updB n) h4⟩⟩
/-- a tuple of like things -/
theorem mkT {vs : List V} {xs : List α} (Z : Sit Φ B H cs) (h : Fa (R.rel B) xs vs) (hl : xs.length ≤ BIG) (k : ∀ v B' H', Sit Φ B' H' cs → Same B B' → (dTup K R).rel B' xs v → Q v H') : TupQ Q vs H :=
  ⟨by rw [← h.len]; exact big_size hl, fun p n => k _ _ _ (Z.put n) (Z.updB n) ⟨p, vs, rfl, SqT.of upd_same, fa_mono (Z.updB n) h, hl⟩⟩
theorem mkL {vs : List V} {xs : List α} (Z : Sit Φ B H cs) (h : Fa (R.rel B) xs vs) (hl : xs.length ≤ BIG) (k : ∀ v B' H', Sit Φ B' H' cs → Same B B' → (dList R).rel B' xs v → Q v H') : LstQ Q vs H :=
  ⟨by rw [← h.len]; exact big_size hl, fun p n => k _ _ _ (Z.put n) (Z.updB n) ⟨p, vs, rfl, upd_same, fa_mono (Z.updB n) h, hl⟩⟩
/-- a list of one's own -/
theorem mkO {vs : List V} {xs : List α} (Z : Sit Φ B H cs) (h : Fa (R.rel B) xs vs) (hl : xs.length ≤ BIG) (k : ∀ p o H', Sit Φ B H' ((p, o) :: cs) → Φ.H p = none → (cList R).rel B xs o → Q (.ref p) H') : LstQ Q vs H :=
  ⟨by rw [← h.len]; exact big_size hl, fun p n => k _ _ _ (Z.own n) (Z.fresh n) ⟨vs, rfl, h, hl⟩⟩
/-- a list made by a builtin: list(x), x[a:b] .. -/
theorem nwL {vs : List V} {xs : List α} (Z : Sit Φ B H cs) (h : Fa (R.rel B) xs vs) (hl : xs.length ≤ BIG) (k : ∀ v B' H', Sit Φ B' H' cs → Same B B' → (dList R).rel B' xs v → Q v H') : ∀ p, H p = none → Q (.ref p) (upd H p (.lst vs)) := (mkL Z h hl k).2
theorem nwO {vs : List V} {xs : List α} (Z : Sit Φ B H cs) (h : Fa (R.rel B) xs vs) (hl : xs.length ≤ BIG) (k : ∀ p o H', Sit Φ B H' ((p, o) :: cs) → Φ.H p = none → (cList R).rel B xs o → Q (.ref p) H') : ∀ p, H p = none → Q (.ref p) (upd H p (.lst vs)) := (mkO Z h hl k).2
theorem nwT {vs : List V} {xs : List α} (Z : Sit Φ B H cs) (h : Fa (R.rel B) xs vs) (hl : xs.length ≤ BIG) (k : ∀ v B' H', Sit Φ B' H' cs → Same B B' → (dTup K R).rel B' xs v → Q v H') : ∀ p, H p = none → Q (.ref p) (upd H p (.tup vs)) := (mkT Z h hl k).2
/-! list(x), tuple(x) -/
theorem b_list {xs : List α} (h : (dSeq K R).rel H xs v) (hB : ∀ vs, Fa (R.rel H) xs vs → Fa (R.rel B) xs vs) (k : ∀ vs, Fa (R.rel B) xs vs → ∀ l, H l = none → Q (.ref l) (upd H l (.lst vs))) : rListQ K [v] H Q := by
  obtain ⟨p, vs, rfl, h, f, _⟩ := h
  exact ⟨p, vs, rfl, h, k vs (hB vs f)⟩
end
/-! what a sequence holds, told at the base -/
def Sq (K : PySem.W.Frag) {α : Type} (R : Rl α) (B H : Hp) (xs : List α) (v : V) : Prop := ∃ p vs, v = .ref p ∧ Sq2 K H p vs ∧ Fa (R.rel B) xs vs ∧ xs.length ≤ BIG
section
variable {K : PySem.W.Frag} {σ : L2.St} {H B : Hp} {Q : VK} {v : V} {Φ : Fr} {cs : List (Addr × HO)} {p : Addr} {o : HO} {α : Type} {R : Rl α} {xs ys : List α} {i : Int} {z : Str}
theorem sqL (h : (dList R).rel B xs v) (s : Same B H) : Sq K R B H xs v := let ⟨p, vs, a, b, c, d⟩ := h; ⟨p, vs, a, .inl (SqL.of (s _ _ b)), c, d⟩
theorem sqT (h : (dTup K R).rel B xs v) (s : Same B H) : Sq K R B H xs v := let ⟨p, vs, a, b, c, d⟩ := h; ⟨p, vs, a, .inr (Same.sqt s b), c, d⟩
theorem sqQ (h : (dSeq K R).rel B xs v) (s : Same B H) : Sq K R B H xs v := let ⟨p, vs, a, b, c, d⟩ := h; ⟨p, vs, a, Sq2.same s b, c, d⟩
theorem sqC (h : (cList R).rel B xs o) (hp : H p = some o) : Sq K R B H xs (.ref p) := by
  obtain ⟨vs, rfl, f, l⟩ := h
  exact ⟨p, vs, rfl, .inl (SqL.of hp), f, l⟩
theorem Sq.q (h : Sq K R B H xs v) (s : Same B H) : (dSeq K R).rel H xs v := let ⟨p, vs, a, b, c, d⟩ := h; ⟨p, vs, a, b, fa_mono s c, d⟩
theorem q_list (Z : Sit Φ B H cs) (h : Sq K R B H xs v) (k : ∀ v B' H', Sit Φ B' H' cs → Same B B' → (dList R).rel B' xs v → Q v H') : rListQ K [v] H Q := by
  obtain ⟨p, vs, rfl, h, f, l⟩ := h
  exact ⟨p, vs, rfl, h, nwL Z f l k⟩
theorem q_listO (Z : Sit Φ B H cs) (h : Sq K R B H xs v) (k : ∀ p o H', Sit Φ B H' ((p, o) :: cs) → Φ.H p = none → (cList R).rel B xs o → Q (.ref p) H') : rListQ K [v] H Q := by
  obtain ⟨p, vs, rfl, h, f, l⟩ := h
  exact ⟨p, vs, rfl, h, nwO Z f l k⟩
theorem q_tupL (Z : Sit Φ B H cs) (h : (dList R).rel B xs v) (k : ∀ v B' H', Sit Φ B' H' cs → Same B B' → (dTup K R).rel B' xs v → Q v H') : rTupL K [v] H Q := by
  obtain ⟨p, vs, rfl, h, f, l⟩ := h
  exact ⟨p, vs, rfl, SqL.of (Z.sub _ _ h), nwT Z f l k⟩
theorem q_tupC (Z : Sit Φ B H cs) (h : (cList R).rel B xs o) (hp : H p = some o) (k : ∀ v B' H', Sit Φ B' H' cs → Same B B' → (dTup K R).rel B' xs v → Q v H') : rTupL K [.ref p] H Q := by
  obtain ⟨vs, rfl, f, l⟩ := h
  exact ⟨p, vs, rfl, SqL.of hp, nwT Z f l k⟩
theorem q_len (h : Sq K R B H xs v) (g : Q (.int (xs.length : Int)) H) : rLenQ K [v] H Q := by
  obtain ⟨p, vs, rfl, h, f, _⟩ := h
  exact ⟨p, vs, rfl, h, by rw [← f.len]; exact g⟩
theorem rlen_q (h : Sq K R B H xs v) : ∀ Q : VK, Q (.int (xs.length : Int)) H → rLenQ K [v] H Q := fun _ g => q_len h g
theorem rin_s {zs : List Str} {s : Str} (h : Sq K dStr B H zs v) : RV (rIn K false) (.str s) v H (.bl (decide (s ∈ zs))) := by
  obtain ⟨p, vs, rfl, h, f, l⟩ := h
  exact rv_inQ ⟨p, vs, rfl, h, f, l⟩
theorem rni_s {zs : List Str} {s : Str} (h : Sq K dStr B H zs v) : RV (rIn K true) (.str s) v H (.bl (!decide (s ∈ zs))) := by
  obtain ⟨p, vs, rfl, h, f, l⟩ := h
  exact rv_niQ ⟨p, vs, rfl, h, f, l⟩
theorem rin_i {zs : List Int} (h : Sq K dInt B H zs v) : RV (rIn K false) (.int i) v H (.bl (decide (i ∈ zs))) := by
  obtain ⟨p, vs, rfl, h, f, l⟩ := h
  exact rv_inI ⟨p, vs, rfl, h, f, l⟩
theorem rni_i {zs : List Int} (h : Sq K dInt B H zs v) : RV (rIn K true) (.int i) v H (.bl (!decide (i ∈ zs))) := by
  obtain ⟨p, vs, rfl, h, f, l⟩ := h
  exact rv_niI ⟨p, vs, rfl, h, f, l⟩
theorem rall {bs : List Bool} (h : (dList dBool).rel H bs v) : ∀ Q : VK, Q (.bl (bs.all id)) H → rAll K [v] H Q := fun Q q => by
  obtain ⟨p, vs, rfl, h, f, _⟩ := h
  cases fa_bool f
  exact ⟨p, bs, rfl, SqL.of h, q⟩
theorem rany {bs : List Bool} (h : (dList dBool).rel H bs v) : ∀ Q : VK, Q (.bl (bs.any id)) H → rAny K [v] H Q := fun Q q => by
  obtain ⟨p, vs, rfl, h, f, _⟩ := h
  cases fa_bool f
  exact ⟨p, bs, rfl, SqL.of h, q⟩
/-! methods of lists -/
theorem pushM_some {x : α} {ys : List α} (h : pushM xs x = some ys) : xs.length < BIG ∧ ys = xs ++ [x] := by
  unfold pushM at h
  by_cases e : xs.length < BIG
  · rw [if_pos e] at h; cases h; exact ⟨e, rfl⟩
  · rw [if_neg e] at h; cases h
theorem catM_some {zs : List α} (h : catM xs ys = some zs) : xs.length + ys.length ≤ BIG ∧ zs = xs ++ ys := by
  unfold catM at h
  by_cases e : xs.length + ys.length ≤ BIG
  · rw [if_pos e] at h; cases h; exact ⟨e, rfl⟩
  · rw [if_neg e] at h; cases h
theorem w_tyC {P : Prop} (h : (cList R).rel B xs o) (hp : H p = some o) (g : P) : tyV K "list" (.ref p) H ∧ P := by
  obtain ⟨vs, rfl, f, _⟩ := h
  exact w_tyL (SqL.of hp) g
theorem q_append {k : Nat} {x : α} {w : V} (Z : Sit Φ B H cs) (hk : cs[k]? = some (p, o)) (h : (cList R).rel B xs o) (hx : R.rel B x w) (hm : pushM xs x = some ys) (g : ∀ o' H', Sit Φ B H' (cs.set k (p, o')) → (cList R).rel B ys o' → Q .non H') : rAppend (.ref p) [w] H Q := by
  obtain ⟨l, rfl⟩ := pushM_some hm
  obtain ⟨vs, rfl, f, _⟩ := h
  refine w_append (Z.at' hk) (by rw [← f.len]; exact big_lt (by omega)) (g _ _ (Z.set hk) ⟨_, rfl, f.app (.one hx), by rw [List.length_append]; simp; omega⟩)
theorem q_extend {k : Nat} {w : V} {zs : List α} (Z : Sit Φ B H cs) (hk : cs[k]? = some (p, o)) (h : (cList R).rel B xs o) (hx : (dList R).rel B ys w) (hm : catM xs ys = some zs) (g : ∀ o' H', Sit Φ B H' (cs.set k (p, o')) → (cList R).rel B zs o' → Q .non H') : rExtend (.ref p) [w] H Q := by
  obtain ⟨l, rfl⟩ := catM_some hm
  obtain ⟨vs, rfl, f, _⟩ := h
  obtain ⟨q, us, rfl, hq, f2, l2⟩ := hx
  refine ⟨p, q, vs, us, rfl, rfl, Z.at' hk, Z.sub _ _ hq, by rw [← f.len, ← f2.len]; exact big_size l, g _ _ (Z.set hk) ⟨_, rfl, f.app f2, by rw [List.length_append]; exact l⟩⟩
theorem fa_dropLast {R' : α → V → Prop} {xs : List α} {vs : List V} (h : Fa R' xs vs) : Fa R' xs.dropLast vs.dropLast := by
  induction h with
  | nil => exact .nil
  | cons r t ih =>
    cases t with
    | nil => exact .nil
    | cons r2 t2 => exact .cons r ih
theorem q_pop {k : Nat} {x : α} (Z : Sit Φ B H cs) (hk : cs[k]? = some (p, o)) (h : (cList R).rel B xs o) (hm : xs.getLast? = some x) (g : ∀ w o' H', Sit Φ B H' (cs.set k (p, o')) → (cList R).rel B xs.dropLast o' → R.rel B x w → Q w H') : rPop (.ref p) [] H Q := by
  obtain ⟨vs, rfl, f, l⟩ := h
  rw [List.getLast?_eq_getElem?] at hm
  obtain ⟨w, hw, r⟩ := f.getL hm
  rw [f.len] at hw
  exact ⟨p, vs, w, rfl, rfl, Z.at' hk, hw, g w _ _ (Z.set hk) ⟨_, rfl, fa_dropLast f, by rw [List.length_dropLast]; omega⟩ r⟩
theorem q_insert {k : Nat} {x : α} {w : V} (Z : Sit Φ B H cs) (hk : cs[k]? = some (p, o)) (h : (cList R).rel B xs o) (hx : R.rel B x w) (hm : (if 0 ≤ i ∧ i < 2 ^ 63 ∧ xs.length < BIG then some (xs.take i.toNat ++ [x] ++ xs.drop i.toNat) else none) = some ys) (g : ∀ o' H', Sit Φ B H' (cs.set k (p, o')) → (cList R).rel B ys o' → Q .non H') : rInsert (.ref p) [.int i, w] H Q := by
  by_cases e : 0 ≤ i ∧ i < 2 ^ 63 ∧ xs.length < BIG
  · rw [if_pos e] at hm
    cases hm
    obtain ⟨vs, rfl, f, l⟩ := h
    have ft : ∀ n, Fa (R.rel B) (xs.take n) (vs.take n) ∧ Fa (R.rel B) (xs.drop n) (vs.drop n) := fun n => by
      clear l e Z hk g
      induction f generalizing n with
      | nil => simp; exact .nil
      | cons r t ih =>
        cases n with
        | zero => exact ⟨.nil, .cons r t⟩
        | succ n => exact ⟨.cons r (ih n).1, (ih n).2⟩
    refine w_insert (Z.at' hk) (by rw [← f.len]; exact big_lt (by omega)) e.1 e.2.1 (g _ _ (Z.set hk) ⟨_, rfl, ((ft _).1.app (.one hx)).app (ft _).2, ?_⟩)
    simp only [List.length_append, List.length_take, List.length_drop, List.length_cons, List.length_nil]
    omega
  · rw [if_neg e] at hm; cases hm
theorem q_cat {w : V} {zs : List α} (Z : Sit Φ B H cs) (h : (dList R).rel B xs v) (hx : (dList R).rel B ys w) (hm : catM xs ys = some zs) (k : ∀ v B' H', Sit Φ B' H' cs → Same B B' → (dList R).rel B' zs v → Q v H') : rCat v w H Q := by
  obtain ⟨l, rfl⟩ := catM_some hm
  obtain ⟨p, vs, rfl, hp, f, _⟩ := h
  obtain ⟨q, us, rfl, hq, f2, l2⟩ := hx
  exact w_cat (Z.sub _ _ hp) (Z.sub _ _ hq) (by rw [← f.len, ← f2.len]; exact big_size l) (nwL Z (f.app f2) (by rw [List.length_append]; exact l) k)
theorem rv_addS {a b c : Str} (h : addS a b = some c) : RV rAddS (.str a) (.str b) H (.str c) := fun Q q => by
  unfold addS at h
  by_cases e : a.length + b.length ≤ sizeLine
  · rw [if_pos e] at h; cases h; exact ⟨a, b, rfl, rfl, e, q⟩
  · rw [if_neg e] at h; cases h
end
end Mf

namespace Mf
open PySem L2 PyProof.Rows
def MidD (M : L2.St → Hp → Prop) : L2.St → Hp → Prop := M
def FUEL : Nat := 1000000
theorem ifT {c : Bool} {α : Type} {x y : α} (h : c = true) : (if c = true then x else y) = x := if_pos h
theorem ifF {c : Bool} {α : Type} {x y : α} (h : c = false) : (if c = true then x else y) = y := if_neg (by rw [h]; decide)
/-! ### the source of draws -/
structure Src3 where
  g : Int
  s : Int
  c : Int
def Src3.ok (s : Src3) (n : Int) : Prop := 0 ≤ s.s ∧ s.s < 2147483647 ∧ 0 ≤ s.c ∧ s.c ≤ n
def cSrc : Cl Src3 := ⟨fun _ s o => o = .lst [.int s.g, .int s.s, .int s.c], fun _ h => h⟩
def m_draw (s : Src3) (m : Int) : Option (Int × Src3) :=
  if (0 ≤ s.s ∧ s.s < 2147483647 ∧ 0 ≤ s.c ∧ s.c < 1000000000) ∧ 0 < m ∧ m < 2 ^ 1000 then
    (if 1 < s.g then some (s.g % m, ⟨s.g / m, s.s, s.c⟩)
    else some ((((s.s + 7919 * (s.c + 1)) ^ 5 % 2147483647 + (s.c + 1)) * 40692 % 2147483629) % m, ⟨s.g, s.s, s.c + 1⟩)) else none
theorem draw_ok {s : Src3} {n m : Int} (h : s.ok n) (hn : n < 1000000000) (h0 : 0 < m) (h1 : m < 2 ^ 1000) : ∃ v s', m_draw s m = some (v, s') ∧ 0 ≤ v ∧ v < m ∧ s'.ok (n + 1) := by
  unfold m_draw
  obtain ⟨a, b, c, d⟩ := h
  rw [if_pos ⟨⟨a, b, c, by omega⟩, h0, h1⟩]
  by_cases e : 1 < s.g
  · rw [if_pos e]
    exact ⟨_, _, rfl, Int.emod_nonneg _ (by omega), Int.emod_lt_of_pos _ h0, a, b, c, by show s.c ≤ n + 1; omega⟩
  · rw [if_neg e]
    exact ⟨_, _, rfl, Int.emod_nonneg _ (by omega), Int.emod_lt_of_pos _ h0, a, b, by show 0 ≤ s.c + 1; omega, by show s.c + 1 ≤ n + 1; omega⟩
def sp_drawM : Sp := fun vs H Q _ => ∃ (B : Hp) (x_0 : Src3) (p_0 : Addr) (o_0 : HO) (x_1 : Int) (r : Int × Src3), vs = [.ref p_0, .int x_1] ∧ Same B H ∧ (H p_0 = some o_0 ∧ B p_0 = none ∧ cSrc.rel B x_0 o_0) ∧ m_draw x_0 x_1 = some r ∧
  ∀ (v : V) (B' H' : Hp) (op_0 : HO), Sit ⟨B, H, [p_0]⟩ B' H' [(p_0, op_0)] → dInt.rel B' r.1 v → cSrc.rel B' r.2 op_0 → Q v H'
/-! ### signs of a text -/
def dChr : Rl Str := ⟨fun _ x v => v = .str x ∧ x.length = 1, fun _ h => h⟩
def charsM (z : Str) : Option (List Str) := if z.length ≤ BIG then some (chars z) else none
theorem charsM_some {z : Str} {cs : List Str} (h : charsM z = some cs) : z.length ≤ BIG ∧ cs = chars z := by
  unfold charsM at h
  by_cases e : z.length ≤ BIG
  · rw [if_pos e] at h; cases h; exact ⟨e, rfl⟩
  · rw [if_neg e] at h; cases h
theorem chars_len (z : Str) : (chars z).length = z.length := by unfold chars; rw [List.length_map, len_list]
theorem charsM_le {z : Str} {cs : List Str} (h : charsM z = some cs) : cs.length ≤ BIG := by
  obtain ⟨a, rfl⟩ := charsM_some h
  rw [chars_len]; exact a
theorem ixS_len {z c : Str} {i : Int} (h : ixS z i = some c) : c.length = 1 := by
  unfold ixS at h
  by_cases e : z.length ≤ sizeLine
  · rw [if_pos e] at h
    cases g : atI z.cps.toList i with
    | none => rw [g] at h; cases h
    | some n => rw [g] at h; cases h; rfl
  · rw [if_neg e] at h; cases h
section
variable {α : Type} {K : PySem.W.Frag} {R : Rl α} {B H : Hp} {σ : L2.St} {Q : VK} {v : V} {Φ : Fr} {cs : List (Addr × HO)} {p : Addr} {o : HO} {xs : List α} {i j : Int} {s z : Str} {ta tb td ty : TE}
theorem w_itSM {R' : It → Hp → Prop} {zs : List Str} (h : charsM z = some zs) (g : ∀ J, ItOk J B B zs dChr → R' J H) : WS R' (.str z) H := by
  obtain ⟨_, rfl⟩ := charsM_some h
  refine ⟨z, rfl, g _ ?_⟩
  have e : (chars z).length = z.cps.size := by unfold chars; simp
  refine ⟨_, _, by rw [e]; exact walk_str, fun _ _ => trivial, ?_⟩
  rintro i H x H' hi ⟨rfl, c, hc, rfl⟩
  refine ⟨⟨#[c]⟩, by unfold chars; simp [hc], fun Φ b cs S e => ⟨b, S, Same.rf _, rfl, rfl⟩⟩
theorem rv_niC {c t : Str} (h : c.length = 1) : RV (rInC true) (.str c) (.str t) H (.bl (!decide (c ∈ chars t))) := fun Q q => by
  have e : ∃ n, c = ⟨#[n]⟩ := by
    obtain ⟨⟨l⟩⟩ := c
    match l, h with
    | [n], _ => exact ⟨n, rfl⟩
  obtain ⟨n, rfl⟩ := e
  refine ⟨n, t, rfl, rfl, ?_⟩
  have : decide (n ∈ t.cps.toList) = decide ((⟨#[n]⟩ : Str) ∈ chars t) := by
    refine decide_eq_decide.mpr ⟨fun z => List.mem_map.mpr ⟨n, z, rfl⟩, fun z => ?_⟩
    obtain ⟨m, hm, e⟩ := List.mem_map.mp z
    injection e with e
    have : m = n := by simpa using e
    exact this ▸ hm
  simp only [if_true]
  rw [this]; exact q
theorem tupC {a : Addr} {zs : List Str} (h : ∀ H, SqT K H a (zs.map V.str)) (hl : zs.length ≤ BIG) : (dTup K dStr).rel B zs (.ref a) := ⟨a, _, rfl, h _, strs_fa, hl⟩
theorem modM_some {k : Int} (h : modM i j = some k) : 0 < j ∧ k = i % j := by
  unfold modM at h
  by_cases e : 0 < j
  · rw [if_pos e] at h; cases h; exact ⟨e, rfl⟩
  · rw [if_neg e] at h; cases h
/-! None -/
theorem rv_isN {R : Rl α} {x : Option α} (h : (dOpt R).rel B x v) : RV rIsN v .non H (.bl x.isNone) := fun Q q => by
  cases x with
  | none => cases (show v = .non from h); exact ⟨rfl, q⟩
  | some a => exact ⟨rfl, by rw [decide_eq_false h.2]; exact q⟩
theorem rv_notN {R : Rl α} {x : Option α} (h : (dOpt R).rel B x v) : RV rNotN v .non H (.bl (!x.isNone)) := fun Q q => by
  cases x with
  | none => cases (show v = .non from h); exact ⟨rfl, q⟩
  | some a => exact ⟨rfl, by rw [decide_eq_false h.2]; exact q⟩
/-! cuts of texts -/
def cutM (z : Str) (lo hi : Option Int) : Option Str := if z.length ≤ sizeLine then some (cutS z lo hi) else none
theorem q_cut {lo hi : Option Int} {r : Str} (h : cutM z lo hi = some r) (g : Q (.str r) H) : rSlS (.str z) lo hi H Q := by
  unfold cutM at h
  by_cases e : z.length ≤ sizeLine
  · rw [if_pos e] at h; cases h; exact ⟨z, rfl, e, g⟩
  · rw [if_neg e] at h; cases h
def joinM (z : Str) (zs : List Str) : Option Str := if (zs.map (·.length)).sum + zs.length * z.length ≤ 16777216 then some (Txt.join z zs) else none
theorem q_join {zs : List Str} {r : Str} (h : Sq K dStr B H zs v) (hm : joinM z zs = some r) (g : Q (.str r) H) : rJoin K (.str z) [v] H Q := by
  obtain ⟨p, vs, rfl, h, f, _⟩ := h
  cases fa_str f
  unfold joinM at hm
  by_cases e : (zs.map (·.length)).sum + zs.length * z.length ≤ 16777216
  · rw [if_pos e] at hm; cases hm
    exact ⟨z, p, zs, rfl, rfl, h, e, g⟩
  · rw [if_neg e] at hm; cases hm
def insM (xs : List α) (i : Int) (x : α) : Option (List α) := if 0 ≤ i ∧ i < 2 ^ 63 ∧ xs.length < BIG then some (xs.take i.toNat ++ [x] ++ xs.drop i.toNat) else none
def strI (i : Int) : Option Str := if i.natAbs.log2 < 1920 then some (toString i) else none
theorem rstrI {r : Str} (h : strI i = some r) : ∀ Q : VK, Q (.str r) H → rStrI [.int i] H Q := fun Q q => by
  unfold strI at h
  by_cases e : i.natAbs.log2 < 1920
  · rw [if_pos e] at h; cases h; exact ⟨i, rfl, e, q⟩
  · rw [if_neg e] at h; cases h
/-! dicts by texts -/
def dGet (kvs : List (Str × α)) (k : Str) : Option α := (kvs.find? fun x => decide (x.1 = k)).map (·.2)
def dHas (kvs : List (Str × α)) (k : Str) : Bool := (dGet kvs k).isSome
theorem faD_get {kvs : List (Str × α)} {ws : List (Key × V)} (h : FaD R B kvs ws) (k : Str) : match dGet kvs k with
    | none => valV ws (Sum.inr k) = none
    | some x => ∃ w, valV ws (Sum.inr k) = some w ∧ R.rel B x w := by
  unfold dGet
  induction h with
  | nil => rfl
  | @cons a b as bs' r t ih =>
    by_cases e : a.1 = k
    · simp only [List.find?_cons, e, decide_true, Option.map_some]
      exact ⟨b.2, valV_pos (by rw [r.1, e]), r.2⟩
    · simp only [List.find?_cons, e, decide_false]
      rw [valV_neg (fun z => e (by rw [r.1] at z; injection z))]
      exact ih
theorem dget_D {kvs : List (Str × α)} {k : Str} {x : α} (h : (dDict R).rel B kvs v) (e : dGet kvs k = some x) : ∃ w, R.rel B x w ∧ ∀ H, Same B H → ∃ a, v = .ref a ∧ DGet H a (.str k) (some w) := by
  obtain ⟨p, ws, rfl, h, f, _⟩ := h
  have q := faD_get f k
  rw [e] at q
  obtain ⟨w, hw, r⟩ := q
  exact ⟨w, r, fun H s => ⟨p, rfl, by rw [← hw]; exact DGet.k (k := Sum.inr k) (s _ _ h)⟩⟩
theorem dget_C {kvs : List (Str × α)} {k : Str} {x : α} (h : (cDict R).rel B kvs o) (e : dGet kvs k = some x) : ∃ w, R.rel B x w ∧ ∀ H, H p = some o → ∃ a, V.ref p = .ref a ∧ DGet H a (.str k) (some w) := by
  obtain ⟨ws, rfl, f, _⟩ := h
  have q := faD_get f k
  rw [e] at q
  obtain ⟨w, hw, r⟩ := q
  exact ⟨w, r, fun H s => ⟨p, rfl, by rw [← hw]; exact DGet.k (k := Sum.inr k) s⟩⟩
theorem Ev.dget {w : V} {k : Str} (hd : Ev td σ H v) (hy : Ev ty σ H (.str k)) (h : ∃ a, v = .ref a ∧ DGet H a (.str k) (some w)) : Ev (tDGet td ty) σ H w := fun Q q => hd _ (hy _ (let ⟨a, e, g⟩ := h; ⟨a, w, e, g, q⟩))
def Dq (R : Rl α) (B H : Hp) (kvs : List (Str × α)) (v : V) : Prop := ∃ p ws, v = .ref p ∧ H p = some (.dK ws) ∧ FaD R B kvs ws
theorem dqD {kvs : List (Str × α)} (h : (dDict R).rel B kvs v) (s : Same B H) : Dq R B H kvs v := let ⟨p, ws, a, b, c, _⟩ := h; ⟨p, ws, a, s _ _ b, c⟩
theorem dqC {kvs : List (Str × α)} (h : (cDict R).rel B kvs o) (hp : H p = some o) : Dq R B H kvs (.ref p) := by
  obtain ⟨ws, rfl, f, _⟩ := h
  exact ⟨p, ws, rfl, hp, f⟩
theorem Dq.has {kvs : List (Str × α)} {k : Str} (h : Dq R B H kvs v) : ∃ a o, v = .ref a ∧ DGet H a (.str k) o ∧ o.isSome = dHas kvs k := by
  obtain ⟨p, ws, rfl, h, f⟩ := h
  refine ⟨p, _, rfl, DGet.k (k := Sum.inr k) h, ?_⟩
  have q := faD_get f k
  unfold dHas
  cases e : dGet kvs k with
  | none => rw [e] at q; simp [q]
  | some x => rw [e] at q; obtain ⟨w, hw, _⟩ := q; simp [hw]
theorem Ev.din {kvs : List (Str × α)} {k : Str} (hy : Ev ty σ H (.str k)) (hd : Ev td σ H v) (h : Dq R B H kvs v) : Ev (tDIn ty td) σ H (.bl (dHas kvs k)) := fun Q q => hy _ (hd _ (let ⟨a, o, e, g, b⟩ := h.has (k := k); ⟨a, o, e, g, by rw [b]; exact q⟩))
theorem Ev.dni {kvs : List (Str × α)} {k : Str} (hy : Ev ty σ H (.str k)) (hd : Ev td σ H v) (h : Dq R B H kvs v) : Ev (tDNotIn ty td) σ H (.bl (!dHas kvs k)) := fun Q q => hy _ (hd _ (let ⟨a, o, e, g, b⟩ := h.has (k := k); ⟨a, o, e, g, by rw [b]; exact q⟩))
theorem rlen_d {kvs : List (Str × α)} (h : Dq R B H kvs v) : ∀ Q : VK, Q (.int (kvs.length : Int)) H → rLenD [v] H Q := fun Q q => by
  obtain ⟨p, ws, rfl, h, f⟩ := h
  exact ⟨p, ws, rfl, h, by rw [← f.len]; exact q⟩
/-! a walked own list -/
theorem Sit.withB {b : Hp} (Z : Sit Φ b H cs) (e : Same B b) {i : Nat} (h : cs[i]? = some (p, o)) : Same (upd B p o) H := fun a u q => by
  by_cases z : a = p
  · subst z; rw [upd_same] at q; rw [Z.at' h]; exact q
  · rw [upd_ne z] at q; exact Z.sub a u (e a u q)
theorem Sit.withS {b : Hp} {cs' : List (Addr × HO)} (Z : Sit Φ b H cs') (e : Same B b) (q : cs <:+ cs') {i : Nat} (h : cs[i]? = some (p, o)) : Same (upd B p o) H := by
  obtain ⟨j, hj⟩ := List.getElem?_of_mem (q.subset (List.mem_of_getElem? h))
  exact Z.withB e hj
theorem Ev.fld {K : PySem.W.Frag} {f : Str} {w : V} (ha : Ev ta σ H v) (h : ∃ a C dx fs, v = .ref a ∧ H a = some (.ins C dx fs) ∧ Cls K C ∧ NoAttr K C f ∧ fs.lookup f = some w) : Ev (tFld K ta f) σ H w := fun Q q => ha _ (let ⟨a, C, dx, fs, e, h1, h2, h3, h4⟩ := h; ⟨a, C, dx, fs, w, e, h1, h2, h3, h4, q⟩)
end
end Mf
namespace Mm
open PySem L2 Mf
theorem use_draw {Φ : Fr} {B H : Hp} {cs : List (Addr × HO)} {Q : VK} {E : XK} {r : Int × Src3} {x_0 : Src3} {p_0 : Addr} {o_0 : HO} {i1 : Nat} {x_1 : Int} {v_1 : V} (Z : Sit Φ B H cs) (hc_0 : cs[i1]? = some (p_0, o_0)) (h_0 : cSrc.rel B x_0 o_0) (h_1 : dInt.rel B x_1 v_1) (hm : m_draw x_0 x_1 = some r) (k : ∀ (v : V) (B' H' : Hp) (op_0 : HO), Sit Φ B' H' (cs.set i1 (p_0, op_0)) → Same B B' → dInt.rel B' r.1 v → cSrc.rel B' r.2 op_0 → Q v H') : sp_drawM ([.ref p_0, v_1] ++ []) H Q E := by
  cases h_1
  exact ⟨B, x_0, p_0, o_0, x_1, r, rfl, Z.sub, ⟨Z.at' hc_0, Z.atB hc_0, h_0⟩, hm, fun v B' H' op_0 Z' h qp_0 => k v B' H' op_0 (Z.call1 hc_0 Z') Z'.grow h qp_0⟩
end Mm

namespace Mf
open PySem L2 PyProof.Rows
/-! ### objects of the program's classes -/
structure Fl (α : Type) where
  rel : Hp → α → List (Str × V) → Prop
  mono : ∀ {H H' : Hp} {x : α} {fs : List (Str × V)}, Same H H' → rel H x fs → rel H' x fs
def dObj {α : Type} (C : Addr) (F : Fl α) : Rl α := ⟨fun H x v => ∃ p dx fs, v = .ref p ∧ H p = some (.ins C dx fs) ∧ F.rel H x fs, fun e ⟨p, dx, fs, a, b, c⟩ => ⟨p, dx, fs, a, e _ _ b, F.mono e c⟩⟩
/-- __init__: from the arguments (pre) to the fields (post) -/
def SpI (C : Addr) (pre : Hp → List V → Prop) (post : Hp → List (Str × V) → Prop) : Sp := fun vs H Q _ => ∃ B x dx ws, vs = .ref x :: ws ∧ Same B H ∧ H x = some (.ins C dx []) ∧ B x = none ∧ pre B ws ∧
  ∀ B' H' fs, Sit ⟨B, H, [x]⟩ B' H' [(x, .ins C dx fs)] → post B' fs → Q .non H'
section
variable {α : Type} {K : PySem.W.Frag} {C : Addr} {F : Fl α} {Φ : Fr} {B H : Hp} {cs : List (Addr × HO)} {Q : VK} {E : XK} {r : α} {vs : List V} {pre : Hp → List V → Prop} {post : Hp → List (Str × V) → Prop}
theorem mkObj (Z : Sit Φ B H cs) (hpre : ∀ B', Same B B' → pre B' vs) (hpost : ∀ B' fs, post B' fs → F.rel B' r fs) (k : ∀ v B' H', Sit Φ B' H' cs → Same B B' → (dObj C F).rel B' r v → Q v H') : MkB C (SpI C pre post) E Q vs H := by
  intro x dx nx ndx ne
  have Z1 := Z.put (o := .own x) ndx
  have nx1 : upd H dx (.own x) x = none := by rw [upd_ne (Ne.symm ne)]; exact nx
  have Z2 := Z1.own (o := .ins C dx []) nx1
  refine ⟨_, x, dx, vs, rfl, Z2.sub, upd_same, Z2.atB (i := 0) rfl, hpre _ (Z.updB ndx), fun B' H' fs Z' q => ⟨rfl, ?_⟩⟩
  have Z3 : Sit Φ B' H' ((x, .ins C dx fs) :: cs) := Z2.call1 (i := 0) rfl Z'
  have Z4 : Sit Φ (upd B' x (.ins C dx fs)) H' cs := Z3.frz (i := 0) rfl (Z1.fresh nx1)
  have s3 := Z3.frzS (i := 0) rfl
  exact k _ _ _ Z4 ((Z.updB ndx).tr (Z'.grow.tr s3)) ⟨x, dx, fs, rfl, upd_same, F.mono s3 (hpost _ _ q)⟩
theorem q_sfld {i : Nat} {p dx : Addr} {f : Str} {y : V} {fs fs' : List (Str × V)} {R : Hp → Prop} (Z : Sit Φ B H cs) (hk : cs[i]? = some (p, .ins C dx fs)) (hc : Cls K C) (hn : NoAttr K C f) (hl : fs.length < 1000) (hp : putF f y fs = fs') (g : ∀ H', Sit Φ B H' (cs.set i (p, .ins C dx fs')) → R H') :
    ∃ a C dx fs, V.ref p = .ref a ∧ H a = some (.ins C dx fs) ∧ Cls K C ∧ NoAttr K C f ∧ fs.length < 1000 ∧ R (upd H a (.ins C dx (putF f y fs))) :=
  ⟨p, C, dx, fs, rfl, Z.at' hk, hc, hn, hl, g _ (by rw [hp]; exact Z.set hk)⟩
theorem obj_ty {x : α} {v : V} (ic : C8.InsC K C) (h : (dObj C F).rel H x v) : TyX K H v (.ref C) := by
  obtain ⟨p, dx, fs, rfl, h, _⟩ := h
  exact tyx_i ic h
end
/-! ### data compared -/
def Dr (K : PySem.W.Frag) {α : Type} (R : Rl α) (d : α → PyData) : Prop := ∀ {H : Hp} {x : α} {v : V}, R.rel H x v → Dp K H v (d x)
section
variable {α β γ : Type} {K : PySem.W.Frag} {R : Rl α} {S : Rl β} {T : Rl γ} {d : α → PyData} {e : β → PyData} {t : γ → PyData} {H B : Hp} {v w : V} {x y : α} {Q : VK}
theorem drInt : Dr K dInt PyData.int := fun h => by cases h; exact .int _
theorem drStr : Dr K dStr PyData.str := fun h => by cases h; exact .str _
theorem drBool : Dr K dBool PyData.bool := fun h => by cases h; exact .bl _
theorem drAny : Dr K (dAny K) id := fun h => h
theorem dr_fa (D : Dr K R d) {xs : List α} {vs : List V} (h : Fa (R.rel H) xs vs) : DpAll K H vs (xs.map d) := by
  induction h with
  | nil => exact .nil
  | cons r _ ih => exact .cons (D r) ih
theorem drL (D : Dr K R d) : Dr K (dList R) (fun xs => .list (xs.map d)) := fun ⟨p, vs, e, h, f, _⟩ => by
  cases e; exact .lst (SqL.of h) (dr_fa D f)
theorem drT (D : Dr K R d) : Dr K (dTup K R) (fun xs => .tuple (xs.map d)) := fun ⟨p, vs, e, h, f, _⟩ => by
  cases e; exact .tup h (dr_fa D f)
theorem dr1 (D : Dr K R d) : Dr K (dOne K R) (fun x => .tuple [d x]) := fun ⟨p, a, e, h, r⟩ => by
  cases e; exact .tup h (.cons (D r) .nil)
theorem dr2 (D : Dr K R d) (E : Dr K S e) : Dr K (dPair K R S) (fun x => .tuple [d x.1, e x.2]) := fun ⟨p, a, b, q, h, r, s⟩ => by
  cases q; exact .tup h (.cons (D r) (.cons (E s) .nil))
theorem dr3 (D : Dr K R d) (E : Dr K S e) (F : Dr K T t) : Dr K (dTrip K R S T) (fun x => .tuple [d x.1, e x.2.1, t x.2.2]) := fun ⟨p, a, b, c, q, h, r, s, u⟩ => by
  cases q; exact .tup h (.cons (D r) (.cons (E s) (.cons (F u) .nil)))
/-- == of data, where the model tells it -/
def eqM (d : α → PyData) (x y : α) : Option Bool := if SeqAt.shaped (d x) = true ∧ SeqAt.shaped (d y) = true then some (PyData.eqv (d x) (d y)) else none
def eqD (x y : PyData) : Option Bool := if SeqAt.shaped x = true ∧ SeqAt.shaped y = true then some (PyData.eqv x y) else none
theorem rv_eqD {x : α} {y : β} {b : Bool} (D : Dr K R d) (E : Dr K S e) (h1 : R.rel H x v) (h2 : S.rel H y w) (hm : eqD (d x) (e y) = some b) : RV (rEqD K) v w H (.bl b) := fun Q q => by
  unfold eqD at hm
  by_cases c : SeqAt.shaped (d x) = true ∧ SeqAt.shaped (e y) = true
  · rw [if_pos c] at hm; cases hm; exact ⟨_, _, D h1, E h2, c.1, c.2, q⟩
  · rw [if_neg c] at hm; cases hm
theorem rv_neD {x : α} {y : β} {b : Bool} (D : Dr K R d) (E : Dr K S e) (h1 : R.rel H x v) (h2 : S.rel H y w) (hm : eqD (d x) (e y) = some b) : RV (rNeD K) v w H (.bl (!b)) := fun Q q => by
  unfold eqD at hm
  by_cases c : SeqAt.shaped (d x) = true ∧ SeqAt.shaped (e y) = true
  · rw [if_pos c] at hm; cases hm; exact ⟨_, _, D h1, E h2, c.1, c.2, q⟩
  · rw [if_neg c] at hm; cases hm
/-- `in` of data -/
def inD (x : PyData) (ys : List PyData) : Option Bool := if SeqAt.shaped x = true ∧ SeqAt.shaped (.list ys) = true then some (ys.any fun z => PyData.eqv z x) else none
theorem rv_inD {x : α} {ys : List β} {b : Bool} (D : Dr K R d) (E : Dr K (dList S) (fun xs => .list (xs.map e))) (h1 : R.rel H x v) (h2 : (dList S).rel H ys w) (hm : inD (d x) (ys.map e) = some b) : RV (rInD K) v w H (.bl b) := fun Q q => by
  unfold inD at hm
  by_cases c : SeqAt.shaped (d x) = true ∧ SeqAt.shaped (.list (ys.map e)) = true
  · rw [if_pos c] at hm; cases hm; exact ⟨_, _, D h1, E h2, c.1, c.2, q⟩
  · rw [if_neg c] at hm; cases hm
theorem rv_niD {x : α} {ys : List β} {b : Bool} (D : Dr K R d) (E : Dr K (dList S) (fun xs => .list (xs.map e))) (h1 : R.rel H x v) (h2 : (dList S).rel H ys w) (hm : inD (d x) (ys.map e) = some b) : RV (rNotInD K) v w H (.bl (!b)) := fun Q q => by
  unfold inD at hm
  by_cases c : SeqAt.shaped (d x) = true ∧ SeqAt.shaped (.list (ys.map e)) = true
  · rw [if_pos c] at hm; cases hm; exact ⟨_, _, D h1, E h2, c.1, c.2, q⟩
  · rw [if_neg c] at hm; cases hm
/-- == of dicts of data -/
def eqDict (d : α → PyData) (xs ys : List (Str × α)) : Option Bool := if (∀ x ∈ xs, SeqAt.shaped (d x.2) = true) ∧ (∀ x ∈ ys, SeqAt.shaped (d x.2) = true) then some (xs.length == ys.length && xs.all fun x => match dGet ys x.1 with | none => false | some y => PyData.eqv (d x.2) (d y)) else none
theorem hits_of (D : Dr K R d) {ys : List (Str × α)} {ls : List (Key × V)} (hy : FaD R H ys ls) (sy : ∀ x ∈ ys, SeqAt.shaped (d x.2) = true) : ∀ {xs : List (Str × α)} {ks : List (Key × V)}, FaD R H xs ks → (∀ x ∈ xs, SeqAt.shaped (d x.2) = true) → HitsV K H ls ks (xs.all fun x => match dGet ys x.1 with | none => false | some y => PyData.eqv (d x.2) (d y)) := fun {xs ks} hx => by
  unfold FaD at hx
  induction hx with
  | nil => intro _; exact .nil
  | @cons a b as bs' r t ih =>
    intro sx
    obtain ⟨k, v⟩ := b
    obtain ⟨rk, rv⟩ := r
    cases (show k = Sum.inr a.1 from rk)
    have q := faD_get hy a.1
    rw [List.all_cons]
    cases e : dGet ys a.1 with
    | none =>
      rw [e] at q
      simp only [Bool.false_and]
      exact .miss q
    | some y =>
      rw [e] at q
      obtain ⟨w, hw, rw'⟩ := q
      have my : ∃ z ∈ ys, z.2 = y := by
        unfold dGet at e
        cases f : ys.find? (fun x => decide (x.1 = a.1)) with
        | none => rw [f] at e; cases e
        | some z => rw [f] at e; cases e; exact ⟨z, List.mem_of_find?_eq_some f, rfl⟩
      obtain ⟨z, hz, rfl⟩ := my
      exact .hit hw (D rv) (D rw') (sx a List.mem_cons_self) (sy z hz) (ih fun x hx => sx x (List.mem_cons_of_mem _ hx))
theorem rv_eqDict {b : Bool} {xs ys : List (Str × α)} (D : Dr K R d) (h1 : (dDict R).rel H xs v) (h2 : (dDict R).rel H ys w) (hm : eqDict d xs ys = some b) : RV (rEqDD K) v w H (.bl b) := fun Q q => by
  unfold eqDict at hm
  obtain ⟨p, ks, rfl, hp, f, _⟩ := h1
  obtain ⟨p', ls, rfl, hp', f', _⟩ := h2
  by_cases c : (∀ x ∈ xs, SeqAt.shaped (d x.2) = true) ∧ (∀ x ∈ ys, SeqAt.shaped (d x.2) = true)
  · rw [if_pos c] at hm; cases hm
    refine ⟨p, p', ks, ls, _, rfl, rfl, hp, hp', fun _ => hits_of D f' c.2 f c.1, ?_⟩
    rw [← f.len, ← f'.len]; exact q
  · rw [if_neg c] at hm; cases hm
end
/-! ### isinstance -/
section
variable {K : PySem.W.Frag} {H B : Hp} {C : Addr} {α : Type} {R : Rl α} {v : V} {s : Str} {i : Int} {b : Bool}
theorem isi_s {T : String} (hk : PySem.W.kitOne K (.type "str") (.type T) = some b) : ∀ Q : VK, Q (.bl b) H → rIsi K [.str s, .ty T] H Q := fun Q q => w_isi (.ty T) (.base (.str s)) hk q
theorem isi_sC (hk : PySem.W.kitOne K (.type "str") (.ref C) = some b) : ∀ Q : VK, Q (.bl b) H → rIsi K [.str s, .ref C] H Q := fun Q q => w_isi (.own C) (.base (.str s)) hk q
theorem isi_i {T : String} (hk : PySem.W.kitOne K (.type "int") (.type T) = some b) : ∀ Q : VK, Q (.bl b) H → rIsi K [.int i, .ty T] H Q := fun Q q => w_isi (.ty T) (.base (.int i)) hk q
theorem isi_qC {xs : List α} (h : Sq K R B H xs v) (kl : PySem.W.kitOne K (.type "list") (.ref C) = some b) (kt : PySem.W.kitOne K (.type "tuple") (.ref C) = some b) : ∀ Q : VK, Q (.bl b) H → rIsi K [v, .ref C] H Q := fun Q q => by
  obtain ⟨p, vs, rfl, h | h, _, _⟩ := h
  · exact w_isi (.own C) (tyx_l h) kl q
  · exact w_isi (.own C) (tyx_t h) kt q
theorem isi_o {F : Fl α} {x : α} {D : Addr} (ic : C8.InsC K C) (h : (dObj C F).rel B x v) (s : Same B H) (hk : PySem.W.kitOne K (.ref C) (.ref D) = some b) : ∀ Q : VK, Q (.bl b) H → rIsi K [v, .ref D] H Q := fun Q q => w_isi (.own D) (obj_ty ic ((dObj C F).mono s h)) hk q
end
/-! ### f-strings -/
def fcat (acc y : Str) : Option Str := if (acc ++ y).length ≤ sizeLine then some (acc ++ y) else none
def fmtS (y : Str) : Option Str := if y.length ≤ sizeLine then some y else none
section
variable {K : PySem.W.Frag} {σ : L2.St} {H : Hp} {Q : VK} {te : TE} {z : Str} {i : Int} {QS : Str → Hp → Prop} {t : TE} {ts : List TE} {acc r : Str}
theorem q_fmtS {y : Str} (h : fmtS z = some y) (g : Q (.str y) H) : (∃ y : Str, V.str z = .str y ∧ y.length ≤ sizeLine ∧ Q (.str y) H) ∨ ∃ i : Int, V.str z = .int i ∧ i.natAbs.log2 < 1920 ∧ Q (.str (toString i)) H := by
  unfold fmtS at h
  by_cases e : z.length ≤ sizeLine
  · rw [if_pos e] at h; cases h; exact .inl ⟨z, rfl, e, g⟩
  · rw [if_neg e] at h; cases h
theorem q_fmtI {y : Str} (h : strI i = some y) (g : Q (.str y) H) : (∃ y : Str, V.int i = .str y ∧ y.length ≤ sizeLine ∧ Q (.str y) H) ∨ ∃ j : Int, V.int i = .int j ∧ j.natAbs.log2 < 1920 ∧ Q (.str (toString j)) H := by
  unfold strI at h
  by_cases e : i.natAbs.log2 < 1920
  · rw [if_pos e] at h; cases h; exact .inr ⟨i, rfl, e, g⟩
  · rw [if_neg e] at h; cases h
def JsQ (ts : List TE) (acc : Str) (σ : L2.St) (QS : Str → Hp → Prop) (x : V) (H : Hp) : Prop := ∃ y : Str, x = .str y ∧ (acc ++ y).length ≤ sizeLine ∧ tJs ts (acc ++ y) σ H QS
def FmQ (Q : VK) (x : V) (H : Hp) : Prop := (∃ y : Str, x = .str y ∧ y.length ≤ sizeLine ∧ Q (.str y) H) ∨ ∃ i : Int, x = .int i ∧ i.natAbs.log2 < 1920 ∧ Q (.str (toString i)) H
theorem x_js (h : t σ H fun x H1 => JsQ ts acc σ QS x H1) : tJs (t :: ts) acc σ H QS := h
theorem x_fmt (h : te σ H fun x H1 => FmQ Q x H1) : tFmt te σ H Q := h
theorem x_fmtS {y : Str} (h : fmtS z = some y) (g : Q (.str y) H) : FmQ Q (.str z) H := q_fmtS h g
theorem x_fmtI {y : Str} (h : strI i = some y) (g : Q (.str y) H) : FmQ Q (.int i) H := q_fmtI h g
theorem x_jx (h : fcat acc z = some r) (g : tJs ts r σ H QS) : JsQ ts acc σ QS (.str z) H := by
  unfold fcat at h
  by_cases e : (acc ++ z).length ≤ sizeLine
  · rw [if_pos e] at h; cases h; exact ⟨z, rfl, e, g⟩
  · rw [if_neg e] at h; cases h
end
/-! ### sets of texts, sorted -/
def nsetM (xs : List Str) : Option (List Str) := if xs.length + 1 < 4096 ∧ (addAll xs).length < 64 then some (nset xs) else none
section
variable {w : World} {K : PySem.W.Frag} {α : Type} {R : Rl α} {J : It} {Bi B H : Hp} {as : List α} {Φ : Fr} {cs : List (Addr × HO)} {g : TG} {tt : TT} {te : TE} {vs : List Nat} {σ : L2.St} {Q : VK}
theorem scR (it : ItOk J Bi B as R) (S0 : Sit Φ B H cs) {zs : List Str} (hl : zs.length + 1 < 4096) (f : α → Str) (hz : zs = as.map f := by rfl)
    (hB : ∀ b H' cs', Sit Φ b H' cs' → Same B b → cs <:+ cs' → Same Bi H')
    (hs : ∀ D o a x b0 b H', a ∈ as → Sit Φ b H' ((D, o) :: cs) → Same B b0 → Same b0 b → R.rel b a x → ∀ RR : Option V → Hp → Prop, RR (some (.str (f a))) H' → Turn1 g tt te vs σ x H' RR)
    (hd : ∀ D b H', Sit Φ b H' ((D, TxtO w D (addAll (as.map f))) :: cs) → Same B b → Φ.H D = none → Q (.ref D) H') : ScB w J g tt te vs σ Q H := by
  rw [hz, List.length_map] at hl
  obtain ⟨G, Y, wk, hG, hY⟩ := it
  intro D nD
  refine ⟨fun i m H' => m = as.length - i ∧ i ≤ as.length ∧ ∃ b, Sit Φ b H' ((D, TxtO w D (addAll ((as.take i).map f))) :: cs) ∧ Same B b, ⟨_, rfl, Nat.zero_le _, B, S0.own nD, Same.rf _⟩, ?_⟩
  rintro i m H' ⟨rfl, hi, b, S, e⟩
  have q := hG H' (hB b H' _ S e (List.suffix_cons _ _))
  by_cases hlt : i < as.length
  · refine .inr ⟨wk.goes i H' hlt q, fun H'' => ∃ b, Sit Φ b H'' ((D, TxtO w D (addAll ((as.take (i + 1)).map f))) :: cs) ∧ Same B b, fun H'' ⟨b', S', e'⟩ => ⟨as.length - (i + 1), by omega, rfl, by omega, b', S', e'⟩, fun x H2 y => ?_⟩
    obtain ⟨a, ha, q2⟩ := hY i H' x H2 hlt (wk.yields i H' x H2 hlt q y)
    obtain ⟨b', S', e', r⟩ := q2 Φ b _ S e
    have t := hs D _ a x b b' H2 (List.mem_of_getElem? ha) S' e e' r (fun r H4 => match r with
      | some y => ∃ (z : Str) (xs0 : List Str), y = V.str z ∧ H4 D = some (TxtO w D xs0) ∧ xs0.length + 1 < scanBound ∧ ∃ b, Sit Φ b (upd H4 D (TxtO w D (addT xs0 z))) ((D, TxtO w D (addAll ((as.take (i + 1)).map f))) :: cs) ∧ Same B b
      | none => ∃ b, Sit Φ b H4 ((D, TxtO w D (addAll ((as.take (i + 1)).map f))) :: cs) ∧ Same B b) ⟨f a, _, rfl, S'.at' (i := 0) rfl, ?_, b', ?_, e.tr e'⟩
    · exact t
    · have := foldl_len ((as.take i).map f) []
      rw [List.length_map, List.length_take] at this
      simp only [List.length_nil] at this
      unfold addAll
      show _ < 4096
      omega
    · have e2 : addAll ((as.take (i + 1)).map f) = addT (addAll ((as.take i).map f)) (f a) := by
        rw [take_next ha, List.map_append]
        unfold addAll
        rw [List.foldl_append]
        rfl
      rw [e2]
      exact S'.set (i := 0) rfl
  · have ei : i = as.length := by omega
    subst ei
    rw [List.take_length] at S
    exact .inl ⟨wk.stops H' q, hd D b H' S e (S0.fresh nD)⟩
theorem q_sortT {D : Addr} {xs ys : List Str} (Z : Sit Φ B H ((D, TxtO w D (addAll xs)) :: cs)) (hm : nsetM xs = some ys) (k : ∀ v B' H', Sit Φ B' H' cs → Same B B' → (dList dStr).rel B' ys v → Q v H') : rSortT w [.ref D] H Q := by
  unfold nsetM at hm
  by_cases c : xs.length + 1 < 4096 ∧ (addAll xs).length < 64
  · rw [if_pos c] at hm; cases hm
    refine ⟨D, addAll xs, rfl, Z.at' (i := 0) rfl, c.2, fun ys p pm so np => ?_⟩
    have e : ys = nset xs := sorted_is pm so
    subst e
    have l : (nset xs).length < 64 := by unfold nset; rw [srt_len]; exact c.2
    exact k _ _ _ (Z.put np).tl (Z.updB np) ⟨p, _, rfl, upd_same, strs_fa, by unfold BIG; omega⟩
  · rw [if_neg c] at hm; cases hm
theorem nsetM_lt {xs ys : List Str} (hm : nsetM xs = some ys) : xs.length + 1 < 4096 := by
  unfold nsetM at hm
  by_cases c : xs.length + 1 < 4096 ∧ (addAll xs).length < 64
  · exact c.1
  · rw [if_neg c] at hm; cases hm
end
/-! ### dict comprehensions -/
def dPut {α : Type} (kvs : List (Str × α)) (k : Str) (v : α) : List (Str × α) := if (kvs.any fun x => decide (x.1 = k)) = true then kvs.map (fun x => if x.1 = k then (x.1, v) else x) else kvs ++ [(k, v)]
theorem dPut_len {α : Type} (kvs : List (Str × α)) (k : Str) (v : α) : (dPut kvs k v).length ≤ kvs.length + 1 := by
  unfold dPut
  split
  · rw [List.length_map]; omega
  · rw [List.length_append]; simp
def dcL {α β : Type} (f : α → Option (Option (Str × β))) : List α → List (Str × β) → Option (List (Str × β))
  | [], kvs => some kvs
  | a :: as, kvs => (f a).bind fun o => dcL f as (match o with | none => kvs | some x => dPut kvs x.1 x.2)
theorem faD_put {α : Type} {R : Rl α} {B : Hp} {xs : List (Str × α)} {kvs : List (Key × V)} {k : Str} {x : α} {v : V} (h : FaD R B xs kvs) (hx : R.rel B x v) : FaD R B (dPut xs k x) (putK kvs (Sum.inr k) v) := by
  have ea : (xs.any fun z => decide (z.1 = k)) = (kvs.any fun z => decide (z.1 = (Sum.inr k : Key))) := by
    clear hx
    unfold FaD at h
    induction h with
    | nil => rfl
    | @cons a b as bs' r t ih =>
      rw [List.any_cons, List.any_cons, ih]
      congr 1
      refine decide_eq_decide.mpr ⟨fun e => by rw [r.1, e], fun e => by rw [r.1] at e; injection e⟩
  unfold dPut putK
  rw [ea]
  by_cases c : (kvs.any fun z => decide (z.1 = (Sum.inr k : Key))) = true
  · rw [if_pos c, if_pos c]
    clear c ea
    unfold FaD at h ⊢
    induction h with
    | nil => exact .nil
    | @cons a b as bs' r t ih =>
      refine .cons ?_ ih
      dsimp only
      by_cases e : a.1 = k
      · rw [if_pos e, if_pos (by rw [r.1, e])]; exact ⟨r.1, hx⟩
      · rw [if_neg e, if_neg (fun z => e (by rw [r.1] at z; injection z))]; exact r
  · rw [if_neg c, if_neg c]
    exact h.app (.one ⟨rfl, hx⟩)
section
variable {α β : Type} {Φ : Fr} {as : List α} {R : Rl α} {P : Rl β} {J : It} {Bi B H : Hp} {cs : List (Addr × HO)} {σ : L2.St} {g : TG} {tt : TT} {tk tv : TE} {vs : List Nat} {Q : VK} {ys : List (Str × β)}
def KeptD (P : Rl β) (o : Option (Str × β)) (r : Option (V × V)) (B : Hp) : Prop := match o with
  | none => r = none
  | some y => ∃ v, r = some (.str y.1, v) ∧ P.rel B y.2 v
theorem dcR (it : ItOk J Bi B as R) (S0 : Sit Φ B H cs) (hl : as.length ≤ BIG) {f : α → Option (Option (Str × β))} (hm : dcL f as [] = some ys)
    (hB : ∀ b H' cs', Sit Φ b H' cs' → Same B b → cs <:+ cs' → Same Bi H')
    (hs : ∀ D acc a o x b0 b H', a ∈ as → Sit Φ b H' ((D, .dK acc) :: cs) → Same B b0 → Same b0 b → R.rel b a x → f a = some o → ∀ RR : Option (V × V) → Hp → Prop,
      (∀ r b2 H2, Sit Φ b2 H2 ((D, .dK acc) :: cs) → Same b b2 → KeptD P o r b2 → RR r H2) → TurnD g tt tk tv vs σ x H' RR)
    (hd : ∀ D b H' o, Sit Φ b H' ((D, o) :: cs) → Same B b → Φ.H D = none → (cDict P).rel b ys o → Q (.ref D) H') : DcB J g tt tk tv vs σ Q H := by
  obtain ⟨G, Y, w, hG, hY⟩ := it
  intro D nD
  refine ⟨fun i m H' => m = as.length - i ∧ i ≤ as.length ∧ ∃ b acc zs, Sit Φ b H' ((D, .dK acc) :: cs) ∧ Same B b ∧ FaD P b zs acc ∧ zs.length ≤ i ∧ dcL f (as.drop i) zs = some ys, ⟨_, rfl, Nat.zero_le _, B, [], [], S0.own nD, Same.rf _, .nil, Nat.le_refl _, hm⟩, ?_⟩
  rintro i m H' ⟨rfl, hi, b, acc, zs, S, e, hF, hz, hf⟩
  have q := hG H' (hB b H' _ S e (List.suffix_cons _ _))
  by_cases hlt : i < as.length
  · have hd' : as.drop i = as[i] :: as.drop (i + 1) := List.drop_eq_getElem_cons hlt
    rw [hd'] at hf
    obtain ⟨o, ho, hf⟩ := bs hf
    refine .inr ⟨w.goes i H' hlt q, fun H'' => ∃ b acc zs, Sit Φ b H'' ((D, .dK acc) :: cs) ∧ Same B b ∧ FaD P b zs acc ∧ zs.length ≤ i + 1 ∧ dcL f (as.drop (i + 1)) zs = some ys, fun H'' z => ⟨as.length - (i + 1), by omega, rfl, by omega, z⟩, fun x H2 y => ?_⟩
    obtain ⟨a, ha, q2⟩ := hY i H' x H2 hlt (w.yields i H' x H2 hlt q y)
    obtain ⟨b', S', e', r⟩ := q2 Φ b _ S e
    rw [List.getElem?_eq_getElem hlt] at ha
    cases ha
    refine hs D acc _ o x b b' H2 (List.getElem_mem hlt) S' e e' r ho (fun r H3 => match r with
      | some (y, z) => ∃ kvs k, y = kV k ∧ H3 D = some (.dK kvs) ∧ kvs.length < sizeLine ∧ ∃ b acc zs, Sit Φ b (upd H3 D (.dK (putK kvs k z))) ((D, .dK acc) :: cs) ∧ Same B b ∧ FaD P b zs acc ∧ zs.length ≤ i + 1 ∧ dcL f (as.drop (i + 1)) zs = some ys
      | none => ∃ b acc zs, Sit Φ b H3 ((D, .dK acc) :: cs) ∧ Same B b ∧ FaD P b zs acc ∧ zs.length ≤ i + 1 ∧ dcL f (as.drop (i + 1)) zs = some ys) fun r b2 H3 S2 e2 hk => ?_
    have hF2 := faD_mono (e'.tr e2) hF
    unfold KeptD at hk
    cases o with
    | none =>
      subst hk
      exact ⟨b2, acc, zs, S2, (e.tr e').tr e2, hF2, by omega, hf⟩
    | some y =>
      obtain ⟨v, rfl, hv⟩ := hk
      have la := hF.len
      have lp := dPut_len zs y.1 y.2
      refine ⟨acc, Sum.inr y.1, rfl, S2.at' (i := 0) rfl, by rw [← la]; exact big_lt (by omega), b2, _, dPut zs y.1 y.2, S2.set (i := 0) rfl, (e.tr e').tr e2, faD_put hF2 hv, by omega, hf⟩
  · have ei : i = as.length := by omega
    subst ei
    rw [List.drop_length] at hf
    cases hf
    exact .inl ⟨w.stops H' q, hd D b H' _ S e (S0.fresh nD) ⟨acc, rfl, hF, by omega⟩⟩
end
/-! ### comprehensions with two fors -/
def lc2M {α β γ : Type} (f : α → Option (List γ)) (g : α → γ → Option (Option β)) : List α → Option (List β)
  | [] => some []
  | a :: as => (f a).bind fun cs => (lcM (g a) cs).bind fun bs => (lc2M f g as).bind fun rs => if (bs ++ rs).length ≤ BIG then some (bs ++ rs) else none
section
variable {α β γ : Type} {Φ : Fr} {as : List α} {R : Rl α} {T : Rl γ} {P : Rl β} {J : It} {Bi B H : Hp} {cs : List (Addr × HO)} {σ : L2.St} {g : TG} {tt : TT} {te : TE} {vs : List Nat} {Q : VK} {ys : List β}
theorem big_lt2 {n m : Nat} (h : n ≤ BIG) (h' : m ≤ BIG) : n + m < sizeLine := by rw [PySem.sizeLine_eq]; unfold BIG at h h'; omega
theorem lcM_len {f : α → Option (Option β)} : ∀ {as : List α} {ys : List β}, lcM f as = some ys → ys.length ≤ as.length
  | [], _, h => by cases h; exact Nat.le_refl _
  | a :: as, ys, h => by
    obtain ⟨o, ho, h⟩ := bs h
    obtain ⟨zs, hz, h⟩ := bs h
    have := lcM_len hz
    cases h
    cases o with
    | none => exact Nat.le_succ_of_le this
    | some b => exact Nat.succ_le_succ this
/-- the inner row -/
theorem lc2In {D : Addr} {zs0 : List β} {acc0 : List V} {Nx : Hp → Prop} (it : ItOk J Bi B as R) (S0 : Sit Φ B H ((D, .lst acc0) :: cs)) (hF0 : Fa (P.rel B) zs0 acc0) (hl : zs0.length + as.length < sizeLine) {f : α → Option (Option β)} (hm : lcM f as = some ys)
    (hB : ∀ b H' cs', Sit Φ b H' cs' → Same B b → cs <:+ cs' → Same Bi H')
    (hs : ∀ acc a o x b0 b H', a ∈ as → Sit Φ b H' ((D, .lst acc) :: cs) → Same B b0 → Same b0 b → R.rel b a x → f a = some o → ∀ RR : Option V → Hp → Prop,
      (∀ r b2 H2, Sit Φ b2 H2 ((D, .lst acc) :: cs) → Same b b2 → Kept P o r b2 → RR r H2) → Turn2 g tt te vs σ x H' RR)
    (hd : ∀ b H' acc, Sit Φ b H' ((D, .lst acc) :: cs) → Same B b → Fa (P.rel b) (zs0 ++ ys) acc → Nx H') : Lc2In D J g tt te vs σ Nx H := by
  obtain ⟨G, Y, w, hG, hY⟩ := it
  refine ⟨fun i m H' => m = as.length - i ∧ i ≤ as.length ∧ ∃ b acc zs rest, Sit Φ b H' ((D, .lst acc) :: cs) ∧ Same B b ∧ Fa (P.rel b) (zs0 ++ zs) acc ∧ zs.length ≤ i ∧ lcM f (as.drop i) = some rest ∧ ys = zs ++ rest, ⟨_, rfl, Nat.zero_le _, B, acc0, [], ys, S0, Same.rf _, by rw [List.append_nil]; exact hF0, Nat.le_refl _, hm, rfl⟩, ?_⟩
  rintro i m H' ⟨rfl, hi, b, acc, zs, rest, S, e, hF, hz, hf, ey⟩
  have q := hG H' (hB b H' _ S e (List.suffix_cons _ _))
  by_cases hlt : i < as.length
  · have hd' : as.drop i = as[i] :: as.drop (i + 1) := List.drop_eq_getElem_cons hlt
    rw [hd'] at hf
    obtain ⟨o, ho, hf⟩ := bs hf
    obtain ⟨rs, hrs, hf⟩ := bs hf
    refine .inr ⟨w.goes i H' hlt q, fun H'' => ∃ b acc zs rest, Sit Φ b H'' ((D, .lst acc) :: cs) ∧ Same B b ∧ Fa (P.rel b) (zs0 ++ zs) acc ∧ zs.length ≤ i + 1 ∧ lcM f (as.drop (i + 1)) = some rest ∧ ys = zs ++ rest, fun H'' z => ⟨as.length - (i + 1), by omega, rfl, by omega, z⟩, fun x H2 y => ?_⟩
    obtain ⟨a, ha, q2⟩ := hY i H' x H2 hlt (w.yields i H' x H2 hlt q y)
    obtain ⟨b', S', e', r⟩ := q2 Φ b _ S e
    rw [List.getElem?_eq_getElem hlt] at ha
    cases ha
    refine hs acc _ o x b b' H2 (List.getElem_mem hlt) S' e e' r ho (fun r H7 => match r with
      | some y => ∃ acc, H7 D = some (.lst acc) ∧ acc.length < sizeLine ∧ ∃ b acc' zs rest, Sit Φ b (upd H7 D (.lst (acc ++ [y]))) ((D, .lst acc') :: cs) ∧ Same B b ∧ Fa (P.rel b) (zs0 ++ zs) acc' ∧ zs.length ≤ i + 1 ∧ lcM f (as.drop (i + 1)) = some rest ∧ ys = zs ++ rest
      | none => ∃ b acc zs rest, Sit Φ b H7 ((D, .lst acc) :: cs) ∧ Same B b ∧ Fa (P.rel b) (zs0 ++ zs) acc ∧ zs.length ≤ i + 1 ∧ lcM f (as.drop (i + 1)) = some rest ∧ ys = zs ++ rest) fun r b2 H3 S2 e2 hk => ?_
    have hF2 := fa_mono (e'.tr e2) hF
    unfold Kept at hk
    cases o with
    | none =>
      subst hk
      cases hf
      exact ⟨b2, acc, zs, _, S2, (e.tr e').tr e2, hF2, by omega, hrs, ey⟩
    | some y =>
      obtain ⟨v, rfl, hv⟩ := hk
      cases hf
      have la := hF.len
      rw [List.length_append] at la
      refine ⟨acc, S2.at' (i := 0) rfl, by omega, b2, _, zs ++ [y], rs, S2.set (i := 0) rfl, (e.tr e').tr e2, by rw [← List.append_assoc]; exact hF2.app (.one hv), by rw [List.length_append]; simp; omega, hrs, by rw [ey]; simp⟩
  · have ei : i = as.length := by omega
    subst ei
    rw [List.drop_length] at hf
    cases hf
    rw [List.append_nil] at ey
    subst ey
    exact .inl ⟨w.stops H' q, hd b H' acc S e hF⟩
/-- the whole -/
theorem lc2R {wi1 : TI} {g1 : TG} {tt1 : TT} {vs1 : List Nat} (it : ItOk J Bi B as R) (S0 : Sit Φ B H cs) {f : α → Option (List γ)} {gg : α → γ → Option (Option β)} (hm : lc2M f gg as = some ys)
    (hB : ∀ b H' cs', Sit Φ b H' cs' → Same B b → cs <:+ cs' → Same Bi H')
    (hs : ∀ D zs0 acc a zs ws x b0 b H', a ∈ as → Sit Φ b H' ((D, .lst acc) :: cs) → Same B b0 → Same b0 b → Fa (P.rel b) zs0 acc → R.rel b a x → f a = some zs → lcM (gg a) zs = some ws → zs0.length ≤ BIG → ∀ Nx : Hp → Prop,
      (∀ b2 H2 acc2, Sit Φ b2 H2 ((D, .lst acc2) :: cs) → Same b b2 → Fa (P.rel b2) (zs0 ++ ws) acc2 → Nx H2) → TurnO g tt wi1 vs σ x H' (fun σ2 J1 H4 => Lc2In D J1 g1 tt1 te vs1 σ2 Nx H4) Nx)
    (hd : ∀ D b H' o, Sit Φ b H' ((D, o) :: cs) → Same B b → Φ.H D = none → (cList P).rel b ys o → Q (.ref D) H') : Lc2B J g tt wi1 g1 tt1 te vs vs1 σ Q H := by
  have big : ∀ {as : List α} {ys : List β}, lc2M f gg as = some ys → ys.length ≤ BIG := fun {as ys} h => by
    cases as with
    | nil => cases h; exact Nat.zero_le _
    | cons a as =>
      obtain ⟨cs, hc, h⟩ := bs h
      obtain ⟨b1, h1, h⟩ := bs h
      obtain ⟨b2, h2, h⟩ := bs h
      by_cases c : (b1 ++ b2).length ≤ BIG
      · rw [if_pos c] at h; cases h; exact c
      · rw [if_neg c] at h; cases h
  obtain ⟨G, Y, w, hG, hY⟩ := it
  intro D nD
  refine ⟨fun i m H' => m = as.length - i ∧ i ≤ as.length ∧ ∃ b acc zs rest, Sit Φ b H' ((D, .lst acc) :: cs) ∧ Same B b ∧ Fa (P.rel b) zs acc ∧ lc2M f gg (as.drop i) = some rest ∧ ys = zs ++ rest, ⟨_, rfl, Nat.zero_le _, B, [], [], ys, S0.own nD, Same.rf _, .nil, hm, rfl⟩, ?_⟩
  rintro i m H' ⟨rfl, hi, b, acc, zs, rest, S, e, hF, hf, ey⟩
  have q := hG H' (hB b H' _ S e (List.suffix_cons _ _))
  have hyl := big hm
  by_cases hlt : i < as.length
  · have hd' : as.drop i = as[i] :: as.drop (i + 1) := List.drop_eq_getElem_cons hlt
    rw [hd'] at hf
    obtain ⟨ds, hds, hf⟩ := bs hf
    obtain ⟨ws, hws, hf⟩ := bs hf
    obtain ⟨rs, hrs, hf⟩ := bs hf
    have hr : rest = ws ++ rs := by
      by_cases c : (ws ++ rs).length ≤ BIG
      · rw [if_pos c] at hf; cases hf; rfl
      · rw [if_neg c] at hf; cases hf
    refine .inr ⟨w.goes i H' hlt q, fun H'' => ∃ b acc zs rest, Sit Φ b H'' ((D, .lst acc) :: cs) ∧ Same B b ∧ Fa (P.rel b) zs acc ∧ lc2M f gg (as.drop (i + 1)) = some rest ∧ ys = zs ++ rest, fun H'' z => ⟨as.length - (i + 1), by omega, rfl, by omega, z⟩, fun x H2 y => ?_⟩
    obtain ⟨a, ha, q2⟩ := hY i H' x H2 hlt (w.yields i H' x H2 hlt q y)
    obtain ⟨b', S', e', r⟩ := q2 Φ b _ S e
    rw [List.getElem?_eq_getElem hlt] at ha
    cases ha
    have ll : zs.length ≤ BIG := by rw [ey, List.length_append] at hyl; omega
    exact hs D zs acc _ ds ws x b b' H2 (List.getElem_mem hlt) S' e e' (fa_mono e' hF) r hds hws ll _ fun b2 H3 acc2 S2 e2 hF2 => ⟨b2, acc2, zs ++ ws, rs, S2, (e.tr e').tr e2, hF2, hrs, by rw [ey, hr, List.append_assoc]⟩
  · have ei : i = as.length := by omega
    subst ei
    rw [List.drop_length] at hf
    cases hf
    rw [List.append_nil] at ey
    subst ey
    exact .inl ⟨w.stops H' q, hd D b H' _ S e (S0.fresh nD) ⟨acc, rfl, hF, hyl⟩⟩
end
end Mf

namespace Mf
open PySem L2 PyProof.Rows
def Sub {α : Type} (R S : Rl α) : Prop := ∀ {H : Hp} {x : α} {v : V}, R.rel H x v → S.rel H x v
section
variable {α β γ : Type} {K : PySem.W.Frag} {R R' : Rl α} {S S' : Rl β} {T T' : Rl γ}
theorem subR : Sub R R := fun h => h
theorem subLQ (h : Sub R R') : Sub (dList R) (dSeq K R') := fun ⟨p, vs, e, a, f, l⟩ => ⟨p, vs, e, .inl (SqL.of a), f.imp fun _ _ _ z => h z, l⟩
theorem subTQ (h : Sub R R') : Sub (dTup K R) (dSeq K R') := fun ⟨p, vs, e, a, f, l⟩ => ⟨p, vs, e, .inr a, f.imp fun _ _ _ z => h z, l⟩
theorem subQQ (h : Sub R R') : Sub (dSeq K R) (dSeq K R') := fun ⟨p, vs, e, a, f, l⟩ => ⟨p, vs, e, a, f.imp fun _ _ _ z => h z, l⟩
theorem subLL (h : Sub R R') : Sub (dList R) (dList R') := fun ⟨p, vs, e, a, f, l⟩ => ⟨p, vs, e, a, f.imp fun _ _ _ z => h z, l⟩
theorem subTT (h : Sub R R') : Sub (dTup K R) (dTup K R') := fun ⟨p, vs, e, a, f, l⟩ => ⟨p, vs, e, a, f.imp fun _ _ _ z => h z, l⟩
theorem subP2 (h : Sub R R') (g : Sub S S') : Sub (dPair K R S) (dPair K R' S') := fun ⟨p, a, b, e, q, r, s⟩ => ⟨p, a, b, e, q, h r, g s⟩
theorem subP3 (h : Sub R R') (g : Sub S S') (k : Sub T T') : Sub (dTrip K R S T) (dTrip K R' S' T') := fun ⟨p, a, b, c, e, q, r, s, t⟩ => ⟨p, a, b, c, e, q, h r, g s, k t⟩
end
section
variable {α β : Type} {K : PySem.W.Frag} {C : Addr} {F : Fl α} {x : α} {B H : Hp} {v y : V} {Q : VK} {E : XK} {sp : Sp} {t : Value} {σ : L2.St}
theorem q_cmpO (h : (dObj C F).rel B x v) (s : Same B H) (ht : TyX K H y t) (hn : PySem.W.notFirst K C t = true) (g : sp [v, y] H Q E) : rCmpO K C sp E v y H Q := by
  obtain ⟨p, dx, fs, rfl, h, _⟩ := h
  exact ⟨p, dx, fs, t, rfl, s _ _ h, ht, hn, g⟩
def NeQ (Q : VK) : VK := fun v H' => ∃ b, v = .bl b ∧ Q (.bl (!b)) H'
theorem q_neO (h : (dObj C F).rel B x v) (s : Same B H) (ht : TyX K H y t) (hn : PySem.W.notFirst K C t = true) (g : sp [v, y] H (NeQ Q) E) : rNeO K C sp E v y H Q := by
  obtain ⟨p, dx, fs, rfl, h, _⟩ := h
  exact ⟨p, dx, fs, t, rfl, s _ _ h, ht, hn, g⟩
def InQ (Q : VK) : VK := fun v H' => ∃ b, v = .bl b ∧ Q (.bl b) H'
theorem q_inO (h : (dObj C F).rel B x v) (s : Same B H) (g : sp [v, y] H (InQ Q) E) : rInO C sp E false y v H Q := by
  obtain ⟨p, dx, fs, rfl, h, _⟩ := h
  exact ⟨p, dx, fs, rfl, s _ _ h, g⟩
theorem q_niO (h : (dObj C F).rel B x v) (s : Same B H) (g : sp [v, y] H (NeQ Q) E) : rInO C sp E true y v H Q := by
  obtain ⟨p, dx, fs, rfl, h, _⟩ := h
  exact ⟨p, dx, fs, rfl, s _ _ h, g⟩
def LenQ (Q : VK) : VK := fun v H' => ∃ n : Nat, v = .int n ∧ n ≤ sizeLine ∧ Q (.int n) H'
theorem q_lenO (h : (dObj C F).rel B x v) (s : Same B H) (g : sp [v] H (LenQ Q) E) : rLenO C sp E [v] H Q := by
  obtain ⟨p, dx, fs, rfl, h, _⟩ := h
  exact ⟨p, dx, fs, rfl, s _ _ h, g⟩
theorem q_getO (h : (dObj C F).rel B x v) (s : Same B H) (g : sp [v, y] H Q E) : rGetO C sp E v y H Q := by
  obtain ⟨p, dx, fs, rfl, h, _⟩ := h
  exact ⟨p, dx, fs, rfl, s _ _ h, g⟩
theorem q_binO {x' : α} (h : (dObj C F).rel B x v) (h' : (dObj C F).rel B x' y) (s : Same B H) (g : sp [v, y] H Q E) : rBinO C sp E v y H Q := by
  obtain ⟨p, dx, fs, rfl, h, _⟩ := h
  obtain ⟨p', dx', fs', rfl, h', _⟩ := h'
  exact ⟨p, dx, fs, p', dx', fs', rfl, rfl, s _ _ h, s _ _ h', g⟩
def MeQ (C : Addr) (m : Str) (P : V → Hp → Prop) (v : V) (H : Hp) : Prop := ∃ a dx fs, v = .ref a ∧ H a = some (.ins C dx fs) ∧ fs.lookup m = none ∧ P v H
theorem x_meth {m : Str} {dvs : List V} {ta : TE} {tA : TA} (g : ta σ H fun x H1 => MeQ C m (fun x H1 => tA σ H1 fun vs H2 => sp (x :: (vs ++ dvs)) H2 Q E) x H1) : tMeth C m sp dvs E ta tA σ H Q := g
theorem q_meth {m : Str} {P : V → Hp → Prop} (h : (dObj C F).rel B x v) (s : Same B H) (hl : ∀ fs, F.rel B x fs → fs.lookup m = none) (g : P v H) : MeQ C m P v H := by
  obtain ⟨p, dx, fs, rfl, h, q⟩ := h
  exact ⟨p, dx, fs, rfl, s _ _ h, hl fs q, g⟩
theorem putF_nil {f : Str} {v : V} : putF f v [] = [(f, v)] := rfl
theorem putF_cons {f g : Str} {v y : V} {r r' : List (Str × V)} (h : g ≠ f) (e : putF f v r = r') : putF f v ((g, y) :: r) = (g, y) :: r' := by
  show (if g = f then _ else _) = _
  rw [if_neg h, e]
theorem len_lt {n : Nat} {i : Int} (h : i = (n : Int)) (hb : n ≤ BIG) (g : Q (.int i) H) : LenQ Q (.int i) H := ⟨n, by rw [h], big_size hb, by rw [← h]; exact g⟩
theorem lenQ (i : Nat) (hb : i ≤ sizeLine) (g : Q (.int (i : Int)) H) : LenQ Q (.int (i : Int)) H := ⟨i, rfl, hb, g⟩
theorem w_neQ {b : Bool} (g : Q (.bl (!b)) H) : NeQ Q (.bl b) H := ⟨b, rfl, g⟩
theorem w_inQ {b : Bool} (g : Q (.bl b) H) : InQ Q (.bl b) H := ⟨b, rfl, g⟩
end
section
variable {α β γ δ : Type} {K : PySem.W.Frag} {R : Rl α} {S : Rl β} {T : Rl γ} {U : Rl δ} {H : Hp} {v : V} {C : Addr} {F : Fl α}
theorem nnL {x : List α} (h : (dList R).rel H x v) : v ≠ .non := by obtain ⟨p, vs, rfl, _⟩ := h; intro z; cases z
theorem nnT {x : List α} (h : (dTup K R).rel H x v) : v ≠ .non := by obtain ⟨p, vs, rfl, _⟩ := h; intro z; cases z
theorem nnQ {x : List α} (h : (dSeq K R).rel H x v) : v ≠ .non := by obtain ⟨p, vs, rfl, _⟩ := h; intro z; cases z
theorem nnD {x : List (Str × α)} (h : (dDict R).rel H x v) : v ≠ .non := by obtain ⟨p, vs, rfl, _⟩ := h; intro z; cases z
theorem nnO {x : α} (h : (dObj C F).rel H x v) : v ≠ .non := by obtain ⟨p, vs, _, rfl, _⟩ := h; intro z; cases z
theorem nn1 {x : α} (h : (dOne K R).rel H x v) : v ≠ .non := by obtain ⟨p, a, rfl, _⟩ := h; intro z; cases z
theorem nn2 {x : α × β} (h : (dPair K R S).rel H x v) : v ≠ .non := by obtain ⟨p, a, b, rfl, _⟩ := h; intro z; cases z
theorem nn3 {x : α × β × γ} (h : (dTrip K R S T).rel H x v) : v ≠ .non := by obtain ⟨p, a, b, c, rfl, _⟩ := h; intro z; cases z
theorem nn4 {x : α × β × γ × δ} (h : (dQuad K R S T U).rel H x v) : v ≠ .non := by obtain ⟨p, a, b, c, d, rfl, _⟩ := h; intro z; cases z
theorem someN {x : α} (h : R.rel H x v) (n : v ≠ .non) : (dOpt R).rel H (some x) v := ⟨h, n⟩
end
theorem retB {Q : VK} {H : Hp} {b : Bool} (e : b = true) (k : ∀ H', Q (.bl true) H') : Q (.bl b) H := e ▸ k H
theorem src_of {B H : Hp} {p : Addr} (h : Src H p 0) : ∃ (s : Src3) (o : HO), s.ok 0 ∧ H p = some o ∧ cSrc.rel B s o := by
  obtain ⟨g, s, h, h0, h1⟩ := h
  exact ⟨⟨g, s, 0⟩, _, ⟨h0, h1, Int.le_refl _, Int.le_refl _⟩, h, rfl⟩
theorem Sit.src {Φ : Fr} {B H H' : Hp} {p : Addr} {o : HO} (Z : Sit Φ B H []) (e : Same H H') (n : H p = Option.none) (h : H' p = some o) : Sit Φ B H' [(p, o)] where
  sub := fun a u q => e a u (Z.sub a u q)
  grow := Z.grow
  new := Z.new
  keep := fun a u q w => e a u (Z.keep a u q w)
  cell := fun c m => by cases List.mem_singleton.mp m; exact ⟨h, Z.bn n, .inr (Z.fresh n)⟩
  nd := by simp
  par := fun a m => by
    cases q : H a with
    | none => exact absurd q (Z.par a m)
    | some u => rw [e a u q]; intro z; cases z
end Mf

namespace Mf
open PySem L2 PyProof.Rows
/-! ### what a mirror gives -/
def Wp {α : Type} (m : Option α) (P : α → Prop) : Prop := ∃ a, m = some a ∧ P a
section
variable {α β S R : Type} {m : Option α} {P Q : α → Prop}
theorem Wp.some {a : α} (h : P a) : Wp (some a) P := ⟨a, rfl, h⟩
theorem Wp.of {a : α} (e : m = .some a) (h : P a) : Wp m P := ⟨a, e, h⟩
theorem Wp.bind {f : α → Option β} {Q : β → Prop} (h : Wp m P) (g : ∀ a, P a → Wp (f a) Q) : Wp (m.bind f) Q := by
  obtain ⟨a, rfl, p⟩ := h
  exact g a p
theorem Wp.go {f : α → Option β} {Q : β → Prop} {a : α} (h : m = .some a) (g : Wp (f a) Q) : Wp (m.bind f) Q := by
  subst h; exact g
theorem Wp.mono (h : Wp m P) (g : ∀ a, P a → Q a) : Wp m Q := let ⟨a, e, p⟩ := h; ⟨a, e, g a p⟩
theorem Wp.ite {c : Bool} {x y : Option α} (h1 : c = true → Wp x P) (h2 : c = false → Wp y P) : Wp (if c = true then x else y) P := by
  cases c with
  | true => rw [if_pos rfl]; exact h1 rfl
  | false => rw [if_neg (by decide)]; exact h2 rfl
theorem Wp.yes {c : Bool} {x y : Option α} (h : c = true) (g : Wp x P) : Wp (if c = true then x else y) P := by rw [if_pos h]; exact g
theorem Wp.no {c : Bool} {x y : Option α} (h : c = false) (g : Wp y P) : Wp (if c = true then x else y) P := by rw [if_neg (by rw [h]; decide)]; exact g
theorem Wp.eq {a : α} (h : Wp m (fun x => x = a)) : m = .some a := by
  obtain ⟨x, e, rfl⟩ := h
  exact e
theorem Wp.and (h : Wp m P) (g : Wp m Q) : Wp m (fun x => P x ∧ Q x) := by
  obtain ⟨x, e, p⟩ := h
  obtain ⟨y, e', q⟩ := g
  rw [e] at e'
  cases e'
  exact ⟨x, e, p, q⟩
theorem wp_forL {f : α → S → Option S} {as : List α} {s0 : S} (I : Nat → S → Prop) (h0 : I 0 s0) (hs : ∀ i a s, as[i]? = some a → I i s → Wp (f a s) (I (i + 1))) : Wp (forL f as s0) (I as.length) := by
  have gen : ∀ (bs : List α) (i : Nat) (s : S), (∀ j a, bs[j]? = some a → as[i + j]? = some a) → I i s → Wp (forL f bs s) (I (i + bs.length)) := by
    intro bs
    induction bs with
    | nil => intro i s _ h; exact ⟨s, rfl, h⟩
    | cons b bs ih =>
      intro i s hb h
      refine (hs i b s (hb 0 b rfl) h).bind fun s' h' => ?_
      have := ih (i + 1) s' (fun j a ha => by have := hb (j + 1) a ha; rw [show i + 1 + j = i + (j + 1) by omega]; exact this) h'
      rw [show i + (b :: bs).length = i + 1 + bs.length by simp; omega]
      exact this
  have := gen as 0 s0 (fun j a h => by rw [Nat.zero_add]; exact h) h0
  rw [Nat.zero_add] at this
  exact this
theorem wp_lcS {f : α → S → Option (Option β × S)} {as : List α} {s0 : S} (I : Nat → List β → S → Prop) (h0 : I 0 [] s0) (hs : ∀ i a ys s, as[i]? = some a → I i ys s → Wp (f a s) (fun o => I (i + 1) (ys ++ o.1.toList) o.2)) : Wp (lcS f as s0) (fun r => I as.length r.1 r.2) := by
  have gen : ∀ (bs : List α) (i : Nat) (ys : List β) (s : S), (∀ j a, bs[j]? = some a → as[i + j]? = some a) → I i ys s → Wp (lcS f bs s) (fun r => I (i + bs.length) (ys ++ r.1) r.2) := by
    intro bs
    induction bs with
    | nil => intro i ys s _ h; exact ⟨([], s), rfl, by simpa using h⟩
    | cons b bs ih =>
      intro i ys s hb h
      refine (hs i b ys s (hb 0 b rfl) h).bind fun o h' => ?_
      refine (ih (i + 1) (ys ++ o.1.toList) o.2 (fun j a ha => by have := hb (j + 1) a ha; rw [show i + 1 + j = i + (j + 1) by omega]; exact this) h').bind fun r hr => ?_
      refine ⟨_, rfl, ?_⟩
      rw [show i + (b :: bs).length = i + 1 + bs.length by simp; omega]
      obtain ⟨o1, o2⟩ := o
      cases o1 with
      | none => simpa using hr
      | some b => simpa using hr
  have := gen as 0 [] s0 (fun j a h => by rw [Nat.zero_add]; exact h) h0
  simpa using this
theorem wp_lcM {f : α → Option (Option β)} {as : List α} (g : α → Option β) (h : ∀ a ∈ as, f a = some (g a)) : lcM f as = some (as.filterMap g) := by
  induction as with
  | nil => rfl
  | cons a as ih =>
    unfold lcM
    rw [h a List.mem_cons_self, ih fun b hb => h b (List.mem_cons_of_mem _ hb)]
    cases e : g a with
    | none => simp [List.filterMap_cons, e]
    | some b => simp [List.filterMap_cons, e]
theorem lcM_mapE {f : α → Option (Option β)} {as : List α} (g : α → β) (h : ∀ a ∈ as, f a = some (some (g a))) : lcM f as = some (as.map g) := by
  rw [wp_lcM (fun a => some (g a)) h]; simp
theorem wp_forC {f : α → S → Option (Ctl S R)} {as : List α} {s0 : S} {P : Ctl S R → Prop} (I : Nat → S → Prop) (h0 : I 0 s0) (hs : ∀ i a s, as[i]? = some a → I i s → Wp (f a s) (fun o => match o with | .nx s' => I (i + 1) s' | .brk s' => P (.nx s') | .ret r => P (.ret r))) (hd : ∀ s, I as.length s → P (.nx s)) : Wp (forC f as s0) P := by
  have gen : ∀ (bs : List α) (i : Nat) (s : S), (∀ j a, bs[j]? = some a → as[i + j]? = some a) → i + bs.length = as.length → I i s → Wp (forC f bs s) P := by
    intro bs
    induction bs with
    | nil => intro i s _ e h; exact ⟨_, rfl, hd s (by rw [← e]; exact h)⟩
    | cons b bs ih =>
      intro i s hb e h
      refine (hs i b s (hb 0 b rfl) h).bind fun o h' => ?_
      cases o with
      | nx s' => exact ih (i + 1) s' (fun j a ha => by have := hb (j + 1) a ha; rw [show i + 1 + j = i + (j + 1) by omega]; exact this) (by rw [List.length_cons] at e; omega) h'
      | brk s' => exact ⟨_, rfl, h'⟩
      | ret r => exact ⟨_, rfl, h'⟩
  exact gen as 0 s0 (fun j a h => by rw [Nat.zero_add]; exact h) (Nat.zero_add _) h0
theorem wp_whC {f : S → Option (Ctl S R)} {s0 : S} {n : Nat} {P : Ctl S R → Prop} (I : S → Prop) (μ : S → Nat) (h0 : I s0) (hn : μ s0 < n) (hs : ∀ s, I s → Wp (f s) (fun o => match o with | .nx s' => I s' ∧ μ s' < μ s | .brk s' => P (.nx s') | .ret r => P (.ret r))) : Wp (whC f n s0) P := by
  induction n generalizing s0 with
  | zero => omega
  | succ n ih =>
    refine (hs s0 h0).bind fun o h' => ?_
    cases o with
    | nx s' => exact ih h'.1 (by omega)
    | brk s' => exact ⟨_, rfl, h'⟩
    | ret r => exact ⟨_, rfl, h'⟩
theorem wp_atI {xs : List α} {i : Int} (h0 : 0 ≤ i) (h1 : i < xs.length) : Wp (atI xs i) (fun x => xs[i.toNat]? = some x) := by
  unfold atI ixN
  rw [if_pos h0, if_pos h1]
  have : i.toNat < xs.length := by omega
  exact ⟨xs[i.toNat], by simp [this], by simp [this]⟩
theorem wp_atM {xs : List α} {i : Int} (h0 : 0 ≤ i) (h1 : i < xs.length) (h : ∀ x ∈ xs, P x) : Wp (atI xs i) P := (wp_atI h0 h1).mono fun x e => h x (List.mem_of_getElem? e)
theorem rngM_eq {i : Int} (h0 : 0 ≤ i) (h1 : i ≤ 1000000) : rngM i = some ((List.range i.toNat).map fun k => ((k : Nat) : Int)) := by
  unfold rngM BIG
  rw [if_pos ⟨by omega, by omega⟩]
theorem pushM_eq {xs : List α} {x : α} (h : xs.length < 1000000) : pushM xs x = some (xs ++ [x]) := by
  unfold pushM BIG
  rw [if_pos (by omega)]
theorem catM_eq {xs ys : List α} (h : xs.length + ys.length < 1000000) : catM xs ys = some (xs ++ ys) := by
  unfold catM BIG
  rw [if_pos (by omega)]
theorem addS_eq {a b : Str} (h : a.length + b.length < 1000000) : addS a b = some (a ++ b) := by
  unfold addS
  rw [if_pos (by rw [PySem.sizeLine_eq]; omega)]
theorem cutM_eq {z : Str} {lo hi : Option Int} (h : z.length < 1000000) : cutM z lo hi = some (cutS z lo hi) := by
  unfold cutM
  rw [if_pos (by rw [PySem.sizeLine_eq]; omega)]
theorem charsM_eq {z : Str} (h : z.length < 1000000) : charsM z = some (chars z) := by
  unfold charsM BIG
  rw [if_pos (by omega)]
theorem lenS_eq {z : Str} (h : z.length < 1000000) : lenS z = some (z.length : Int) := by
  unfold lenS
  rw [if_pos (by rw [PySem.sizeLine_eq]; omega)]
theorem modM_eq {i j : Int} (h : 0 < j) : modM i j = some (i % j) := by unfold modM; rw [if_pos h]
theorem insM_eq {xs : List α} {i : Int} {x : α} (h0 : 0 ≤ i) (h1 : i < 1000000) (hl : xs.length < 1000000) : insM xs i x = some (xs.take i.toNat ++ [x] ++ xs.drop i.toNat) := by
  unfold insM BIG
  rw [if_pos ⟨h0, by omega, by omega⟩]
theorem fcat_eq {a b : Str} (h : a.length + b.length < 1000000) : fcat a b = some (a ++ b) := by
  unfold fcat
  rw [if_pos (by rw [PySem.sizeLine_eq, Str.length_append]; omega)]
theorem fmtS_eq {a : Str} (h : a.length < 1000000) : fmtS a = some a := by
  unfold fmtS
  rw [if_pos (by rw [PySem.sizeLine_eq]; omega)]
theorem nsetM_eq {xs : List Str} (h : xs.length < 4000) (h2 : (addAll xs).length < 64) : nsetM xs = some (nset xs) := by
  unfold nsetM
  rw [if_pos ⟨by omega, h2⟩]
theorem Src3.ok.le {s : Src3} {n m : Int} (h : s.ok n) (e : n ≤ m) : s.ok m := ⟨h.1, h.2.1, h.2.2.1, by have := h.2.2.2; omega⟩
theorem wp_draw {s : Src3} {n m : Int} (h : s.ok n) (hn : n < 1000000000) (h0 : 0 < m) (h1 : m < 1000000) : Wp (m_draw s m) (fun r => 0 ≤ r.1 ∧ r.1 < m ∧ r.2.ok (n + 1)) := by
  obtain ⟨v, s', e, a, b, c⟩ := draw_ok h hn h0 (Int.lt_trans h1 (by decide))
  exact ⟨_, e, a, b, c⟩
theorem all_true {as : List α} {f : α → Bool} (h : ∀ a ∈ as, f a = true) : ((as.map f).all id) = true := by
  rw [List.all_map, List.all_eq_true]; exact h
theorem any_false {bs : List Bool} (h : ∀ b ∈ bs, b = false) : (bs.any id) = false := by
  rw [List.any_eq_false]; intro b hb; simp [h b hb]
end
end Mf

namespace Mf
open PySem L2 PyProof.Rows
/-! ### defs with defaults -/
def DefAtD (K : PySem.W.Frag) (mg : Str → Option Value) (x : Str) (st : Stmt) (dvs : List V) (kws : List (Str × V)) : Prop := ∃ f fd, FunD K x x (defArgs st) (defBody st) (defScope st) dvs kws f fd ∧ mg x = some (.ref f)
def CoreD (P : Program) (w : World) (K : PySem.W.Frag) (mg : Str → Option Value) (base : Heap) (CX : CXT) (lv : Nat) (x : Str) (st : Stmt) (dvs : List V) (kws : List (Str × V)) (ps : List Str) (sp : Sp) : Prop :=
  ∃ f fd, FnOk P w K mg base CX lv f fd ps sp ∧ FunD K x x (defArgs st) (defBody st) (defScope st) dvs kws f fd ∧ mg x = some (.ref f)
def DoesD (P : Program) (w : World) (K : PySem.W.Frag) (mg : Str → Option Value) (base : Heap) (CX : CXT) (lv : Nat) (x : Str) (ps : List Str) (dvs : List V) (sp : Sp) : Prop :=
  ∃ f fd ds, FnOk P w K mg base CX lv f fd ps sp ∧ mg x = some (.ref f) ∧ PySem.W.keepIn K (.ref f) = true ∧ Binds K fd ps ds ∧ Vals dvs ds
def MkAtD (K : PySem.W.Frag) (C : Addr) (q : Str) (st : Stmt) (dvs : List V) (kws : List (Str × V)) : Prop := ∃ f fd, FunD K "__init__" q (defArgs st) (defBody st) (defScope st) dvs kws f fd ∧ Mk K C f
def CoreI (P : Program) (w : World) (K : PySem.W.Frag) (mg : Str → Option Value) (base : Heap) (CX : CXT) (lv : Nat) (x : Str) (C : Addr) (q : Str) (st : Stmt) (dvs : List V) (kws : List (Str × V)) (ps : List Str) (sp : Sp) : Prop :=
  ∃ f fd, FnOk P w K mg base CX lv f fd ps sp ∧ FunD K "__init__" q (defArgs st) (defBody st) (defScope st) dvs kws f fd ∧ Mk K C f ∧ mg x = some (.ref C)
section
variable {P : Program} {w : World} {K : PySem.W.Frag} {mg : Str → Option Value} {base : Heap} {CX : CXT} {lv : Nat} {x q : Str} {st : Stmt} {dvs : List V} {kws : List (Str × V)} {ps : List Str} {sp : Sp} {C : Addr}
theorem CoreD.form (h : CoreD P w K mg base CX lv x st dvs kws ps sp) (n j : Nat) (hd : dvs ≠ []) (hn : n + (dvs.length - j) = ps.length)
    (hb : ∀ (T : Addr) (kV doc pm : Value) (an : Option Addr) (cdv ct : Value) (us its : List Value), us.length = n → its.length = dvs.length →
      ∃ k, bindArgs (PySem.W.fnOf x x (defArgs st) (defBody st) (defScope st) (.ref T) kV doc pm an cdv ct) ⟨us, []⟩ = seqItems? (.ref T) >>= k ∧ k (some its.toArray) = pure (ps.zip (us ++ its.drop j))) : DoesD P w K mg base CX lv x ps (dvs.drop j) sp := by
  obtain ⟨f, fd, F, A, g⟩ := h
  obtain ⟨ds, v, b⟩ := A.binds1 n j hd hn hb
  exact ⟨f, fd, ds, F, g, A.kp, b, v⟩
theorem CoreI.form (h : CoreI P w K mg base CX lv x C q st dvs kws ps sp) (n j : Nat) (hd : dvs ≠ []) (hn : n + (dvs.length - j) = ps.length)
    (hb : ∀ (T : Addr) (kV doc pm : Value) (an : Option Addr) (cdv ct : Value) (us its : List Value), us.length = n → its.length = dvs.length →
      ∃ k, bindArgs (PySem.W.fnOf "__init__" q (defArgs st) (defBody st) (defScope st) (.ref T) kV doc pm an cdv ct) ⟨us, []⟩ = seqItems? (.ref T) >>= k ∧ k (some its.toArray) = pure (ps.zip (us ++ its.drop j))) : MkDoes P w K mg base CX lv x C ps (dvs.drop j) sp := by
  obtain ⟨f, fd, F, A, M, g⟩ := h
  obtain ⟨ds, v, b⟩ := A.binds1 n j hd hn hb
  exact ⟨f, fd, ds, M, F, b, v, g⟩
theorem tupC0 {α : Type} {R : Rl α} {T : Addr} {B : Hp} (h : ∀ H, SqT K H T []) : (dTup K R).rel B [] (.ref T) := ⟨T, [], rfl, h _, .nil, Nat.zero_le _⟩
/-- sorted(list of texts) -/
def srtM (xs : List Str) : Option (List Str) := if xs.length < 64 then some (srt xs) else none
theorem q_sortS {Φ : Fr} {B H : Hp} {cs : List (Addr × HO)} {Q : VK} {v : V} {xs ys : List Str} (Z : Sit Φ B H cs) (h : (dList dStr).rel B xs v) (hm : srtM xs = some ys) (k : ∀ v B' H', Sit Φ B' H' cs → Same B B' → (dList dStr).rel B' ys v → Q v H') : rSortedS K [v] H Q := by
  unfold srtM at hm
  by_cases c : xs.length < 64
  · rw [if_pos c] at hm; cases hm
    obtain ⟨p, vs, rfl, h, f, _⟩ := h
    cases fa_str f
    refine w_sort (SqL.of (Z.sub _ _ h)) c fun ys q pm so np => ?_
    have e : ys = srt xs := sorted_is pm so
    subst e
    exact k _ _ _ (Z.put np) (Z.updB np) ⟨q, _, rfl, upd_same, strs_fa, by rw [srt_len]; unfold BIG; omega⟩
  · rw [if_neg c] at hm; cases hm
end
section
variable {α : Type} {K : PySem.W.Frag} {R : Rl α} {B H : Hp} {σ : L2.St} {Q : VK} {QA : List V → Hp → Prop} {v w : V} {te : TE} {t : TA} {xs ys : List α} {vs : List V}
def FldQ (K : PySem.W.Frag) (f : Str) (Q : VK) (x : V) (H : Hp) : Prop := ∃ a C dx fs v, x = .ref a ∧ H a = some (.ins C dx fs) ∧ Cls K C ∧ NoAttr K C f ∧ fs.lookup f = some v ∧ Q v H
theorem x_fld {f : Str} (g : te σ H fun x H1 => FldQ K f Q x H1) : tFld K te f σ H Q := g
theorem q_fld {f : Str} (h : ∃ a C dx fs, v = .ref a ∧ H a = some (.ins C dx fs) ∧ Cls K C ∧ NoAttr K C f ∧ fs.lookup f = some w) (g : Q w H) : FldQ K f Q v H := let ⟨a, C, dx, fs, e, h1, h2, h3, h4⟩ := h; ⟨a, C, dx, fs, w, e, h1, h2, h3, h4, g⟩
def StQ (K : PySem.W.Frag) (t : TA) (σ : L2.St) (QA : List V → Hp → Prop) (x : V) (H : Hp) : Prop := ∃ p xs, x = V.ref p ∧ (SqT K H p xs ∨ SqL K H p xs) ∧ t σ H fun ys H2 => QA (xs ++ ys) H2
theorem x_star (g : te σ H fun x H1 => StQ K t σ QA x H1) : StX.tStar K te t σ H QA := g
theorem q_star (h : Sq K R B H xs v) (g : ∀ vs, Fa (R.rel B) xs vs → t σ H fun ys H2 => QA (vs ++ ys) H2) : StQ K t σ QA v H := by
  obtain ⟨p, vs, rfl, h, f, _⟩ := h
  exact ⟨p, vs, rfl, h.symm, g vs f⟩
theorem q_tupT (h : (dTup K R).rel H xs v) (g : Q v H) : rTupT K [v] H Q := by
  obtain ⟨p, vs, rfl, h, f, l⟩ := h
  exact ⟨p, vs, rfl, h, g⟩
def capM (xs : List α) : Option (List α) := if xs.length ≤ BIG then some xs else none
theorem capM_some (h : capM xs = some ys) : xs = ys ∧ ys.length ≤ BIG := by
  unfold capM at h
  by_cases e : xs.length ≤ BIG
  · rw [if_pos e] at h; cases h; exact ⟨rfl, e⟩
  · rw [if_neg e] at h; cases h
theorem capM_fa (h : capM xs = some ys) (f : Fa (R.rel B) xs vs) : Fa (R.rel B) ys vs := by rw [← (capM_some h).1]; exact f
theorem capM_le (h : capM xs = some ys) : ys.length ≤ BIG := (capM_some h).2
theorem capM_eq (h : xs.length < 1000000) : capM xs = some xs := by unfold capM BIG; rw [if_pos (by omega)]
end
end Mf

namespace Mf
open PySem L2 PyProof.Rows
/-! ### which procedures lead to which other ones -/
theorem dGet_mem {α : Type} {ps : List (Str × α)} {p : Str × α} (nd : (ps.map Prod.fst).Nodup) (h : p ∈ ps) : dGet ps p.1 = some p.2 := by
  unfold dGet
  induction ps with
  | nil => cases h
  | cons q ps ih =>
    rw [List.map_cons, List.nodup_cons] at nd
    by_cases e : q.1 = p.1
    · rcases List.mem_cons.mp h with rfl | h
      · simp
      · exact absurd (by rw [e]; exact List.mem_map.mpr ⟨p, h, rfl⟩) nd.1
    · rcases List.mem_cons.mp h with rfl | h
      · exact absurd rfl e
      · simp [List.find?_cons, e]
        have := ih nd.2 h
        simpa using this
def bodyOf (ps : List Prc) (x : Str) : List Stp := (dGet ps x).getD []
theorem body_of {ps : List Prc} (hg : Good ps) {x : Str} (h : x ∈ nms ps) : dGet ps x = some (bodyOf ps x) ∧ (x, bodyOf ps x) ∈ ps := by
  obtain ⟨p, hp, rfl⟩ := List.mem_map.mp h
  have e := dGet_mem hg.nd hp
  have eb : bodyOf ps p.1 = p.2 := by unfold bodyOf; rw [e]; rfl
  rw [eb]
  exact ⟨e, hp⟩
def nexts (ps : List Prc) (ks st : List Str) (x : Str) : List Str := (bodyOf ps x).filterMap fun s => if s.1 ∈ ks ∧ s.2 ∉ st then some s.2 else none
inductive Rch (ps : List Prc) (ks st S : List Str) : Str → Prop
  | start {x : Str} : x ∈ S → x ∉ st → Rch ps ks st S x
  | step {x y : Str} : Rch ps ks st S x → y ∈ nexts ps ks st x → Rch ps ks st S y
def sprStep (ps : List Prc) (ks st : List Str) (s : List Str × List Str) : Ctl (List Str × List Str) (List Str) := match s.1.getLast? with
  | none => .brk s
  | some x => if x ∈ s.2 then .nx (s.1.dropLast, s.2) else .nx (s.1.dropLast ++ nexts ps ks st x, s.2 ++ [x])
theorem nexts_len {ps : List Prc} (hg : Good ps) {ks st : List Str} {x : Str} (h : x ∈ nms ps) : (nexts ps ks st x).length ≤ 12 := by
  refine Nat.le_trans (List.length_filterMap_le _ _) ?_
  exact hg.short _ (body_of hg h).2
theorem mem_nexts {ps : List Prc} {ks st : List Str} {x y : Str} : y ∈ nexts ps ks st x ↔ ∃ k, k ∈ ks ∧ (k, y) ∈ bodyOf ps x ∧ y ∉ st := by
  unfold nexts
  rw [List.mem_filterMap]
  constructor
  · rintro ⟨s, hs, e⟩
    by_cases c : s.1 ∈ ks ∧ s.2 ∉ st
    · rw [if_pos c] at e; cases e; exact ⟨s.1, c.1, hs, c.2⟩
    · rw [if_neg c] at e; cases e
  · rintro ⟨k, hk, hm, hn⟩
    exact ⟨(k, y), hm, by rw [if_pos ⟨hk, hn⟩]⟩
theorem nexts_sub {ps : List Prc} (hg : Good ps) {ks st : List Str} (hk : ∀ k ∈ ks, k ∈ calls) {x y : Str} (hx : x ∈ nms ps) (h : y ∈ nexts ps ks st x) : y ∈ nms ps := by
  obtain ⟨k, hk', hm, _⟩ := mem_nexts.mp h
  exact (hg.step _ (body_of hg hx).2 _ hm).2.2 (hk k hk')
structure SprI (ps : List Prc) (ks st S : List Str) (s : List Str × List Str) : Prop where
  nd : s.2.Nodup
  fs : ∀ x ∈ s.2, x ∈ nms ps
  ws : ∀ x ∈ s.1, x ∈ nms ps
  rw' : ∀ x ∈ s.1, Rch ps ks st S x
  rf' : ∀ x ∈ s.2, Rch ps ks st S x
  st' : ∀ x ∈ S, x ∉ st → x ∈ s.1 ∨ x ∈ s.2
  cl : ∀ x ∈ s.2, ∀ y ∈ nexts ps ks st x, y ∈ s.1 ∨ y ∈ s.2
  len : s.1.length + 13 * (16 - s.2.length) ≤ 16 + 13 * 16
theorem getLast_split {α : Type} {xs : List α} {x : α} (h : xs.getLast? = some x) : xs = xs.dropLast ++ [x] := by
  cases xs with
  | nil => cases h
  | cons a l =>
    rw [List.getLast?_eq_some_getLast (by simp)] at h
    injection h with h
    rw [← h]
    exact (List.dropLast_concat_getLast (by simp)).symm
def sprMu (s : List Str × List Str) : Nat := s.1.length + 13 * (16 - s.2.length)
theorem spr_step {ps : List Prc} (hg : Good ps) {ks st S : List Str} (hk : ∀ k ∈ ks, k ∈ calls) {s : List Str × List Str} (h : SprI ps ks st S s) :
    match sprStep ps ks st s with
    | .nx s' => SprI ps ks st S s' ∧ sprMu s' < sprMu s
    | .brk s' => s' = s ∧ s.1 = []
    | .ret _ => False := by
  unfold sprStep
  cases e : s.1.getLast? with
  | none => exact ⟨rfl, List.getLast?_eq_none_iff.mp e⟩
  | some x =>
    have es := getLast_split e
    have hx : x ∈ s.1 := by rw [es]; simp
    have hxn := h.ws x hx
    have hd : ∀ y ∈ s.1.dropLast, y ∈ s.1 := fun y hy => by rw [es]; exact List.mem_append_left _ hy
    have hl : s.1.length = s.1.dropLast.length + 1 := by
      conv => lhs; rw [es]
      simp
    have hor : ∀ y ∈ s.1, y ∈ s.1.dropLast ∨ y = x := fun y hy => by
      rw [es] at hy
      rcases List.mem_append.mp hy with z | z
      · exact .inl z
      · exact .inr (List.mem_singleton.mp z)
    have hlen := h.len
    by_cases c : x ∈ s.2
    · simp only [c, if_true]
      refine ⟨⟨h.nd, h.fs, fun y hy => h.ws y (hd y hy), fun y hy => h.rw' y (hd y hy), h.rf', fun y hy hn => ?_, fun a ha y hy => ?_, ?_⟩, ?_⟩
      · rcases h.st' y hy hn with z | z
        · rcases hor y z with z | rfl
          · exact .inl z
          · exact .inr c
        · exact .inr z
      · rcases h.cl a ha y hy with z | z
        · rcases hor y z with z | rfl
          · exact .inl z
          · exact .inr c
        · exact .inr z
      · show s.1.dropLast.length + 13 * (16 - s.2.length) ≤ _
        omega
      · show s.1.dropLast.length + 13 * (16 - s.2.length) < s.1.length + 13 * (16 - s.2.length)
        omega
    · simp only [c, if_false]
      have hr := h.rw' x hx
      have nl := nexts_len hg (ks := ks) (st := st) hxn
      have nd2 : (s.2 ++ [x]).Nodup := by
        rw [List.nodup_append]
        exact ⟨h.nd, by simp, fun a ha b hb => by rw [List.mem_singleton.mp hb]; rintro rfl; exact c ha⟩
      have fs2 : ∀ y ∈ s.2 ++ [x], y ∈ nms ps := fun y hy => by
        rcases List.mem_append.mp hy with z | z
        · exact h.fs y z
        · rw [List.mem_singleton.mp z]; exact hxn
      have f16 : s.2.length + 1 ≤ 16 := by
        have := nodup_le nd2 fs2
        rw [List.length_append] at this
        have h16 := hg.few
        unfold nms at this
        rw [List.length_map] at this
        simp at this
        omega
      refine ⟨⟨nd2, fs2, fun y hy => ?_, fun y hy => ?_, fun y hy => ?_, fun y hy hn => ?_, fun a ha y hy => ?_, ?_⟩, ?_⟩
      · rcases List.mem_append.mp hy with z | z
        · exact h.ws y (hd y z)
        · exact nexts_sub hg hk hxn z
      · rcases List.mem_append.mp hy with z | z
        · exact h.rw' y (hd y z)
        · exact .step hr z
      · rcases List.mem_append.mp hy with z | z
        · exact h.rf' y z
        · rw [List.mem_singleton.mp z]; exact hr
      · rcases h.st' y hy hn with z | z
        · rcases hor y z with z | rfl
          · exact .inl (List.mem_append_left _ z)
          · exact .inr (by simp)
        · exact .inr (List.mem_append_left _ z)
      · rcases List.mem_append.mp ha with z | z
        · rcases h.cl a z y hy with z | z
          · rcases hor y z with z | rfl
            · exact .inl (List.mem_append_left _ z)
            · exact .inr (by simp)
          · exact .inr (List.mem_append_left _ z)
        · rw [List.mem_singleton.mp z] at hy
          exact .inl (List.mem_append_right _ hy)
      · show (s.1.dropLast ++ nexts ps ks st x).length + 13 * (16 - (s.2 ++ [x]).length) ≤ _
        rw [List.length_append, List.length_append]
        simp only [List.length_cons, List.length_nil]
        omega
      · show (s.1.dropLast ++ nexts ps ks st x).length + 13 * (16 - (s.2 ++ [x]).length) < s.1.length + 13 * (16 - s.2.length)
        rw [List.length_append, List.length_append]
        simp only [List.length_cons, List.length_nil]
        omega
theorem whC_congr {S R : Type} {f g : S → Option (Ctl S R)} (I : S → Prop) (he : ∀ s, I s → f s = g s) (hI : ∀ s s', I s → g s = some (.nx s') → I s') : ∀ (n : Nat) (s : S), I s → whC f n s = whC g n s
  | 0, _, _ => rfl
  | n + 1, s, h => by
    unfold whC
    rw [he s h]
    cases e : g s with
    | none => rfl
    | some o =>
      cases o with
      | nx s' => exact whC_congr I he hI n s' (hI s s' h e)
      | brk s' => rfl
      | ret r => rfl
/-- what the walk finds: each once, just what is reached -/
structure Found (ps : List Prc) (ks st S f : List Str) : Prop where
  nd : f.Nodup
  sub : ∀ x ∈ f, x ∈ nms ps
  mem : ∀ x, x ∈ f ↔ Rch ps ks st S x
theorem spr_found {ps : List Prc} (hg : Good ps) {ks st S : List Str} (hk : ∀ k ∈ ks, k ∈ calls) (hS : ∀ x ∈ S, x ∈ nms ps) (hl : S.length ≤ 16) :
    ∃ f, Found ps ks st S f ∧ ∀ g : List Str × List Str → Option (Ctl (List Str × List Str) (List Str)), (∀ s, SprI ps ks st S s → g s = some (sprStep ps ks st s)) → whC g FUEL (S.filter (fun x => decide (x ∉ st)), []) = some (.nx ([], f)) := by
  have h0 : SprI ps ks st S (S.filter (fun x => decide (x ∉ st)), []) := by
    refine ⟨List.nodup_nil, by simp, fun x hx => hS x (List.mem_filter.mp hx).1, fun x hx => ?_, by simp, fun x hx hn => .inl (List.mem_filter.mpr ⟨hx, by simpa using hn⟩), by simp, ?_⟩
    · have := List.mem_filter.mp hx
      exact .start this.1 (by simpa using this.2)
    · show (S.filter _).length + 13 * (16 - 0) ≤ _
      have := List.length_filter_le (fun x => decide (x ∉ st)) S
      omega
  obtain ⟨c, hc, s1, rfl, hI, hw⟩ : Wp (whC (fun s => some (sprStep ps ks st s)) FUEL (S.filter (fun x => decide (x ∉ st)), [])) (fun c => ∃ s, c = .nx s ∧ SprI ps ks st S s ∧ s.1 = []) := by
    refine wp_whC (SprI ps ks st S) sprMu h0 ?_ fun s h => ⟨_, rfl, ?_⟩
    · have := h0.len
      show (S.filter _).length + 13 * (16 - 0) < 1000000
      have := List.length_filter_le (fun x => decide (x ∉ st)) S
      omega
    · have := spr_step hg hk h
      cases e : sprStep ps ks st s with
      | nx s' => rw [e] at this; exact this
      | brk s' => rw [e] at this; obtain ⟨rfl, hw⟩ := this; exact ⟨_, rfl, h, hw⟩
      | ret r => rw [e] at this; exact this.elim
  obtain ⟨w, f⟩ := s1
  simp only at hw
  subst hw
  refine ⟨f, ⟨hI.nd, hI.fs, fun x => ⟨hI.rf' x, fun hr => ?_⟩⟩, fun g hg' => ?_⟩
  · induction hr with
    | start h1 h2 =>
      rcases hI.st' _ h1 h2 with z | z
      · cases z
      · exact z
    | step _ h2 ih =>
      rcases hI.cl _ ih _ h2 with z | z
      · cases z
      · exact z
  · rw [← hc]
    refine whC_congr (SprI ps ks st S) hg' (fun s s' h e => ?_) _ _ h0
    injection e with e
    have := spr_step hg hk h
    rw [e] at this
    exact this.1
/-- one turn of such a walk, however the next ones are got -/
theorem spr_turn {ρ : Type} {ps : List Prc} (hg : Good ps) {ks st S : List Str} {F : Str → Option ρ} {G : ρ → List Str} (hF : ∀ x ∈ nms ps, ∃ r, F x = some r ∧ G r = nexts ps ks st x) {s : List Str × List Str} (h : SprI ps ks st S s) :
    (if (decide ((0 : Int) < (s.1.length : Int))) = true then (s.1.getLast?).bind fun x => if (!decide (x ∈ s.2)) = true then (pushM s.2 x).bind fun f => (F x).bind fun r => (catM s.1.dropLast (G r)).bind fun w => some (.nx (w, f)) else some (.nx (s.1.dropLast, s.2)) else some (.brk (s.1, s.2))) = some (sprStep ps ks st s) := by
  obtain ⟨w, f⟩ := s
  unfold sprStep
  simp only
  cases e : w.getLast? with
  | none =>
    have : w = [] := List.getLast?_eq_none_iff.mp e
    subst this
    rfl
  | some x =>
    have es := getLast_split e
    have hx : x ∈ w := by rw [es]; simp
    have hxn := h.ws x hx
    have hl : 0 < w.length := by rw [es]; simp
    have hlen := h.len
    simp only at hlen
    rw [if_pos (decide_eq_true (by omega)), Option.bind_some]
    dsimp only
    by_cases c : x ∈ f
    · rw [if_neg (by simp [c]), if_pos c]
    · rw [if_pos (by simp [c]), if_neg c]
      obtain ⟨r, e1, e2⟩ := hF x hxn
      have fl : f.length ≤ 16 := by
        have := nodup_le h.nd h.fs
        have h16 := hg.few
        unfold nms at this
        rw [List.length_map] at this
        exact Nat.le_trans this h16
      have nl := nexts_len hg (ks := ks) (st := st) hxn
      have hd : w.dropLast.length ≤ w.length := by rw [List.length_dropLast]; omega
      rw [pushM_eq (by omega), Option.bind_some, e1, Option.bind_some, e2, catM_eq (by omega)]
      rfl
open Classical in
/-- the procedures that are reached, ascending -/
noncomputable def rset (ps : List Prc) (ks st S : List Str) : List Str := nset ((nms ps).filter fun x => decide (Rch ps ks st S x))
theorem mem_rset {ps : List Prc} {ks st S : List Str} {x : Str} : x ∈ rset ps ks st S ↔ x ∈ nms ps ∧ Rch ps ks st S x := by
  unfold rset
  rw [mem_nset, List.mem_filter]
  simp
theorem Found.nset {ps : List Prc} {ks st S f : List Str} (h : Found ps ks st S f) : nset f = rset ps ks st S := by
  unfold rset
  refine nset_congr fun z => ?_
  rw [List.mem_filter]
  exact ⟨fun m => ⟨h.sub z m, by simpa using (h.mem z).mp m⟩, fun m => (h.mem z).mpr (by simpa using m.2)⟩
theorem Found.len {ps : List Prc} (hg : Good ps) {ks st S f : List Str} (h : Found ps ks st S f) : f.length ≤ 16 := by
  have := nodup_le h.nd h.sub
  have h16 := hg.few
  unfold nms at this
  rw [List.length_map] at this
  exact Nat.le_trans this h16
theorem rset_sub {ps : List Prc} {ks st S : List Str} {x : Str} (h : x ∈ rset ps ks st S) : x ∈ nms ps := (mem_rset.mp h).1
theorem rset_oks {ps : List Prc} (hg : Good ps) {ks st S : List Str} : Oks (rset ps ks st S) := fun x hx => hg.oks x (rset_sub hx)
theorem rch_sub {ps : List Prc} (hg : Good ps) {ks st S : List Str} (hk : ∀ k ∈ ks, k ∈ calls) (hS : ∀ x ∈ S, x ∈ nms ps) {x : Str} (h : Rch ps ks st S x) : x ∈ nms ps := by
  induction h with
  | start h1 _ => exact hS _ h1
  | step _ h2 ih => exact nexts_sub hg hk ih h2
theorem rch_congr {ps : List Prc} {ks st S S' : List Str} (h : ∀ x, x ∈ S ↔ x ∈ S') {x : Str} : Rch ps ks st S x ↔ Rch ps ks st S' x := by
  constructor
  · intro r
    induction r with
    | start h1 h2 => exact .start ((h _).mp h1) h2
    | step _ h2 ih => exact .step ih h2
  · intro r
    induction r with
    | start h1 h2 => exact .start ((h _).mpr h1) h2
    | step _ h2 ih => exact .step ih h2
theorem rset_congr {ps : List Prc} {ks st S S' : List Str} (h : ∀ x, x ∈ S ↔ x ∈ S') : rset ps ks st S = rset ps ks st S' := by
  unfold rset
  refine nset_congr fun z => ?_
  rw [List.mem_filter, List.mem_filter]
  simp only [decide_eq_true_iff]
  rw [rch_congr h]
theorem names_few {ps : List Prc} (hg : Good ps) {xs : List Str} (h : ∀ x ∈ xs, x ∈ nms ps) : (addAll xs).length ≤ 16 := by
  have := nodup_le (addAll_nodup xs) (fun z hz => h z (mem_addAll.mp hz))
  have h16 := hg.few
  unfold nms at this
  rw [List.length_map] at this
  exact Nat.le_trans this h16
theorem fm_notin (xs st : List Str) : (xs.filterMap fun (a : Str) => if (!decide (a ∈ st)) = true then some a else none) = xs.filter (fun x => decide (x ∉ st)) := by
  induction xs with
  | nil => rfl
  | cons x xs ih =>
    by_cases c : x ∈ st
    · simp [List.filterMap_cons, c] at ih ⊢; exact ih
    · simp [List.filterMap_cons, c] at ih ⊢; exact ih
theorem srtM_eq {xs : List Str} (h : xs.length < 64) : srtM xs = some (srt xs) := by unfold srtM; rw [if_pos h]
theorem eq_strsT {xs ys : List Str} (h1 : Oks xs) (h2 : Oks ys) : eqD (PyData.tuple (xs.map PyData.str)) (PyData.tuple (ys.map PyData.str)) = some (decide (xs = ys)) := by
  unfold eqD
  rw [if_pos ⟨shaped_strsT h1, shaped_strsT h2⟩, eqv_strsT]
theorem eq_strsL {xs ys : List Str} (h1 : Oks xs) (h2 : Oks ys) : eqD (PyData.list (xs.map PyData.str)) (PyData.list (ys.map PyData.str)) = some (decide (xs = ys)) := by
  unfold eqD
  rw [if_pos ⟨shaped_strsL h1, shaped_strsL h2⟩, eqv_strsL]
def ALLK : List Str := [Str.ofString "call", Str.ofString "try"]
def HARDK : List Str := [Str.ofString "call"]
theorem allk_calls : ∀ k ∈ ALLK, k ∈ calls := by decide +kernel
theorem hardk_calls : ∀ k ∈ HARDK, k ∈ calls := by decide +kernel
section
variable {ps : List Prc} {ks ks' st S S' : List Str} {x y : Str}
theorem rch_mono (h : ∀ x ∈ S, x ∈ S') (r : Rch ps ks st S x) : Rch ps ks st S' x := by
  induction r with
  | start h1 h2 => exact .start (h _ h1) h2
  | step _ h2 ih => exact .step ih h2
theorem rch_trans (r : Rch ps ks st S y) (r' : Rch ps ks st [y] x) : Rch ps ks st S x := by
  induction r' with
  | start h1 h2 => rw [List.mem_singleton.mp h1]; exact r
  | step _ h2 ih => exact .step ih h2
theorem rch_one (r : Rch ps ks st S x) : ∃ y ∈ S, Rch ps ks st [y] x := by
  induction r with
  | start h1 h2 => exact ⟨_, h1, .start (by simp) h2⟩
  | step _ h2 ih => obtain ⟨y, hy, r⟩ := ih; exact ⟨y, hy, .step r h2⟩
theorem rch_bind (r : Rch ps ks st S' x) (h : ∀ y ∈ S', Rch ps ks st S y) : Rch ps ks st S x := by
  obtain ⟨y, hy, r⟩ := rch_one r
  exact rch_trans (h y hy) r
theorem rch_kinds (h : ∀ k ∈ ks, k ∈ ks') (r : Rch ps ks st S x) : Rch ps ks' st S x := by
  induction r with
  | start h1 h2 => exact .start h1 h2
  | step _ h2 ih =>
    obtain ⟨k, hk, hm, hn⟩ := mem_nexts.mp h2
    exact .step ih (mem_nexts.mpr ⟨k, h k hk, hm, hn⟩)
theorem hard_all : ∀ k ∈ HARDK, k ∈ ALLK := by decide +kernel
end
end Mf

namespace Mf
open PySem L2 PyProof.Rows
/-! ### calls with keywords -/
def DoesN (P : Program) (w : World) (K : PySem.W.Frag) (mg : Str → Option Value) (base : Heap) (CX : CXT) (lv : Nat) (x : Str) (ps : List Str) (n : Nat) (ks : List Str) (gV : List V → List V → List V) (sp : Sp) : Prop :=
  ∃ f fd g, FnOk P w K mg base CX lv f fd ps sp ∧ mg x = some (.ref f) ∧ PySem.W.keepIn K (.ref f) = true ∧ KBn K fd ps n ks g gV
def MkN (P : Program) (w : World) (K : PySem.W.Frag) (mg : Str → Option Value) (base : Heap) (CX : CXT) (lv : Nat) (x : Str) (C : Addr) (ps : List Str) (n : Nat) (ks : List Str) (gV : List V → List V → List V) (sp : Sp) : Prop :=
  ∃ f fd g, Mk K C f ∧ FnOk P w K mg base CX lv f fd ps sp ∧ mg x = some (.ref C) ∧ KBn K fd ps n ks g gV
/-- the values behind the positional ones: from the lacking ones (false) or the given ones (true) -/
def arrs {α : Type} (mv ws : List α) : List (Bool × Nat) → List α
  | [] => []
  | (true, i) :: r => (ws.drop i).take 1 ++ arrs mv ws r
  | (false, i) :: r => (mv.drop i).take 1 ++ arrs mv ws r
theorem vals_take {vs : List V} {us : List Value} (h : Vals vs us) : Vals (vs.take 1) (us.take 1) := by
  cases h with
  | nil => exact .nil
  | cons r _ => exact .cons r .nil
theorem arrs_rel {mz zs : List V} {mv ws : List Value} (h1 : Vals mz mv) (h2 : Vals zs ws) : ∀ l, Vals (arrs mz zs l) (arrs mv ws l)
  | [] => .nil
  | (true, i) :: r => (vals_take (h2.drop i)).append (arrs_rel h1 h2 r)
  | (false, i) :: r => (vals_take (h1.drop i)).append (arrs_rel h1 h2 r)
def kwV (dv : List V) (l : List (Bool × Nat)) (vs zs : List V) : List V := vs ++ arrs dv zs l
section
variable {P : Program} {w : World} {K : PySem.W.Frag} {mg : Str → Option Value} {base : Heap} {CX : CXT} {lv : Nat} {x q : Str} {st : Stmt} {dvs : List V} {kws : List (Str × V)} {ps : List Str} {sp : Sp} {C : Addr}
/-- keyword-only defaults alone, none given -/
theorem CoreD.form0 (h : CoreD P w K mg base CX lv x st [] kws ps sp) (n : Nat) (hk : kws ≠ []) (hn : n + kws.length = ps.length)
    (hb : ∀ (D : Addr) (doc pm : Value) (an : Option Addr) (cdv ct : Value) (us ks : List Value), us.length = n → ks.length = kws.length →
      KwChain D ((kws.map (·.1)).zip ks) (bindArgs (PySem.W.fnOf x x (defArgs st) (defBody st) (defScope st) .none (.ref D) doc pm an cdv ct) ⟨us, []⟩) (ps.zip (us ++ ks))) : DoesD P w K mg base CX lv x ps (kws.map (·.2)) sp := by
  obtain ⟨f, fd, F, A, g⟩ := h
  obtain ⟨ds, v, b⟩ := A.binds0 n hk hn hb
  exact ⟨f, fd, ds, F, g, A.kp, b, v⟩
/-- keyword-only defaults alone; ms lack -/
theorem CoreD.formN (h : CoreD P w K mg base CX lv x st [] kws ps sp) (n : Nat) (ks : List Str) (ms : List (Str × V)) (l : List (Bool × Nat)) (hk : kws ≠ []) (hms : ∀ q ∈ ms, q ∈ kws)
    (hb : ∀ (D : Addr) (doc pm : Value) (an : Option Addr) (cdv ct : Value) (us mv ws : List Value), us.length = n → mv.length = ms.length → ws.length = ks.length →
      KwChain D ((ms.map (·.1)).zip mv) (bindArgs (PySem.W.fnOf x x (defArgs st) (defBody st) (defScope st) .none (.ref D) doc pm an cdv ct) ⟨us, ks.zip ws⟩) (ps.zip (us ++ arrs mv ws l))) :
    DoesN P w K mg base CX lv x ps n ks (kwV (ms.map (·.2)) l) sp := by
  obtain ⟨f, fd, F, A, g⟩ := h
  obtain ⟨mv, b⟩ := A.kbinds0 n ks ms (fun us mv ws => us ++ arrs mv ws l) hk hms (fun h1 h2 h3 => h1.append (arrs_rel h2 h3 l)) hb
  exact ⟨f, fd, _, F, g, A.kp, b⟩
theorem kw_nil {D : Addr} : ∀ q ∈ ([] : List (Str × V)), ∃ u, PySem.W.nsIn K D q.1 = some (some u) ∧ RelV q.2 u := fun q hq => by cases hq
theorem kw_cons {D : Addr} {y : Str} {v : V} {u : Value} (h : PySem.W.nsIn K D y = some (some u)) (r : RelV v u) (t : ∀ q ∈ kws, ∃ u, PySem.W.nsIn K D q.1 = some (some u) ∧ RelV q.2 u) : ∀ q ∈ (y, v) :: kws, ∃ u, PySem.W.nsIn K D q.1 = some (some u) ∧ RelV q.2 u := by
  intro q hq
  rcases List.mem_cons.mp hq with e | e
  · rw [e]; exact ⟨u, h, r⟩
  · exact t q e
theorem funD_mkK {f D : Addr} {oc : Value} {od an : Option Addr} {osl : Array (Option Value)} {doc pm cdv ct : Value}
    (l : K.lookup f = some ⟨oc, od, .func (PySem.W.fnOf x q (defArgs st) (defBody st) (defScope st) .none (.ref D) doc pm an cdv ct), osl⟩) (c : PySem.W.codeIn K cdv q = true) (k : PySem.W.keepIn K (.ref f) = true)
    (h : ∀ q ∈ kws, ∃ u, PySem.W.nsIn K D q.1 = some (some u) ∧ RelV q.2 u) :
    FunD K x q (defArgs st) (defBody st) (defScope st) [] kws f (PySem.W.fnOf x q (defArgs st) (defBody st) (defScope st) .none (.ref D) doc pm an cdv ct) :=
  ⟨⟨oc, od, .none, .ref D, doc, pm, an, cdv, ct, osl, rfl, l, c, .inl ⟨rfl, rfl⟩, .inr ⟨D, rfl, h⟩⟩, k⟩
end
section
variable {α β : Type} {K : PySem.W.Frag} {R : Rl α} {S : Rl β} {B H : Hp} {σ : L2.St} {Q : VK} {t tk : TA} {sp : Sp} {gV : List V → List V → List V} {E : XK} {n m : Nat} {vs zs : List V} {v w : V} {as : List α} {bs : List β}
def KwZ (n m : Nat) (sp : Sp) (gV : List V → List V → List V) (E : XK) (Q : VK) (vs zs : List V) (H : Hp) : Prop := vs.length = n ∧ zs.length = m ∧ sp (gV vs zs) H Q E
theorem w_callN (g : t σ H fun vs H1 => tk σ H1 fun zs H2 => KwZ n m sp gV E Q vs zs H2) : tCallN n m sp gV E t tk σ H Q := g
theorem q_kw {us : List V} (h1 : vs.length = n) (h2 : zs.length = m) (e : gV vs zs = us) (g : sp (us ++ []) H Q E) : KwZ n m sp gV E Q vs zs H := ⟨h1, h2, by rw [e, ← List.append_nil us]; exact g⟩
/-! ### zip -/
theorem k_iZ {X : Cx} (K : PySem.W.Frag) {e e2 : Expr} {ta : TA} {p pos tpos : Pos} {elts : List Expr} {kk : Nat} (hg : Gl X "zip") (hm : X.mg "zip" = none) (ha : PA X [e, e2] ta)
    (hs : starEach [e, e2] X.env = (false, eval e X.env) :: starEach [e2] X.env := by rfl) (hpl : (backTo pos (starEach [e2] X.env)).any (·.1) = false := by rfl) (hK : X.K = K := by rfl) :
    PI X (.Tuple elts kk tpos) (.Call (.Name "zip" p) [e, e2] [] pos) (iZip K ta) := by
  subst hK
  exact pi_zip hg hm ha hs hpl
def WZ (K : PySem.W.Frag) (R' : It → Hp → Prop) (vs : List V) (H : Hp) : Prop := ∃ a b xs ys, vs = [.ref a, .ref b] ∧ SqL K H a xs ∧ SqL K H b ys ∧ R' (Itz K a b) H
theorem x_iZ {R' : It → Hp → Prop} (g : t σ H fun vs H1 => WZ K R' vs H1) : iZip K t σ H R' := g
theorem w_itZ {R' : It → Hp → Prop} (h : (dList R).rel B as v) (h2 : (dList S).rel B bs w) (s : Same B H) (g : ∀ J, ItOk J B B (as.zip bs) (dPair K R S) → R' J H) : WZ K R' [v, w] H := by
  obtain ⟨p, xs, rfl, h, f, _⟩ := h
  obtain ⟨p2, ys, rfl, h2, f2, _⟩ := h2
  refine ⟨p, p2, xs, ys, rfl, SqL.of (s _ _ h), SqL.of (s _ _ h2), g _ ⟨fun H => SqL K H p xs ∧ SqL K H p2 ys, _, walk_zip (by rw [List.length_zip, f.len, f2.len]), fun H' e => ⟨SqL.of (e _ _ h), SqL.of (e _ _ h2)⟩, ?_⟩⟩
  rintro i H x H' hi ⟨T, a, b, rfl, nT, rfl, hx, hy⟩
  obtain ⟨a', ha, r⟩ := f.get hx
  obtain ⟨b', hb, r2⟩ := f2.get hy
  refine ⟨(a', b'), ?_, fun Φ b cs Z e => ⟨upd b T (.tup [a, _]), Z.put nT, Z.updB nT, T, _, _, rfl, SqT.of upd_same, R.mono (e.tr (Z.updB nT)) r, S.mono (e.tr (Z.updB nT)) r2⟩⟩
  simp [List.getElem?_zip_eq_some, ha, hb]
theorem zip_le (h : as.length ≤ BIG) : (as.zip bs).length ≤ BIG := by rw [List.length_zip]; omega
end
end Mf

namespace Mf
open PySem PySem.Spec PyProof.Rows L2 NdefX
/-! ### a def that says super() in its first statement -/
/-- a statement that is run as one of a def's body -/
structure PSa (X : Cx) (body : List Stmt) (st : Stmt) (t : TS) : Prop where
  run : ∀ (pins : List (Addr × Obj)) (s : Shared) (σ : L2.St) (H : Hp) (D : Ends), Inv X pins σ H s → t D σ H → _root_.PySem.wpAt (model X.prog X.w) X.A (.func body X.env) (exec st X.env) (SP X pins D) X.xe s
abbrev supF (name qual : Str) (params : Arguments) (body : List Stmt) (scope : Scope) (cc c : Addr) : NF := ⟨name, qual, params, body, scope, [("__class__", cc)], c⟩
theorem fnS_of {CX : CXT} {P : Program} {w : World} {K : PySem.W.Frag} {mg : Str → Option Value} {base : Heap} {k : Nat} {f cc c D : Addr} {name qual : Str} {params : Arguments} {st0 : Stmt} {rest : List Stmt} {scope : Scope} {dV kV doc pm ct oc cl : Value} {an od cld : Option Addr}
    {osl csl : Array (Option Value)} {N ps : List Str} {sp : Sp}
    (lk : K.lookup f = some ⟨oc, od, .func (PySem.W.fnX name qual params (st0 :: rest) scope [("__class__", cc)] dV kV doc pm an (.ref c) ct), osl⟩) (hcd : PySem.W.codeIn K (.ref c) qual = true)
    (hcc : K.lookup cc = some ⟨cl, cld, .cell (some (.ref D)), csl⟩) (S : NScope N ps ["__class__"] scope) (len : ∀ vs H Q E, sp vs H Q E → vs.length = ps.length)
    (hbody : ∀ (A : Around) (outer : List Env) (s : Shared) (H : Hp) (vs : List V) (Q : VK) (E : XK), Room k (A.deeper (envF (supF name qual params (st0 :: rest) scope cc c) f s.heap.objs.size)) → sp vs H Q E →
      ∃ t0 t, PSa (ncx CX P w K mg base N (supF name qual params (st0 :: rest) scope cc c) f A outer s H E) (st0 :: rest) st0 t0 ∧ PSs (ncx CX P w K mg base N (supF name qual params (st0 :: rest) scope cc c) f A outer s H E) rest t ∧
        tSeq t0 t { nx := fun _ H' => Q .non H', rt := Q } (startF N vs [none]) H) :
    FnOk P w K mg base CX (k + 1) f (PySem.W.fnX name qual params (st0 :: rest) scope [("__class__", cc)] dV kV doc pm an (.ref c) ct) ps sp := by
  refine ⟨len, fun A outer s H args us vs Q E hr e0 hb r hsp => ?_⟩
  have hl := len _ _ _ _ hsp
  have KX : K.In s.heap := e0.mod.kin.keeps fun b o e => (e0.bs b o e).1
  have lim : s.heap.NoLimit := e0.mod.nolimit.keeps fun b o e => (e0.bs b o e).1
  have C : CellsAt [("__class__", cc)] ["__class__"] [none] s.heap H := by
    refine ⟨rfl, fun y c' e => ?_, fun x y c' e1 e2 => ?_, fun i y e => ?_⟩
    · have hc' : c' = cc := by
        rw [List.lookup_cons] at e
        split at e
        · exact (Option.some.inj e).symm
        · cases e
      subst hc'
      exact ⟨(e0.bs _ _ (e0.mod.kin _ _ hcc)).2, _, _, KX _ _ hcc, rfl⟩
    · rw [List.lookup_cons] at e1 e2
      split at e1
      · rename_i h1
        split at e2
        · rename_i h2
          exact (beq_iff_eq.mp h1).trans (beq_iff_eq.mp h2).symm
        · cases e2
      · cases e1
    · cases i with
      | zero =>
        have hy : y = "__class__" := (Option.some.inj e).symm
        subst hy
        exact ⟨cc, by rw [List.lookup_cons]; simp, fun v h => by simp at h⟩
      | succ i => simp at e
  refine codeAny_call_function hr.depth (KX _ _ lk) rfl S.co S.gen rfl (PySem.W.codeRec_of KX hcd) (hb _ _ _ _ ?_)
  refine wpAny_newFunctionEnv S.nocell (fun ⟨n, _⟩ hy => S.par n (List.of_mem_zip hy).1) (fun h₁ hns hsb => ⟨lim.fresh _ hsb, ?_⟩) S.kind
  show codeAny _ _ (.func (st0 :: rest) (envF (supF name qual params (st0 :: rest) scope cc c) f s.heap.objs.size)) _ _
  have kp : ∀ b o, s.heap.get? b = some o → h₁.get? b = some o := fun b o e => hsb.extBut b o (Nat.ne_of_lt (Heap.lt_size e)) (Heap.get?_push_of_some _ e)
  obtain ⟨t0, t, ht0, ht, hq⟩ := hbody A outer s H vs Q E (hr.deeper _) hsp
  have I : Inv (ncx CX P w K mg base N (supF name qual params (st0 :: rest) scope cc c) f A outer s H E) [] (startF N vs [none]) H { s with heap := h₁, toks := s.toks + (ps.zip us).length } := inv_startN S hr.hd e0 hl r C hns kp
  refine PySem.ks_codeAny_funcAt (PySem.ks_wpAt_execs_cons ?_)
  have fin : ∀ {σ' : L2.St} {H' : Hp} {v : V} {u : Value} {s' : Shared}, Inv (ncx CX P w K mg base N (supF name qual params (st0 :: rest) scope cc c) f A outer s H E) [] σ' H' s' → L2.RelV v u → Q v H' → CE outer P w H s Q u s' :=
    fun {σ' H' v u s'} J rv q => ⟨v, H', J.os, J.bare, J.base, J.hok, rv, q⟩
  refine PySem.ks_wpAt_mono (ht0.run [] _ _ _ _ I hq) (fun fl s' hs => ?_) fun e s' hs => hs
  cases fl with
  | ret u =>
    obtain ⟨v, σ', H', J, rv, q⟩ := hs
    exact fin J rv q
  | next =>
    obtain ⟨σ', H', J, q⟩ := hs
    refine wpAt_of_wpAny (wpAny_mono (ht.run [] _ σ' H' _ J q) (fun fl s' hs => ?_) fun e s' hs => hs)
    cases fl with
    | ret u =>
      obtain ⟨v, σ', H', J, rv, q⟩ := hs
      exact fin J rv q
    | next =>
      obtain ⟨σ', H', J, q⟩ := hs
      exact fin (v := V.non) (u := Value.none) J rfl q
    | brk =>
      obtain ⟨_, _, _, q⟩ := hs
      exact False.elim q
    | cont =>
      obtain ⟨_, _, _, q⟩ := hs
      exact False.elim q
  | brk =>
    obtain ⟨_, _, _, q⟩ := hs
    exact False.elim q
  | cont =>
    obtain ⟨_, _, _, q⟩ := hs
    exact False.elim q
/-! ### super().__init__(..) of an own exception over ValueError -/
section
open PySem.W PySem.Calls
variable {prog : Program} {w : World} {A : Around} {E : Value → Shared → Prop} {h : Heap} {g : Array GenState} {d : Drawn} {t : Nat} {os : OsState}
variable {nm q : Str} {C N : Addr} {bs bm : List Value} {hdct : Bool} {sn : List Str} {sub : List Value} {ab : Bool} {col : Option Bool} {dd : Option Addr} {k0 k1 k2 k3 k5 : Option Value}
theorem call_mw {u e t0 : Addr} {rest : List Value} {Q : Value → Shared → Prop}
    (hC : h.get? C = some (excClassObj nm q C N bs bm hdct sn sub ab col dd k0 k1 k2 k3 k5 "ValueError.__new__")) (he : h.get? e = some (excObj C t0 none .none)) (hu : h.get? u = some (kxs_mw "ValueError.__init__" e)) (hrest : rest.length ≤ sizeLine)
    (hq : ∀ h' t1, (∀ b o, b ≠ e → h.get? b = some o → h'.get? b = some o) → h'.get? e = some (excObj C t1 none .none) → Q .none ⟨h', g, d, t, os⟩) :
    wpAny (model prog w) A (call (.ref u) rest) Q E ⟨h, g, d, t, os⟩ := by
  refine wpAny_call (codeAny_of_tree ?_)
  show wpAny _ A.in1 (callAny (.ref u) ⟨rest, []⟩) _ _ _
  simp only [callAny]
  refine wpAny_bind (wpAny_load hu ?_)
  simp only [kxs_mw, show (Value.type "method-wrapper" == Value.type "method" || Value.type "method-wrapper" == Value.type "builtin_function_or_method" || Value.type "method-wrapper" == Value.type "method-wrapper") = true by decide, if_true]
  refine KFB.if_so (by decide) ?_
  refine wpAny_bind (check_bound_init F.excBase_ValueError.toExcCallFacts hC he rfl ?_)
  refine wpAny_bind (wpAny_pure (wpAny_pure ?_))
  refine ⟨plainId_quiet F.excBase_ValueError.init.plain _, codeAny_builtin F.excBase_ValueError.initEntry ?_⟩
  exact exc_init_tree (cls := .ref C) (t0 := t0) (dv := none) (c2 := .none) (c3 := .none) (b4 := .bool false) he hrest fun h' k1 k2 _ => hq h' _ k1 k2
end
/-- what K tells of a def that says super() -/
structure SupC (K : PySem.W.Frag) (P : Program) (mg : Str → Option Value) (C D f cc c : Addr) (slf : Str) : Prop where
  fn : ∃ oc od fd osl ar, K.lookup f = some ⟨oc, od, .func fd, osl⟩ ∧ (fd.params.posonlyargs ++ fd.params.args).head? = some ar ∧ ar.arg = slf
  cell : ∃ cl cld csl, K.lookup cc = some ⟨cl, cld, .cell (some (.ref D)), csl⟩
  code : ∃ ccl cdd vs ccs file tf, K.lookup c = some ⟨ccl, cdd, .fields vs, ccs⟩ ∧ vs[2]? = some (.str file tf) ∧ ((P.main.file : Str) == file) = true
  cls : ∃ cd, PySem.W.clsIn K D = some cd
  sub : PySem.W.mroIn K C (.ref D) = some true
  opq : PySem.W.nsIn K cStatics "thirdparty.any" = some none
  top : (P.main.scope.names.lookup ("super" : Str)).isSome = false
  none : mg "super" = none
def tSup (C : Addr) (ta : TA) : TS := fun D σ H => ∃ a, σ[0]? = some (some (.ref a)) ∧ H a = some (exo a C none) ∧ ta σ H fun vs H1 => vs.length ≤ 1000 ∧ H1 a = some (exo a C none) ∧ D.nx σ H1
section
variable {X : Cx} {C D f cc c : Addr} {slf : Str} {body : List Stmt} {p0 p1 p2 pos pos' : Pos} {e : Expr} {es : List Expr} {ta : TA} {pl : Sem Bool}
theorem psa_sup (T : OexC X.K C) (W : SupC X.K X.prog X.mg C D f cc c slf) (hm : PySem.W.ks_superIn X.K C D "__init__" = some (some (.builtin "ValueError.__init__"))) (hB : PySem.W.subIn X.K (.ref C) (.type "ValueError") = some true)
    (hks : X.env.kindOf "super" = some .globalImplicit) (hkc : X.env.kindOf "__class__" = some .free) (hka : X.env.kindOf slf = some .local) (hfu : X.env.func = some f) (hco : X.env.code = .ref c) (hce : X.env.cells.lookup ("__class__" : Str) = some cc) (hN : X.N[0]? = some slf)
    (ha : PA X (e :: es) ta) (hboot : bootBuiltins "super" = some (.type "super") := by rfl)
    (hev : eval (.Call (.Attribute (.Call (.Name "super" p0) [] [] p1) "__init__" p2) (e :: es) [] pos) X.env = (do
      let ov ← attributeBase (.Call (.Name "super" p0) [] [] p1) "__init__" X.env (eval (.Call (.Name "super" p0) [] [] p1) X.env)
      standAt p2.atName
      let (f, first) ← holding [ov] (getMethod ov "__init__" pl)
      callWith pos f first (backTo pos (starEach (e :: es) X.env)) []) := by rfl)
    (hi : interactive X.env = false := by rfl) (hsw : swapsWith (.Call (.Attribute (.Call (.Name "super" p0) [] [] p1) "__init__" p2) (e :: es) [] pos) Option.none pos'.line X.env = pure false := by rfl)
    (he : starEach (e :: es) X.env = (false, eval e X.env) :: starEach es X.env := by rfl) (hpl : (backTo pos (starEach es X.env)).any (·.1) = false := by rfl) :
    PSa X body (.Expr (.Call (.Attribute (.Call (.Name "super" p0) [] [] p1) "__init__" p2) (e :: es) [] pos) pos') (tSup C ta) := by
  refine ⟨fun pins s σ H Dn I h => ?_⟩
  obtain ⟨a, hσ, ea, q⟩ := h
  refine PySem.ks_wpAt_Expr_any ?_ hi hsw
  refine PySem.ks_wpAt_MethodCall (pl := pl) ?_ hev
  obtain ⟨oc, od, fd, osl, ar, hf, hp, har⟩ := W.fn
  obtain ⟨cl, cld, csl, hcell⟩ := W.cell
  obtain ⟨ccl, cdd, vs2, ccs, file, tf, hcode, hvs, hfile⟩ := W.code
  obtain ⟨cdD, hD⟩ := W.cls
  have KX := I.kIn
  obtain ⟨mb, hb1, hb2⟩ := I.mod.blt
  obtain ⟨t1, ho⟩ := exo_at I.hok ea
  obtain ⟨m, hns, hloc⟩ := I.loc
  have hself : m slf = some (.ref a) := by
    obtain ⟨u, ru, lk⟩ := hloc 0 slf (.ref a) hN hσ (.inl hka)
    obtain rfl : u = Value.ref a := ru
    rcases lk with ⟨_, z⟩ | ⟨z, _⟩
    · exact z
    · rw [hka] at z
      rcases z with z | z <;> cases z
  obtain ⟨oD, hD1, hD2⟩ : ∃ oD, s.heap.get? D = some oD ∧ oD.data = .cls cdD := by
    unfold PySem.W.clsIn at hD
    split at hD
    · rename_i c' d' cd' sl' hoD
      cases hD
      exact ⟨_, KX _ _ hoD, rfl⟩
    · cases hD
  refine PySem.ks_wpAt_super_base (env := X.env) hks hkc (by decide) hfu (KX _ _ hf) rfl hp hco (KX _ _ hcode) rfl hvs hfile W.top ?_
  refine PySem.W.ks_loadName_global I.ok.kind hks (Calls.loadGlobal_builtin (by rw [I.ok.glob]; exact I.mod.glob.keeps I.bk) W.none (by rw [I.ok.blt]; exact hb1.keeps I.bk) ((hb2 "super" (by decide)).trans hboot) ⟨rfl, ?_⟩)
  refine wpAny_loadName_free I.ok.kind hkc hce ⟨_, KX _ _ hcell, rfl⟩ ?_
  rw [har]
  refine wpAny_loadName_local I.ok.kind hka hns hself ?_
  obtain ⟨hp0, g0, d0, t0, os0⟩ := s
  refine PySem.ks_wpAny_isType_cls hD1 hD2 ⟨rfl, ?_⟩
  refine PySem.ks_wpAny_call_super hD1 hD2 ho rfl (fun c' z => by cases z) (PySem.W.looks_mroIn KX W.sub) (fun h' hso k => ?_)
  have J := ClX.pin_new (t' := t0) I k (Nat.le_refl _) hso (fun v z => by cases z)
  have KX2 : X.K.In h' := J.kIn
  have ho2 := k _ _ ho
  have aC : a ≠ C := fun z => by
    obtain ⟨nm, q', N', bs, bm, sn, sub, ab, col, dd, k0, k1, k2, k3, k5, hC, _⟩ := T.cls
    have e2 := KX _ _ hC
    rw [← z] at e2
    rw [e2] at ho
    cases ho
  obtain ⟨nm, q', N', bs, bm, sn, sub, ab, col, dd, k0, k1, k2, k3, k5, hC, hbm⟩ := T.cls
  have hcl : PySem.W.clsIn X.K C = some { name := nm, bases := bs, mro := .ref C :: bm, ns := N', qualname := q', hasDict := true, slotNames := sn, subclasses := sub, abstract := ab, collection := col, hasDel := false } := by unfold PySem.W.clsIn; rw [hC] <;> rfl
  unfold PySem.W.ks_superIn at hm
  rw [hcl] at hm
  have IA : PySem.W.InstAt h' a _ C none := ⟨ho2, rfl, rfl, trivial⟩
  refine PySem.W.kxs_getMethod PySem.W.kxs_ValueError hso (PySem.W.looks_opaque KX2 W.opq) (l₀ := .ref C :: bm) ?_ rfl KX2 hm (IA.type.andThen (PySem.W.looks_subIn KX2 hB)) aC (by decide) ?_
  · exact fun A Q E s k q => wpAny_bind ((PySem.W.looks_clsIn KX2 hcl) A _ E s k (wpAny_pure q))
  have J2 := ClX.pin_new (t' := t0 + 1) J (h' := h'.push (PySem.W.kxs_mw "ValueError.__init__" a)) (o := PySem.W.kxs_mw "ValueError.__init__" a) (a := h'.objs.size) (fun b o z => Heap.get?_push_of_some _ z) (Nat.le_refl _) (Heap.get?_push_at rfl rfl) (fun v z => by cases z)
  show wpAny _ _ (callWith pos (Value.ref h'.objs.size) [] (backTo pos (starEach (e :: es) X.env)) []) _ _ _
  have hrun := ha.run pos _ _ σ H _ J2 q
  rw [he] at hrun ⊢
  refine PySem.W.kxs_callWith (i := "ValueError.__init__") (x := a) (by show (false || (backTo pos (starEach es X.env)).any (·.1)) = false; rw [hpl]; rfl) (PySem.Calls.evalArgs_plain ?_)
  refine thn hrun fun us s1 hh => ?_
  obtain ⟨vs, H1, I1, r1, hl, ea1, qn⟩ := hh
  refine ⟨ClX.pin_at I1, ?_⟩
  obtain ⟨t2, ho3⟩ := exo_at I1.hok ea1
  have hu := ClX.pin_at I1
  have hus : us.length ≤ sizeLine := by
    rw [← r1.length, sizeLine_eq]
    omega
  obtain ⟨h1, g1, d1, tk1, os1⟩ := s1
  refine call_mw (I1.kIn _ _ hC) ho3 hu hus fun h2 t3 k2 hx => ?_
  have I2 := ClX.unpin (ClX.unpin I1)
  have J3 := I2.write (t' := tk1) (x := a) (e := a) (o := exo a C none) (by rw [ea1]; exact True.intro) (.inl rfl) k2 ⟨_, hx⟩ (exo_ok hx)
  have eu : upd H1 a (exo a C none) = H1 := by
    funext b
    by_cases hb : b = a
    · rw [hb, upd_same, ea1]
    · rw [upd_ne hb]
  rw [eu] at J3
  exact ⟨σ, H1, J3, qn⟩
end
/-- what the __init__ of an own exception keeps: its fields, in their order -/
def spX (C : Addr) (fs : List Str) : Sp := fun vs H Q _ => ∃ (a : Addr) (ws : List V), vs = .ref a :: ws ∧ ws.length = fs.length ∧ H a = some (exo a C none) ∧ ∀ dx, H dx = none → dx ≠ a → Q .non (upd (upd H dx (exd dx (fs.zip ws).reverse)) a (exo a C (some dx)))
def XQ (C : Addr) (fs : List Str) (Q : XK) (vs : List V) (H1 : Hp) : Prop := vs.length ≤ 1000 ∧ ∀ a, H1 a = none → spX C fs (.ref a :: (vs ++ [])) (upd H1 a (exo a C none))
  (fun v H2 => v = .non ∧ ∃ (d : Addr) (fs : List (Str × V)), H2 a = some (exo a C (some d)) ∧ H2 d = some (exd d fs) ∧ H1 d = none ∧ Q (.ref C) (some d) (upd (del H2 a) d (.xd fs))) (fun _ _ _ => False)
theorem w_exc {C : Addr} {fs : List Str} {ta : TA} {σ : L2.St} {H : Hp} {Q : XK} (g : ta σ H fun vs H1 => XQ C fs Q vs H1) : tMkO C (spX C fs) [] ta σ H Q := g
theorem q_exc {C : Addr} {fs : List Str} {Q : XK} {vs : List V} {H : Hp} (hl : vs.length = fs.length) (hb : vs.length ≤ 1000) (g : ∀ d, H d = none → Q (.ref C) (some d) (upd H d (.xd (fs.zip vs).reverse))) : XQ C fs Q vs H := by
  refine ⟨hb, fun a ha => ⟨a, vs ++ [], rfl, by rw [List.append_nil]; exact hl, upd_same, fun dx hdx hne => ⟨rfl, dx, _, upd_same, by rw [upd_ne hne, upd_same], ?_, ?_⟩⟩⟩
  · rw [upd_ne hne] at hdx; exact hdx
  · rw [upd_ne hne] at hdx
    have e : ∀ l, upd (del (upd (upd (upd H a (exo a C none)) dx (exd dx l)) a (exo a C (some dx))) a) dx (.xd l) = upd H dx (.xd l) := by
      intro l
      funext b
      by_cases h1 : b = dx
      · rw [h1, upd_same, upd_same]
      · rw [upd_ne h1, upd_ne h1]
        by_cases h2 : b = a
        · rw [h2, del_same, ha]
        · rw [del_ne h2, upd_ne h2, upd_ne h1, upd_ne h2]
    rw [e, List.append_nil]
    exact g dx hdx
end Mf

namespace Mf
open PySem PySem.Spec PyProof.Rows L2
/-! ### what a def gives that may raise -/
/-- the program's errors: k tells the class -/
inductive Exn
  | txt (k : Nat) (s : Str)
  | num (k : Nat) (i : Int)
  | pth (k : Nat) (p : List Int)
  | fail (n : Str) (p : List Str) (pl : Str)
inductive Rs (α : Type)
  | ok (a : α)
  | ex (e : Exn)
def Rs.on {α β : Type} (r : Rs α) (f : α → Option (Rs β)) : Option (Rs β) := match r with
  | .ok a => f a
  | .ex e => some (.ex e)
def Rs.tr {α β : Type} (r : Rs α) (f : α → β) (g : Exn → β) : β := match r with
  | .ok a => f a
  | .ex e => g e
/-- the field of an error of class k -/
def exFld : Nat → Str
  | 1 => "name"
  | 2 => "place"
  | 6 => "name"
  | 7 => "path"
  | _ => "line"
/-- an exception in flight stands for e; cx: the classes -/
def ExR (K : PySem.W.Frag) (cx : Nat → Addr) (e : Exn) (cls : Value) (d : Option Addr) (B : Hp) : Prop := match e with
  | .txt k s => cls = .ref (cx k) ∧ ∃ dd, d = some dd ∧ B dd = some (.xd [(exFld k, .str s)])
  | .num k i => cls = .ref (cx k) ∧ ∃ dd, d = some dd ∧ B dd = some (.xd [(exFld k, .int i)])
  | .pth k p => cls = .ref (cx k) ∧ ∃ dd v, d = some dd ∧ B dd = some (.xd [(exFld k, v)]) ∧ (dTup K dInt).rel B p v
  | .fail n p pl => cls = .ref (cx 0) ∧ ∃ dd v, d = some dd ∧ B dd = some (.xd [("place", .str pl), ("path", v), ("name", .str n)]) ∧ (dTup K dStr).rel B p v
theorem ExR.mono {K : PySem.W.Frag} {cx : Nat → Addr} {e : Exn} {cls : Value} {d : Option Addr} {B B' : Hp} (s : Same B B') (h : ExR K cx e cls d B) : ExR K cx e cls d B' := by
  cases e with
  | txt k x => obtain ⟨h1, dd, h2, h3⟩ := h; exact ⟨h1, dd, h2, s _ _ h3⟩
  | num k x => obtain ⟨h1, dd, h2, h3⟩ := h; exact ⟨h1, dd, h2, s _ _ h3⟩
  | pth k p => obtain ⟨h1, dd, v, h2, h3, h4⟩ := h; exact ⟨h1, dd, v, h2, s _ _ h3, (dTup K dInt).mono s h4⟩
  | fail n p pl => obtain ⟨h1, dd, v, h2, h3, h4⟩ := h; exact ⟨h1, dd, v, h2, s _ _ h3, (dTup K dStr).mono s h4⟩
/-- the promise of such a def, behind its arguments -/
def Prm {α : Type} (K : PySem.W.Frag) (cx : Nat → Addr) (R : Rl α) (B H : Hp) (r : Rs α) (Q : VK) (E : XK) : Prop :=
  (∀ a, r = .ok a → ∀ (v : V) (B' H' : Hp), Sit ⟨B, H, []⟩ B' H' [] → R.rel B' a v → Q v H') ∧ ∀ e, r = .ex e → ∀ (cls : Value) (d : Option Addr) (B' H' : Hp), Sit ⟨B, H, []⟩ B' H' [] → ExR K cx e cls d B' → E cls d H'
theorem Prm.use {α : Type} {K : PySem.W.Frag} {cx : Nat → Addr} {R : Rl α} {Φ : Fr} {B H : Hp} {cs : List (Addr × HO)} {r : Rs α} {Q : VK} {E : XK} (Z : Sit Φ B H cs)
    (k : ∀ a, r = .ok a → ∀ (v : V) (B' H' : Hp), Sit Φ B' H' cs → Same B B' → R.rel B' a v → Q v H') (kx : ∀ e, r = .ex e → ∀ (cls : Value) (d : Option Addr) (B' H' : Hp), Sit Φ B' H' cs → Same B B' → ExR K cx e cls d B' → E cls d H') : Prm K cx R B H r Q E :=
  ⟨fun a ha v B' H' Z' h => k a ha v B' H' (Z.call0 Z') Z'.grow h, fun e he cls d B' H' Z' h => kx e he cls d B' H' (Z.call0 Z') Z'.grow h⟩
theorem passE {X : Cx} {E : XK} (tk : Takes X (fun cls d _ H => E cls d H)) : Passes (L2.CX X.prog X.w) X E := fun _ _ _ _ e s' I c => tk e s' (XE.of_call I (fun _ _ _ h => h) c)
/-- raise C(x) -/
theorem x_raise {C : Addr} {fs : List Str} {ta : TA} {σ : L2.St} {H : Hp} {D : Ends} {W : WX} (g : ta σ H fun vs H1 => XQ C fs (fun cls d H' => W cls d σ H') vs H1) : (fun (_ : Ends) σ H => tMkO C (spX C fs) [] ta σ H fun cls d H' => W cls d σ H') D σ H := g
/-- an own exception class, as a def that raises it needs it -/
structure ExcF (P : Program) (w : World) (K : PySem.W.Frag) (mg : Str → Option Value) (base : Heap) (x : Str) (C : Addr) (ps fs : List Str) : Prop where
  T : OexC K C
  ini : ∃ fI fd, PySem.W.findIn K (.ref C) "__init__" = some (some (.ref fI)) ∧ PySem.W.typeIn K (.ref fI) = some (.type "function") ∧ FnOk P w K mg base CX0 1 fI fd ps (spX C fs) ∧ Binds K fd ps []
  g : mg x = some (.ref C)
theorem pmk_x {X : Cx} {x : Str} {C : Addr} {ps fs : List Str} {e : Expr} {es : List Expr} {ta : TA} {p pos : Pos} (F : ExcF X.prog X.w X.K X.mg X.base x C ps fs) (hr : Room 2 X.A) (hg : Gl X x) (ha : PA X (e :: es) ta)
    (hdb : (x == ("__debug__" : Str)) = false := by decide) (he : starEach (e :: es) X.env = (false, eval e X.env) :: starEach es X.env := by rfl) (hpl : (backTo pos (starEach es X.env)).any (·.1) = false := by rfl) :
    PMk X (.Call (.Name x p) (e :: es) [] pos) (tMkO C (spX C fs) [] ta) := by
  obtain ⟨fI, fd, h1, h2, h3, h4⟩ := F.ini
  exact pmk_oex F.T h1 h2 h3 hr h4 .nil pass0 hg F.g ha hdb he hpl
theorem on_ok {α β : Type} {a : α} {f : α → Option (Rs β)} : (Rs.ok a).on f = f a := rfl
theorem on_ex {α β : Type} {e : Exn} {f : α → Option (Rs β)} : (Rs.ex e : Rs α).on f = some (.ex e) := rfl
theorem okX {P : Program} {w : World} {K : PySem.W.Frag} {mg : Str → Option Value} {base : Heap} {x qual : Str} {st : Stmt} {f : Addr} {fd : FuncData} {N ps : List Str} {k : Nat} {sp : Sp} (F : Fun K x qual st f fd) (S : FnScope N ps (defScope st)) (len : ∀ vs H Q E, sp vs H Q E → vs.length = ps.length)
    (hbody : ∀ (cdv : Value) (A : Around) (outer : List Env) (s : Shared) (H : Hp) (vs : List V) (Q : VK) (E : XK), Room k (A.deeper (envOfC qual (defScope st) s.heap.objs.size f cdv)) → sp vs H Q E →
      ∃ t, PSs (cxOf (L2.CX P w) P w K mg base N qual (defScope st) f cdv A outer s H E) (defBody st) t ∧ t { nx := fun _ H' => Q .non H', rt := Q } (start N vs) H) : FnOk P w K mg base (L2.CX P w) (k + 1) f fd ps sp := by
  obtain ⟨oc, od, kV, doc, pm, an, cdv, ct, osl, rfl, lk, hcd⟩ := F.ex
  exact fn_of lk hcd S len fun A outer s H vs Q E hr hsp => hbody cdv A outer s H vs Q E hr hsp
def optG : Option Str → Str
  | some s => s
  | none => Str.empty
theorem optN {B : Hp} {r : Option Str} {v : V} (h : (dOpt dStr).rel B r v) (c : (!r.isNone) = true) : v = V.str (optG r) := by
  cases r with
  | none => cases c
  | some s => exact h.1
end Mf

namespace Mf
open PySem PySem.Spec PyProof.Rows L2
/-! ### calls within a try: what is raised is wished for at the slots -/
theorem passN {X : Cx} : Passes (L2.CX X.prog X.w) X (fun _ _ _ => False) := fun _ _ _ _ _ _ _ c => by
  obtain ⟨_, _, _, _, _, _, _, _, _, _, _, _, z⟩ := c
  exact z.elim
theorem tkN {X : Cx} : Takes X (fun _ _ _ _ => False) := fun _ _ c => by
  obtain ⟨_, _, _, _, _, _, _, _, _, _, _, _, _, _, _, _, z⟩ := c
  exact z.elim
section
variable {X : Cx} {CX : CXT} {k n : Nat} {f C : Addr} {fd : FuncData} {ps ks : List Str} {sp : Sp} {dvs : List V} {ds : List Value} {E : L2.St → XK} {x : Str} {p pos : Pos} {e : Expr} {es : List Expr} {kws : List Keyword} {t tk : TA} {pins : List (Addr × Obj)} {σ : L2.St} {H : Hp} {s : Shared}
  {g : List Value → List Value → List Value} {gV : List V → List V → List V}
theorem getS1 {Q : VK} {us : List Value} {vs : List V} (F : FnOk X.prog X.w X.K X.mg X.base CX k f fd ps sp) (hr : Room (k + 1) X.A) (hb : Binds X.K fd ps []) (hx : PassesAt CX X σ (E σ)) (I : Inv X pins σ H s) (r : Vals vs us) (h : sp vs H Q (E σ)) :
    wpAny (model X.prog X.w) X.A.in1 (call (.ref f) us) (EP X pins σ Q) X.xe s := by
  have b := hb s us I.kIn (by rw [List.append_nil, ← r.length]; exact F.len _ _ _ _ h)
  rw [List.append_nil] at b
  refine wpAny_call (codeAny_mono (F.run X.A.in1 X.stack s H ⟨us, []⟩ us vs Q (E σ) hr.in1 I.env0.in1 b r h) fun w s2 z => ?_)
  cases w with
  | error u => exact hx pins H s u s2 I z
  | ok fl => cases fl <;> first | exact I.after z | exact z.elim
def tOpS (r : L2.St → R2) (ta tb : TE) : TE := fun σ H Q => ta σ H fun x H1 => tb σ H1 fun y H2 => r σ x y H2 Q
theorem w_opS {r : L2.St → R2} {ta tb : TE} {Q : VK} (h : ta σ H fun x H1 => tb σ H1 fun y H2 => r σ x y H2 Q) : tOpS r ta tb σ H Q := h
theorem e_getS {a b : Expr} {ta tb : TE} (hm : Meth X.K C "__getitem__" f) (hf : PySem.W.fnIn X.K f = true) (F : FnOk X.prog X.w X.K X.mg X.base CX k f fd ps sp) (hr : Room (k + 1) X.A) (hb : Binds X.K fd ps []) (hx : ∀ σ, PassesAt CX X σ (E σ)) (ha : PE X a ta) (hb' : PE X b tb)
    (hsl : ∀ o i, subscripted b true o i = runValue (.builtin "lifetime.subscript" ⟨[o, i], []⟩) := by intro _ _; with_unfolding_all rfl) : PE X (.Subscript a b pos) (tOpS (fun σ => rGetO C sp (E σ)) ta tb) := by
  refine ⟨fun pins s σ H Q I h => ?_⟩
  refine Subscript_ (binT (R := fun x y H => rGetO C sp (E σ) x y H Q) ha hb' I h fun v u s2 x y H2 I2 rx ry ⟨p, dx, fs, ex, hp, q⟩ => ?_)
  subst ex
  cases (show v = Value.ref p from rx)
  obtain ⟨od, Jn⟩ := inst_of I2 hp
  obtain ⟨m, hF⟩ := I2.fr
  exact PySem.W.sub_K hF I2.ok.mod.kin Jn hm.at_ hf hm.fn (getS1 (us := [.ref p, u]) (vs := [.ref p, y]) F hr hb (hx σ) I2 (.cons rfl (.cons ry .nil)) q) (hsl _ _)
/-- C(e, ..) -/
def tMakeS (C : Addr) (sp : Sp) (dvs : List V) (E : L2.St → XK) (t : TA) : TE := fun σ H Q => t σ H fun vs H1 => MkB C sp (E σ) Q (vs ++ dvs) H1
theorem makS1 {Q : VK} {us : List Value} {vs : List V} (M : Mk X.K C f) (F : FnOk X.prog X.w X.K X.mg X.base CX k f fd ps sp) (hr : Room (k + 1) X.A) (hb : Binds X.K fd ps ds) (hd : Vals dvs ds) (hx : PassesAt CX X σ (E σ)) (I : Inv X pins σ H s) (r : Vals vs us)
    (h : MkB C sp (E σ) Q (vs ++ dvs) H) : wpAny (model X.prog X.w) X.A (call (.ref C) us) (EP X pins σ Q) X.xe s := by
  obtain ⟨z, hz⟩ : ∃ z, z = s.heap.objs.size := ⟨_, rfl⟩
  have hq := h (s.heap.objs.size + 1) s.heap.objs.size (I.hok.fresh (Nat.le_succ _)) (I.hok.fresh (Nat.le_refl _)) (Nat.ne_of_lt (Nat.lt_succ_self _))
  have J := Inv.made (C := C) I
  have rr : Vals (V.ref (s.heap.objs.size + 1) :: (vs ++ dvs)) (Value.ref (s.heap.objs.size + 1) :: (us ++ ds)) := .cons rfl (r.append hd)
  have hl : (Value.ref (s.heap.objs.size + 1) :: us ++ ds).length = ps.length := (rr.length.symm.trans (F.len _ _ _ _ hq))
  refine wpAny_call (make_map (f := f) I.kIn M.makes M.init (beq_iff_eq.mp M.fn) (codeAny_mono (F.run _ X.stack _ _ ⟨Value.ref (s.heap.objs.size + 1) :: us, []⟩ (Value.ref (s.heap.objs.size + 1) :: (us ++ ds)) _ _ (E σ)
    (hr.make C us []) (J.env0.make C us []) (hb _ (Value.ref (s.heap.objs.size + 1) :: us) J.kIn hl) rr hq) fun w s2 z => ?_))
  cases w with
  | error u => exact hx pins _ _ u s2 J z
  | ok fl =>
    cases fl with
    | ret u =>
      obtain ⟨v, H3, J3, rv, ev, q3⟩ := J.after z
      subst ev
      exact ⟨rv, ⟨V.ref (s.heap.objs.size + 1), H3, J3, rfl, q3⟩⟩
    | next => exact z.elim
    | brk => exact z.elim
    | cont => exact z.elim
theorem e_makeS (M : Mk X.K C f) (F : FnOk X.prog X.w X.K X.mg X.base CX k f fd ps sp) (hr : Room (k + 1) X.A) (hg : Gl X x) (hm : X.mg x = some (.ref C)) (hb : Binds X.K fd ps ds) (hd : Vals dvs ds) (hx : ∀ σ, PassesAt CX X σ (E σ))
    (ha : PA X (e :: es) t) (hdb : (x == ("__debug__" : Str)) = false := by decide) (he : starEach (e :: es) X.env = (false, eval e X.env) :: starEach es X.env := by rfl) (hpl : (backTo pos (starEach es X.env)).any (·.1) = false := by rfl) :
    PE X (.Call (.Name x p) (e :: es) [] pos) (tMakeS C sp dvs E t) := by
  refine ⟨fun pins s σ H Q I h => wpAny_Call_Name_kw (ld_glob I hg hm ?_ hdb)⟩
  exact PySem.W.callWith_K (h₀ := X.base) I.ok.mod.kin M.kp (thn (ha.run pos pins s σ H _ I h) fun us s1 ⟨vs, H1, I1, r, q⟩ => ⟨I1.kIn, makS1 M F hr hb hd (hx σ) I1 r q⟩) he hpl
/-- f(e, .., k = v, ..) -/
def tCallNS (n m : Nat) (sp : Sp) (gV : List V → List V → List V) (E : L2.St → XK) (t tk : TA) : TE := fun σ H Q => tCallN n m sp gV (E σ) t tk σ H Q
theorem e_callNS (F : FnOk X.prog X.w X.K X.mg X.base CX k f fd ps sp) (hr : Room k X.A) (hg : Gl X x) (hm : X.mg x = some (.ref f)) (hk : PySem.W.keepIn X.K (.ref f) = true) (hb : KBn X.K fd ps n ks g gV) (hx : ∀ σ, PassesAt CX X σ (E σ))
    (ha : PA X (e :: es) t) (hkw : PK X kws tk) (hall : (backToKw pos (keywordEach kws X.env)).all (·.1.isSome) = true := by rfl) (hks : (backToKw pos (keywordEach kws X.env)).filterMap (·.1) = ks := by rfl)
    (hdb : (x == ("__debug__" : Str)) = false := by decide) (he : starEach (e :: es) X.env = (false, eval e X.env) :: starEach es X.env := by rfl)
    (hpl : ((backTo pos (starEach (e :: es) X.env)).any (·.1) || (backToKw pos (keywordEach kws X.env)).any (·.1.isNone)) = false := by rfl) :
    PE X (.Call (.Name x p) (e :: es) kws pos) (tCallNS n ks.length sp gV E t tk) := by
  refine ⟨fun pins s σ H Q I h => wpAny_Call_Name_kw (ld_glob I hg hm ?_ hdb)⟩
  refine PySem.W.callWith_KW (h₀ := X.base) I.ok.mod.kin hk hall (thn (ha.run pos pins s σ H _ I h) fun us s1 ⟨vs, H1, I1, r, q⟩ => ?_) hpl he
  refine thn (hkw.run pos pins s1 σ H1 _ I1 q) fun ws s2 ⟨zs, H2, I2, rz, l1, l2, q2⟩ => ⟨I2.kIn, ?_⟩
  rw [hks]
  refine wpAny_call (codeAny_mono (F.run X.A X.stack s2 H2 ⟨us, ks.zip ws⟩ (g us ws) (gV vs zs) Q (E σ) hr I2.env0 (hb.to s2 us ws I2.kIn (r.length.symm.trans l1) (rz.length.symm.trans l2)) (hb.rel r rz) q2) fun w s3 z => ?_)
  cases w with
  | error u => exact hx σ pins H2 s2 u s3 I2 z
  | ok fl => cases fl <;> first | exact I2.after z | exact z.elim
end
/-! ### the except clause -/
section
variable {K : PySem.W.Frag} {c cls : Value} {i : Nat} {ts : Addr → Value → Option Addr → TS} {Wout : WX} {D : Ends} {σ σ' : L2.St} {H : Hp} {d : Option Addr} {P : L2.St → Hp → Prop}
theorem w_as (hx : PySem.W.exmOne K cls c = some true) (g : ∀ a, H a = none → ts a cls d { nx := fun σ' H' => D.nx (σ'.set i none) H', rt := D.rt, bk := fun σ' H' => D.bk (σ'.set i none) H', ct := fun σ' H' => D.ct (σ'.set i none) H' } (σ.set i (some (.ref a))) H) : L2.WE (wAs K c i ts Wout D) σ cls d H :=
  ⟨true, hx, fun _ => g, fun z => by cases z⟩
theorem w_unas (e : σ.set i none = σ') (g : P σ' H) : (fun (s : L2.St) (h : Hp) => P (s.set i none) h) σ H := by
  subst e
  exact g
theorem w_pnx {a b c : L2.St → Hp → Prop} {r : VK} (g : a σ H) : (Ends.mk a r b c).nx σ H := g
theorem Ev.xf {a C dd : Addr} {f : Str} {te : TE} {v : V} {fs : List (Str × V)} (h : Ev te σ H (.ref a)) (hd : H dd = some (.xd fs)) (hl : fs.lookup f = some v) : Ev (tXf a (.ref C) (some dd) C f te) σ H v := fun Q q => h _ ⟨rfl, rfl, dd, fs, v, rfl, hd, hl, q⟩
end
section
variable {α β γ : Type} {K : PySem.W.Frag} {R : Rl α} {S : Rl β} {T' : Rl γ} {B H : Hp} {v : V} {b : Bool} {T : String}
theorem isi_xT {x : List α} (h : (dTup K R).rel B x v) (s : Same B H) (hk : PySem.W.kitOne K (.type "tuple") (.type T) = some b) : ∀ Q : VK, Q (.bl b) H → rIsi K [v, .ty T] H Q := fun Q q => by
  obtain ⟨p, vs, rfl, h, _⟩ := h
  exact w_isi (.ty T) (tyx_t (Same.sqt s h)) hk q
theorem isi_xL {x : List α} (h : (dList R).rel B x v) (s : Same B H) (hk : PySem.W.kitOne K (.type "list") (.type T) = some b) : ∀ Q : VK, Q (.bl b) H → rIsi K [v, .ty T] H Q := fun Q q => by
  obtain ⟨p, vs, rfl, h, _⟩ := h
  exact w_isi (.ty T) (tyx_l (SqL.of (s _ _ h))) hk q
theorem isi_x1 {x : α} (h : (dOne K R).rel B x v) (s : Same B H) (hk : PySem.W.kitOne K (.type "tuple") (.type T) = some b) : ∀ Q : VK, Q (.bl b) H → rIsi K [v, .ty T] H Q := fun Q q => by
  obtain ⟨p, a, rfl, h, _⟩ := h
  exact w_isi (.ty T) (tyx_t (Same.sqt s h)) hk q
theorem isi_x2 {x : α × β} (h : (dPair K R S).rel B x v) (s : Same B H) (hk : PySem.W.kitOne K (.type "tuple") (.type T) = some b) : ∀ Q : VK, Q (.bl b) H → rIsi K [v, .ty T] H Q := fun Q q => by
  obtain ⟨p, a, c, rfl, h, _⟩ := h
  exact w_isi (.ty T) (tyx_t (Same.sqt s h)) hk q
theorem isi_x3 {x : α × β × γ} (h : (dTrip K R S T').rel B x v) (s : Same B H) (hk : PySem.W.kitOne K (.type "tuple") (.type T) = some b) : ∀ Q : VK, Q (.bl b) H → rIsi K [v, .ty T] H Q := fun Q q => by
  obtain ⟨p, a, c, d, rfl, h, _⟩ := h
  exact w_isi (.ty T) (tyx_t (Same.sqt s h)) hk q
theorem q_catO {Φ : Fr} {cs : List (Addr × HO)} {Q : VK} {w : V} {xs ys zs : List α} (Z : Sit Φ B H cs) (h : (dList R).rel B xs v) (hx : (dList R).rel B ys w) (hm : catM xs ys = some zs) (k : ∀ p o H', Sit Φ B H' ((p, o) :: cs) → Φ.H p = none → (cList R).rel B zs o → Q (.ref p) H') : rCat v w H Q := by
  obtain ⟨l, rfl⟩ := catM_some hm
  obtain ⟨p, vs, rfl, hp, f, _⟩ := h
  obtain ⟨q, us, rfl, hq, f2, l2⟩ := hx
  exact w_cat (Z.sub _ _ hp) (Z.sub _ _ hq) (by rw [← f.len, ← f2.len]; exact big_size l) (nwO Z (f.app f2) (by rw [List.length_append]; exact l) k)
def natM (i : Int) : Option Int := if 0 ≤ i ∧ i ≤ BIG then some i else none
theorem lenI {i j : Int} {Q : VK} (h : natM i = some j) (g : Q (.int j) H) : LenQ Q (.int i) H := by
  unfold natM at h
  by_cases e : 0 ≤ i ∧ i ≤ BIG
  · rw [if_pos e] at h
    cases h
    have e' : i = ((i.toNat : Nat) : Int) := by omega
    exact len_lt e' (by have := e.2; omega) g
  · rw [if_neg e] at h; cases h
theorem natM_eq {i : Nat} (h : i < 1000000) : natM (i : Int) = some (i : Int) := by
  unfold natM BIG
  rw [if_pos ⟨by omega, by omega⟩]
theorem w_callSD {sp : Sp} {dvs : List V} {E : L2.St → XK} {t : TA} {σ : L2.St} {Q : VK} (g : t σ H fun vs H1 => sp (vs ++ dvs) H1 Q (E σ)) : tCallSD sp dvs E t σ H Q := g
theorem w_makeS {C : Addr} {sp : Sp} {dvs : List V} {E : L2.St → XK} {t : TA} {σ : L2.St} {Q : VK} (g : t σ H fun vs H1 => MkB C sp (E σ) Q (vs ++ dvs) H1) : tMakeS C sp dvs E t σ H Q := g
theorem w_callNS {n m : Nat} {sp : Sp} {gV : List V → List V → List V} {E : L2.St → XK} {t tk : TA} {σ : L2.St} {Q : VK} (g : tCallN n m sp gV (E σ) t tk σ H Q) : tCallNS n m sp gV E t tk σ H Q := g
end
theorem tr_ok {α β : Type} {a : α} {f : α → β} {g : Exn → β} : (Rs.ok a).tr f g = f a := rfl
theorem tr_ex {α β : Type} {e : Exn} {f : α → β} {g : Exn → β} : (Rs.ex e : Rs α).tr f g = g e := rfl
def exTxt (k : Nat) : Exn → Option Str
  | .txt j s => if j = k then some s else none
  | _ => none
def exNum (k : Nat) : Exn → Option Int
  | .num j s => if j = k then some s else none
  | _ => none
def exPth (k : Nat) : Exn → Option (List Int)
  | .pth j s => if j = k then some s else none
  | _ => none
def exFail : Exn → Option (Str × List Str × Str)
  | .fail n p pl => some (n, p, pl)
  | _ => none
section
variable {K : PySem.W.Frag} {cx : Nat → Addr} {e : Exn} {k : Nat} {cls : Value} {d : Option Addr} {B : Hp}
theorem exTxt_some {s : Str} (h : exTxt k e = some s) (hx : ExR K cx e cls d B) : cls = .ref (cx k) ∧ ∃ dd, d = some dd ∧ B dd = some (.xd [(exFld k, .str s)]) := by
  cases e with
  | txt j z =>
    replace h : (if j = k then some z else none) = some s := h
    by_cases c : j = k
    · rw [if_pos c] at h; cases h; subst c; exact hx
    · rw [if_neg c] at h; cases h
  | num _ _ => cases h
  | pth _ _ => cases h
  | fail _ _ _ => cases h
theorem exNum_some {s : Int} (h : exNum k e = some s) (hx : ExR K cx e cls d B) : cls = .ref (cx k) ∧ ∃ dd, d = some dd ∧ B dd = some (.xd [(exFld k, .int s)]) := by
  cases e with
  | num j z =>
    replace h : (if j = k then some z else none) = some s := h
    by_cases c : j = k
    · rw [if_pos c] at h; cases h; subst c; exact hx
    · rw [if_neg c] at h; cases h
  | txt _ _ => cases h
  | pth _ _ => cases h
  | fail _ _ _ => cases h
theorem exPth_some {s : List Int} (h : exPth k e = some s) (hx : ExR K cx e cls d B) : cls = .ref (cx k) ∧ ∃ dd v, d = some dd ∧ B dd = some (.xd [(exFld k, v)]) ∧ (dTup K dInt).rel B s v := by
  cases e with
  | pth j z =>
    replace h : (if j = k then some z else none) = some s := h
    by_cases c : j = k
    · rw [if_pos c] at h; cases h; subst c; exact hx
    · rw [if_neg c] at h; cases h
  | txt _ _ => cases h
  | num _ _ => cases h
  | fail _ _ _ => cases h
theorem exFail_some {r : Str × List Str × Str} (h : exFail e = some r) (hx : ExR K cx e cls d B) : cls = .ref (cx 0) ∧ ∃ dd v, d = some dd ∧ B dd = some (.xd [("place", .str r.2.2), ("path", v), ("name", .str r.1)]) ∧ (dTup K dStr).rel B r.2.1 v := by
  cases e with
  | fail _ _ _ => cases h; exact hx
  | txt _ _ => cases h
  | num _ _ => cases h
  | pth _ _ => cases h
end
end Mf

namespace Mf
open PySem L2 PyProof.Rows
/-! ### data that the model compares -/
def Ly (n : Nat) (d : PyData) : Prop := PyData.canLay0 d = true ∧ PyData.depth d ≤ n
section
variable {α : Type} {n m : Nat} {d e : PyData} {f : α → PyData}
theorem Ly.le (h : Ly n d) (k : n ≤ m) : Ly m d := ⟨h.1, Nat.le_trans h.2 k⟩
theorem Ly.int {i : Int} : Ly n (.int i) := ⟨by simp [PyData.canLay0], by simp [PyData.depth]⟩
theorem Ly.bool {i : Bool} : Ly n (.bool i) := ⟨by simp [PyData.canLay0], by simp [PyData.depth]⟩
theorem Ly.none : Ly n .none := ⟨by simp [PyData.canLay0], by simp [PyData.depth]⟩
theorem Ly.str {x : Str} (h : PyData.strOk x = true) : Ly n (.str x) := ⟨by simp [PyData.canLay0, h], by simp [PyData.depth]⟩
theorem Ly.all {ds : List PyData} (h : ∀ d ∈ ds, Ly n d) : PyData.canLayAll0 ds = true ∧ PyData.depthAll ds ≤ n := by
  induction ds with
  | nil => exact ⟨by simp [PyData.canLayAll0], by simp [PyData.depthAll]⟩
  | cons d ds ih =>
    have h1 := h d List.mem_cons_self
    have h2 := ih fun e he => h e (List.mem_cons_of_mem _ he)
    exact ⟨by simp [PyData.canLayAll0, h1.1, h2.1], by simp only [PyData.depthAll]; exact Nat.max_le.mpr ⟨h1.2, h2.2⟩⟩
theorem Ly.list {ds : List PyData} (h : ∀ d ∈ ds, Ly n d) : Ly (n + 1) (.list ds) := ⟨by simp only [PyData.canLay0]; exact (Ly.all h).1, by simp only [PyData.depth]; have := (Ly.all h).2; omega⟩
theorem Ly.tuple {ds : List PyData} (h : ∀ d ∈ ds, Ly n d) : Ly (n + 1) (.tuple ds) := ⟨by simp only [PyData.canLay0]; exact (Ly.all h).1, by simp only [PyData.depth]; have := (Ly.all h).2; omega⟩
theorem Ly.mapL {xs : List α} (h : ∀ x ∈ xs, Ly n (f x)) : Ly (n + 1) (.list (xs.map f)) := Ly.list fun d hd => by
  obtain ⟨x, hx, rfl⟩ := List.mem_map.mp hd
  exact h x hx
theorem Ly.mapT {xs : List α} (h : ∀ x ∈ xs, Ly n (f x)) : Ly (n + 1) (.tuple (xs.map f)) := Ly.tuple fun d hd => by
  obtain ⟨x, hx, rfl⟩ := List.mem_map.mp hd
  exact h x hx
theorem Ly.t0 : Ly (n + 1) (.tuple []) := Ly.tuple fun _ h => by cases h
theorem Ly.t1 {a : PyData} (h : Ly n a) : Ly (n + 1) (.tuple [a]) := Ly.tuple fun d hd => by
  rw [List.mem_singleton.mp hd]; exact h
theorem Ly.t2 {a b : PyData} (h : Ly n a) (k : Ly n b) : Ly (n + 1) (.tuple [a, b]) := Ly.tuple fun d hd => by
  simp only [List.mem_cons, List.not_mem_nil, or_false] at hd
  rcases hd with rfl | rfl
  · exact h
  · exact k
theorem Ly.t3 {a b c : PyData} (h : Ly n a) (k : Ly n b) (l : Ly n c) : Ly (n + 1) (.tuple [a, b, c]) := Ly.tuple fun d hd => by
  simp only [List.mem_cons, List.not_mem_nil, or_false] at hd
  rcases hd with rfl | rfl | rfl
  · exact h
  · exact k
  · exact l
theorem Ly.t4 {a b c z : PyData} (h : Ly n a) (k : Ly n b) (l : Ly n c) (m : Ly n z) : Ly (n + 1) (.tuple [a, b, c, z]) := Ly.tuple fun d hd => by
  simp only [List.mem_cons, List.not_mem_nil, or_false] at hd
  rcases hd with rfl | rfl | rfl | rfl
  · exact h
  · exact k
  · exact l
  · exact m
theorem Ly.shaped (h : Ly n d) (hn : n ≤ 64) : SeqAt.shaped d = true := by
  unfold SeqAt.shaped
  rw [h.1, Bool.true_and]
  exact decide_eq_true (Nat.le_trans h.2 hn)
theorem eqD_of (h : Ly n d) (k : Ly m e) (hn : n ≤ 64) (hm : m ≤ 64) : eqD d e = some (PyData.eqv d e) := by
  unfold eqD
  rw [if_pos ⟨h.shaped hn, k.shaped hm⟩]
theorem eqD_self (h : Ly n d) (hn : n ≤ 64) : eqD d d = some true := by
  rw [eqD_of h h hn hn, SeqAt.eqv_refl d h.1]
theorem strs_ly {xs : List Str} (h : Oks xs) : Ly 1 (.list (xs.map PyData.str)) := Ly.mapL fun x hx => Ly.str (h x hx)
theorem strsT_ly {xs : List Str} (h : Oks xs) : Ly 1 (.tuple (xs.map PyData.str)) := Ly.mapT fun x hx => Ly.str (h x hx)
theorem bools_ly {xs : List Bool} : Ly 1 (.list (xs.map PyData.bool)) := Ly.mapL fun x hx => Ly.bool
theorem ints_ly {xs : List Int} : Ly 1 (.list (xs.map PyData.int)) := Ly.mapL fun x hx => Ly.int
theorem intsT_ly {xs : List Int} : Ly 1 (.tuple (xs.map PyData.int)) := Ly.mapT fun x hx => Ly.int
theorem strOk_app {a b : Str} (h : PyData.strOk a = true) (k : PyData.strOk b = true) : PyData.strOk (a ++ b) = true := by
  unfold PyData.strOk at h k ⊢
  rw [Array.all_eq_true'] at h k ⊢
  intro x hx
  have hx : x ∈ a.cps ++ b.cps := hx
  rcases Array.mem_append.mp hx with z | z
  · exact h x z
  · exact k x z
end
/-! eqv tells data without truth values apart -/
def nb : PyData → Bool
  | .bool _ => false
  | .list xs => nbAll xs
  | .tuple xs => nbAll xs
  | .dict _ => false
  | _ => true
where nbAll : List PyData → Bool
  | [] => true
  | x :: xs => nb x && nbAll xs
mutual
theorem eqv_nb : ∀ d e : PyData, nb d = true → nb e = true → (PyData.eqv d e = true ↔ d = e)
  | .none, e, _, h => by cases e <;> simp_all [PyData.eqv, nb]
  | .bool _, _, h, _ => by simp [nb] at h
  | .int i, e, _, h => by cases e <;> simp_all [PyData.eqv, nb]
  | .str x, e, _, h => by cases e <;> simp_all [PyData.eqv, nb]
  | .list xs, e, h1, h => by
    cases e with
    | list ys =>
      have := eqvAll_nb xs ys (by simpa [nb] using h1) (by simpa [nb] using h)
      simp [PyData.eqv, this]
    | _ => simp_all [PyData.eqv, nb]
  | .tuple xs, e, h1, h => by
    cases e with
    | tuple ys =>
      have := eqvAll_nb xs ys (by simpa [nb] using h1) (by simpa [nb] using h)
      simp [PyData.eqv, this]
    | _ => simp_all [PyData.eqv, nb]
  | .dict _, _, h, _ => by simp [nb] at h
theorem eqvAll_nb : ∀ ds es : List PyData, nb.nbAll ds = true → nb.nbAll es = true → (PyData.eqvAll ds es = true ↔ ds = es)
  | [], [], _, _ => by simp [PyData.eqvAll]
  | [], _ :: _, _, _ => by simp [PyData.eqvAll]
  | _ :: _, [], _, _ => by simp [PyData.eqvAll]
  | d :: ds, e :: es, h1, h2 => by
    simp only [nb.nbAll, Bool.and_eq_true] at h1 h2
    simp [PyData.eqvAll, eqv_nb d e h1.1 h2.1, eqvAll_nb ds es h1.2 h2.2]
end
theorem eqv_dec {d e : PyData} (h1 : nb d = true) (h2 : nb e = true) {P : Prop} [Decidable P] (h : d = e ↔ P) : PyData.eqv d e = decide P := by
  rw [Bool.eq_iff_iff, eqv_nb d e h1 h2, decide_eq_true_iff, h]
end Mf

namespace Mf
open PySem L2 PyProof.Rows
/-! ### data of any kind, used as one kind -/
def asI : PyData → Option Int
  | .int i => some i
  | _ => none
def asS : PyData → Option Str
  | .str x => some x
  | _ => none
def asL : PyData → Option (List PyData)
  | .list xs => some xs
  | _ => none
def asT : PyData → Option (List PyData)
  | .tuple xs => some xs
  | _ => none
def isInt : PyData → Bool
  | .int _ => true
  | .bool _ => true
  | _ => false
def isBool : PyData → Bool
  | .bool _ => true
  | _ => false
def isStr : PyData → Bool
  | .str _ => true
  | _ => false
def isTup : PyData → Bool
  | .tuple _ => true
  | _ => false
def isLst : PyData → Bool
  | .list _ => true
  | _ => false
/-- a value of one kind as a value of another -/
def Mp {α β : Type} (R : Rl α) (S : Rl β) (f : α → β) : Prop := ∀ {H : Hp} {x : α} {v : V}, R.rel H x v → S.rel H (f x) v
section
variable {α β γ δ : Type} {K : PySem.W.Frag} {R : Rl α} {S : Rl β} {T : Rl γ} {U : Rl δ} {d : α → PyData} {f : α → β} {σ : L2.St} {H B : Hp} {v w : V} {Q : VK} {te : TE}
theorem Ev.cast (h : Ev te σ H v) (e : v = w) : Ev te σ H w := e ▸ h
theorem asI_v {x : PyData} {i : Int} (h : (dAny K).rel B x v) (e : asI x = some i) : v = .int i := by
  have h : Dp K B v x := h
  cases h <;> simp_all [asI]
theorem asS_v {x : PyData} {i : Str} (h : (dAny K).rel B x v) (e : asS x = some i) : v = .str i := by
  have h : Dp K B v x := h
  cases h <;> simp_all [asS]
theorem asI_f {x : PyData} {i : Int} (h : (dAny K).rel B x v) (e : asI x = some i) : dInt.rel B i v := asI_v h e
theorem asS_f {x : PyData} {i : Str} (h : (dAny K).rel B x v) (e : asS x = some i) : dStr.rel B i v := asS_v h e
theorem mpI : Mp R R id := fun h => h
theorem mpS {R' : Rl α} (h : Sub R R') : Mp R R' id := fun q => h q
theorem mpA (D : Dr K R d) : Mp R (dAny K) d := fun h => D h
theorem fa_map (m : Mp R S f) {xs : List α} {vs : List V} (h : Fa (R.rel H) xs vs) : Fa (S.rel H) (xs.map f) vs := by
  induction h with
  | nil => exact .nil
  | cons r _ ih => exact .cons (m r) ih
theorem mpL (m : Mp R S f) : Mp (dList R) (dList S) (fun xs => xs.map f) := fun ⟨p, vs, e, a, g, l⟩ => ⟨p, vs, e, a, fa_map m g, by simpa using l⟩
theorem mpT (m : Mp R S f) : Mp (dTup K R) (dTup K S) (fun xs => xs.map f) := fun ⟨p, vs, e, a, g, l⟩ => ⟨p, vs, e, a, fa_map m g, by simpa using l⟩
theorem mpLQ (m : Mp R S f) : Mp (dList R) (dSeq K S) (fun xs => xs.map f) := fun ⟨p, vs, e, a, g, l⟩ => ⟨p, vs, e, .inl (SqL.of a), fa_map m g, by simpa using l⟩
theorem mpTQ (m : Mp R S f) : Mp (dTup K R) (dSeq K S) (fun xs => xs.map f) := fun ⟨p, vs, e, a, g, l⟩ => ⟨p, vs, e, .inr a, fa_map m g, by simpa using l⟩
theorem mpQQ (m : Mp R S f) : Mp (dSeq K R) (dSeq K S) (fun xs => xs.map f) := fun ⟨p, vs, e, a, g, l⟩ => ⟨p, vs, e, a, fa_map m g, by simpa using l⟩
theorem mpO (m : Mp R S f) : Mp (dOpt R) (dOpt S) (fun x => x.map f) := fun {H x v} h => by
  cases x with
  | none => exact h
  | some x => exact ⟨m h.1, h.2⟩
theorem mp1 (m : Mp R S f) : Mp (dOne K R) (dTup K S) (fun x => [f x]) := fun ⟨p, a, e, h, r⟩ => ⟨p, [a], e, h, .cons (m r) .nil, by show 1 ≤ BIG; decide⟩
theorem mp2 {g : γ → β} (m : Mp R S f) (n : Mp T S g) : Mp (dPair K R T) (dTup K S) (fun x => [f x.1, g x.2]) := fun ⟨p, a, b, e, h, r, t⟩ => ⟨p, [a, b], e, h, .cons (m r) (.cons (n t) .nil), by show 2 ≤ BIG; decide⟩
theorem mp3 {g : γ → β} {k : δ → β} (m : Mp R S f) (n : Mp T S g) (o : Mp U S k) : Mp (dTrip K R T U) (dTup K S) (fun x => [f x.1, g x.2.1, k x.2.2]) := fun ⟨p, a, b, c, e, h, r, t, u⟩ => ⟨p, [a, b, c], e, h, .cons (m r) (.cons (n t) (.cons (o u) .nil)), by show 3 ≤ BIG; decide⟩
theorem mpP1 (m : Mp R S f) : Mp (dOne K R) (dOne K S) f := fun ⟨p, a, e, h, r⟩ => ⟨p, a, e, h, m r⟩
theorem mpP2 {g : γ → δ} (m : Mp R S f) (n : Mp T U g) : Mp (dPair K R T) (dPair K S U) (fun x => (f x.1, g x.2)) := fun ⟨p, a, b, e, h, r, t⟩ => ⟨p, a, b, e, h, m r, n t⟩
theorem mpP3 {α' β' : Type} {R' : Rl α'} {S' : Rl β'} {g : γ → δ} {k : α' → β'} (m : Mp R S f) (n : Mp T U g) (o : Mp R' S' k) : Mp (dTrip K R T R') (dTrip K S U S') (fun x => (f x.1, g x.2.1, k x.2.2)) := fun ⟨p, a, b, c, e, h, r, t, u⟩ => ⟨p, a, b, c, e, h, m r, n t, o u⟩
theorem drNon : Dr K dNone (fun _ => PyData.none) := fun h => by cases h; exact .non
theorem drOpt (D : Dr K R d) : Dr K (dOpt R) (fun x => match x with | none => PyData.none | some x => d x) := fun {H x v} h => by
  cases x with
  | none => cases h; exact .non
  | some x => exact D h.1
/-! isinstance of data -/
theorem isi_aI {x : PyData} (h : (dAny K).rel H x v) : ∀ Q : VK, Q (.bl (isInt x)) H → rIsi K [v, .ty "int"] H Q := fun Q q => by
  have h : Dp K H v x := h
  cases h with
  | non => exact w_isi (.ty "int") (.base .non) (kit_ty (r := false) (by decide +kernel)) q
  | bl b => exact w_isi (.ty "int") (.base (.bl b)) (kit_ty (r := true) (by decide +kernel)) q
  | int i => exact w_isi (.ty "int") (.base (.int i)) (kit_ty (r := true) (by decide +kernel)) q
  | str i => exact w_isi (.ty "int") (.base (.str i)) (kit_ty (r := false) (by decide +kernel)) q
  | lst hq a => exact w_isi (.ty "int") (tyx_l hq) (kit_ty (r := false) (by decide +kernel)) q
  | tup hq a => exact w_isi (.ty "int") (tyx_t hq) (kit_ty (r := false) (by decide +kernel)) q
theorem isi_aB {x : PyData} (h : (dAny K).rel H x v) : ∀ Q : VK, Q (.bl (isBool x)) H → rIsi K [v, .ty "bool"] H Q := fun Q q => by
  have h : Dp K H v x := h
  cases h with
  | non => exact w_isi (.ty "bool") (.base .non) (kit_ty (r := false) (by decide +kernel)) q
  | bl b => exact w_isi (.ty "bool") (.base (.bl b)) (kit_ty (r := true) (by decide +kernel)) q
  | int i => exact w_isi (.ty "bool") (.base (.int i)) (kit_ty (r := false) (by decide +kernel)) q
  | str i => exact w_isi (.ty "bool") (.base (.str i)) (kit_ty (r := false) (by decide +kernel)) q
  | lst hq a => exact w_isi (.ty "bool") (tyx_l hq) (kit_ty (r := false) (by decide +kernel)) q
  | tup hq a => exact w_isi (.ty "bool") (tyx_t hq) (kit_ty (r := false) (by decide +kernel)) q
theorem isi_aS {x : PyData} (h : (dAny K).rel H x v) : ∀ Q : VK, Q (.bl (isStr x)) H → rIsi K [v, .ty "str"] H Q := fun Q q => by
  have h : Dp K H v x := h
  cases h with
  | non => exact w_isi (.ty "str") (.base .non) (kit_ty (r := false) (by decide +kernel)) q
  | bl b => exact w_isi (.ty "str") (.base (.bl b)) (kit_ty (r := false) (by decide +kernel)) q
  | int i => exact w_isi (.ty "str") (.base (.int i)) (kit_ty (r := false) (by decide +kernel)) q
  | str i => exact w_isi (.ty "str") (.base (.str i)) (kit_ty (r := true) (by decide +kernel)) q
  | lst hq a => exact w_isi (.ty "str") (tyx_l hq) (kit_ty (r := false) (by decide +kernel)) q
  | tup hq a => exact w_isi (.ty "str") (tyx_t hq) (kit_ty (r := false) (by decide +kernel)) q
theorem isi_aT {x : PyData} (h : (dAny K).rel H x v) : ∀ Q : VK, Q (.bl (isTup x)) H → rIsi K [v, .ty "tuple"] H Q := fun Q q => by
  have h : Dp K H v x := h
  cases h with
  | non => exact w_isi (.ty "tuple") (.base .non) (kit_ty (r := false) (by decide +kernel)) q
  | bl b => exact w_isi (.ty "tuple") (.base (.bl b)) (kit_ty (r := false) (by decide +kernel)) q
  | int i => exact w_isi (.ty "tuple") (.base (.int i)) (kit_ty (r := false) (by decide +kernel)) q
  | str i => exact w_isi (.ty "tuple") (.base (.str i)) (kit_ty (r := false) (by decide +kernel)) q
  | lst hq a => exact w_isi (.ty "tuple") (tyx_l hq) (kit_ty (r := false) (by decide +kernel)) q
  | tup hq a => exact w_isi (.ty "tuple") (tyx_t hq) (kit_ty (r := true) (by decide +kernel)) q
/-- data is no object of an own class -/
theorem isi_aC {x : PyData} {C : Addr} (h : (dAny K).rel H x v) (k0 : PySem.W.kitOne K (.type "NoneType") (.ref C) = some false) (k1 : PySem.W.kitOne K (.type "bool") (.ref C) = some false) (k2 : PySem.W.kitOne K (.type "int") (.ref C) = some false) (k3 : PySem.W.kitOne K (.type "str") (.ref C) = some false) (k4 : PySem.W.kitOne K (.type "list") (.ref C) = some false) (k5 : PySem.W.kitOne K (.type "tuple") (.ref C) = some false) : ∀ Q : VK, Q (.bl false) H → rIsi K [v, .ref C] H Q := fun Q q => by
  have h : Dp K H v x := h
  cases h with
  | non => exact w_isi (.own C) (.base .non) k0 q
  | bl b => exact w_isi (.own C) (.base (.bl b)) k1 q
  | int i => exact w_isi (.own C) (.base (.int i)) k2 q
  | str i => exact w_isi (.own C) (.base (.str i)) k3 q
  | lst hq a => exact w_isi (.own C) (tyx_l hq) k4 q
  | tup hq a => exact w_isi (.own C) (tyx_t hq) k5 q
theorem any_ty {x : PyData} {C : Addr} (h : (dAny K).rel H x v) (n0 : PySem.W.notFirst K C (.type "NoneType") = true) (n1 : PySem.W.notFirst K C (.type "bool") = true) (n2 : PySem.W.notFirst K C (.type "int") = true) (n3 : PySem.W.notFirst K C (.type "str") = true) (n4 : PySem.W.notFirst K C (.type "list") = true) (n5 : PySem.W.notFirst K C (.type "tuple") = true) : ∃ t, TyX K H v t ∧ PySem.W.notFirst K C t = true := by
  have h : Dp K H v x := h
  cases h with
  | non => exact ⟨_, .base .non, n0⟩
  | bl b => exact ⟨_, .base (.bl b), n1⟩
  | int i => exact ⟨_, .base (.int i), n2⟩
  | str i => exact ⟨_, .base (.str i), n3⟩
  | lst hq a => exact ⟨_, tyx_l hq, n4⟩
  | tup hq a => exact ⟨_, tyx_t hq, n5⟩
/-! a tuple of like things, taken apart -/
def un2 (xs : List α) : Option (α × α) := match xs with | [a, b] => some (a, b) | _ => none
def un3 (xs : List α) : Option (α × α × α) := match xs with | [a, b, c] => some (a, b, c) | _ => none
theorem un_T2 {xs : List α} {x : α × α} (h : (dTup K R).rel B xs v) (e : un2 xs = some x) : ∃ a b, R.rel B x.1 a ∧ R.rel B x.2 b ∧ ∀ H, Same B H → ∃ p, v = .ref p ∧ SqT K H p [a, b] := by
  obtain ⟨p, vs, rfl, h, f, _⟩ := h
  cases f with
  | nil => cases e
  | cons r f =>
    cases f with
    | nil => cases e
    | cons t f =>
      cases f with
      | nil => cases e; exact ⟨_, _, r, t, fun H s => ⟨p, rfl, Same.sqt s h⟩⟩
      | cons u f => cases e
theorem un_T3 {xs : List α} {x : α × α × α} (h : (dTup K R).rel B xs v) (e : un3 xs = some x) : ∃ a b c, R.rel B x.1 a ∧ R.rel B x.2.1 b ∧ R.rel B x.2.2 c ∧ ∀ H, Same B H → ∃ p, v = .ref p ∧ SqT K H p [a, b, c] := by
  obtain ⟨p, vs, rfl, h, f, _⟩ := h
  cases f with
  | nil => cases e
  | cons r f =>
    cases f with
    | nil => cases e
    | cons t f =>
      cases f with
      | nil => cases e
      | cons u f =>
        cases f with
        | nil => cases e; exact ⟨_, _, _, r, t, u, fun H s => ⟨p, rfl, Same.sqt s h⟩⟩
        | cons u f => cases e
theorem opt_some {x : α} {o : Option α} (h : (dOpt R).rel B o v) (e : o = some x) : R.rel B x v := by
  subst e; exact h.1
end
section
variable {α β : Type} {K : PySem.W.Frag} {R : Rl α} {S : Rl β} {d : α → PyData} {e : β → PyData} {σ : L2.St} {H B : Hp} {v w : V} {Q : VK} {Φ : Fr} {cs : List (Addr × HO)} {p : Addr} {o : HO} {xs ys : List α} {i : Int}
/-! in of data, in a list of one's own -/
theorem cL_d (h : (cList R).rel B xs o) (hp : H p = some o) (s : Same B H) : (dList R).rel H xs (.ref p) := by
  obtain ⟨vs, rfl, f, l⟩ := h
  exact ⟨p, vs, rfl, hp, fa_mono s f, l⟩
/-! x.index(y) -/
def fIx (p : α → Bool) (xs : List α) : Option Int := (xs.findIdx? p).map fun j => ((j : Nat) : Int)
theorem fIx_some {p : α → Bool} {xs : List α} {i : Int} (h : fIx p xs = some i) : ∃ j : Nat, i = j ∧ (∃ z, xs[j]? = some z ∧ p z = true) ∧ ∀ m z, m < j → xs[m]? = some z → p z = false := by
  unfold fIx at h
  cases e : xs.findIdx? p with
  | none => rw [e] at h; cases h
  | some j =>
    rw [e] at h
    cases h
    obtain ⟨hl, h1, h2⟩ := List.findIdx?_eq_some_iff_getElem.mp e
    refine ⟨j, rfl, ⟨xs[j], by simp [hl], h1⟩, fun m z hm hz => ?_⟩
    obtain ⟨h3, h4⟩ := List.getElem?_eq_some_iff.mp hz
    have := h2 m hm
    rw [h4] at this
    simpa using this
def ixOf [DecidableEq α] (x : α) (xs : List α) : Option Int := fIx (fun y => decide (y = x)) xs
def ixD (d : PyData) (ds : List PyData) : Option Int := if SeqAt.shaped (.list ds) = true ∧ SeqAt.shaped d = true then fIx (fun z => PyData.eqv z d) ds else none
theorem r_ixI {zs : List Int} {j : Int} (h : (dList dInt).rel H zs v) (e : ixOf i zs = some j) (g : Q (.int j) H) : rIndex K v [.int i] H Q := by
  obtain ⟨p, vs, rfl, h, f, _⟩ := h
  cases fa_int f
  obtain ⟨n, rfl, ⟨z, h3, h4⟩, h5⟩ := fIx_some e
  have h4 := of_decide_eq_true h4
  subst h4
  refine ⟨_, _, _, n, .int z, rfl, rfl, SqL.of h, rfl, flat_ints, by rw [List.getElem?_map, h3]; rfl, by simp [eqV], fun m z' hm hz => ?_, g⟩
  rw [List.getElem?_map] at hz
  cases q : zs[m]? with
  | none => rw [q] at hz; cases hz
  | some y =>
    rw [q] at hz
    cases hz
    have := h5 m y hm q
    simp only [decide_eq_false_iff_not] at this
    simp [eqV, this]
theorem r_ixS {zs : List Str} {x : Str} {j : Int} (h : (dList dStr).rel H zs v) (e : ixOf x zs = some j) (g : Q (.int j) H) : rIndex K v [.str x] H Q := by
  obtain ⟨p, vs, rfl, h, f, _⟩ := h
  cases fa_str f
  obtain ⟨n, rfl, ⟨z, h3, h4⟩, h5⟩ := fIx_some e
  have h4 := of_decide_eq_true h4
  subst h4
  refine ⟨_, _, _, n, .str z, rfl, rfl, SqL.of h, rfl, flat_strs, by rw [List.getElem?_map, h3]; rfl, by simp [eqV], fun m z' hm hz => ?_, g⟩
  rw [List.getElem?_map] at hz
  cases q : zs[m]? with
  | none => rw [q] at hz; cases hz
  | some y =>
    rw [q] at hz
    cases hz
    have := h5 m y hm q
    simp only [decide_eq_false_iff_not] at this
    simp [eqV, this]
theorem r_ixD {x : α} {zs : List β} {j : Int} (D : Dr K R d) (E : Dr K S e) (h : (dList S).rel H zs v) (hx : R.rel H x w) (hm : ixD (d x) (zs.map e) = some j) (g : Q (.int j) H) : rIndexD K v [w] H Q := by
  unfold ixD at hm
  by_cases c : SeqAt.shaped (.list (zs.map e)) = true ∧ SeqAt.shaped (d x) = true
  · rw [if_pos c] at hm
    obtain ⟨n, rfl, ⟨z, h3, h4⟩, h5⟩ := fIx_some hm
    have hd := drL E h
    obtain ⟨p, vs, rfl, h, f, _⟩ := h
    exact ⟨p, w, _, _, n, z, rfl, rfl, hd, D hx, c.1, c.2, h3, h4, h5, g⟩
  · rw [if_neg c] at hm; cases hm
/-! xs.pop(i), xs[i] = y, x[a:b], x * n, max(i, j) -/
def popM (xs : List α) (i : Int) : Option (α × List α) := if -(2 ^ 63) ≤ i ∧ i < 2 ^ 63 then (seqIndex? i xs.length).bind fun k => (xs[k]?).map fun x => (x, xs.eraseIdx k) else none
theorem fa_erase {R' : α → V → Prop} : ∀ {xs : List α} {vs : List V} {k : Nat}, Fa R' xs vs → Fa R' (xs.eraseIdx k) (vs.eraseIdx k)
  | _, _, _, .nil => .nil
  | _, _, 0, .cons _ t => t
  | _, _, k + 1, .cons r t => .cons r (fa_erase t)
theorem fa_set {R' : α → V → Prop} {x : α} {w : V} (h : R' x w) : ∀ {xs : List α} {vs : List V} {k : Nat}, Fa R' xs vs → Fa R' (xs.set k x) (vs.set k w)
  | _, _, _, .nil => .nil
  | _, _, 0, .cons _ t => .cons h t
  | _, _, k + 1, .cons r t => .cons r (fa_set h t)
theorem fa_take {R' : α → V → Prop} : ∀ {n : Nat} {xs : List α} {vs : List V}, Fa R' xs vs → Fa R' (xs.take n) (vs.take n)
  | _, _, _, .nil => by simp; exact .nil
  | 0, _, _, _ => by simp; exact .nil
  | n + 1, _, _, .cons r t => .cons r (fa_take t)
theorem fa_drop {R' : α → V → Prop} : ∀ {n : Nat} {xs : List α} {vs : List V}, Fa R' xs vs → Fa R' (xs.drop n) (vs.drop n)
  | _, _, _, .nil => by simp; exact .nil
  | 0, _, _, h => h
  | n + 1, _, _, .cons r t => fa_drop (n := n) t
theorem q_popAt {k : Nat} {x : α} (Z : Sit Φ B H cs) (hk : cs[k]? = some (p, o)) (h : (cList R).rel B xs o) (hm : popM xs i = some (x, ys)) (g : ∀ w o' H', Sit Φ B H' (cs.set k (p, o')) → (cList R).rel B ys o' → R.rel B x w → Q w H') : rPopAt (.ref p) [.int i] H Q := by
  unfold popM at hm
  by_cases c : -(2 ^ 63) ≤ i ∧ i < 2 ^ 63
  · rw [if_pos c] at hm
    obtain ⟨n, hn, hm⟩ := bs hm
    obtain ⟨y, hy, hm⟩ := bs (show ((xs[n]?).bind fun x => some (x, xs.eraseIdx n)) = _ by rw [← hm]; cases xs[n]? <;> rfl)
    cases hm
    obtain ⟨vs, rfl, f, l⟩ := h
    obtain ⟨w, hw, r⟩ := f.getL hy
    exact ⟨p, vs, i, n, w, rfl, rfl, Z.at' hk, c.1, c.2, by rw [← f.len]; exact hn, hw, g w _ _ (Z.set hk) ⟨_, rfl, fa_erase f, by rw [List.length_eraseIdx]; split <;> omega⟩ r⟩
  · rw [if_neg c] at hm; cases hm
def setM (xs : List α) (i : Int) (x : α) : Option (List α) := (ixN xs.length i).map fun n => xs.set n x
theorem q_setL {k : Nat} {x : α} {w : V} {RR : Hp → Prop} (Z : Sit Φ B H cs) (hk : cs[k]? = some (p, o)) (h : (cList R).rel B xs o) (hx : R.rel B x w) (hm : setM xs i x = some ys) (g : ∀ o' H', Sit Φ B H' (cs.set k (p, o')) → (cList R).rel B ys o' → RR H') : rSetL (.ref p) (.int i) w H RR := by
  unfold setM at hm
  obtain ⟨vs, rfl, f, l⟩ := h
  cases e : ixN xs.length i with
  | none => rw [e] at hm; cases hm
  | some n =>
    rw [e] at hm
    cases hm
    exact ⟨p, vs, i, n, rfl, rfl, Z.at' hk, by rw [← f.len]; exact e, g _ _ (Z.set hk) ⟨_, rfl, fa_set hx f, by rw [List.length_set]; exact l⟩⟩
def cutL (xs : List α) (lo hi : Option Int) : List α := (xs.drop (HT.sIx xs.length 0 lo)).take (HT.sIx xs.length xs.length hi - HT.sIx xs.length 0 lo)
theorem cutL_len (xs : List α) (lo hi : Option Int) : (cutL xs lo hi).length ≤ xs.length := by
  unfold cutL; rw [List.length_take, List.length_drop]; omega
theorem fa_cut {R' : α → V → Prop} {xs : List α} {vs : List V} {lo hi : Option Int} (f : Fa R' xs vs) : Fa R' (cutL xs lo hi) (cutV vs lo hi) := by
  unfold cutL cutV
  rw [f.len]
  exact fa_take (fa_drop f)
theorem q_slD {lo hi : Option Int} (Z : Sit Φ B H cs) (h : (dList R).rel B xs v) (k : ∀ v B' H', Sit Φ B' H' cs → Same B B' → (dList R).rel B' (cutL xs lo hi) v → Q v H') : rSlL K v lo hi H Q := by
  obtain ⟨p, vs, rfl, h, f, l⟩ := h
  exact ⟨p, vs, rfl, SqL.of (Z.sub _ _ h), nwL Z (fa_cut f) (Nat.le_trans (cutL_len _ _ _) l) k⟩
theorem q_slDO {lo hi : Option Int} (Z : Sit Φ B H cs) (h : (dList R).rel B xs v) (k : ∀ p o H', Sit Φ B H' ((p, o) :: cs) → Φ.H p = none → (cList R).rel B (cutL xs lo hi) o → Q (.ref p) H') : rSlL K v lo hi H Q := by
  obtain ⟨p, vs, rfl, h, f, l⟩ := h
  exact ⟨p, vs, rfl, SqL.of (Z.sub _ _ h), nwO Z (fa_cut f) (Nat.le_trans (cutL_len _ _ _) l) k⟩
theorem cut_all {lo hi : Option Int} (h : HT.sIx xs.length 0 lo = 0 ∧ HT.sIx xs.length xs.length hi = xs.length) : cutL xs lo hi = xs := by
  unfold cutL
  rw [h.1, h.2]
  simp
theorem q_slT {lo hi : Option Int} (Z : Sit Φ B H cs) (h : (dTup K R).rel B xs v) (k : ∀ v B' H', Sit Φ B' H' cs → Same B B' → (dTup K R).rel B' (cutL xs lo hi) v → Q v H') : rSlA K v lo hi H Q := by
  obtain ⟨p, vs, rfl, h, f, l⟩ := h
  refine ⟨p, vs, rfl, Same.sqt Z.sub h, fun c => ?_, fun _ => nwT Z (fa_cut f) (Nat.le_trans (cutL_len _ _ _) l) k⟩
  rw [← f.len] at c
  exact k _ _ _ Z (Same.rf _) ⟨p, vs, rfl, h, by rw [cut_all c]; exact f, by rw [cut_all c]; exact l⟩
def repM (xs : List α) (n : Int) : Option (List α) := if -(2 ^ 63) ≤ n ∧ n < 2 ^ 63 ∧ xs.length * n.toNat ≤ BIG then some (List.replicate n.toNat xs).flatten else none
theorem fa_rep {R' : α → V → Prop} {xs : List α} {vs : List V} (f : Fa R' xs vs) : ∀ n, Fa R' (List.replicate n xs).flatten (List.replicate n vs).flatten
  | 0 => .nil
  | n + 1 => by rw [List.replicate_succ, List.replicate_succ, List.flatten_cons, List.flatten_cons]; exact f.app (fa_rep f n)
theorem rep_len (xs : List α) (n : Nat) : ((List.replicate n xs).flatten).length = n * xs.length := by
  induction n with
  | zero => simp
  | succ n ih => rw [List.replicate_succ, List.flatten_cons, List.length_append, ih, Nat.succ_mul]; omega
theorem repM_some {n : Int} (h : repM xs n = some ys) : (-(2 ^ 63) ≤ n ∧ n < 2 ^ 63 ∧ xs.length * n.toNat ≤ BIG) ∧ ys = (List.replicate n.toNat xs).flatten := by
  unfold repM at h
  by_cases c : -(2 ^ 63) ≤ n ∧ n < 2 ^ 63 ∧ xs.length * n.toNat ≤ BIG
  · rw [if_pos c] at h; cases h; exact ⟨c, rfl⟩
  · rw [if_neg c] at h; cases h
theorem q_rep {n : Int} (Z : Sit Φ B H cs) (h : (dList R).rel B xs v) (hm : repM xs n = some ys) (k : ∀ v B' H', Sit Φ B' H' cs → Same B B' → (dList R).rel B' ys v → Q v H') : rRep v (.int n) H Q := by
  obtain ⟨c, rfl⟩ := repM_some hm
  obtain ⟨p, vs, rfl, h, f, l⟩ := h
  have := rep_len xs n.toNat
  rw [Nat.mul_comm] at this
  exact ⟨p, n, vs, rfl, rfl, Z.sub _ _ h, c.1, c.2.1, by rw [← f.len]; exact big_size c.2.2, nwL Z (fa_rep f _) (by omega) k⟩
theorem q_repO {n : Int} (Z : Sit Φ B H cs) (h : (dList R).rel B xs v) (hm : repM xs n = some ys) (k : ∀ p o H', Sit Φ B H' ((p, o) :: cs) → Φ.H p = none → (cList R).rel B ys o → Q (.ref p) H') : rRep v (.int n) H Q := by
  obtain ⟨c, rfl⟩ := repM_some hm
  obtain ⟨p, vs, rfl, h, f, l⟩ := h
  have := rep_len xs n.toNat
  rw [Nat.mul_comm] at this
  exact ⟨p, n, vs, rfl, rfl, Z.sub _ _ h, c.1, c.2.1, by rw [← f.len]; exact big_size c.2.2, nwO Z (fa_rep f _) (by omega) k⟩
theorem w_tyD {P : Prop} (h : (dList R).rel B xs v) (s : Same B H) (g : P) : tyV K "list" v H ∧ P := by
  obtain ⟨p, vs, rfl, h, f, _⟩ := h
  exact w_tyL (SqL.of (s _ _ h)) g
theorem k_slA {X : Cx} (K : PySem.W.Frag) (h : X.K = K := by rfl) : SlR X (rSlA K) := by subst h; exact sl_tupA
def maxI (i j : Int) : Int := if j > i then j else i
theorem rmax2 {j : Int} : ∀ Q : VK, Q (.int (maxI i j)) H → rMax2 [.int i, .int j] H Q := fun Q q => ⟨i, j, rfl, q⟩
end
end Mf

namespace Mf
open PySem L2 PyProof.Rows
/-! ### a call that gives a list of one's own -/
theorem Sit.call0F {Φ : Fr} {B H B' H' : Hp} {cs : List (Addr × HO)} {p : Addr} {o : HO} (S : Sit Φ B H cs) (S' : Sit ⟨B, H, []⟩ B' H' [(p, o)]) (n : H p = Option.none) : Sit Φ B' H' ((p, o) :: cs) :=
  S.call S' (fun _ m => by cases m) (fun c m => by
    rcases List.mem_cons.mp m with rfl | m
    · exact .inl (by simp)
    · exact .inr ⟨m, fun z => by cases z⟩) (by
    rw [List.map_cons, List.nodup_cons]
    refine ⟨fun m => ?_, S.nd⟩
    obtain ⟨c, hm, e⟩ := List.mem_map.mp m
    exact S.neC n hm e)
theorem Sit.call1F {Φ : Fr} {B H B' H' : Hp} {cs : List (Addr × HO)} {i : Nat} {p q : Addr} {o u u' : HO} (S : Sit Φ B H cs) (h : cs[i]? = some (q, u)) (S' : Sit ⟨B, H, [q]⟩ B' H' [(p, o), (q, u')]) (n : H p = Option.none) : Sit Φ B' H' ((p, o) :: cs.set i (q, u')) := by
  have h1 := S.call1 h (S'.only (.cons _ (.cons₂ _ .slnil)))
  have hp := S'.cell (p, o) (by simp)
  have nd : p ∉ cs.map Prod.fst := fun m => by
    obtain ⟨c, hm, e⟩ := List.mem_map.mp m
    exact S.neC n hm e
  refine S.call S' (fun z m => ⟨u, by rw [List.mem_singleton.mp m]; exact List.mem_of_getElem? h⟩) (fun c m => ?_) ?_
  · rcases List.mem_cons.mp m with rfl | m
    · exact .inl (by simp)
    · obtain ⟨j, hj⟩ := List.getElem?_of_mem m
      rw [List.getElem?_set] at hj
      by_cases e : i = j
      · rw [if_pos e, if_pos (List.getElem?_eq_some_iff.mp h).1] at hj
        cases hj
        exact .inl (by simp)
      · rw [if_neg e] at hj
        exact .inr ⟨List.mem_of_getElem? hj, fun z => e (Sit.inj S.nd h (show cs[j]? = some (c.1, c.2) from hj) (List.mem_singleton.mp z).symm)⟩
  · rw [List.map_cons, List.nodup_cons, Sit.map_set h]
    exact ⟨nd, S.nd⟩
/-! ### dicts of one's own: by whole numbers too -/
section
variable {κ α : Type} [DecidableEq κ] {ky : κ → Key} {K : PySem.W.Frag} {R : Rl α} {σ : L2.St} {H B : Hp} {v w : V} {Q : VK} {Φ : Fr} {cs : List (Addr × HO)} {p : Addr} {o : HO} {kvs : List (κ × α)} {k : κ} {x : α}
def FaG (ky : κ → Key) (R : Rl α) (H : Hp) (xs : List (κ × α)) (kvs : List (Key × V)) : Prop := Fa (fun x (kv : Key × V) => kv.1 = ky x.1 ∧ R.rel H x.2 kv.2) xs kvs
omit [DecidableEq κ] in
theorem faG_mono {H H' : Hp} {xs : List (κ × α)} {kvs : List (Key × V)} (e : Same H H') (h : FaG ky R H xs kvs) : FaG ky R H' xs kvs := h.imp fun _ _ _ z => ⟨z.1, R.mono e z.2⟩
def dDictG (ky : κ → Key) (R : Rl α) : Rl (List (κ × α)) := ⟨fun H xs v => ∃ p kvs, v = .ref p ∧ H p = some (.dK kvs) ∧ FaG ky R H xs kvs ∧ xs.length ≤ BIG, fun e ⟨p, kvs, a, b, c, d⟩ => ⟨p, kvs, a, e _ _ b, faG_mono e c, d⟩⟩
def cDictG (ky : κ → Key) (R : Rl α) : Cl (List (κ × α)) := ⟨fun B xs o => ∃ kvs, o = .dK kvs ∧ FaG ky R B xs kvs ∧ xs.length ≤ BIG, fun e ⟨vs, a, c, d⟩ => ⟨vs, a, faG_mono e c, d⟩⟩
def gGet (kvs : List (κ × α)) (k : κ) : Option α := (kvs.find? fun x => decide (x.1 = k)).map (·.2)
def gHas (kvs : List (κ × α)) (k : κ) : Bool := (gGet kvs k).isSome
def gPut (kvs : List (κ × α)) (k : κ) (v : α) : List (κ × α) := if (kvs.any fun x => decide (x.1 = k)) = true then kvs.map (fun x => if x.1 = k then (x.1, v) else x) else kvs ++ [(k, v)]
def gDel (kvs : List (κ × α)) (k : κ) : List (κ × α) := kvs.filter fun x => decide (x.1 ≠ k)
theorem faG_get (inj : ∀ a b, ky a = ky b → a = b) {ws : List (Key × V)} (h : FaG ky R B kvs ws) (k : κ) : match gGet kvs k with
    | none => valV ws (ky k) = none
    | some x => ∃ w, valV ws (ky k) = some w ∧ R.rel B x w := by
  unfold gGet
  induction h with
  | nil => rfl
  | @cons a b as bs' r t ih =>
    by_cases e : a.1 = k
    · simp only [List.find?_cons, e, decide_true, Option.map_some]
      exact ⟨b.2, valV_pos (by rw [r.1, e]), r.2⟩
    · simp only [List.find?_cons, e, decide_false]
      rw [valV_neg (fun z => e (by rw [r.1] at z; exact inj _ _ z))]
      exact ih
theorem faG_any (inj : ∀ a b, ky a = ky b → a = b) {ws : List (Key × V)} (h : FaG ky R B kvs ws) (k : κ) : (ws.any fun kv => decide (kv.1 = ky k)) = kvs.any fun x => decide (x.1 = k) := by
  induction h with
  | nil => rfl
  | @cons a b as bs' r t ih =>
    rw [List.any_cons, List.any_cons, ih, r.1]
    congr 1
    exact decide_eq_decide.mpr ⟨inj _ _, fun e => by rw [e]⟩
theorem faG_put (inj : ∀ a b, ky a = ky b → a = b) {ws : List (Key × V)} (h : FaG ky R B kvs ws) (hx : R.rel B x w) : FaG ky R B (gPut kvs k x) (putK ws (ky k) w) := by
  unfold gPut putK
  rw [faG_any inj h k]
  by_cases c : (kvs.any fun x => decide (x.1 = k)) = true
  · rw [if_pos c, if_pos c]
    clear c
    induction h with
    | nil => exact .nil
    | @cons a b as bs' r t ih =>
      rw [List.map_cons, List.map_cons]
      refine .cons ?_ ih
      by_cases e : a.1 = k
      · rw [if_pos e, if_pos (by rw [r.1, e])]
        exact ⟨r.1, hx⟩
      · rw [if_neg e, if_neg (fun z => e (by rw [r.1] at z; exact inj _ _ z))]
        exact r
  · rw [if_neg c, if_neg c]
    exact h.app (.one ⟨rfl, hx⟩)
theorem faG_del (inj : ∀ a b, ky a = ky b → a = b) {ws : List (Key × V)} (h : FaG ky R B kvs ws) : FaG ky R B (gDel kvs k) (dropK ws (ky k)) := by
  unfold gDel dropK
  induction h with
  | nil => exact .nil
  | @cons a b as bs' r t ih =>
    by_cases e : a.1 = k
    · rw [List.filter_cons, List.filter_cons, if_neg (by simp [e]), if_neg (by simp [r.1, e])]
      exact ih
    · have e' : b.1 ≠ ky k := fun z => e (by rw [r.1] at z; exact inj _ _ z)
      rw [List.filter_cons, List.filter_cons, if_pos (by simp [e]), if_pos (by simp [e'])]
      exact .cons r ih
theorem gPut_len (kvs : List (κ × α)) (k : κ) (v : α) : (gPut kvs k v).length ≤ kvs.length + 1 := by
  unfold gPut
  split <;> simp
def DqG (ky : κ → Key) (R : Rl α) (B H : Hp) (kvs : List (κ × α)) (v : V) : Prop := ∃ p ws, v = .ref p ∧ H p = some (.dK ws) ∧ FaG ky R B kvs ws
omit [DecidableEq κ] in
theorem dqGD (h : (dDictG ky R).rel B kvs v) (s : Same B H) : DqG ky R B H kvs v := let ⟨p, ws, a, b, c, _⟩ := h; ⟨p, ws, a, s _ _ b, c⟩
omit [DecidableEq κ] in
theorem dqGC (h : (cDictG ky R).rel B kvs o) (hp : H p = some o) : DqG ky R B H kvs (.ref p) := by
  obtain ⟨ws, rfl, f, _⟩ := h
  exact ⟨p, ws, rfl, hp, f⟩
theorem DqG.get (inj : ∀ a b, ky a = ky b → a = b) (h : DqG ky R B H kvs v) (e : gGet kvs k = some x) : ∃ w, R.rel B x w ∧ ∃ a, v = .ref a ∧ DGet H a (kV (ky k)) (some w) := by
  obtain ⟨p, ws, rfl, h, f⟩ := h
  have q := faG_get inj f k
  rw [e] at q
  obtain ⟨w, hw, r⟩ := q
  exact ⟨w, r, p, rfl, by rw [← hw]; exact DGet.k h⟩
theorem DqG.has (inj : ∀ a b, ky a = ky b → a = b) (h : DqG ky R B H kvs v) : ∃ a o, v = .ref a ∧ DGet H a (kV (ky k)) o ∧ o.isSome = gHas kvs k := by
  obtain ⟨p, ws, rfl, h, f⟩ := h
  refine ⟨p, _, rfl, DGet.k h, ?_⟩
  have q := faG_get inj f k
  unfold gHas
  cases e : gGet kvs k with
  | none => rw [e] at q; simp [q]
  | some x => rw [e] at q; obtain ⟨w, hw, _⟩ := q; simp [hw]
omit [DecidableEq κ] in
theorem rlen_g (h : DqG ky R B H kvs v) : ∀ Q : VK, Q (.int (kvs.length : Int)) H → rLenD [v] H Q := fun Q q => by
  obtain ⟨p, ws, rfl, h, f⟩ := h
  exact ⟨p, ws, rfl, h, by rw [← f.len]; exact q⟩
def putM (kvs : List (κ × α)) (k : κ) (x : α) : Option (List (κ × α)) := if kvs.length < BIG then some (gPut kvs k x) else none
theorem q_dputG (inj : ∀ a b, ky a = ky b → a = b) {i : Nat} {ys : List (κ × α)} {D : Ends} (Z : Sit Φ B H cs) (hk : cs[i]? = some (p, o)) (h : (cDictG ky R).rel B kvs o) (hx : R.rel B x w) (hm : putM kvs k x = some ys) (g : ∀ o' H', Sit Φ B H' (cs.set i (p, o')) → (cDictG ky R).rel B ys o' → D.nx σ H') : ∃ a H4, V.ref p = .ref a ∧ DPut H a (kV (ky k)) w H4 ∧ D.nx σ H4 := by
  unfold putM at hm
  by_cases c : kvs.length < BIG
  · rw [if_pos c] at hm
    cases hm
    obtain ⟨ws, rfl, f, l⟩ := h
    exact ⟨p, _, rfl, DPut.k (Z.at' hk) (by rw [← f.len]; exact big_lt (by omega)), g _ _ (Z.set hk) ⟨_, rfl, faG_put inj f hx, Nat.le_trans (gPut_len _ _ _) (by omega)⟩⟩
  · rw [if_neg c] at hm; cases hm
theorem q_ddelG (inj : ∀ a b, ky a = ky b → a = b) {i : Nat} {D : Ends} (Z : Sit Φ B H cs) (hk : cs[i]? = some (p, o)) (h : (cDictG ky R).rel B kvs o) (hm : gGet kvs k = some x) (g : ∀ o' H', Sit Φ B H' (cs.set i (p, o')) → (cDictG ky R).rel B (gDel kvs k) o' → D.nx σ H') : ∃ a ws k', V.ref p = .ref a ∧ H a = some (.dK ws) ∧ kV (ky k) = kV k' ∧ (valV ws k').isSome = true ∧ D.nx σ (upd H a (.dK (dropK ws k'))) := by
  obtain ⟨ws, rfl, f, l⟩ := h
  have q := faG_get inj f k
  rw [hm] at q
  obtain ⟨w, hw, r⟩ := q
  exact ⟨p, ws, ky k, rfl, Z.at' hk, rfl, by rw [hw]; rfl, g _ _ (Z.set hk) ⟨_, rfl, faG_del inj f, Nat.le_trans (by unfold gDel; exact List.length_filter_le _ _) l⟩⟩
theorem q_dpopG (inj : ∀ a b, ky a = ky b → a = b) {i : Nat} (Z : Sit Φ B H cs) (hk : cs[i]? = some (p, o)) (h : (cDictG ky R).rel B kvs o) (hm : gGet kvs k = some x) (g : ∀ w o' H', Sit Φ B H' (cs.set i (p, o')) → (cDictG ky R).rel B (gDel kvs k) o' → R.rel B x w → Q w H') : ∃ ws k' v, H p = some (.dK ws) ∧ kV (ky k) = kV k' ∧ valV ws k' = some v ∧ Q v (upd H p (.dK (dropK ws k'))) := by
  obtain ⟨ws, rfl, f, l⟩ := h
  have q := faG_get inj f k
  rw [hm] at q
  obtain ⟨w, hw, r⟩ := q
  exact ⟨ws, ky k, w, Z.at' hk, rfl, hw, g w _ _ (Z.set hk) ⟨_, rfl, faG_del inj f, Nat.le_trans (by unfold gDel; exact List.length_filter_le _ _) l⟩ r⟩
omit [DecidableEq κ] in
theorem frzG (h : (cDictG ky R).rel B kvs o) (n : B p = none) : (dDictG ky R).rel (upd B p o) kvs (.ref p) := by
  obtain ⟨ws, rfl, f, l⟩ := h
  exact ⟨p, ws, rfl, upd_same, faG_mono (Same.new n) f, l⟩
theorem q_get2 (inj : ∀ a b, ky a = ky b → a = b) (h : DqG ky R B H kvs v) {y : α} {z : V} (hz : R.rel B y z) (g : ∀ w, R.rel B ((gGet kvs k).getD y) w → Q w H) : ∃ a, v = .ref a ∧ ∃ o, DGet H a (kV (ky k)) o ∧ Q (o.getD z) H := by
  obtain ⟨p, ws, rfl, h, f⟩ := h
  refine ⟨p, rfl, _, DGet.k h, ?_⟩
  have q := faG_get inj f k
  cases e : gGet kvs k with
  | none => rw [e] at q; rw [q]; exact g z (by rw [e]; exact hz)
  | some x => rw [e] at q; obtain ⟨w, hw, r⟩ := q; rw [hw]; exact g w (by rw [e]; exact r)
end
theorem inlI : ∀ a b : Int, (Sum.inl a : Key) = Sum.inl b → a = b := fun _ _ e => by injection e
theorem inrI : ∀ a b : Str, (Sum.inr a : Key) = Sum.inr b → a = b := fun _ _ e => by injection e
abbrev dDictI {α : Type} (R : Rl α) : Rl (List (Int × α)) := dDictG Sum.inl R
abbrev cDictI {α : Type} (R : Rl α) : Cl (List (Int × α)) := cDictG Sum.inl R
section
variable {α : Type} {R : Rl α} {σ : L2.St} {H B : Hp} {v w : V} {Q : VK} {Φ : Fr} {cs : List (Addr × HO)} {td ty : TE} {i : Int} {kvs : List (Int × α)}
theorem Ev.iget (hd : Ev td σ H v) (hy : Ev ty σ H (.int i)) (h : ∃ a, v = .ref a ∧ DGet H a (kV (Sum.inl i)) (some w)) : Ev (tDGet td ty) σ H w := fun Q q => hd _ (hy _ (let ⟨a, e, g⟩ := h; ⟨a, w, e, g, q⟩))
theorem Ev.iin (hy : Ev ty σ H (.int i)) (hd : Ev td σ H v) (h : DqG Sum.inl R B H kvs v) : Ev (tDIn ty td) σ H (.bl (gHas kvs i)) := fun Q q => hy _ (hd _ (let ⟨a, o, e, g, b⟩ := h.has inlI (k := i); ⟨a, o, e, g, by rw [b]; exact q⟩))
theorem Ev.ini (hy : Ev ty σ H (.int i)) (hd : Ev td σ H v) (h : DqG Sum.inl R B H kvs v) : Ev (tDNotIn ty td) σ H (.bl (!gHas kvs i)) := fun Q q => hy _ (hd _ (let ⟨a, o, e, g, b⟩ := h.has inlI (k := i); ⟨a, o, e, g, by rw [b]; exact q⟩))
/-- {} -/
theorem q_dnewG {κ : Type} {ky : κ → Key} (Z : Sit Φ B H cs) (k : ∀ p o H', Sit Φ B H' ((p, o) :: cs) → Φ.H p = none → (cDictG ky R).rel B [] o → Q (.ref p) H') : tDNewK σ H Q := fun p n => k _ _ _ (Z.own n) (Z.fresh n) ⟨[], rfl, .nil, Nat.zero_le _⟩
theorem q_dnew (Z : Sit Φ B H cs) (k : ∀ p o H', Sit Φ B H' ((p, o) :: cs) → Φ.H p = none → (cDict R).rel B [] o → Q (.ref p) H') : tDNewK σ H Q := fun p n => k _ _ _ (Z.own n) (Z.fresh n) ⟨[], rfl, .nil, Nat.zero_le _⟩
theorem w_dput {td ty tv : TE} {D : Ends} (g : tv σ H fun v H1 => td σ H1 fun x H2 => ty σ H2 fun y H3 => ∃ a H4, x = .ref a ∧ DPut H3 a y v H4 ∧ D.nx σ H4) : sDPut td ty tv D σ H := g
/-! a text or a number, written -/
def strD : PyData → Option Str
  | .str x => some x
  | .int i => strI i
  | _ => none
def fmtD : PyData → Option Str
  | .str x => fmtS x
  | .int i => strI i
  | _ => none
def rStrA : List V → Hp → VK → Prop := fun xs H Q => rStrI xs H Q ∨ rStrS xs H Q
theorem c_strA {X : Cx} : CallR X (.type "str") rStrA := fun pins s σ H xs us Q I r h => h.elim (fun h => c_strI pins s σ H xs us Q I r h) fun h => c_strS pins s σ H xs us Q I r h
theorem rstrA {K : PySem.W.Frag} {x : PyData} {r : Str} (h : (dAny K).rel B x v) (e : strD x = some r) : ∀ Q : VK, Q (.str r) H → rStrA [v] H Q := fun Q q => by
  have h : Dp K B v x := h
  cases h with
  | int i => exact .inl (rstrI e Q q)
  | str i => cases e; exact .inr ⟨_, rfl, q⟩
  | _ => cases e
theorem x_fmtD {K : PySem.W.Frag} {x : PyData} {r : Str} (h : (dAny K).rel B x v) (e : fmtD x = some r) (g : Q (.str r) H) : FmQ Q v H := by
  have h : Dp K B v x := h
  cases h with
  | int i => exact x_fmtI e g
  | str i => exact x_fmtS e g
  | _ => cases e
theorem rv_mulI {i j : Int} (h : CMul i j) : RV (rI CMul fun i j => .int (i * j)) (.int i) (.int j) H (.int (i * j)) := rv_I h
theorem rv_powI {i j : Int} (h : CPow i j) : RV (rI CPow fun i j => .int (i ^ j.toNat)) (.int i) (.int j) H (.int (i ^ j.toNat)) := rv_I h
end
end Mf

namespace Mf
open PySem L2 PyProof.Rows
/-! ### distinct things, numbered by first occurrence -/
theorem nd_le {α : Type} [DecidableEq α] : ∀ {l m : List α}, l.Nodup → (∀ z ∈ l, z ∈ m) → l.length ≤ m.length
  | [], _, _, _ => Nat.zero_le _
  | x :: l, m, nd, h => by
    rw [List.nodup_cons] at nd
    have hx := h x List.mem_cons_self
    have := nd_le (l := l) (m := m.erase x) nd.2 (fun z hz => by
      have := h z (List.mem_cons_of_mem _ hz)
      exact (List.mem_erase_of_ne (fun (e : z = x) => nd.1 (e ▸ hz))).mpr this)
    rw [List.length_erase_of_mem hx] at this
    have := List.length_pos_of_mem hx
    rw [List.length_cons]
    omega
theorem nd_of_len {α : Type} [DecidableEq α] : ∀ {m l : List α}, l.Nodup → (∀ z ∈ l, z ∈ m) → m.length ≤ l.length → m.Nodup
  | [], _, _, _, _ => List.nodup_nil
  | y :: m, l, nd, h, hl => by
    rw [List.length_cons] at hl
    have no : ¬ (∀ z ∈ l, z ∈ m) := fun k => by have := nd_le nd k; omega
    rw [List.nodup_cons]
    refine ⟨fun hy => no fun z hz => ?_, ?_⟩
    · rcases List.mem_cons.mp (h z hz) with e | e
      · exact e ▸ hy
      · exact e
    · by_cases hy : y ∈ l
      · refine nd_of_len (l := l.erase y) (nd.erase y) (fun z hz => ?_) (by rw [List.length_erase_of_mem hy]; omega)
        have hz2 := (List.Nodup.mem_erase_iff nd).mp hz
        rcases List.mem_cons.mp (h z hz2.2) with e | e
        · exact absurd e hz2.1
        · exact e
      · exact absurd (fun z hz => by
          rcases List.mem_cons.mp (h z hz) with e | e
          · exact absurd (e ▸ hz) hy
          · exact e) no
section
variable {α β : Type} [DecidableEq α] [DecidableEq β]
def push1 (acc : List α) (x : α) : List α := if x ∈ acc then acc else acc ++ [x]
def dis (xs : List α) : List α := xs.foldl push1 []
theorem push1_mem {acc : List α} {x z : α} : z ∈ push1 acc x ↔ z ∈ acc ∨ z = x := by
  unfold push1
  by_cases h : x ∈ acc
  · rw [if_pos h]; exact ⟨.inl, fun e => e.elim id fun e => e ▸ h⟩
  · rw [if_neg h]; simp
theorem push1_nd {acc : List α} {x : α} (nd : acc.Nodup) : (push1 acc x).Nodup := by
  unfold push1
  by_cases h : x ∈ acc
  · rw [if_pos h]; exact nd
  · rw [if_neg h, List.nodup_append]
    exact ⟨nd, by simp, fun a ha b hb e => h (by rw [← List.mem_singleton.mp hb, ← e]; exact ha)⟩
theorem disF_mem : ∀ {xs acc : List α} {z : α}, z ∈ xs.foldl push1 acc ↔ z ∈ acc ∨ z ∈ xs
  | [], acc, z => by simp
  | x :: xs, acc, z => by rw [List.foldl_cons, disF_mem, push1_mem, List.mem_cons, or_assoc]
theorem disF_nd : ∀ {xs acc : List α}, acc.Nodup → (xs.foldl push1 acc).Nodup
  | [], acc, h => h
  | x :: xs, acc, h => by rw [List.foldl_cons]; exact disF_nd (push1_nd h)
theorem mem_dis {xs : List α} {z : α} : z ∈ dis xs ↔ z ∈ xs := by unfold dis; rw [disF_mem]; simp
theorem dis_nd (xs : List α) : (dis xs).Nodup := disF_nd List.nodup_nil
theorem dis_len (xs : List α) : (dis xs).length ≤ xs.length := nd_le (dis_nd xs) fun z hz => mem_dis.mp hz
theorem disF_map {φ : α → β} : ∀ {xs acc : List α}, (∀ a ∈ acc ++ xs, ∀ b ∈ acc ++ xs, φ a = φ b → a = b) → (xs.map φ).foldl push1 (acc.map φ) = (xs.foldl push1 acc).map φ
  | [], acc, _ => rfl
  | x :: xs, acc, h => by
    rw [List.map_cons, List.foldl_cons, List.foldl_cons]
    have e : push1 (acc.map φ) (φ x) = (push1 acc x).map φ := by
      unfold push1
      by_cases c : x ∈ acc
      · rw [if_pos c, if_pos (List.mem_map.mpr ⟨x, c, rfl⟩)]
      · rw [if_neg c, if_neg, List.map_append, List.map_singleton]
        intro z
        obtain ⟨a, ha, e⟩ := List.mem_map.mp z
        have := h a (List.mem_append_left _ ha) x (List.mem_append_right _ List.mem_cons_self) e
        exact c (this ▸ ha)
    rw [e]
    refine disF_map fun a ha b hb e => ?_
    have hs : ∀ z, z ∈ push1 acc x ++ xs → z ∈ acc ++ x :: xs := fun z hz => by
      rcases List.mem_append.mp hz with q | q
      · rcases push1_mem.mp q with q | q
        · exact List.mem_append_left _ q
        · rw [q]; exact List.mem_append_right _ List.mem_cons_self
      · exact List.mem_append_right _ (List.mem_cons_of_mem _ q)
    exact h a (hs a ha) b (hs b hb) e
theorem dis_map {φ : α → β} {xs : List α} (h : ∀ a ∈ xs, ∀ b ∈ xs, φ a = φ b → a = b) : dis (xs.map φ) = (dis xs).map φ := disF_map (acc := []) (by simpa using h)
theorem idx_map {φ : α → β} : ∀ {xs : List α} {x : α}, (∀ a ∈ xs, φ a = φ x → a = x) → (xs.map φ).idxOf (φ x) = xs.idxOf x
  | [], x, _ => rfl
  | y :: xs, x, h => by
    rw [List.map_cons, List.idxOf_cons, List.idxOf_cons]
    by_cases e : y = x
    · subst e; simp
    · have e' : φ y ≠ φ x := fun z => e (h y List.mem_cons_self z)
      have h1 : (y == x) = false := by simpa using e
      have h2 : (φ y == φ x) = false := by simpa using e'
      rw [h1, h2, cond_false, cond_false, idx_map fun a ha => h a (List.mem_cons_of_mem _ ha)]
def pos (xs : List α) (x : α) : Nat := xs.idxOf x
theorem pos_lt {xs : List α} {x : α} (h : x ∈ xs) : pos xs x < xs.length := List.idxOf_lt_length_of_mem h
theorem pos_map {φ : α → β} {xs : List α} {x : α} (h : ∀ a ∈ xs, φ a = φ x → a = x) : pos (xs.map φ) (φ x) = pos xs x := idx_map h
def num (xs : List α) : List Nat := xs.map fun x => pos (dis xs) x
theorem num_len (xs : List α) : (num xs).length = xs.length := by unfold num; simp
theorem num_inj {φ : α → β} {xs : List α} (h : ∀ a ∈ xs, ∀ b ∈ xs, φ a = φ b → a = b) : num (xs.map φ) = num xs := by
  unfold num
  rw [dis_map h, List.map_map]
  refine List.map_congr_left fun x hx => ?_
  exact pos_map fun a ha e => h a (mem_dis.mp ha) x hx e
theorem get_idx {xs : List α} {x : α} (h : x ∈ xs) : xs[pos xs x]? = some x := by
  unfold pos
  have hl := List.idxOf_lt_length_of_mem h
  rw [List.getElem?_eq_getElem hl, List.getElem_idxOf]
theorem num_fac (F : α → β) (xs : List α) : ∃ g : Nat → Nat, num (xs.map F) = (num xs).map g := by
  refine ⟨fun n => match (dis xs)[n]? with | some y => pos (dis (xs.map F)) (F y) | none => 0, ?_⟩
  unfold num
  rw [List.map_map, List.map_map]
  refine List.map_congr_left fun x hx => ?_
  simp only [Function.comp]
  rw [get_idx (mem_dis.mpr hx)]
theorem num_eq {xs : List α} {a b : α} (ha : a ∈ xs) (hb : b ∈ xs) (h : pos (dis xs) a = pos (dis xs) b) : a = b := by
  have h1 := get_idx (mem_dis.mpr ha)
  have h2 := get_idx (mem_dis.mpr hb)
  rw [h, h2] at h1
  cases h1
  rfl
def cnt (xs : List α) : Nat := (dis xs).length
theorem cnt_le (xs : List α) : cnt xs ≤ xs.length := dis_len xs
theorem cnt_map (F : α → β) (xs : List α) : cnt (xs.map F) ≤ cnt xs := by
  unfold cnt
  have := nd_le (l := dis (xs.map F)) (m := (dis xs).map F) (dis_nd _) (fun z hz => by
    obtain ⟨x, hx, rfl⟩ := List.mem_map.mp (mem_dis.mp hz)
    exact List.mem_map.mpr ⟨x, mem_dis.mpr hx, rfl⟩)
  simpa using this
theorem nd_map_inj {F : α → β} : ∀ {l : List α}, (l.map F).Nodup → ∀ a ∈ l, ∀ b ∈ l, F a = F b → a = b
  | [], _, a, ha, _, _, _ => by cases ha
  | x :: l, nd, a, ha, b, hb, e => by
    rw [List.map_cons, List.nodup_cons] at nd
    rcases List.mem_cons.mp ha with ea | ha <;> rcases List.mem_cons.mp hb with eb | hb
    · rw [ea, eb]
    · exact absurd (List.mem_map.mpr ⟨b, hb, by rw [← e, ea]⟩) nd.1
    · exact absurd (List.mem_map.mpr ⟨a, ha, by rw [e, eb]⟩) nd.1
    · exact nd_map_inj nd.2 a ha b hb e
theorem cnt_inj {F : α → β} {xs : List α} (h : cnt (xs.map F) = cnt xs) : ∀ a ∈ xs, ∀ b ∈ xs, F a = F b → a = b := by
  have nd : ((dis xs).map F).Nodup := nd_of_len (l := dis (xs.map F)) (dis_nd _) (fun z hz => by
    obtain ⟨x, hx, rfl⟩ := List.mem_map.mp (mem_dis.mp hz)
    exact List.mem_map.mpr ⟨x, mem_dis.mpr hx, rfl⟩) (by unfold cnt at h; simp; omega)
  exact fun a ha b hb e => nd_map_inj nd a (mem_dis.mpr ha) b (mem_dis.mpr hb) e
theorem num_small {xs : List α} (h : cnt xs ≤ 1) : num xs = List.replicate xs.length 0 := by
  unfold num
  rw [List.eq_replicate_iff]
  refine ⟨by simp, fun n hn => ?_⟩
  obtain ⟨x, hx, rfl⟩ := List.mem_map.mp hn
  have := pos_lt (mem_dis.mpr hx)
  unfold cnt at h
  omega
end
/-! ### items, rows -/
inductive Item
  | gap
  | word (s : Str)
  | num (i : Int)
  | node (k : Nat)
  deriving DecidableEq
abbrev Row : Type := List Item
abbrev Tbl : Type := List Row
def Item.ren (f : Nat → Nat) : Item → Item
  | .node k => .node (f k)
  | x => x
def cls (c : List Nat) (k : Nat) : Nat := c.getD k 0
def shape (c : List Nat) (r : Row) : Row := r.map (Item.ren (cls c))
def keysC (t : Tbl) (c : List Nat) : Tbl := t.map (shape c)
def stepC (t : Tbl) (c : List Nat) : List Nat := num (keysC t c)
def seqC (t : Tbl) : Nat → List Nat
  | 0 => List.replicate t.length 0
  | k + 1 => stepC t (seqC t k)
def Tok (t : Tbl) : Prop := ∀ r ∈ t, ∀ k, Item.node k ∈ r → k < t.length
def C (t : Tbl) : List Nat := seqC t t.length
theorem seqC_len (t : Tbl) : ∀ k, (seqC t k).length = t.length
  | 0 => by unfold seqC; simp
  | k + 1 => by unfold seqC stepC keysC; rw [num_len]; simp
theorem cls_map {c : List Nat} {f : Nat → Nat} {k : Nat} (h : k < c.length) : cls (c.map f) k = f (cls c k) := by
  unfold cls
  simp [List.getD, List.getElem?_map, h]
theorem shape_map {t : Tbl} (hok : Tok t) {c : List Nat} (hc : c.length = t.length) (f : Nat → Nat) : keysC t (c.map f) = (keysC t c).map (fun r => r.map (Item.ren f)) := by
  unfold keysC
  rw [List.map_map]
  refine List.map_congr_left fun r hr => ?_
  simp only [Function.comp]
  unfold shape
  rw [List.map_map]
  refine List.map_congr_left fun x hx => ?_
  cases x with
  | node k => simp only [Function.comp, Item.ren]; rw [cls_map (by rw [hc]; exact hok r hr k hx)]
  | _ => rfl
theorem seq_fac {t : Tbl} (hok : Tok t) : ∀ k, ∃ f, seqC t k = (seqC t (k + 1)).map f
  | 0 => ⟨fun _ => 0, by
    show List.replicate t.length 0 = _
    symm
    rw [List.eq_replicate_iff]
    refine ⟨by rw [List.length_map, seqC_len], fun n hn => ?_⟩
    obtain ⟨_, _, rfl⟩ := List.mem_map.mp hn
    rfl⟩
  | k + 1 => by
    obtain ⟨f, hf⟩ := seq_fac hok k
    have e : keysC t (seqC t k) = (keysC t (seqC t (k + 1))).map (fun r => r.map (Item.ren f)) := by
      rw [hf]; exact shape_map hok (seqC_len t _) f
    obtain ⟨g, hg⟩ := num_fac (fun r : Row => r.map (Item.ren f)) (keysC t (seqC t (k + 1)))
    exact ⟨g, by show num (keysC t (seqC t k)) = _; rw [e, hg]; rfl⟩
def cntC (t : Tbl) (k : Nat) : Nat := cnt (keysC t (seqC t k))
theorem cntC_le {t : Tbl} (hok : Tok t) (k : Nat) : cntC t k ≤ cntC t (k + 1) := by
  obtain ⟨f, hf⟩ := seq_fac hok k
  unfold cntC
  rw [show keysC t (seqC t k) = (keysC t (seqC t (k + 1))).map (fun r => r.map (Item.ren f)) by rw [hf]; exact shape_map hok (seqC_len t _) f]
  exact cnt_map _ _
theorem cntC_eq {t : Tbl} (hok : Tok t) {k : Nat} (h : cntC t k = cntC t (k + 1)) : seqC t (k + 1) = seqC t (k + 2) := by
  obtain ⟨f, hf⟩ := seq_fac hok k
  have e : keysC t (seqC t k) = (keysC t (seqC t (k + 1))).map (fun r => r.map (Item.ren f)) := by rw [hf]; exact shape_map hok (seqC_len t _) f
  show num (keysC t (seqC t k)) = num (keysC t (seqC t (k + 1)))
  unfold cntC at h
  rw [e] at h
  rw [e]
  exact num_inj (cnt_inj h)
theorem cntC_top (t : Tbl) (k : Nat) : cntC t k ≤ t.length := by
  have := cnt_le (keysC t (seqC t k))
  unfold keysC at this
  rw [List.length_map] at this
  exact this
theorem seq_stay {t : Tbl} {k : Nat} (h : seqC t (k + 1) = seqC t k) : ∀ j, seqC t (k + j) = seqC t k
  | 0 => rfl
  | j + 1 => by
    show stepC t (seqC t (k + j)) = _
    rw [seq_stay h j]
    exact h
theorem seq_two {t : Tbl} {k j : Nat} (hk : seqC t (k + 1) = seqC t k) (hj : seqC t (j + 1) = seqC t j) : seqC t k = seqC t j := by
  rcases Nat.le_total k j with h | h
  · have := seq_stay hk (j - k)
    rw [show k + (j - k) = j by omega] at this
    exact this.symm
  · have := seq_stay hj (k - j)
    rw [show j + (k - j) = k by omega] at this
    exact this
theorem seq_grow {t : Tbl} (hok : Tok t) {n : Nat} (h : ∀ k, k ≤ n → seqC t (k + 1) ≠ seqC t k) : ∀ k, k ≤ n → k + 2 ≤ cntC t k
  | 0, h0 => by
    refine Nat.le_of_not_lt fun hl => h 0 h0 ?_
    show num (keysC t (seqC t 0)) = List.replicate t.length 0
    rw [num_small (by unfold cntC at hl; omega)]
    unfold keysC
    rw [List.length_map]
  | k + 1, hk => by
    have ih := seq_grow hok h k (by omega)
    have h1 := cntC_le hok k
    have h2 : cntC t k ≠ cntC t (k + 1) := fun e => h (k + 1) hk (cntC_eq hok e).symm
    omega
theorem seq_end {t : Tbl} (hok : Tok t) (h0 : 0 < t.length) : ∃ k, k < t.length ∧ seqC t (k + 1) = seqC t k := by
  refine Classical.byContradiction fun no => ?_
  have h := seq_grow (n := t.length - 1) hok (fun k hk e => no ⟨k, by omega, e⟩) (t.length - 1) (Nat.le_refl _)
  have := cntC_top t (t.length - 1)
  omega
theorem C_fix {t : Tbl} (hok : Tok t) (h0 : 0 < t.length) : stepC t (C t) = C t := by
  obtain ⟨k, hk, e⟩ := seq_end hok h0
  have h1 := seq_stay e (t.length - k)
  have h2 := seq_stay e (t.length - k + 1)
  rw [show k + (t.length - k) = t.length by omega] at h1
  rw [show k + (t.length - k + 1) = t.length + 1 by omega] at h2
  show seqC t (t.length + 1) = seqC t t.length
  rw [h1, h2]
theorem C_of {t : Tbl} (hok : Tok t) (h0 : 0 < t.length) {k : Nat} (e : seqC t (k + 1) = seqC t k) : seqC t k = C t := seq_two e (C_fix hok h0)
theorem C_len (t : Tbl) : (C t).length = t.length := seqC_len t _
/-! ### the rows of point 9 -/
def addN (c : List Nat) (o : List Nat) (k : Nat) : List Nat := if cls c k ∈ o.map (cls c) then o else o ++ [k]
def cItem (c : List Nat) (o : List Nat) : Item → Item × List Nat
  | .node k => (.node (pos ((addN c o k).map (cls c)) (cls c k)), addN c o k)
  | x => (x, o)
def cRow (c : List Nat) : List Nat → Row → Row × List Nat
  | o, [] => ([], o)
  | o, x :: r => ((cItem c o x).1 :: (cRow c (cItem c o x).2 r).1, (cRow c (cItem c o x).2 r).2)
def cGo (t : Tbl) (c : List Nat) : Nat → Tbl → List Nat → Tbl
  | 0, acc, _ => acc
  | n + 1, acc, o => if acc.length < o.length then cGo t c n (acc ++ [(cRow c o (t.getD (o.getD acc.length 0) [])).1]) (cRow c o (t.getD (o.getD acc.length 0) [])).2 else acc
def canonAt (t : Tbl) (s : Nat) : Tbl := cGo t (C t) (t.length + 1) [] [s]
abbrev canon (t : Tbl) : Tbl := canonAt t 0
/-- the order of a walk: below n, of unlike classes -/
structure Ord (c : List Nat) (n : Nat) (o : List Nat) : Prop where
  nd : (o.map (cls c)).Nodup
  lt : ∀ k ∈ o, k < n
theorem Ord.len {c : List Nat} {n : Nat} {o : List Nat} (h : Ord c n o) : o.length ≤ n := by
  have nd : o.Nodup := by
    have := h.nd
    clear h
    induction o with
    | nil => exact List.nodup_nil
    | cons x o ih =>
      rw [List.map_cons, List.nodup_cons] at this
      rw [List.nodup_cons]
      exact ⟨fun m => this.1 (List.mem_map.mpr ⟨x, m, rfl⟩), ih this.2⟩
  have := nd_le (m := List.range n) nd (fun z hz => List.mem_range.mpr (h.lt z hz))
  simpa using this
theorem Ord.add {c : List Nat} {n : Nat} {o : List Nat} {k : Nat} (h : Ord c n o) (hk : k < n) : Ord c n (addN c o k) := by
  unfold addN
  by_cases e : cls c k ∈ o.map (cls c)
  · rw [if_pos e]; exact h
  · rw [if_neg e]
    refine ⟨?_, fun z hz => ?_⟩
    · rw [List.map_append, List.nodup_append]
      exact ⟨h.nd, by simp, fun a ha b hb q => e (by
        have hb := List.mem_singleton.mp hb
        rw [← hb, ← q]; exact ha)⟩
    · rcases List.mem_append.mp hz with q | q
      · exact h.lt z q
      · rw [List.mem_singleton.mp q]; exact hk
theorem addN_mem {c o : List Nat} {k : Nat} : cls c k ∈ (addN c o k).map (cls c) := by
  unfold addN
  by_cases e : cls c k ∈ o.map (cls c)
  · rw [if_pos e]; exact e
  · rw [if_neg e]; simp
theorem addN_le {c o : List Nat} {k : Nat} : o.length ≤ (addN c o k).length := by
  unfold addN; split <;> simp
theorem cRow_ord {c : List Nat} {n : Nat} : ∀ {r : Row} {o : List Nat}, Ord c n o → (∀ k, Item.node k ∈ r → k < n) → Ord c n (cRow c o r).2 ∧ o.length ≤ (cRow c o r).2.length
  | [], o, h, _ => ⟨h, Nat.le_refl _⟩
  | x :: r, o, h, hr => by
    unfold cRow
    have hx : Ord c n (cItem c o x).2 ∧ o.length ≤ (cItem c o x).2.length := by
      cases x with
      | node k => exact ⟨h.add (hr k List.mem_cons_self), addN_le⟩
      | _ => exact ⟨h, Nat.le_refl _⟩
    have := cRow_ord (r := r) hx.1 fun k hk => hr k (List.mem_cons_of_mem _ hk)
    exact ⟨this.1, Nat.le_trans hx.2 this.2⟩
theorem cRow_len {c : List Nat} : ∀ {r : Row} {o : List Nat}, (cRow c o r).1.length = r.length
  | [], o => rfl
  | x :: r, o => by unfold cRow; simp [cRow_len (r := r)]
end Mf

namespace Mf
open PySem L2 PyProof.Rows
def Item.d : Item → List PyData
  | .gap => [.str (Str.ofString "gap")]
  | .word s => [.str (Str.ofString "word"), .str s]
  | .num i => [.str (Str.ofString "number"), .int i]
  | .node k => [.str (Str.ofString "node"), .int (k : Int)]
def Item.isNode : Item → Bool
  | .node _ => true
  | _ => false
def rD (r : Row) : List (List PyData) := r.map Item.d
def tD (t : Tbl) : List (List (List PyData)) := t.map rD
def nI (c : List Nat) : List Int := c.map fun (n : Nat) => ((n : Nat) : Int)
def iD : List PyData → PyData := fun xs => PyData.tuple (xs.map id)
structure GoodI (n : Nat) (x : Item) : Prop where
  node : ∀ k, x = .node k → k < n
  word : ∀ s, x = .word s → IsName s
  num : ∀ i, x = .num i → -(1000000000000000000000000000000000000000000000000000000000000 : Int) < i ∧ i < 1000000000000000000000000000000000000000000000000000000000000
structure GoodT (t : Tbl) : Prop where
  pos : 0 < t.length
  few : t.length ≤ 40
  short : ∀ r ∈ t, r.length ≤ 12
  item : ∀ r ∈ t, ∀ x ∈ r, GoodI t.length x
theorem GoodT.tok {t : Tbl} (h : GoodT t) : Tok t := fun r hr k hk => (h.item r hr _ hk).node k rfl
theorem eqS {a b : Str} (ha : PyData.strOk a = true) (hb : PyData.strOk b = true) : eqD (.str a) (.str b) = some (decide (a = b)) := by
  rw [eqD_of (n := 0) (m := 0) (Ly.str ha) (Ly.str hb) (by decide) (by decide)]
  exact congrArg some (eqv_dec rfl rfl ⟨fun h => by injection h, fun h => by rw [h]⟩)
theorem kok1 : PyData.strOk (Str.ofString "gap") = true := by decide +kernel
theorem kok2 : PyData.strOk (Str.ofString "word") = true := by decide +kernel
theorem kok3 : PyData.strOk (Str.ofString "number") = true := by decide +kernel
theorem kok4 : PyData.strOk (Str.ofString "node") = true := by decide +kernel
theorem it_node {β : Type} (x : Item) (f : Bool → Option β) : ((atI x.d (0 : Int)).bind fun y => (eqD y (PyData.str (Str.ofString "node"))).bind f) = f x.isNode := by
  cases x with
  | gap => show (eqD (.str _) _).bind f = _; rw [eqS kok1 kok4]; rfl
  | word s => show (eqD (.str _) _).bind f = _; rw [eqS kok2 kok4]; rfl
  | num s => show (eqD (.str _) _).bind f = _; rw [eqS kok3 kok4]; rfl
  | node s => show (eqD (.str _) _).bind f = _; rw [eqS kok4 kok4]; rfl
theorem it_ix {β : Type} (k : Nat) (f : Int → Option β) : ((atI (Item.node k).d (1 : Int)).bind fun y => (asI y).bind f) = f (k : Int) := rfl
theorem node_d (k : Nat) : ([(PyData.str (Str.ofString "node")), (PyData.int (k : Int))] : List PyData) = (Item.node k).d := rfl
theorem atI_nI {β : Type} {c : List Nat} {k : Nat} (h : k < c.length) (f : Int → Option β) : (atI (nI c) (k : Int)).bind f = f (cls c k : Int) := by
  unfold atI ixN nI cls
  rw [if_pos (by omega), if_pos (by rw [List.length_map]; omega)]
  simp [h, List.getD]
theorem atI_get {α β : Type} {xs : List α} {k : Nat} {x : α} (h : xs[k]? = some x) (f : α → Option β) : (atI xs (k : Int)).bind f = f x := by
  have hl := (List.getElem?_eq_some_iff.mp h).1
  unfold atI ixN
  rw [if_pos (by omega), if_pos (by omega)]
  simp [h]
theorem lcM_on {α β γ : Type} {f : β → Option (Option γ)} {e : α → β} : ∀ {xs : List α}, lcM f (xs.map e) = lcM (fun x => f (e x)) xs
  | [] => rfl
  | x :: xs => by rw [List.map_cons]; unfold lcM; rw [lcM_on]
theorem rD_len (r : Row) : (rD r).length = r.length := by unfold rD; simp
theorem tD_len (t : Tbl) : (tD t).length = t.length := by unfold tD; simp
theorem nI_len (t : List Nat) : (nI t).length = t.length := by unfold nI; simp
theorem tD_get {t : Tbl} {k : Nat} {r : Row} (h : t[k]? = some r) : (tD t)[k]? = some (rD r) := by unfold tD; rw [List.getElem?_map, h]; rfl
theorem item_ly {x : Item} {n : Nat} (h : GoodI n x) : Ly 1 (iD x.d) := by
  cases x with
  | gap => exact Ly.t1 (Ly.str kok1)
  | word s => exact Ly.t2 (Ly.str kok2) (Ly.str (h.word s rfl).ok)
  | num i => exact Ly.t2 (Ly.str kok3) Ly.int
  | node i => exact Ly.t2 (Ly.str kok4) Ly.int
theorem GoodI.ren {x : Item} {n m : Nat} {f : Nat → Nat} (h : GoodI n x) (hf : ∀ k, f k < m) : GoodI m (x.ren f) := by
  cases x with
  | node k => exact ⟨fun j e => (by cases e; exact hf k), fun s e => (by cases e), fun s e => (by cases e)⟩
  | gap => exact ⟨fun j e => (by cases e), h.word, h.num⟩
  | word s => exact ⟨fun j e => (by cases e), h.word, h.num⟩
  | num s => exact ⟨fun j e => (by cases e), h.word, h.num⟩
theorem kne : Str.ofString "gap" ≠ Str.ofString "word" ∧ Str.ofString "gap" ≠ Str.ofString "number" ∧ Str.ofString "gap" ≠ Str.ofString "node" ∧ Str.ofString "word" ≠ Str.ofString "number" ∧ Str.ofString "word" ≠ Str.ofString "node" ∧ Str.ofString "number" ≠ Str.ofString "node" := by decide +kernel
theorem d_inj {x y : Item} (h : x.d = y.d) : x = y := by
  have k := kne
  cases x <;> cases y <;> simp only [Item.d, List.cons.injEq, PyData.str.injEq, PyData.int.injEq, and_true, reduceCtorEq, and_false] at h
  all_goals first | rfl | (rw [h.2]; done) | exact absurd h.1 k.2.2.2.1 | exact absurd h.1 k.2.2.2.2.1 | exact absurd h.1.symm k.2.2.2.1 | exact absurd h.1.symm k.2.2.2.2.1 | exact absurd h.1 k.2.2.2.2.2 | exact absurd h.1.symm k.2.2.2.2.2 | (congr 1; have := h.2; omega)
theorem item_inj {x y : Item} : iD x.d = iD y.d ↔ x = y := by
  constructor
  · intro h
    unfold iD at h
    rw [PyData.tuple.injEq, List.map_id, List.map_id] at h
    exact d_inj h
  · rintro rfl; rfl
theorem item_nb (x : Item) : nb (iD x.d) = true := by cases x <;> rfl
theorem nbAll_map {α : Type} {f : α → PyData} (h : ∀ x, nb (f x) = true) : ∀ xs : List α, nb.nbAll (xs.map f) = true
  | [] => rfl
  | x :: xs => by rw [List.map_cons]; show (nb (f x) && nb.nbAll (xs.map f)) = true; rw [h x, nbAll_map h xs]; rfl
theorem map_inj' {α β : Type} {f : α → β} (h : ∀ a b, f a = f b ↔ a = b) : ∀ {xs ys : List α}, xs.map f = ys.map f ↔ xs = ys
  | [], [] => by simp
  | [], _ :: _ => by simp
  | _ :: _, [] => by simp
  | x :: xs, y :: ys => by rw [List.map_cons, List.map_cons, List.cons.injEq, List.cons.injEq, h, map_inj' h]
/-- a row as a tuple, as a list; a table -/
def rowT : List (List PyData) → PyData := fun xs => PyData.tuple (xs.map (fun xs => PyData.tuple (xs.map id)))
def rowL : List (List PyData) → PyData := fun xs => PyData.list (xs.map (fun xs => PyData.tuple (xs.map id)))
def tblL : List (List (List PyData)) → PyData := fun xs => PyData.list (xs.map (fun xs => PyData.list (xs.map (fun xs => PyData.tuple (xs.map id)))))
theorem rowT_eq (r : Row) : rowT (rD r) = .tuple (r.map fun x => iD x.d) := by unfold rowT rD iD; rw [List.map_map]; rfl
theorem rowL_eq (r : Row) : rowL (rD r) = .list (r.map fun x => iD x.d) := by unfold rowL rD iD; rw [List.map_map]; rfl
theorem tblL_eq (t : Tbl) : tblL (tD t) = .list (t.map fun r => rowL (rD r)) := by unfold tblL tD rowL; rw [List.map_map]; rfl
theorem rowT_ly {r : Row} {n : Nat} (h : ∀ x ∈ r, GoodI n x) : Ly 2 (rowT (rD r)) := by rw [rowT_eq]; exact Ly.mapT fun x hx => item_ly (h x hx)
theorem rowL_ly {r : Row} {n : Nat} (h : ∀ x ∈ r, GoodI n x) : Ly 2 (rowL (rD r)) := by rw [rowL_eq]; exact Ly.mapL fun x hx => item_ly (h x hx)
theorem tblL_ly {t : Tbl} {n : Nat} (h : ∀ r ∈ t, ∀ x ∈ r, GoodI n x) : Ly 3 (tblL (tD t)) := by rw [tblL_eq]; exact Ly.mapL fun r hr => rowL_ly (h r hr)
theorem rowT_nb (r : Row) : nb (rowT (rD r)) = true := by rw [rowT_eq]; exact nbAll_map (fun x => item_nb x) r
theorem rowL_nb (r : Row) : nb (rowL (rD r)) = true := by rw [rowL_eq]; exact nbAll_map (fun x => item_nb x) r
theorem ints_nb (xs : List Int) : nb (.list (xs.map PyData.int)) = true := nbAll_map (f := PyData.int) (fun _ => rfl) xs
theorem tblL_nb (t : Tbl) : nb (tblL (tD t)) = true := by rw [tblL_eq]; exact nbAll_map (fun x => rowL_nb x) t
theorem rowT_inj {a b : Row} : rowT (rD a) = rowT (rD b) ↔ a = b := by rw [rowT_eq, rowT_eq, PyData.tuple.injEq]; exact map_inj' fun x y => item_inj
theorem rowL_inj {a b : Row} : rowL (rD a) = rowL (rD b) ↔ a = b := by rw [rowL_eq, rowL_eq, PyData.list.injEq]; exact map_inj' fun x y => item_inj
theorem tblL_inj {a b : Tbl} : tblL (tD a) = tblL (tD b) ↔ a = b := by rw [tblL_eq, tblL_eq, PyData.list.injEq]; exact map_inj' fun x y => rowL_inj
theorem tbl_eqD {a b : Tbl} {n m : Nat} (ha : ∀ r ∈ a, ∀ x ∈ r, GoodI n x) (hb : ∀ r ∈ b, ∀ x ∈ r, GoodI m x) : eqD (tblL (tD a)) (tblL (tD b)) = some (decide (a = b)) := by
  rw [eqD_of (tblL_ly ha) (tblL_ly hb) (by decide) (by decide)]
  congr 1
  exact eqv_dec (tblL_nb a) (tblL_nb b) tblL_inj
/-! distinct things in a loop -/
theorem fIx_mem {α : Type} [DecidableEq α] {x : α} : ∀ {xs : List α}, x ∈ xs → fIx (fun a => decide (a = x)) xs = some ((pos xs x : Nat) : Int)
  | [], h => by cases h
  | y :: xs, h => by
    unfold fIx pos
    rw [List.findIdx?_cons, List.idxOf_cons]
    by_cases e : y = x
    · subst e; simp
    · have hx : x ∈ xs := by rcases List.mem_cons.mp h with z | z; exact absurd z.symm e; exact z
      have ih := fIx_mem hx
      unfold fIx pos at ih
      have h1 : (y == x) = false := by simpa using e
      simp only [e, decide_false, Bool.false_eq_true, if_false, h1, cond_false]
      cases q : xs.findIdx? (fun a => decide (a = x)) with
      | none => rw [q] at ih; cases ih
      | some j =>
        rw [q] at ih
        simp only [Option.map_some, Option.some.injEq] at ih ⊢
        omega
theorem fIx_on {α β : Type} {p : β → Bool} {e : α → β} (xs : List α) : fIx p (xs.map e) = fIx (fun x => p (e x)) xs := by
  unfold fIx
  rw [List.findIdx?_map]
  rfl
theorem dis_loop {α β : Type} [DecidableEq α] {e : α → β} {F : β → PyData} {n : Nat} {xs : List α} (inj : ∀ a b, F (e a) = F (e b) ↔ a = b) (hnb : ∀ a, nb (F (e a)) = true) (ly : ∀ a ∈ xs, Ly n (F (e a))) (hn : n + 1 ≤ 64) (hl : xs.length < 1000000) :
    forL (fun (a : β) (st : List β) => (inD (F a) (st.map F)).bind fun b => if (!b) = true then (pushM st a).bind fun x => some x else some st) (xs.map e) [] = some ((dis xs).map e) := by
  have hmem : ∀ i z, z ∈ (xs.take i).foldl push1 [] → z ∈ xs := fun i z hz => by
    rw [disF_mem] at hz
    rcases hz with hz | hz
    · cases hz
    · exact List.mem_of_mem_take hz
  refine Wp.eq ?_
  refine (wp_forL (fun i (st : List β) => st = ((xs.take i).foldl push1 []).map e) rfl ?_).mono ?_
  · rintro i b st hb rfl
    rw [List.getElem?_map] at hb
    cases q : xs[i]? with
    | none => rw [q] at hb; cases hb
    | some a =>
      rw [q] at hb
      cases hb
      have ha := List.mem_of_getElem? q
      have hi := (List.getElem?_eq_some_iff.mp q).1
      have e1 : inD (F (e a)) ((((xs.take i).foldl push1 []).map e).map F) = some (decide (a ∈ (xs.take i).foldl push1 [])) := by
        unfold inD
        rw [if_pos ⟨(ly a ha).shaped (by omega), (Ly.mapL (f := fun x => F x) fun y hy => by
          obtain ⟨z, hz, rfl⟩ := List.mem_map.mp hy
          exact ly z (hmem i z hz)).shaped hn⟩]
        congr 1
        rw [List.map_map, List.any_map, Bool.eq_iff_iff, List.any_eq_true, decide_eq_true_iff]
        constructor
        · rintro ⟨z, hz, h⟩
          have := (eqv_nb _ _ (hnb z) (hnb a)).mp h
          rw [inj] at this
          exact this ▸ hz
        · intro h
          exact ⟨a, h, (eqv_nb _ _ (hnb a) (hnb a)).mpr rfl⟩
      refine Wp.go e1 ?_
      rw [take_next q, List.foldl_append]
      show Wp _ (fun st => st = (push1 ((xs.take i).foldl push1 []) a).map e)
      have hlen : ((xs.take i).foldl push1 []).length < 1000000 := by
        have := dis_len (xs.take i)
        unfold dis at this
        rw [List.length_take] at this
        omega
      by_cases c : a ∈ (xs.take i).foldl push1 []
      · rw [show push1 ((xs.take i).foldl push1 []) a = (xs.take i).foldl push1 [] from if_pos c]
        exact Wp.no (by simp [c]) (Wp.some rfl)
      · rw [show push1 ((xs.take i).foldl push1 []) a = (xs.take i).foldl push1 [] ++ [a] from if_neg c]
        refine Wp.yes (by simp [c]) (Wp.go (pushM_eq (by rw [List.length_map]; exact hlen)) (Wp.some ?_))
        rw [List.map_append, List.map_singleton]
  · rintro st rfl
    rw [List.length_map, List.take_length]
    rfl
theorem ixD_dis {α β : Type} [DecidableEq α] {e : α → β} {F : β → PyData} {n : Nat} {xs : List α} {x : α} (inj : ∀ a b, F (e a) = F (e b) ↔ a = b) (hnb : ∀ a, nb (F (e a)) = true) (ly : ∀ a ∈ xs, Ly n (F (e a))) (hn : n + 1 ≤ 64) (hx : x ∈ xs) :
    ixD (F (e x)) (((dis xs).map e).map F) = some ((pos (dis xs) x : Nat) : Int) := by
  unfold ixD
  rw [if_pos ⟨(Ly.mapL (f := fun x => F x) fun y hy => by
    obtain ⟨z, hz, rfl⟩ := List.mem_map.mp hy
    exact ly z (mem_dis.mp hz)).shaped hn, (ly x hx).shaped (by omega)⟩, List.map_map, fIx_on]
  rw [← fIx_mem (mem_dis.mpr hx)]
  congr 1
  funext a
  exact eqv_dec (hnb a) (hnb x) (inj a x)
theorem mem_nI {l : List Nat} {k : Nat} : ((k : Nat) : Int) ∈ nI l ↔ k ∈ l := by
  unfold nI
  rw [List.mem_map]
  exact ⟨fun ⟨a, ha, e⟩ => (by have : a = k := by omega
                               exact this ▸ ha), fun h => ⟨k, h, rfl⟩⟩
theorem ixOf_nI {l : List Nat} {k : Nat} (h : k ∈ l) : ixOf ((k : Nat) : Int) (nI l) = some ((pos l k : Nat) : Int) := by
  unfold ixOf nI
  rw [fIx_on, ← fIx_mem h]
  congr 1
  funext a
  exact decide_eq_decide.mpr (by omega)
theorem nI_push (l : List Nat) (k : Nat) : nI (l ++ [k]) = nI l ++ [(k : Int)] := by unfold nI; simp
theorem rD_push (l : Row) (x : Item) : rD (l ++ [x]) = rD l ++ [x.d] := by unfold rD; simp
theorem tD_push (l : Tbl) (x : Row) : tD (l ++ [x]) = tD l ++ [rD x] := by unfold tD; simp
theorem nI_get {l : List Nat} {i k : Nat} (h : l[i]? = some k) : (nI l)[i]? = some (k : Int) := by unfold nI; rw [List.getElem?_map, h]; rfl
theorem cRow_snoc {c : List Nat} {x : Item} : ∀ {r : Row} {o : List Nat}, cRow c o (r ++ [x]) = ((cRow c o r).1 ++ [(cItem c (cRow c o r).2 x).1], (cItem c (cRow c o r).2 x).2)
  | [], o => rfl
  | y :: r, o => by
    rw [List.cons_append]
    show ((cItem c o y).1 :: (cRow c (cItem c o y).2 (r ++ [x])).1, (cRow c (cItem c o y).2 (r ++ [x])).2) = _
    rw [cRow_snoc]
    rfl
theorem chars_letters' (x : Str) : ((chars x).map (fun a => decide (a ∈ chars (Str.ofString "abcdefghijklmnopqrstuvwxyz")))).all id = decide (∀ c ∈ x.cps.toList, 97 ≤ c ∧ c ≤ 122) := by
  have e : ∀ c : Nat, decide ((⟨#[c]⟩ : Str) ∈ chars (Str.ofString "abcdefghijklmnopqrstuvwxyz")) = decide (97 ≤ c ∧ c ≤ 122) := fun c => by
    rw [← letters_mem]
    refine decide_eq_decide.mpr ⟨fun z => ?_, fun z => List.mem_map.mpr ⟨c, z, rfl⟩⟩
    obtain ⟨m, hm, e⟩ := List.mem_map.mp z
    injection e with e
    have : m = c := by simpa using e
    exact this ▸ hm
  rw [Bool.eq_iff_iff, decide_eq_true_iff, List.all_map, List.all_eq_true]
  unfold chars
  constructor
  · intro h c hc
    have := h _ (List.mem_map.mpr ⟨c, hc, rfl⟩)
    simp only [Function.comp, id] at this
    have e2 := e c
    unfold chars at e2
    rw [e2] at this
    exact of_decide_eq_true this
  · intro h a ha
    obtain ⟨c, hc, rfl⟩ := List.mem_map.mp ha
    have e2 := e c
    unfold chars at e2
    simp only [Function.comp, id]
    rw [e2]
    exact decide_eq_true (h c hc)
/-! numbers written -/
theorem dig_len : ∀ (n m : Nat), m < 10 ^ (n + 1) → (Nat.toDigits 10 m).length ≤ n + 1
  | 0, m, h => by rw [Nat.toDigits_of_lt_base (by omega)]; simp
  | n + 1, m, h => by
    by_cases hs : m < 10
    · rw [Nat.toDigits_of_lt_base hs]; simp
    · have hm : m % 10 < 10 := Nat.mod_lt m (by decide)
      have t : Nat.toDigits 10 (m / 10) ++ Nat.toDigits 10 (m % 10) = Nat.toDigits 10 (10 * (m / 10) + m % 10) := Nat.toDigits_append_toDigits (by decide) (by omega) hm
      rw [Nat.div_add_mod] at t
      have ih := dig_len n (m / 10) (by rw [Nat.pow_succ] at h; exact Nat.div_lt_of_lt_mul (by rw [Nat.mul_comm]; exact h))
      rw [← t, List.length_append, Nat.toDigits_of_lt_base hm]
      simp only [List.length_cons, List.length_nil]
      omega
theorem ofS_length (s : String) : (Str.ofString s).length = s.toList.length := by rw [len_list, signs_ofString, List.length_map]
theorem natT_len {m : Nat} (h : m < 10 ^ 60) : (Str.ofString (toString ((m : Nat) : Int))).length ≤ 60 := by
  rw [ofS_length]
  show (Nat.repr m).toList.length ≤ 60
  rw [Nat.toList_repr]
  exact dig_len 59 m h
theorem intT_len {i : Int} (h : i.natAbs < 10 ^ 60) : (Str.ofString (toString i)).length ≤ 61 := by
  cases i with
  | ofNat m => have := natT_len (m := m) h; exact Nat.le_trans this (by decide)
  | negSucc m =>
    rw [ofS_length]
    show ("-" ++ Nat.repr (m + 1)).toList.length ≤ 61
    rw [String.toList_append, List.length_append, Nat.toList_repr]
    have := dig_len 59 (m + 1) h
    show 1 + _ ≤ _
    omega
theorem strI_eq {i : Int} (h : i.natAbs < 10 ^ 60) : strI i = some (Str.ofString (toString i)) := by
  have hl : i.natAbs.log2 < 1920 := by
    by_cases z : i.natAbs = 0
    · rw [z]; decide
    · exact (Nat.log2_lt z).mpr (Nat.lt_trans h (by decide +kernel))
  unfold strI
  exact if_pos hl
def itemTxt : Item → Str
  | .gap => Str.ofString "-"
  | .word s => s
  | .num i => Str.ofString (toString i)
  | .node k => Str.ofString "@" ++ Str.ofString (toString ((k : Nat) : Int))
theorem itemTxt_len {n : Nat} {x : Item} (h : GoodI n x) (hn : n ≤ 1000) : (itemTxt x).length ≤ 62 := by
  cases x with
  | gap => exact Nat.le_trans (Nat.le_of_eq (by decide +kernel : (Str.ofString "-").length = 1)) (by decide)
  | word s => have := (h.word s rfl).2.1; show s.length ≤ 62; omega
  | num i =>
    have := h.num i rfl
    exact Nat.le_trans (intT_len (by omega)) (by decide)
  | node k =>
    have := h.node k rfl
    show (Str.ofString "@" ++ _).length ≤ 62
    rw [Str.length_append, (by decide +kernel : (Str.ofString "@").length = 1)]
    have := natT_len (m := k) (Nat.lt_of_lt_of_le (show k < 1000 by omega) (by decide +kernel))
    omega
def rowTxt (i : Nat) (r : Row) : Str := Txt.join (Str.ofString "") ((Str.ofString (toString ((i : Nat) : Int)) ++ Str.ofString ":") :: r.map fun x => Str.ofString " " ++ itemTxt x)
def tblTxt (t : Tbl) : Str := Txt.join (Str.ofString "\n") ((List.range t.length).zipWith (fun i r => rowTxt i r) t)
theorem enum_at {α : Type} {k : Int} {xs : List α} {i : Nat} {a : Int × α} (h : (enumM k xs)[i]? = some a) : xs[i]? = some a.2 ∧ a.1 = k + i := by
  unfold enumM at h
  rw [List.getElem?_zipWith] at h
  cases e : xs[i]? with
  | none => rw [e] at h; cases e2 : (List.range xs.length)[i]? <;> rw [e2] at h <;> cases h
  | some x =>
    have hi := (List.getElem?_eq_some_iff.mp e).1
    rw [e, List.getElem?_range hi] at h
    cases h
    exact ⟨rfl, rfl⟩
end Mf

namespace Mf
open PySem L2
/-! ### what the top has left, fact by fact -/
section
variable {K : PySem.W.Frag} {h : Heap} {mg : Str → Option Value}
theorem clsF_mk {x : Str} {C : Addr} (X : K.In h) (G : h.Ns mainGlobals mg) (aC : PySem.W.nsIn K mainGlobals x = some (some (.ref C))) (pg : PySem.W.plainGet K C Str.empty = true) (hd : PySem.W.hasDictIn K C = true) (po : PySem.W.plainOver K C = true)
    (sa : PySem.W.findIn K (.ref C) "__setattr__" = some (some (.builtin "object.__setattr__"))) (ha : PySem.W.findIn K (.ref C) "__class__" = some (some (.builtin "object.__class__")))
    (hn : PySem.W.specialIn K (.builtin "object.__class__") "__get__" = some (some (.builtin "getset_descriptor.__get__"))) (htk : PySem.W.takesIn K (.builtin "object.__class__") = some true)
    (hm : PySem.W.mroIn K C (.type "object") = some true) (sf : PySem.W.selfFirst K C = true) (ne : PySem.W.findIn K (.ref C) "__ne__" = some (some (.builtin "object.__ne__"))) : ClsF K mg x C :=
  ⟨PySem.W.mg_of X G aC, ⟨⟨pg, hd, po, sa⟩, ha, hn, htk, hm, by simp [PySem.W.kitOne]⟩, sf, ne⟩
theorem methAt_mk {C : Addr} {m q : Str} {st : Stmt} {ps : List Str} {f : Addr} {oc : Value} {od an : Option Addr} {osl : Array (Option Value)} {kV doc pm cdv ct : Value} (a : PySem.W.findIn K (.ref C) m = some (some (.ref f))) (i : PySem.W.isFn K (.ref f) = true)
    (l : K.lookup f = some ⟨oc, od, .func (PySem.W.fnOf m q (defArgs st) (defBody st) (defScope st) .none kV doc pm an cdv ct), osl⟩) (c : PySem.W.codeIn K cdv q = true) (k : PySem.W.keepIn K (.ref f) = true)
    (hb : ∀ (kV doc pm : Value) (an : Option Addr) (cdv ct : Value) (us : List Value), us.length = ps.length → bindArgs (PySem.W.fnOf m q (defArgs st) (defBody st) (defScope st) .none kV doc pm an cdv ct) ⟨us, []⟩ = pure (ps.zip us)) : MethAt K C m q st ps :=
  ⟨f, _, fun_mk l c k, ⟨a, i, k⟩, (fun_mk l c k).binds hb⟩
theorem mkAt_mk {C : Addr} {q : Str} {st : Stmt} {ps : List Str} {f : Addr} {oc : Value} {od an : Option Addr} {osl : Array (Option Value)} {kV doc pm cdv ct : Value} (a : PySem.W.findIn K (.ref C) "__init__" = some (some (.ref f))) (i : PySem.W.isFn K (.ref f) = true)
    (l : K.lookup f = some ⟨oc, od, .func (PySem.W.fnOf "__init__" q (defArgs st) (defBody st) (defScope st) .none kV doc pm an cdv ct), osl⟩) (c : PySem.W.codeIn K cdv q = true) (k : PySem.W.keepIn K (.ref f) = true) (mk : PySem.W.makesIn K C = true) (kc : PySem.W.keepIn K (.ref C) = true)
    (hb : ∀ (kV doc pm : Value) (an : Option Addr) (cdv ct : Value) (us : List Value), us.length = ps.length → bindArgs (PySem.W.fnOf "__init__" q (defArgs st) (defBody st) (defScope st) .none kV doc pm an cdv ct) ⟨us, []⟩ = pure (ps.zip us)) : MkAt K C q st ps :=
  ⟨f, _, fun_mk l c k, ⟨mk, a, i, kc⟩, (fun_mk l c k).binds hb⟩
theorem law_binds {x q : Str} {st : Stmt} {f : Addr} {fd : FuncData} {p : Str} (F : Fun K x q st f fd)
    (hb : ∀ (kV doc pm : Value) (an : Option Addr) (cdv ct : Value) (u : Value), bindArgs (PySem.W.fnOf x q (defArgs st) (defBody st) (defScope st) .none kV doc pm an cdv ct) ⟨[u], []⟩ = pure [(p, u)]) : ∀ (s : Shared) (u : Value), BindsTo s fd ⟨[u], []⟩ [(p, u)] := fun s u => by
  obtain ⟨oc, od, kV, doc, pm, an, cdv, ct, osl, rfl, _, _⟩ := F.ex
  exact .of_eq (hb kV doc pm an cdv ct u)
/-- a built-in type is no kind of an own class -/
theorem kit_no {C : Addr} {t : String} (ci : PySem.W.isClsIn K C = true) (ty : PySem.W.typeIn K (.ref C) = some (.type "type")) (nf : PySem.W.notFirst K C (.type t) = true) : PySem.W.kitOne K (.type t) (.ref C) = some false := by
  have e : (Value.type t == Value.ref C) = false := by simp
  have sb : PySem.W.subIn K (.type t) (.ref C) = some false := by simpa [PySem.W.notFirst] using nf
  simp only [PySem.W.isClsIn] at ci
  simp [PySem.W.kitOne, PySem.W.kitCls, ci, ty, sb]
/-- a def with one default, a tuple of nothing -/
theorem funD_mk {x q : Str} {st : Stmt} {f T T0 : Addr} {oc tc : Value} {od an td : Option Addr} {osl tsl : Array (Option Value)} {kV doc pm cdv ct : Value} {n : Nat}
    (l : K.lookup f = some ⟨oc, od, .func (PySem.W.fnOf x q (defArgs st) (defBody st) (defScope st) (.ref T) kV doc pm an cdv ct), osl⟩) (c : PySem.W.codeIn K cdv q = true) (k : PySem.W.keepIn K (.ref f) = true)
    (lT : K.lookup T = some ⟨tc, td, .seq [Value.ref T0].toArray n, tsl⟩) :
    FunD K x q (defArgs st) (defBody st) (defScope st) [.ref T0] [] f (PySem.W.fnOf x q (defArgs st) (defBody st) (defScope st) (.ref T) kV doc pm an cdv ct) :=
  ⟨⟨oc, od, .ref T, kV, doc, pm, an, cdv, ct, osl, rfl, l, c, .inr ⟨by simp, T, _, [.ref T0], n, rfl, lT, rfl, .cons rfl .nil⟩, .inl rfl⟩, k⟩
/-- own exceptions -/
theorem exm_mk {c cls : Value} {C : Addr} {b : Bool} (hc : c = .ref C) (h1 : PySem.W.subIn K (.ref C) (.type "BaseException") = some true) (ci : PySem.W.isClsIn K C = true) (ty : PySem.W.typeIn K (.ref C) = some (.type "type")) (h2 : PySem.W.subIn K cls (.ref C) = some b) : PySem.W.exmOne K cls c = some b := by
  subst hc
  simp only [PySem.W.isClsIn] at ci
  simp [PySem.W.exmOne, PySem.W.kitCls, h1, ci, ty, h2]
theorem oex_mk {C N : Addr} {nm q : Str} {bs bm : List Value} {sn : List Str} {sub : List Value} {ab : Bool} {col : Option Bool} {dd : Option Addr} {k0 k1 k2 k3 k5 : Option Value} (l : K.lookup C = some (excClassObj nm q C N bs bm true sn sub ab col dd k0 k1 k2 k3 k5 "ValueError.__new__")) (rv : PySem.HandSPX.refsVE bm = true)
    (sa : PySem.W.findIn K (.ref C) "__setattr__" = some (some (.builtin "object.__setattr__"))) (ex : PySem.W.subIn K (.ref C) (.type "BaseException") = some true) (ty : PySem.W.typeIn K (.ref C) = some (.type "type")) (kp : PySem.W.keepIn K (.ref C) = true) : OexC K C :=
  ⟨⟨nm, q, N, bs, bm, sn, sub, ab, col, dd, k0, k1, k2, k3, k5, l, rv⟩, sa, ex, ty, kp⟩
theorem unitT {T0 : Addr} {d0 : Option Addr} {n0 : Nat} {sl0 : Array (Option Value)} (l0 : K.lookup T0 = some ⟨.type "tuple", d0, .seq #[] n0, sl0⟩) (H : Hp) : SqT K H T0 [] :=
  .inr ⟨_, #[], n0, l0, rfl, rfl, by decide, .nil⟩
end
theorem walkL {l : PySem.W.OpenLaw} {q : Program} {loose : List Str} {XP : (Str → Option Value) → Heap → Prop} {YP : World → Heap → Prop} {d : DefRec} {K : Params → PySem.W.Frag} {lv : Nat} {x : Str} (hn : l.most = some 63) (hdf : d.params.defaults = []) (hr : Room lv PySem.callerA)
    (hY : ∀ (w : World) (h : Heap), YP w h → (K w.params).In h)
    (F : ∀ (w : World) (mg : Str → Option Value) (fa : Addr) (h : Heap), (K w.params).In h → h.Ns mainGlobals mg → mg d.name = some (.ref fa) →
      ∃ fd : FuncData, (∀ (s : Shared) (u : Value), BindsTo s fd ⟨[u], []⟩ [(x, u)]) ∧ ∀ base : Heap, (K w.params).In base → base.Ns mainGlobals mg → FnOk l.prog w (K w.params) mg base CX0 lv fa fd [x] (sp_law (K w.params))) :
    PySem.W.WalkO q loose XP YP l.row.toRowW d [] (fun f vs => PySem.call f vs) :=
  L2.walk_of (n := 63) (k := lv) (x := x) (CX := fun _ => CX0) (sp := fun w => sp_law (K w.params)) hn (by decide) hdf hr hY F (fun _ _ a ns hl _ hS => ⟨a, ns, rfl, hS, hl, fun _ => rfl⟩) fun _ _ _ _ _ z => z
end Mf

open PySem L2 Mf
local macro_rules | `(tactic| walk_at "hp") => `(tactic| first | assumption | exact upd_same)
local macro_rules | `(tactic| walk_at "sq") => `(tactic| first | assumption | exact SqL.of (by walk_at "hp") | exact SqT.of (by walk_at "hp"))
local macro_rules | `(tactic| walk_at "sz") => `(tactic| first | assumption | (simp only [PySem.sizeLine_eq, List.length_cons, List.length_nil, List.length_map, List.length_append]; omega) | (simp only [PySem.sizeLine_eq, Str.length_append, empty_len]; omega))
local macro_rules | `(tactic| walk_at "sd") => `(tactic| first | assumption | exact rfl | omega | decide | exact ⟨by omega, by omega⟩ | exact .inl ⟨by omega, by omega⟩ | exact .inr ⟨by omega, by omega⟩ | exact ⟨by decide, by decide, by decide⟩)
local macro_rules | `(tactic| walk_at "s1") => `(tactic| first
  | ((with_reducible refine w_var (v := ?v) ?h ?_); (case h => exact rfl))
  | with_reducible refine w_c ?_
  | with_reducible refine w_op ?_
  | with_reducible refine w_I0 ?_
  | with_reducible refine w_bl ?_
  | with_reducible refine w_test ?_
  | with_reducible refine w_cons ?_
  | with_reducible refine w_nil ?_
  | with_reducible refine w_seq ?_
  | with_reducible refine w_asg ?_
  | with_reducible refine w_gname ?_
  | with_reducible refine w_ifS ?_
  | with_reducible refine w_cb ?_
  | with_reducible refine w_ret ?_
  | with_reducible refine w_drop ?_
  | with_reducible refine w_next ?_
  | with_reducible refine w_retN ?_
  | ((with_reducible refine w_aug (v := ?v) ?h ?_); (case h => exact rfl))
  | with_reducible refine w_ipI ?_
  | with_reducible refine w_int1 ?_
  | with_reducible refine w_call ?_
  | with_reducible refine w_and ?_
  | with_reducible refine w_or ?_
  | with_reducible refine w_not ?_
  | with_reducible refine w_tb ?_
  | with_reducible refine w_un ?_
  | with_reducible refine w_U ?_
  | ((with_reducible refine w_I ?h ?_); (case h => walk_at "sd"))
  | ((with_reducible refine w_eq ?h ?_); (case h => exact rfl))
  | ((with_reducible refine w_ne ?h ?_); (case h => exact rfl))
  | with_reducible refine w_gcons ?_
  | with_reducible refine w_gnil ?_
  | ((with_reducible refine w_gtup (xs := ?xs) ?h ?hn ?_); (case h => walk_at "sq"); (case hn => exact rfl))
  | with_reducible refine w_gsub ?_
  | ((with_reducible refine w_setL (xs := ?xs) (n := ?n) ?h ?hn ?_); (case h => walk_at "hp"); (case hn => exact rfl))
  | ((with_reducible refine w_ixL (xs := ?xs) (v := ?v) ?h ?hn ?_); (case h => walk_at "sq"); (case hn => exact rfl))
  | ((with_reducible refine w_ixT (xs := ?xs) (v := ?v) ?h ?hn ?_); (case h => walk_at "sq"); (case hn => exact rfl))
  | with_reducible refine w_tup ?_
  | with_reducible refine w_lst ?_
  | with_reducible refine iteT ?_
  | with_reducible refine iteF ?_
  | with_reducible refine ite_nt ?_
  | with_reducible refine ite_nf ?_
  | with_reducible refine w_andV ?_
  | with_reducible refine w_orV ?_
  | with_reducible refine w_notV ?_
  | with_reducible refine w_ifE ?_
  | with_reducible refine w_chain ?_
  | with_reducible refine w_yes ?_
  | with_reducible refine w_par ?_
  | with_reducible refine w_two ?_
  | with_reducible refine w_bm ?_
  | with_reducible refine w_bm0 ?_
  | with_reducible refine w_m1 ?_
  | with_reducible refine w_cont ?_
  | with_reducible refine w_iQ ?_
  | ((with_reducible refine w_iQl (xs := ?xs) ?h ?_); (case h => walk_at "sq"))
  | ((with_reducible refine w_iQt (xs := ?xs) ?h ?_); (case h => walk_at "sq"))
  | with_reducible refine w_fld ?_
  | ((with_reducible refine w_fldx (C := ?C) (dx := ?dx) (fs := ?fs) (v := ?v) ?h ?hc ?hn ?hl ?_); (case h => walk_at "hp"); (case hc => assumption); (case hn => assumption); (case hl => first | assumption | exact look_hd))
  | with_reducible refine w_sfld ?_
  | ((with_reducible refine w_sfldx (C := ?C) (dx := ?dx) (fs := ?fs) ?h ?hc ?hn ?hl ?_); (case h => walk_at "hp"); (case hc => assumption); (case hn => assumption); (case hl => first | decide | simp))
  | with_reducible refine w_make ?_
  | with_reducible refine w_sc ?_
  | with_reducible refine w_lc ?_
  | with_reducible refine w_for ?_
  | with_reducible refine w_turn ?_
  | ((with_reducible refine w_wipe ?h ?_); (case h => exact rfl))
  | with_reducible refine w_iR1 ?_
  | ((with_reducible refine w_iR1x ?h ?k ?_); (case h => omega); (case k => omega))
  | with_reducible refine w_iR2 ?_
  | with_reducible refine w_iS ?_
  | with_reducible refine w_iE ?_
  | ((with_reducible refine w_iEx (xs := ?xs) ?h ?_); (case h => walk_at "sq"))
  | with_reducible refine w_iSx ?_
  | with_reducible refine w_strS ?_
  | ((with_reducible refine w_lenL (ys := ?ys) ?h ?_); (case h => walk_at "sq"))
  | ((with_reducible refine w_lenT (ys := ?ys) ?h ?_); (case h => walk_at "sq"))
  | ((with_reducible refine w_lenS ?h ?_); (case h => walk_at "sz"))
  | ((with_reducible refine w_lenD (kvs := ?kvs) ?h ?_); (case h => walk_at "hp"))
  | ((with_reducible refine w_addS ?h ?_); (case h => walk_at "sz"))
  | with_reducible refine w_inC ?_
  | with_reducible refine w_niC ?_
  | with_reducible refine w_isN ?_
  | with_reducible refine w_notN ?_
  | with_reducible refine w_max2 ?_
  | with_reducible refine w_sl ?_
  | with_reducible refine w_noP ?_
  | with_reducible refine w_part ?_
  | with_reducible refine w_exI ?_
  | with_reducible refine w_exS ?_
  | ((with_reducible refine w_slS ?h ?_); (case h => walk_at "sz"))
  | ((with_reducible refine w_tyL (xs := ?xs) ?h ?_); (case h => walk_at "sq"))
  | ((with_reducible refine w_size ?h ?_); (case h => walk_at "sz"))
  | ((with_reducible refine w_clear (xs := ?xs) ?h ?_); (case h => walk_at "hp"))
  | with_reducible refine w_star ?_
  | ((with_reducible refine w_stT (xs := ?xs) ?h ?_); (case h => walk_at "sq"))
  | with_reducible refine w_iL ?_
  | with_reducible refine w_iT ?_
  | ((with_reducible refine w_iLx (xs := ?xs) ?h ?_); (case h => walk_at "sq"))
  | ((with_reducible refine w_iTx (xs := ?xs) ?h ?_); (case h => walk_at "sq"))
  | with_reducible refine w_brk ?_
  | with_reducible refine w_joined ?_
  | with_reducible refine w_js ?_
  | with_reducible refine w_js0 ?_
  | with_reducible refine w_fmt ?_
  | ((with_reducible refine w_fmtS ?h ?_); (case h => walk_at "sz"))
  | ((with_reducible refine w_jx ?h ?_); (case h => walk_at "sz"))
  | with_reducible refine w_dc ?_
  | with_reducible refine w_lc2 ?_
  | with_reducible refine w_turnD ?_
  | with_reducible refine w_turnO ?_
  | with_reducible refine w_turn2 ?_
  | with_reducible refine w_iES ?_
  | with_reducible refine w_dget ?_
  | with_reducible refine w_din ?_
  | with_reducible refine w_dni ?_)
local macro_rules | `(tactic| walk_at "rd") => `(tactic| repeat walk_at "s1")
namespace Mm
open PySem L2 Mf
def top (i : Nat) : Stmt := PySem.Challenge.pw_midfall_k53_results_equal.main.body.getD i (.Pass ⟨0, 0, 0, 0⟩)
abbrev s_source : Stmt := top 21
abbrev s_draw : Stmt := top 22
abbrev s_name : Stmt := top 23
abbrev s_names : Stmt := top 24
abbrev s_is_number : Stmt := top 6
abbrev s_is_name : Stmt := top 9
abbrev s_is_item : Stmt := top 13
abbrev s_check_rows : Stmt := top 14
abbrev s_row_shape : Stmt := top 15
abbrev s_classes_of : Stmt := top 16
abbrev s_canonical_rows : Stmt := top 17
abbrev s_Result___init__ : Stmt := inClass (top 19) 0
abbrev s_Result_rows : Stmt := inClass (top 19) 2
abbrev s_Result___eq__ : Stmt := inClass (top 19) 6
abbrev s_Result___len__ : Stmt := inClass (top 19) 7
abbrev s_item_text : Stmt := top 18
abbrev s_Result_text : Stmt := inClass (top 19) 3
abbrev s_classes : Stmt := top 25
abbrev s_canonical : Stmt := top 26
abbrev s_number : Stmt := top 27
abbrev s_item : Stmt := top 28
abbrev s_raw_rows : Stmt := top 29
abbrev s_twin : Stmt := top 30
abbrev s_doubled : Stmt := top 31
abbrev s_turned : Stmt := top 32
abbrev s_law : Stmt := top 33
abbrev s_InvalidResult___init__ : Stmt := inClass (top 3) 0
abbrev O_Result : Type := (List (List (List PyData)))
def F_Result (K : PySem.W.Frag) (C_Result : Addr)  : Fl O_Result := ⟨fun H x fs => ∃ a0, fs = [(Str.ofString "table", a0)] ∧ (dList (dList (dTup K (dAny K)))).rel H x a0, fun e ⟨a0, h, r0⟩ => ⟨a0, h, (dList (dList (dTup K (dAny K)))).mono e r0⟩⟩
def dO_Result (K : PySem.W.Frag) (C_Result : Addr)  : Rl O_Result := dObj C_Result (F_Result K C_Result)
theorem fld_Result_table {K : PySem.W.Frag} {C_Result : Addr} {B : Hp} {x : O_Result} {v : V} (cl : Cls K C_Result) (nA : NoAttr K C_Result "table") (h : (dO_Result K C_Result).rel B x v) : ∃ w, (dList (dList (dTup K (dAny K)))).rel B x w ∧ ∀ H, Same B H → ∃ a C dx fs, v = .ref a ∧ H a = some (.ins C dx fs) ∧ Cls K C ∧ NoAttr K C "table" ∧ fs.lookup (Str.ofString "table") = some w := by
  obtain ⟨p, dx, fs, rfl, h, a0, rfl, r0⟩ := h
  exact ⟨a0, r0, fun H s => ⟨p, _, dx, _, rfl, s _ _ h, cl, nA, rfl⟩⟩
end Mm
namespace Mm
open PySem L2 Mf
section
variable {P : Program} {w : World} {K : PySem.W.Frag} {mg : Str → Option Value} {base : Heap} {cx : Nat → Addr}
abbrev n_source : List Str := ["_law_script", "_law_great", "_law_seed", "_law_k", "_law_cell"]
theorem sc_source : FnScope n_source ["_law_script"] (defScope s_source) := ⟨rfl, rfl, rfl, by decide +kernel, rfl, by decide +kernel, by decide +kernel⟩
theorem ok_source (A0 : DefAt K mg "_law_source" s_source ["_law_script"]) (b_enumerate : mg "enumerate" = none) (b_int : mg "int" = none) : Does P w K mg base CX0 1 "_law_source" ["_law_script"] (sp_source K) := by
  obtain ⟨f, fd, F, gm, bd⟩ := A0
  refine ⟨f, fd, ?_, gm, F.kp, bd⟩
  refine F.ok sc_source (fun vs H Q E h => ?_) (fun cdv A outer s H vs Q E hr h => ?_)
  · obtain ⟨a, ns, rfl, _⟩ := h
    rfl
  · obtain ⟨a, ns, rfl, hS, hlen, k⟩ := h
    have hu := hu_of hr
    refine ⟨_, (pss_cons (ps_set (i := 1) sc_source.nd rfl (Or.inl rfl) pe_int)
  (pss_cons (ps_set (i := 2) sc_source.nd rfl (Or.inl rfl) pe_int)
  (pss_cons (ps_for PassesOwn.never rfl (k_iE K (by rfl) b_enumerate (pa_cons (pv 0) pa_nil)) (k_gT K (n := 2) (by rfl) (pgs_cons (pg_name (i := 3) sc_source.nd rfl (Or.inl rfl)) (pgs_cons (pg_name (i := 4) sc_source.nd rfl (Or.inl rfl)) pgs_nil)))
  (C8.pss_cut (ps_if (PW.pt (pw_and (pt_cmpR op_eq (pv 1) pe_int (nomark _)) (pw_and1 (pt_cmpR op_ge (pv 4) (pe_op op_pow pe_int pe_int) (nomark _))))) (pss_one (ps_set (i := 1) sc_source.nd rfl (Or.inl rfl) (pv 4))) pss_nil)
  (pss_one (ps_set (i := 2) sc_source.nd rfl (Or.inl rfl) (pe_op op_mod (pe_callTy c_int1 (by rfl) b_int (by decide +kernel) (pa_cons (pe_op op_add (pe_op op_mul (pe_op op_add (pv 2) (pe_op op_mod (pe_callTy c_int1 (by rfl) b_int (by decide +kernel) (pa_cons (pv 4) pa_nil)) pe_int)) pe_int) (pv 3)) pa_nil)) pe_int)))))
  (pss_one (ps_ret (pe_lst (pa_cons (pv 1) (pa_cons (pv 2) (pa_cons pe_int pa_nil))))))))), ?_⟩
    walk_at "rd"
    refine forb (walk_enum (xs := ns.map V.int)) (fun i σ H2 => ∃ (g sd : Int) (v3 v4 : Option V), σ = [some (.ref a), some (.int g), some (.int sd), v3, v4] ∧ Same H H2 ∧ 0 ≤ sd ∧ sd < 2147483647)
      ⟨0, 104729, _, _, rfl, Same.refl _, by decide, by decide⟩ (fun i σ H2 _ ⟨_, _, _, _, _, s2, _⟩ => s2.seq hS) ?_ ?_
    · rintro i x σ H2 H3 hi ⟨g, sd, v3, v4, rfl, s2, h0, h1⟩ ⟨T, y, z, rfl, nT, rfl, e1, e2⟩
      cases e1
      have e2' : (ns.map V.int)[i]? = some z := e2
      rw [List.getElem?_map] at e2'
      cases e3 : ns[i]? with
      | none => rw [e3] at e2'; cases e2'
      | some n =>
        rw [e3] at e2'; cases e2'
        have s3 : Same H (upd H2 T (.tup [.int (i : Nat), .int n])) := fun b o e => by
          rw [upd_ne (ne_of_none (s2 b o e) nT)]; exact s2 b o e
        walk_at "rd"
        refine w_cut (fun σ' H' => ∃ g', σ' = [some (.ref a), some (.int g'), some (.int sd), some (.int i), some (.int n)] ∧ H' = (upd H2 T (.tup [.int (i : Nat), .int n]))) ?_ ?_
        · walk_at "rd"
          refine w_if (fun h => ?_) (fun h => ?_)
          · walk_at "rd"
            refine w_if (fun h => ?_) (fun h => ?_)
            · walk_at "rd"
              exact ⟨_, rfl, rfl⟩
            · walk_at "rd"
              exact ⟨_, rfl, rfl⟩
          · walk_at "rd"
            exact ⟨_, rfl, rfl⟩
        · rintro σ' H' ⟨g', rfl, rfl⟩
          walk_at "rd"
          exact ⟨_, _, _, _, rfl, s3, Int.emod_nonneg _ (by decide), Int.emod_lt_of_pos _ (by decide)⟩
    · rintro σ H2 ⟨g, sd, v3, v4, rfl, s2, h0, h1⟩
      walk_at "rd"
      intro p np
      exact k p _ (s2.trans (Same.new np)) (s2.free np) ⟨g, sd, upd_same, h0, h1⟩
abbrev n_draw : List Str := ["_law_source_here", "_law_many", "_law_value", "_law_stirred"]
theorem sc_draw : FnScope n_draw ["_law_source_here", "_law_many"] (defScope s_draw) := ⟨rfl, rfl, rfl, by decide +kernel, rfl, by decide +kernel, by decide +kernel⟩
theorem ok_draw (A0 : DefAt K mg "_law_draw" s_draw ["_law_source_here", "_law_many"]) (b_int : mg "int" = none) : Does P w K mg base CX0 1 "_law_draw" ["_law_source_here", "_law_many"] sp_drawM := by
  obtain ⟨f, fd, F, gm, bd⟩ := A0
  refine ⟨f, fd, ?_, gm, F.kp, bd⟩
  refine F.ok sc_draw (fun vs H Q E h => ?_) (fun cdv A outer s H vs Q E hr h => ?_)
  · obtain ⟨_, _, _, _, _, _, rfl, _⟩ := h
    rfl
  · obtain ⟨B, x_0, p, o_0, m, r, rfl, sB, ⟨hp, hb, hx⟩, hm, k⟩ := h
    have hu := hu_of hr
    refine ⟨_, (pss_cons (ps_if (pt_cmpR op_gt (pe_ix (k_ixL K) (pv 0) pe_int (fun _ _ => rfl)) pe_int (nomark _)) (pss_cons (ps_set (i := 2) sc_draw.nd rfl (Or.inl rfl) (pe_op op_mod (pe_callTy c_int1 (by rfl) b_int (by decide +kernel) (pa_cons (pe_ix (k_ixL K) (pv 0) pe_int (fun _ _ => rfl)) pa_nil)) (pv 1)))
  (pss_cons (ps_asg (pe_op op_fdivW (pe_ix (k_ixL K) (pv 0) pe_int (fun _ _ => rfl)) (pv 1)) (pg_sub (pv 0) pe_int set_list))
  (pss_one (ps_ret (pv 2))))) pss_nil)
  (pss_cons (ps_asg (pe_op op_add (pe_ix (k_ixL K) (pv 0) pe_int (fun _ _ => rfl)) pe_int) (pg_sub (pv 0) pe_int set_list))
  (pss_cons (ps_set (i := 3) sc_draw.nd rfl (Or.inl rfl) (pe_op op_mod (pe_callTy c_int1 (by rfl) b_int (by decide +kernel) (pa_cons (pe_op op_pow (pe_op op_add (pe_ix (k_ixL K) (pv 0) pe_int (fun _ _ => rfl)) (pe_op op_mul pe_int (pe_ix (k_ixL K) (pv 0) pe_int (fun _ _ => rfl)))) pe_int) pa_nil)) pe_int))
  (pss_one (ps_ret (pe_op op_mod (pe_callTy c_int1 (by rfl) b_int (by decide +kernel) (pa_cons (pe_op op_mod (pe_callTy c_int1 (by rfl) b_int (by decide +kernel) (pa_cons (pe_op op_mul (pe_op op_add (pv 3) (pe_ix (k_ixL K) (pv 0) pe_int (fun _ _ => rfl))) pe_int) pa_nil)) pe_int) pa_nil)) (pv 1))))))), ?_⟩
    cases (show o_0 = .lst [.int x_0.g, .int x_0.s, .int x_0.c] from hx)
    unfold m_draw at hm
    by_cases hok : (0 ≤ x_0.s ∧ x_0.s < 2147483647 ∧ 0 ≤ x_0.c ∧ x_0.c < 1000000000) ∧ 0 < m ∧ m < 2 ^ 1000
    · rw [if_pos hok] at hm
      obtain ⟨⟨h0, h1, h2, h3⟩, hm0, hM⟩ := hok
      have hD : ∀ z : Int, CDivW z m := fun z => wide_div hm0 (b := 1000) (by omega) (by decide) (by decide)
      have hP : CPow (x_0.s + 7919 * (x_0.c + 1)) 5 := ⟨by decide, by decide, by omega⟩
      have S0 := Sit.start1 sB hp hb
      walk_at "rd"
      refine w_if (fun hg => ?_) (fun hg => ?_)
      · rw [if_pos hg] at hm
        cases hm
        walk_at "rd"
        refine w_I (hD _) ?_
        walk_at "rd"
        exact k _ _ _ _ (S0.set (i := 0) rfl) rfl rfl
      · rw [if_neg hg] at hm
        cases hm
        walk_at "rd"
        exact k _ _ _ _ (S0.set (i := 0) rfl) rfl rfl
    · rw [if_neg hok] at hm
      cases hm
end
end Mm
namespace Mm
open PySem L2 Mf
section
variable {P : Program} {w : World} {K : PySem.W.Frag} {mg : Str → Option Value} {base : Heap} {cx : Nat → Addr}
abbrev n_name : List Str := ["_law_source_here", "_law_taken", "_law_size", "_law_name_here", "_law_k", "_law_one", "_law_letter"]
theorem sc_name : FnScope n_name ["_law_source_here", "_law_taken"] (defScope s_name) := ⟨rfl, rfl, rfl, by decide +kernel, rfl, by decide +kernel, by decide +kernel⟩
def m_name (x_0 : Src3) (x_1 : (List Str)) : Option (Str × Src3) :=
  (m_draw (x_0) ((13 : Int))).bind fun r7 =>
  (atI ([(8 : Int), (4 : Int), (5 : Int), (6 : Int), (7 : Int), (1 : Int), (2 : Int), (3 : Int), (1 : Int), (2 : Int), (3 : Int), (1 : Int), (2 : Int)] : (List Int)) r7.1).bind fun x17 =>
  (rngM x17).bind fun x21 =>
  (lcS (fun (a26 : Int) (st40 : Src3) => (m_draw (st40) ((26 : Int))).bind fun r43 =>
  (ixS (Str.ofString "abcdefghijklmnopqrstuvwxyz") r43.1).bind fun x53 =>
  some ((some x53), r43.2)) x21 r7.2).bind fun r55 =>
  (joinM (Str.ofString "") r55.1).bind fun x75 =>
  (if ((decide ((3 : Int) < x17)) && (decide (x17 < (8 : Int)))) = true then (cutM x75 (some (1 : Int)) none).bind fun x79 =>
  (addS (Str.ofString "q") x79).bind fun x80 =>
  (m_draw (r55.2) ((5 : Int))).bind fun r87 =>
  (atI ([(Str.ofString "read"), (Str.ofString "call"), (Str.ofString "say"), (Str.ofString "try"), x80] : (List Str)) r87.1).bind fun x97 =>
  some (x97, r87.2) else some (x75, r55.2)).bind fun j76 =>
  if (!decide (j76.1 ∈ x_1)) = true then some (j76.1, j76.2) else (charsM (Str.ofString "abcdefghijklmnopq")).bind fun z112 =>
  (lcM (fun (a116 : Str) => (addS (Str.ofString "z") a116).bind fun x132 =>
  some (some x132)) z112).bind fun ys134 =>
  (atI (ys134.filterMap (fun (a150 : Str) => if (!decide (a150 ∈ x_1)) = true then (some a150) else none)) (0 : Int)).bind fun x180 =>
  some (x180, j76.2)
def sp_name (K : PySem.W.Frag) : Sp := fun vs H Q E => ∃ (B : Hp) (x_0 : Src3) (p_0 : Addr) (o_0 : HO) (x_1 : (List Str)) (v_1 : V) (r : (Str × Src3)), vs = [.ref p_0, v_1] ∧ Same B H ∧ (H p_0 = some o_0 ∧ B p_0 = none ∧ cSrc.rel B x_0 o_0) ∧ (dList dStr).rel B x_1 v_1 ∧ m_name x_0 x_1 = some r ∧ ∀ (v : V) (B' H' : Hp) (op_0 : HO), Sit ⟨B, H, [p_0]⟩ B' H' [(p_0, op_0)] → dStr.rel B' r.1 v → cSrc.rel B' r.2 op_0 → Q v H'
theorem use_name {K : PySem.W.Frag} {Φ : Fr} {B H : Hp} {cs : List (Addr × HO)} {Q : VK} {E : XK} {r : (Str × Src3)} {x_0 : Src3} {p_0 : Addr} {o_0 : HO} {i1 : Nat} {x_1 : (List Str)} {v_1 : V} (Z : Sit Φ B H cs) (hc_0 : cs[i1]? = some (p_0, o_0)) (h_0 : cSrc.rel B x_0 o_0) (h_1 : (dList dStr).rel B x_1 v_1) (hm : m_name x_0 x_1 = some r) (k : ∀ (v : V) (B' H' : Hp) (op_0 : HO), Sit Φ B' H' (cs.set i1 (p_0, op_0)) → Same B B' → dStr.rel B' r.1 v → cSrc.rel B' r.2 op_0 → Q v H') : sp_name K ([.ref p_0, v_1] ++ []) H Q E := by
  exact ⟨B, x_0, p_0, o_0, x_1, v_1, r, rfl, Z.sub, ⟨Z.at' hc_0, Z.atB hc_0, h_0⟩, h_1, hm, fun v B' H' op_0 Z' h qp_0 => k v B' H' op_0 (Z.call1 hc_0 Z') Z'.grow h qp_0⟩
theorem ok_name (A0 : DefAt K mg "_law_name" s_name ["_law_source_here", "_law_taken"]) (b_range : mg "range" = none) (D_draw : Does P w K mg base CX0 1 "_law_draw" ["_law_source_here", "_law_many"] sp_drawM) : Does P w K mg base CX0 2 "_law_name" ["_law_source_here", "_law_taken"] (sp_name K ) := by
  obtain ⟨f, fd, F, gm, bd⟩ := A0
  obtain ⟨f_draw, fd_draw, G_draw, g_draw, kp_draw, bd_draw⟩ := D_draw
  refine ⟨f, fd, ?_, gm, F.kp, bd⟩
  refine F.ok sc_name (fun vs H Q E h => ?_) (fun cdv A outer s H vs Q E hr h => ?_)
  · obtain ⟨_, _, _, _, _, _, _, rfl, _⟩ := h
    rfl
  · obtain ⟨B, x_0, p_0, o_0, x_1, v_1, r, rfl, sB, ⟨hp_0, hb_0, hx_0⟩, hx_1, hm, k⟩ := h
    have hu := hu_of hr
    refine ⟨_, (pss_cons (ps_set (i := 2) sc_name.nd rfl (Or.inl rfl) (pe_ix (k_ixL K) (pe_lst (pa_cons pe_int (pa_cons pe_int (pa_cons pe_int (pa_cons pe_int (pa_cons pe_int (pa_cons pe_int (pa_cons pe_int (pa_cons pe_int (pa_cons pe_int (pa_cons pe_int (pa_cons pe_int (pa_cons pe_int (pa_cons pe_int pa_nil)))))))))))))) (pe_call G_draw (hr.mono (by decide)) rfl g_draw kp_draw bd_draw .nil pass0 (pa_cons (pv 0) (pa_cons pe_int pa_nil))) (fun _ _ => rfl)))
  (pss_cons (ps_set (i := 3) sc_name.nd rfl (Or.inl rfl) (k_join K pe_str (pe_lc (own := [("_law_k", 4)]) (tt := tYes) rfl sc_name.nd (pi_range1 (by rfl) b_range (pa_cons (pv 2) pa_nil)) (blkOk_by (own := [("_law_k", 4)]) (N := n_name) (sc := defScope s_name) (by decide +kernel)) (fun _ _ _ _ _ => (pg_name (i := 4) sc_name.nd rfl (Or.inl rfl))) (fun _ _ _ _ _ => pts_nil) (fun _ _ _ _ _ => (pe_ix ix_str pe_str (pe_call G_draw (hr.mono (by decide)) rfl g_draw kp_draw bd_draw .nil pass0 (pa_cons (pv 0) (pa_cons pe_int pa_nil))) (fun _ _ => rfl))))))
  (C8.pss_cut (ps_if (pt_chain op_lt op_lt pe_int (pv 2) pe_int) (pss_one (ps_set (i := 3) sc_name.nd rfl (Or.inl rfl) (pe_ix (k_ixL K) (pe_lst (pa_cons pe_str (pa_cons pe_str (pa_cons pe_str (pa_cons pe_str (pa_cons (pe_op o_addS pe_str (pe_slice sl_str (pv 3) (po_some pe_int) po_none)) pa_nil)))))) (pe_call G_draw (hr.mono (by decide)) rfl g_draw kp_draw bd_draw .nil pass0 (pa_cons (pv 0) (pa_cons pe_int pa_nil))) (fun _ _ => rfl)))) pss_nil)
  (pss_cons (ps_if (pt_cmpR (k_ni K) (pv 3) (pv 1) (by rfl)) (pss_one (ps_ret (pv 3))) pss_nil)
  (pss_one (ps_ret (pe_ix (k_ixL K) (pe_lc (own := [("_law_one", 5)]) rfl sc_name.nd (k_iL K (pe_lc (own := [("_law_letter", 6)]) (tt := tYes) rfl sc_name.nd (pi_str pe_str) (blkOk_by (own := [("_law_letter", 6)]) (N := n_name) (sc := defScope s_name) (by decide +kernel)) (fun _ _ _ _ _ => (pg_name (i := 6) sc_name.nd rfl (Or.inl rfl))) (fun _ _ _ _ _ => pts_nil) (fun _ _ _ _ _ => (pe_op o_addS pe_str (pv 6))))) (blkOk_by (own := [("_law_one", 5)]) (N := n_name) (sc := defScope s_name) (by decide +kernel)) (fun _ _ _ _ _ => (pg_name (i := 5) sc_name.nd rfl (Or.inl rfl))) (fun _ _ _ _ _ => pts_one (pt_cmpR (k_ni K) (pv 5) (pv 1) (by rfl))) (fun _ _ _ _ _ => (pv 5))) pe_int (fun _ _ => rfl)))))))), ?_⟩
    obtain ⟨B0, hB0⟩ : ∃ B0 : Hp, B0 = B := ⟨_, rfl⟩
    subst hB0
    have S0 := Sit.start1 sB hp_0 hb_0
    unfold m_name at hm
    refine w_sig (σ' := [(some (.ref p_0)), (some v_1), none, none, none, none, none]) rfl ?_
    refine w_seq ?_
    refine w_asg ?_
    refine w_op ?_
    refine x_lst ?_
    refine w_evA (EvA.cons Ev.c (EvA.cons Ev.c (EvA.cons Ev.c (EvA.cons Ev.c (EvA.cons Ev.c (EvA.cons Ev.c (EvA.cons Ev.c (EvA.cons Ev.c (EvA.cons Ev.c (EvA.cons Ev.c (EvA.cons Ev.c (EvA.cons Ev.c (EvA.cons Ev.c EvA.nil))))))))))))) ?_
    refine mkL (R := dInt) (xs := [(8 : Int), (4 : Int), (5 : Int), (6 : Int), (7 : Int), (1 : Int), (2 : Int), (3 : Int), (1 : Int), (2 : Int), (3 : Int), (1 : Int), (2 : Int)]) S0 (.cons (show dInt.rel _ (8 : Int) (V.int 8) from rfl) (.cons (show dInt.rel _ (4 : Int) (V.int 4) from rfl) (.cons (show dInt.rel _ (5 : Int) (V.int 5) from rfl) (.cons (show dInt.rel _ (6 : Int) (V.int 6) from rfl) (.cons (show dInt.rel _ (7 : Int) (V.int 7) from rfl) (.cons (show dInt.rel _ (1 : Int) (V.int 1) from rfl) (.cons (show dInt.rel _ (2 : Int) (V.int 2) from rfl) (.cons (show dInt.rel _ (3 : Int) (V.int 3) from rfl) (.cons (show dInt.rel _ (1 : Int) (V.int 1) from rfl) (.cons (show dInt.rel _ (2 : Int) (V.int 2) from rfl) (.cons (show dInt.rel _ (3 : Int) (V.int 3) from rfl) (.cons (show dInt.rel _ (1 : Int) (V.int 1) from rfl) (.cons (show dInt.rel _ (2 : Int) (V.int 2) from rfl) .nil))))))))))))) (by show 13 ≤ BIG; decide) fun v1 B6 H2 S3 s4 h5 => ?_
    refine w_call ?_
    refine w_evA (EvA.cons (Ev.var rfl) (EvA.cons Ev.c EvA.nil)) ?_
    obtain ⟨r7, h8, hm⟩ := bs hm
    refine use_draw S3 (i1 := 0) rfl (Cl.mono _ s4 hx_0) (show dInt.rel _ (13 : Int) (V.int 13) from rfl) h8 fun v9 B13 H10 o14 (S11 : Sit _ B13 H10 [(p_0, o14)]) s12 h16 h15 => ?_
    cases h16
    obtain ⟨x17, hx17, hm⟩ := bs hm
    obtain ⟨_, rfl, r18⟩ := ix_L (K := K) (Rl.mono _ s12 h5) hx17
    refine w_rv (r18 _ S11.sub) ?_
    refine w_gname ?_
    refine w_nx (σ' := [(some (.ref p_0)), (some v_1), (some (V.int x17)), none, none, none, none]) rfl ?_
    refine w_seq ?_
    refine w_asg ?_
    refine w_m1 ?_
    refine w_ev Ev.c ?_
    refine w_exS ?_
    refine w_lc ?_
    refine x_iR1 ?_
    refine w_evA (EvA.cons (Ev.var rfl) EvA.nil) ?_
    obtain ⟨x21, h22, hm⟩ := bs hm
    refine w_itR1 (B := B13) h22 fun J19 it20 hl23 => ?_
    obtain ⟨r55, h56, hm⟩ := bs hm
    refine lcRS (P := dStr) it20 S11 hl23 (fun (st40 : Src3) b cs' => ∃ o41, cs' = [(p_0, o41)] ∧ cSrc.rel b st40 o41) ⟨_, rfl, h15⟩ (h56 : _ = some (r55.1, r55.2)) (fun _ _ _ _ _ Z e _ => e.tr Z.sub) (fun D24 ac25 a26 st40 o27 x28 B31 B32 H33 cs58 ma39 S34 s29 s30 hI57 h35 ho36 RR37 kk38 => ?_) ?_
    · obtain ⟨o41, rfl, h42⟩ := hI57
      refine w_turn ?_
      cases h35
      refine w_gname ?_
      refine w_wipe rfl ?_
      refine w_yes ?_
      refine iteT ?_
      refine w_op ?_
      refine w_ev Ev.c ?_
      refine w_call ?_
      refine w_evA (EvA.cons (Ev.var rfl) (EvA.cons Ev.c EvA.nil)) ?_
      obtain ⟨r43, h44, ho36⟩ := bs ho36
      refine use_draw S34 (i1 := 1) rfl (Cl.mono _ s30 h42) (show dInt.rel _ (26 : Int) (V.int 26) from rfl) h44 fun v45 B49 H46 o50 (S47 : Sit _ B49 H46 [(D24, (.lst ac25)), (p_0, o50)]) s48 h52 h51 => ?_
      cases h52
      obtain ⟨x53, hx53, ho36⟩ := bs ho36
      have hx53l := ixS_len hx53
      refine w_rv (ix_S hx53) ?_
      obtain rfl := Option.some.inj ho36
      exact kk38 _ _ _ _ S47 s48 ⟨o50, rfl, h51⟩ ⟨_, rfl, (show dStr.rel _ x53 (V.str x53) from rfl)⟩
    · intro p59 B66 H60 o61 cs70 S62 s63 hI69 n64 h65
      obtain ⟨o67, rfl, h68⟩ := hI69
      obtain ⟨B73, S71, s72, h74⟩ : ∃ B', Sit _ B' H60 [(p_0, o67)] ∧ Same _ B' ∧ (dList dStr).rel B' r55.1 (.ref p59) := ⟨_, S62.frz (i := 0) rfl n64, S62.frzS (i := 0) rfl, frzL h65 (S62.atB (i := 0) rfl)⟩
      obtain ⟨x75, hx75, hm⟩ := bs hm
      refine q_join (sqL (K := K) h74 S71.sub) hx75 ?_
      refine w_gname ?_
      refine w_nx (σ' := [(some (.ref p_0)), (some v_1), (some (V.int x17)), (some (V.str x75)), none, none, none]) rfl ?_
      obtain ⟨j76, hj77, hm⟩ := bs hm
      refine w_cut (MidD (fun σ' H' => ∃ (B' : Hp) (e103 : V) (o105 : HO), σ' = [(some (.ref p_0)), (some v_1), (some (V.int x17)), (some e103), none, none, none] ∧ Sit (Fr.mk B0 H [p_0]) B' H' [(p_0, o105)] ∧ Same B73 B' ∧ dStr.rel B' j76.1 e103 ∧ cSrc.rel B' j76.2 o105 ∧ True)) ?_ ?_
      · refine w_ifS ?_
        refine w_evT (EvT.test (Ev.chain Ev.c (Ev.var rfl) Ev.c rv_I0 rv_I0)) ?_
        refine w_ifb (fun h78 => ?_) (fun h78 => ?_)
        · rw [ifT h78] at hj77
          refine w_asg ?_
          refine w_op ?_
          refine x_lst ?_
          refine w_cons ?_
          refine w_ev Ev.c ?_
          refine w_cons ?_
          refine w_ev Ev.c ?_
          refine w_cons ?_
          refine w_ev Ev.c ?_
          refine w_cons ?_
          refine w_ev Ev.c ?_
          refine w_cons ?_
          refine w_op ?_
          refine w_ev Ev.c ?_
          obtain ⟨x79, hx79, hj77⟩ := bs hj77
          refine w_sl ?_
          refine w_ev (Ev.var rfl) ?_
          refine w_part ?_
          refine w_ev Ev.c ?_
          refine w_exI ?_
          refine w_noP ?_
          refine q_cut hx79 ?_
          obtain ⟨x80, hx80, hj77⟩ := bs hj77
          refine w_rv (rv_addS hx80) ?_
          refine w_nil ?_
          refine mkL (R := dStr) (xs := [(Str.ofString "read"), (Str.ofString "call"), (Str.ofString "say"), (Str.ofString "try"), x80]) S71 (.cons (show dStr.rel _ (Str.ofString "read") (V.str (Str.ofString "read")) from rfl) (.cons (show dStr.rel _ (Str.ofString "call") (V.str (Str.ofString "call")) from rfl) (.cons (show dStr.rel _ (Str.ofString "say") (V.str (Str.ofString "say")) from rfl) (.cons (show dStr.rel _ (Str.ofString "try") (V.str (Str.ofString "try")) from rfl) (.cons (show dStr.rel _ x80 (V.str x80) from rfl) .nil))))) (by show 5 ≤ BIG; decide) fun v81 B86 H82 S83 s84 h85 => ?_
          refine w_call ?_
          refine w_evA (EvA.cons (Ev.var rfl) (EvA.cons Ev.c EvA.nil)) ?_
          obtain ⟨r87, h88, hj77⟩ := bs hj77
          refine use_draw S83 (i1 := 0) rfl (Cl.mono _ (s72.tr s84) h68) (show dInt.rel _ (5 : Int) (V.int 5) from rfl) h88 fun v89 B93 H90 o94 (S91 : Sit _ B93 H90 [(p_0, o94)]) s92 h96 h95 => ?_
          cases h96
          obtain ⟨x97, hx97, hj77⟩ := bs hj77
          obtain ⟨_, rfl, r98⟩ := ix_L (K := K) (Rl.mono _ s92 h85) hx97
          refine w_rv (r98 _ S91.sub) ?_
          refine w_gname ?_
          refine w_nx (σ' := [(some (.ref p_0)), (some v_1), (some (V.int x17)), (some (V.str x97)), none, none, none]) rfl ?_
          obtain rfl := Option.some.inj hj77
          exact ⟨_, _, _, rfl, S91, (s84.tr s92), (show dStr.rel _ x97 (V.str x97) from rfl), h95, trivial⟩
        · rw [ifF h78] at hj77
          refine w_next ?_
          obtain rfl := Option.some.inj hj77
          exact ⟨_, _, _, rfl, S71, (Same.rf _), (show dStr.rel _ x75 (V.str x75) from rfl), (Cl.mono _ s72 h68), trivial⟩
      · rintro _ H99 ⟨B102, e103, o105, rfl, S100, s101, h104, h106, -⟩
        cases h104
        refine w_seq ?_
        refine w_ifS ?_
        refine w_evT (EvT.test (Ev.op (Ev.var rfl) (Ev.var rfl) (rni_s (sqL (K := K) (Rl.mono _ (s4.tr (s12.tr (s63.tr (s72.tr s101)))) hx_1) S100.sub)))) ?_
        refine w_ifb (fun h107 => ?_) (fun h107 => ?_)
        · rw [ifT h107] at hm
          refine w_ret ?_
          refine w_ev (Ev.var rfl) ?_
          obtain rfl := Option.some.inj hm
          exact k _ _ _ _ S100 (show dStr.rel _ j76.1 (V.str j76.1) from rfl) h106
        · rw [ifF h107] at hm
          refine w_next ?_
          refine w_ret ?_
          refine w_op ?_
          refine w_lc ?_
          refine x_iL ?_
          refine w_lc ?_
          refine x_iS ?_
          refine w_ev Ev.c ?_
          obtain ⟨z112, h113, hm⟩ := bs hm
          have h113l := charsM_le h113
          refine w_itSM (B := B102) h113 fun J110 it111 => ?_
          obtain ⟨ys134, h135, hm⟩ := bs hm
          refine lcR (P := dStr) it111 S100 h113l h135 (fun _ _ _ Z e _ => e.tr Z.sub) (fun D114 ac115 a116 o117 x118 B121 B122 H123 ma129 S124 s119 s120 h125 ho126 RR127 kk128 => ?_) ?_
          · refine w_turn ?_
            obtain ⟨rfl, h131⟩ := h125
            refine w_gname ?_
            refine w_wipe rfl ?_
            refine w_yes ?_
            refine iteT ?_
            obtain ⟨x132, hx132, ho126⟩ := bs ho126
            refine w_ev (Ev.op Ev.c (Ev.var rfl) (rv_addS hx132)) ?_
            obtain rfl := Option.some.inj ho126
            exact kk128 _ _ _ S124 (Same.rf _) ⟨_, rfl, (show dStr.rel _ x132 (V.str x132) from rfl)⟩
          · intro p136 B143 H137 o138 S139 s140 n141 h142
            obtain ⟨B146, S144, s145, h147⟩ : ∃ B', Sit _ B' H137 [(p_0, o105)] ∧ Same _ B' ∧ (dList dStr).rel B' ys134 (.ref p136) := ⟨_, S139.frz (i := 0) rfl n141, S139.frzS (i := 0) rfl, frzL h142 (S139.atB (i := 0) rfl)⟩
            refine w_itL h147 S144.sub fun J108 it109 => ?_
            refine lcR (P := dStr) it109 S144 (dList.le h147) (lcM_total (fun (a150 : Str) => if (!decide (a150 ∈ x_1)) = true then (some a150) else none) ys134) (fun _ _ _ Z e _ => e.tr Z.sub) (fun D148 ac149 a150 o151 x152 B155 B156 H157 ma163 S158 s153 s154 h159 ho160 RR161 kk162 => ?_) ?_
            · refine w_turn ?_
              cases h159
              refine w_gname ?_
              refine w_wipe rfl ?_
              refine w_evT (EvT.test (Ev.op (Ev.var rfl) (Ev.var rfl) (rni_s (sqL (K := K) (Rl.mono _ (s4.tr (s12.tr (s63.tr (s72.tr (s101.tr (s140.tr (s145.tr (s153.tr s154)))))))) hx_1) S158.sub)))) ?_
              refine w_ifb (fun h166 => ?_) (fun h166 => ?_)
              · rw [ifT h166] at ho160
                refine w_ev (Ev.var rfl) ?_
                obtain rfl := Option.some.inj ho160
                exact kk162 _ _ _ S158 (Same.rf _) ⟨_, rfl, (show dStr.rel _ a150 (V.str a150) from rfl)⟩
              · rw [ifF h166] at ho160
                obtain rfl := Option.some.inj ho160
                exact kk162 _ _ _ S158 (Same.rf _) rfl
            · intro p168 B175 H169 o170 S171 s172 n173 h174
              obtain ⟨B178, S176, s177, h179⟩ : ∃ B', Sit _ B' H169 [(p_0, o105)] ∧ Same _ B' ∧ (dList dStr).rel B' (ys134.filterMap (fun (a150 : Str) => if (!decide (a150 ∈ x_1)) = true then (some a150) else none)) (.ref p168) := ⟨_, S171.frz (i := 0) rfl n173, S171.frzS (i := 0) rfl, frzL h174 (S171.atB (i := 0) rfl)⟩
              refine w_ev Ev.c ?_
              obtain ⟨x180, hx180, hm⟩ := bs hm
              obtain ⟨_, rfl, r181⟩ := ix_L (K := K) h179 hx180
              refine w_rv (r181 _ S176.sub) ?_
              obtain rfl := Option.some.inj hm
              exact k _ _ _ _ S176 (show dStr.rel _ x180 (V.str x180) from rfl) (Cl.mono _ (s140.tr (s145.tr (s172.tr s177))) h106)
abbrev n_names : List Str := ["_law_source_here", "_law_many", "_law_names_here", "_law_k"]
theorem sc_names : FnScope n_names ["_law_source_here", "_law_many"] (defScope s_names) := ⟨rfl, rfl, rfl, by decide +kernel, rfl, by decide +kernel, by decide +kernel⟩
def m_names (x_0 : Src3) (x_1 : Int) : Option ((List Str) × Src3) :=
  (rngM x_1).bind fun x9 =>
  (forL (fun (a18 : Int) (st19 : ((List Str) × Src3)) => (m_name (st19.2) (st19.1)).bind fun r50 =>
  (pushM st19.1 r50.1).bind fun x60 =>
  some (x60, r50.2)) x9 (([] : (List Str)), x_0)).bind fun st72 =>
  some (st72.1, st72.2)
def sp_names (K : PySem.W.Frag) : Sp := fun vs H Q E => ∃ (B : Hp) (x_0 : Src3) (p_0 : Addr) (o_0 : HO) (x_1 : Int) (r : ((List Str) × Src3)), vs = [.ref p_0, (V.int x_1)] ∧ Same B H ∧ (H p_0 = some o_0 ∧ B p_0 = none ∧ cSrc.rel B x_0 o_0) ∧ m_names x_0 x_1 = some r ∧ ∀ (v : V) (B' H' : Hp) (op_0 : HO), Sit ⟨B, H, [p_0]⟩ B' H' [(p_0, op_0)] → (dList dStr).rel B' r.1 v → cSrc.rel B' r.2 op_0 → Q v H'
theorem use_names {K : PySem.W.Frag} {Φ : Fr} {B H : Hp} {cs : List (Addr × HO)} {Q : VK} {E : XK} {r : ((List Str) × Src3)} {x_0 : Src3} {p_0 : Addr} {o_0 : HO} {i1 : Nat} {x_1 : Int} {v_1 : V} (Z : Sit Φ B H cs) (hc_0 : cs[i1]? = some (p_0, o_0)) (h_0 : cSrc.rel B x_0 o_0) (h_1 : dInt.rel B x_1 v_1) (hm : m_names x_0 x_1 = some r) (k : ∀ (v : V) (B' H' : Hp) (op_0 : HO), Sit Φ B' H' (cs.set i1 (p_0, op_0)) → Same B B' → (dList dStr).rel B' r.1 v → cSrc.rel B' r.2 op_0 → Q v H') : sp_names K ([.ref p_0, v_1] ++ []) H Q E := by
  cases h_1
  exact ⟨B, x_0, p_0, o_0, x_1, r, rfl, Z.sub, ⟨Z.at' hc_0, Z.atB hc_0, h_0⟩, hm, fun v B' H' op_0 Z' h qp_0 => k v B' H' op_0 (Z.call1 hc_0 Z') Z'.grow h qp_0⟩
theorem ok_names (A0 : DefAt K mg "_law_names" s_names ["_law_source_here", "_law_many"]) (b_list : mg "list" = none) (b_range : mg "range" = none) (D_name : Does P w K mg base CX0 2 "_law_name" ["_law_source_here", "_law_taken"] (sp_name K )) : Does P w K mg base CX0 3 "_law_names" ["_law_source_here", "_law_many"] (sp_names K ) := by
  obtain ⟨f, fd, F, gm, bd⟩ := A0
  obtain ⟨f_name, fd_name, G_name, g_name, kp_name, bd_name⟩ := D_name
  refine ⟨f, fd, ?_, gm, F.kp, bd⟩
  refine F.ok sc_names (fun vs H Q E h => ?_) (fun cdv A outer s H vs Q E hr h => ?_)
  · obtain ⟨_, _, _, _, _, _, rfl, _⟩ := h
    rfl
  · obtain ⟨B, x_0, p_0, o_0, x_1, r, rfl, sB, ⟨hp_0, hb_0, hx_0⟩, hm, k⟩ := h
    have hu := hu_of hr
    refine ⟨_, (pss_cons (ps_set (i := 2) sc_names.nd rfl (Or.inl rfl) (pe_lst pa_nil))
  (pss_cons (ps_for PassesOwn.never rfl (pi_range1 (by rfl) b_range (pa_cons (pv 1) pa_nil)) (pg_name (i := 3) sc_names.nd rfl (Or.inl rfl))
  (pss_one (ps_expr (k_bm K PySem.F.plainAttrs_list PySem.F.slot_list_append PySem.F.type_list_append mt_append (pv 2) (pa_cons (pe_call G_name (hr.mono (by decide)) rfl g_name kp_name bd_name .nil pass0 (pa_cons (pv 0) (pa_cons (pe_callTy (k_list K) (by rfl) b_list (by decide +kernel) (pa_cons (pv 2) pa_nil)) pa_nil))) pa_nil)))))
  (pss_one (ps_ret (pv 2))))), ?_⟩
    obtain ⟨B0, hB0⟩ : ∃ B0 : Hp, B0 = B := ⟨_, rfl⟩
    subst hB0
    have S0 := Sit.start1 sB hp_0 hb_0
    unfold m_names at hm
    refine w_sig (σ' := [(some (.ref p_0)), (some (V.int x_1)), none, none]) rfl ?_
    refine w_seq ?_
    refine w_asg ?_
    refine x_lst ?_
    refine w_nil ?_
    refine mkO (R := dStr) (xs := []) S0 .nil (by show 0 ≤ BIG; decide) fun p1 o2 H3 S4 n5 h6 => ?_
    refine w_gname ?_
    refine w_nx (σ' := [(some (.ref p_0)), (some (V.int x_1)), (some (.ref p1)), none]) rfl ?_
    refine w_seq ?_
    refine w_for ?_
    refine x_iR1 ?_
    refine w_evA (EvA.cons (Ev.var rfl) EvA.nil) ?_
    obtain ⟨x9, h10, hm⟩ := bs hm
    refine w_itR1 (B := B0) h10 fun J7 it8 hl11 => ?_
    obtain ⟨st72, hl82, hm⟩ := bs hm
    refine forS (s0 := (([] : (List Str)), x_0)) it8 S4 (fun (st12 : ((List Str) × Src3)) b σ' cs' => ∃ (e13 : Option V) (o14 : HO) (o16 : HO), σ' = [(some (.ref p_0)), (some (V.int x_1)), (some (.ref p1)), e13] ∧ cs' = [(p1, o14), (p_0, o16)] ∧ (cList dStr).rel b st12.1 o14 ∧ cSrc.rel b st12.2 o16 ∧ True) ⟨_, _, _, rfl, rfl, h6, hx_0, trivial⟩ hl82 (fun _ _ _ _ _ Z e _ => e.tr Z.sub) (fun a18 st19 o20 x21 B31 B37 H22 _ cs23 ma24 S25 s26 s27 hI28 h29 hf30 => ?_) ?_
    · obtain ⟨e32, o33, o35, rfl, rfl, h34, h36, -⟩ := hI28
      cases h29
      refine w_gname ?_
      refine w_nx (σ' := [(some (.ref p_0)), (some (V.int x_1)), (some (.ref p1)), (some (V.int a18))]) rfl ?_
      refine w_drop ?_
      refine w_bm ?_
      refine w_ev (Ev.var rfl) ?_
      refine w_tyC (Cl.mono _ s27 h34) (S25.at' (i := 0) rfl) ?_
      refine w_cons ?_
      refine w_call ?_
      refine w_cons ?_
      refine w_ev (Ev.var rfl) ?_
      refine w_cons ?_
      refine w_cb ?_
      refine w_evA (EvA.cons (Ev.var rfl) EvA.nil) ?_
      refine q_list S25 (sqC (K := K) (Cl.mono _ s27 h34) (S25.at' (i := 0) rfl)) fun v44 B49 H45 S46 s47 h48 => ?_
      refine w_nil ?_
      obtain ⟨r50, h51, hf30⟩ := bs hf30
      refine use_name S46 (i1 := 1) rfl (Cl.mono _ (s27.tr s47) h36) h48 h51 fun v52 B56 H53 o57 (S54 : Sit _ B56 H53 [(p1, o33), (p_0, o57)]) s55 h59 h58 => ?_
      cases h59
      refine w_nil ?_
      obtain ⟨x60, h61, hf30⟩ := bs hf30
      refine q_append (k := 0) S54 rfl (Cl.mono _ (s27.tr (s47.tr s55)) h34) (show dStr.rel _ r50.1 (V.str r50.1) from rfl) h61 fun o62 H63 (S64 : Sit _ B56 H63 [(p1, o62), (p_0, o57)]) h65 => ?_
      obtain rfl := Option.some.inj hf30
      exact ⟨_, _, S64, (s26.tr (s27.tr (s47.tr s55))), _, _, _, rfl, rfl, h65, h58, trivial⟩
    · intro B71 H66 _ cs67 S68 s69 hI70
      obtain ⟨e73, o74, o76, rfl, rfl, h75, h77, -⟩ := hI70
      obtain ⟨B80, S78, s79, h81⟩ : ∃ B', Sit _ B' H66 [(p_0, o76)] ∧ Same _ B' ∧ (dList dStr).rel B' st72.1 (.ref p1) := ⟨_, S68.frz (i := 0) rfl n5, S68.frzS (i := 0) rfl, frzL h75 (S68.atB (i := 0) rfl)⟩
      refine w_ret ?_
      refine w_ev (Ev.var rfl) ?_
      obtain rfl := Option.some.inj hm
      exact k _ _ _ _ S78 h81 (Cl.mono _ s79 h77)
end
end Mm
namespace Mm
open PySem L2 Mf
theorem name_wp {s : Src3} {n : Int} {xs : List Str} (ok : s.ok n) (hn : n + 10 < 1000000000) (hl : xs.length ≤ 16) : Wp (m_name s xs) (fun r => IsName r.1 ∧ r.1 ∉ xs ∧ r.2.ok (n + 10)) := by
  unfold m_name
  refine (wp_draw ok (by omega) (by decide) (by decide)).bind fun r hr => ?_
  obtain ⟨r0, r1, ok1⟩ := hr
  refine (wp_atM (P := fun x => 1 ≤ x ∧ x ≤ 8) r0 (by exact r1) (by decide)).bind fun z hz => ?_
  refine Wp.go (rngM_eq (by omega) (by omega)) ?_
  refine Wp.bind (P := fun (t : List Str × Src3) => ∃ cs : List Nat, t.1 = cs.map sign ∧ cs.length = z.toNat ∧ (∀ c ∈ cs, 97 ≤ c ∧ c ≤ 122) ∧ t.2.ok (n + 9)) ?_ fun t ht => ?_
  · refine (wp_lcS (fun i ys s' => ∃ cs : List Nat, ys = cs.map sign ∧ cs.length = i ∧ (∀ c ∈ cs, 97 ≤ c ∧ c ≤ 122) ∧ s'.ok (n + 1 + i)) ⟨[], rfl, rfl, by simp, by simpa using ok1⟩ ?_).mono ?_
    · rintro i a ys s' ha ⟨cs, rfl, hc, hcs, ok2⟩
      have hi : i < z.toNat := by
        have := (List.getElem?_eq_some_iff.mp ha).1
        simpa using this
      refine (wp_draw ok2 (by omega) (by decide) (by decide)).bind fun u hu => ?_
      obtain ⟨u0, u1, ok3⟩ := hu
      obtain ⟨c, hc', hc2⟩ := letters_at u0 u1
      refine Wp.go (a := sign c) (by unfold ixS; rw [if_pos (by rw [letters_len]; decide), hc']; rfl) ?_
      exact ⟨_, rfl, cs ++ [c], by simp, by simp [hc], fun d hd => by
        rcases List.mem_append.mp hd with h | h
        · exact hcs d h
        · rw [List.mem_singleton.mp h]; exact hc2, ok3.le (by push_cast; omega)⟩
    · rintro ⟨ys, s'⟩ ⟨cs, h1, h2, h3, h4⟩
      refine ⟨cs, h1, by rw [h2]; simp, h3, h4.le ?_⟩
      have : (List.map (fun k => ((k : Nat) : Int)) (List.range z.toNat)).length = z.toNat := by simp
      rw [this]; omega
  obtain ⟨ys, s2⟩ := t
  obtain ⟨cs, rfl, hc, hcs, ok2⟩ := ht
  refine Wp.go (a := (⟨cs.toArray⟩ : Str)) (by unfold joinM; rw [if_pos (signs_size cs (by omega)), join_signs]) ?_
  have hx : IsName ⟨cs.toArray⟩ := ⟨by rw [len_list]; simp; omega, by rw [len_list]; simp; omega, by simpa using hcs⟩
  have hxl : (⟨cs.toArray⟩ : Str).length = z.toNat := by rw [len_list]; simp; omega
  generalize (⟨cs.toArray⟩ : Str) = x at hx hxl
  have hx8 := hx.2.1
  refine Wp.bind (P := fun (t : Str × Src3) => IsName t.1 ∧ t.2.ok (n + 10)) (Wp.ite (fun h => ?_) (fun h => ⟨_, rfl, hx, ok2.le (by omega)⟩)) fun t ht => ?_
  · rw [Bool.and_eq_true, decide_eq_true_iff, decide_eq_true_iff] at h
    refine Wp.go (cutM_eq (by omega)) ?_
    have hxc := cutS_length x (some 1) none
    refine Wp.go (addS_eq (by rw [show (Str.ofString "q").length = 1 from by decide +kernel]; omega)) ?_
    refine (wp_draw ok2 (by omega) (by decide) (by decide)).bind fun u hu => ?_
    obtain ⟨u0, u1, ok3⟩ := hu
    refine (wp_atM (P := IsName) u0 (by exact u1) ?_).bind fun y hy => ⟨_, rfl, hy, ok3.le (by omega)⟩
    intro y hy
    simp only [List.mem_cons, List.not_mem_nil, or_false] at hy
    rcases hy with rfl | rfl | rfl | rfl | rfl
    · decide +kernel
    · decide +kernel
    · decide +kernel
    · decide +kernel
    · exact isName_q hx (by omega)
  · obtain ⟨y, s3⟩ := t
    obtain ⟨hy, ok3⟩ := ht
    refine Wp.ite (fun h => ⟨_, rfl, hy, by simpa using h, ok3⟩) (fun _ => ?_)
    refine Wp.go (charsM_eq (by decide +kernel)) ?_
    refine Wp.go (lcM_mapE (fun a => Str.ofString "z" ++ a) fun a ha => ?_) ?_
    · obtain ⟨c, hc, rfl⟩ := List.mem_map.mp ha
      show (addS _ _).bind _ = _
      rw [addS_eq (by rw [show (Str.ofString "z").length = 1 from by decide +kernel, show (⟨#[c]⟩ : Str).length = 1 from rfl]; decide)]
      rfl
    have ez : (chars (Str.ofString "abcdefghijklmnopq")).map (fun a => Str.ofString "z" ++ a) = zNames := by
      unfold chars zNames sign
      rw [List.map_map]
      rfl
    rw [ez]
    obtain ⟨k, hk, hkn⟩ := pigeon zNames xs zNames_nodup (by rw [zNames_len]; omega)
    have hm : k ∈ zNames.filterMap (fun (a : Str) => if (!decide (a ∈ xs)) = true then some a else none) := List.mem_filterMap.mpr ⟨k, hk, by simp [hkn]⟩
    refine (wp_atM (P := fun x => IsName x ∧ x ∉ xs) (by decide) (by have := List.length_pos_of_mem hm; omega) ?_).bind fun y' hy' => ⟨_, rfl, hy'.1, hy'.2, ok3⟩
    intro w hw
    obtain ⟨v, hv, e⟩ := List.mem_filterMap.mp hw
    by_cases hvx : v ∈ xs
    · simp [hvx] at e
    · simp [hvx] at e
      subst e
      exact ⟨zNames_isName _ hv, hvx⟩
theorem names_wp {s : Src3} {n m : Int} (ok : s.ok n) (h0 : 0 ≤ m) (h1 : m ≤ 16) (hn : n + 10 * m + 10 < 1000000000) : Wp (m_names s m) (fun r => Names r.1 ∧ (r.1.length : Int) = m ∧ r.2.ok (n + 10 * m)) := by
  unfold m_names
  refine Wp.go (rngM_eq h0 (by omega)) ?_
  have el : (List.map (fun k => ((k : Nat) : Int)) (List.range m.toNat)).length = m.toNat := by simp
  refine (wp_forL (fun i (t : List Str × Src3) => Names t.1 ∧ t.1.length = i ∧ t.2.ok (n + 10 * i)) ⟨⟨List.nodup_nil, by simp⟩, rfl, by simpa using ok⟩ ?_).bind fun t ht => ?_
  · rintro i a ⟨ys, s'⟩ ha ⟨hN, hl, ok1⟩
    have hi : i < m.toNat := by have := (List.getElem?_eq_some_iff.mp ha).1; rwa [el] at this
    simp only at hl
    refine (name_wp ok1 (by omega) (by simp only; omega)).bind fun r hr => ?_
    refine Wp.go (pushM_eq (by simp only; omega)) ?_
    refine ⟨_, rfl, ⟨?_, fun x hx => ?_⟩, by simp [hl], hr.2.2.le (by push_cast; omega)⟩
    · rw [List.nodup_append]
      exact ⟨hN.1, by simp, fun a ha b hb => by rw [List.mem_singleton.mp hb]; rintro rfl; exact hr.2.1 ha⟩
    · rcases List.mem_append.mp hx with h | h
      · exact hN.2 x h
      · rw [List.mem_singleton.mp h]; exact hr.1
  · rw [el] at ht
    refine ⟨_, rfl, ht.1, ?_, ht.2.2.le (by omega)⟩
    have := ht.2.1
    simp only
    omega
end Mm
namespace Mm
open PySem L2 Mf
section
variable {P : Program} {w : World} {K : PySem.W.Frag} {mg : Str → Option Value} {base : Heap} {cx : Nat → Addr}
abbrev n_is_number_a : List Str := ["value"]
theorem sc_is_number_a : FnScope n_is_number_a ["value"] (defScope s_is_number) := ⟨rfl, rfl, rfl, by decide +kernel, rfl, by decide +kernel, by decide +kernel⟩
def m_is_number_a (x_0 : PyData) : Option Bool :=
  (if (isInt x_0) = true then if (!(isBool x_0)) = true then (asI x_0).bind fun i7 =>
  some ((decide ((-(1000000000000000000000000000000000000000000000000000000000000 : Int)) < i7)) && (decide (i7 < (1000000000000000000000000000000000000000000000000000000000000 : Int)))) else some false else some false).bind fun c2 =>
  some c2
def sp_is_number_a (K : PySem.W.Frag) : Sp := fun vs H Q E => ∃ (B : Hp) (x_0 : PyData) (v_0 : V) (r : Bool), vs = [v_0] ∧ Same B H ∧ (dAny K).rel B x_0 v_0 ∧ m_is_number_a x_0 = some r ∧ ∀ (v : V) (B' H' : Hp) , Sit ⟨B, H, []⟩ B' H' [] → dBool.rel B' r v → Q v H'
theorem use_is_number_a {K : PySem.W.Frag} {Φ : Fr} {B H : Hp} {cs : List (Addr × HO)} {Q : VK} {E : XK} {r : Bool} {x_0 : PyData} {v_0 : V} (Z : Sit Φ B H cs) (h_0 : (dAny K).rel B x_0 v_0) (hm : m_is_number_a x_0 = some r) (k : ∀ (v : V) (B' H' : Hp) , Sit Φ B' H' cs → Same B B' → dBool.rel B' r v → Q v H') : sp_is_number_a K ([v_0] ++ []) H Q E := by
  exact ⟨B, x_0, v_0, r, rfl, Z.sub, h_0, hm, fun v B' H'  Z' h  => k v B' H'  (Z.call0 Z') Z'.grow h ⟩
theorem ok_is_number_a (A0 : DefAt K mg "is_number" s_is_number ["value"]) (b_bool : mg "bool" = none) (b_int : mg "int" = none) (b_isinstance : mg "isinstance" = none) (e_BEYOND : ∃ t, mg "BEYOND" = some (.int 1000000000000000000000000000000000000000000000000000000000000 t)) : Does P w K mg base CX0 1 "is_number" ["value"] (sp_is_number_a K ) := by
  obtain ⟨f, fd, F, gm, bd⟩ := A0
  obtain ⟨t_BEYOND, g_BEYOND⟩ := e_BEYOND
  refine ⟨f, fd, ?_, gm, F.kp, bd⟩
  refine F.ok sc_is_number_a (fun vs H Q E h => ?_) (fun cdv A outer s H vs Q E hr h => ?_)
  · obtain ⟨_, _, _, _, rfl, _⟩ := h
    rfl
  · obtain ⟨B, x_0, v_0, r, rfl, sB, hx_0, hm, k⟩ := h
    have hu := hu_of hr
    refine ⟨_, (pss_one (ps_ret (pe_and (pe_callB (k_isi K) (by rfl) b_isinstance (by decide +kernel) (pa_cons (pv 0) (pa_cons (pe_bltn (v := .ty "int") (by rfl) b_int (by decide +kernel) rfl) pa_nil))) (pe_and (pe_not (pe_callB (k_isi K) (by rfl) b_isinstance (by decide +kernel) (pa_cons (pv 0) (pa_cons (pe_bltn (v := .ty "bool") (by rfl) b_bool (by decide +kernel) rfl) pa_nil)))) (pe_one (pe_chain op_lt op_lt (pe_un un_neg (pe_glob (v := .int 1000000000000000000000000000000000000000000000000000000000000) rfl g_BEYOND ⟨_, rfl⟩)) (pv 0) (pe_glob (v := .int 1000000000000000000000000000000000000000000000000000000000000) rfl g_BEYOND ⟨_, rfl⟩))))))), ?_⟩
    obtain ⟨B0, hB0⟩ : ∃ B0 : Hp, B0 = B := ⟨_, rfl⟩
    subst hB0
    have S0 := Sit.start0 sB
    unfold m_is_number_a at hm
    refine w_sig (σ' := [(some v_0)]) rfl ?_
    refine w_ret ?_
    obtain ⟨c2, hc3, hm⟩ := bs hm
    refine cutE (fun v H' => v = V.bl c2 ∧ ∃ (B' : Hp), Sit (Fr.mk B0 H []) B' H' [] ∧ Same B0 B') (fun kk4 => ?_) ?_
    · refine w_andV ?_
      refine w_ev (Ev.cb (EvA.cons (Ev.var rfl) (EvA.cons Ev.c EvA.nil)) (isi_aI (Rl.mono _ S0.sub hx_0))) ?_
      refine w_bl ?_
      refine w_ifb (fun h5 => ?_) (fun h5 => ?_)
      · rw [ifT h5] at hc3
        refine w_andV ?_
        refine w_ev (Ev.not (Ev.cb (EvA.cons (Ev.var rfl) (EvA.cons Ev.c EvA.nil)) (isi_aB (Rl.mono _ S0.sub hx_0)))) ?_
        refine w_bl ?_
        refine w_ifb (fun h6 => ?_) (fun h6 => ?_)
        · rw [ifT h6] at hc3
          obtain ⟨i7, hi7, hc3⟩ := bs hc3
          refine w_ev (Ev.chain (Ev.un Ev.c fun _ q => ⟨_, rfl, q⟩) (Ev.cast (Ev.var rfl) (asI_v hx_0 hi7)) Ev.c rv_I0 rv_I0) ?_
          obtain rfl := Option.some.inj hc3
          exact kk4 _ _ ⟨rfl, _, S0, (Same.rf _)⟩
        · rw [ifF h6] at hc3
          obtain rfl := Option.some.inj hc3
          exact kk4 _ _ ⟨rfl, _, S0, (Same.rf _)⟩
      · rw [ifF h5] at hc3
        obtain rfl := Option.some.inj hc3
        exact kk4 _ _ ⟨rfl, _, S0, (Same.rf _)⟩
    · rintro _ H8 ⟨rfl, B11, S9, s10⟩
      obtain rfl := Option.some.inj hm
      exact k _ _ _  S9 (show dBool.rel _ c2 (V.bl c2) from rfl)
abbrev n_is_name_a : List Str := ["value", "char"]
theorem sc_is_name_a : FnScope n_is_name_a ["value"] (defScope s_is_name) := ⟨rfl, rfl, rfl, by decide +kernel, rfl, by decide +kernel, by decide +kernel⟩
def m_is_name_a (x_0 : PyData) : Option Bool :=
  (if (!(isStr x_0)) = true then some true else (asS x_0).bind fun i7 =>
  (lenS i7).bind fun n8 =>
  some (!((decide ((1 : Int) ≤ n8)) && (decide (n8 ≤ (8 : Int)))))).bind fun c3 =>
  if c3 = true then some false else (asS x_0).bind fun i16 =>
  (charsM i16).bind fun z18 =>
  some ((z18.map (fun (a22 : Str) => (decide (a22 ∈ chars (Str.ofString "abcdefghijklmnopqrstuvwxyz"))))).all id)
def sp_is_name_a (K : PySem.W.Frag) : Sp := fun vs H Q E => ∃ (B : Hp) (x_0 : PyData) (v_0 : V) (r : Bool), vs = [v_0] ∧ Same B H ∧ (dAny K).rel B x_0 v_0 ∧ m_is_name_a x_0 = some r ∧ ∀ (v : V) (B' H' : Hp) , Sit ⟨B, H, []⟩ B' H' [] → dBool.rel B' r v → Q v H'
theorem use_is_name_a {K : PySem.W.Frag} {Φ : Fr} {B H : Hp} {cs : List (Addr × HO)} {Q : VK} {E : XK} {r : Bool} {x_0 : PyData} {v_0 : V} (Z : Sit Φ B H cs) (h_0 : (dAny K).rel B x_0 v_0) (hm : m_is_name_a x_0 = some r) (k : ∀ (v : V) (B' H' : Hp) , Sit Φ B' H' cs → Same B B' → dBool.rel B' r v → Q v H') : sp_is_name_a K ([v_0] ++ []) H Q E := by
  exact ⟨B, x_0, v_0, r, rfl, Z.sub, h_0, hm, fun v B' H'  Z' h  => k v B' H'  (Z.call0 Z') Z'.grow h ⟩
theorem ok_is_name_a (A0 : DefAt K mg "is_name" s_is_name ["value"]) (b_all : mg "all" = none) (b_isinstance : mg "isinstance" = none) (b_len : mg "len" = none) (b_str : mg "str" = none) (e_LETTERS : ∃ t, mg "LETTERS" = some (.str "abcdefghijklmnopqrstuvwxyz" t)) : Does P w K mg base CX0 1 "is_name" ["value"] (sp_is_name_a K ) := by
  obtain ⟨f, fd, F, gm, bd⟩ := A0
  obtain ⟨t_LETTERS, g_LETTERS⟩ := e_LETTERS
  refine ⟨f, fd, ?_, gm, F.kp, bd⟩
  refine F.ok sc_is_name_a (fun vs H Q E h => ?_) (fun cdv A outer s H vs Q E hr h => ?_)
  · obtain ⟨_, _, _, _, rfl, _⟩ := h
    rfl
  · obtain ⟨B, x_0, v_0, r, rfl, sB, hx_0, hm, k⟩ := h
    have hu := hu_of hr
    refine ⟨_, (pss_cons (ps_if (PW.pt (pw_or (pt_not (pt_val (pe_callB (k_isi K) (by rfl) b_isinstance (by decide +kernel) (pa_cons (pv 0) (pa_cons (pe_bltn (v := .ty "str") (by rfl) b_str (by decide +kernel) rfl) pa_nil))))) (pw_or1 (pt_not (pt_chain op_le op_le pe_int (pe_callB c_lenS (by rfl) b_len (by decide +kernel) (pa_cons (pv 0) pa_nil)) pe_int))))) (pss_one (ps_ret pe_bl)) pss_nil)
  (pss_one (ps_ret (pe_callB (k_all K rfl) (by rfl) b_all (by decide +kernel) (pa_cons (pe_lc (own := [("char", 1)]) (tt := tYes) rfl sc_is_name_a.nd (pi_str (pv 0)) (blkOk_by (own := [("char", 1)]) (N := n_is_name_a) (sc := defScope s_is_name) (by decide +kernel)) (fun _ _ _ _ _ => (pg_name (i := 1) sc_is_name_a.nd rfl (Or.inl rfl))) (fun _ _ _ _ _ => pts_nil) (fun _ _ _ _ _ => (pe_cmpR o_inC (pv 1) (pe_glob (v := .str "abcdefghijklmnopqrstuvwxyz") rfl g_LETTERS ⟨_, rfl⟩) (by rfl)))) pa_nil))))), ?_⟩
    obtain ⟨B0, hB0⟩ : ∃ B0 : Hp, B0 = B := ⟨_, rfl⟩
    subst hB0
    have S0 := Sit.start0 sB
    unfold m_is_name_a at hm
    refine w_sig (σ' := [(some v_0), none]) rfl ?_
    refine w_seq ?_
    refine w_ifS ?_
    obtain ⟨c3, hc4, hm⟩ := bs hm
    refine cutT (fun b H' => c3 = b ∧ ∃ (B' : Hp), Sit (Fr.mk B0 H []) B' H' [] ∧ Same B0 B') (fun kk5 => ?_) ?_
    · refine w_or ?_
      refine w_evT (EvT.not (EvT.tB (Ev.cb (EvA.cons (Ev.var rfl) (EvA.cons Ev.c EvA.nil)) (isi_aS (Rl.mono _ S0.sub hx_0))))) ?_
      refine w_ifb (fun h6 => ?_) (fun h6 => ?_)
      · rw [ifT h6] at hc4
        obtain rfl := Option.some.inj hc4
        exact kk5 _ _ ⟨rfl, _, S0, (Same.rf _)⟩
      · rw [ifF h6] at hc4
        obtain ⟨i7, hi7, hc4⟩ := bs hc4
        obtain ⟨n8, hn8, hc4⟩ := bs hc4
        refine w_evT (EvT.not (EvT.test (Ev.chain Ev.c (Ev.cb (EvA.cons (Ev.cast (Ev.var rfl) (asS_v hx_0 hi7)) EvA.nil) (len_str hn8)) Ev.c rv_I0 rv_I0))) ?_
        obtain rfl := Option.some.inj hc4
        exact kk5 _ _ ⟨rfl, _, S0, (Same.rf _)⟩
    · rintro _ H9 ⟨rfl, B12, S10, s11⟩
      refine w_ifb (fun h13 => ?_) (fun h13 => ?_)
      · rw [ifT h13] at hm
        refine w_ret ?_
        refine w_ev Ev.c ?_
        obtain rfl := Option.some.inj hm
        exact k _ _ _  S10 (show dBool.rel _ false (V.bl false) from rfl)
      · rw [ifF h13] at hm
        refine w_next ?_
        refine w_ret ?_
        refine w_cb ?_
        refine w_cons ?_
        refine w_lc ?_
        refine x_iS ?_
        refine w_ev (Ev.var rfl) ?_
        obtain ⟨i16, h17, hm⟩ := bs hm
        obtain rfl := asS_v (Rl.mono _ s11 hx_0) h17
        obtain ⟨z18, h19, hm⟩ := bs hm
        have h19l := charsM_le h19
        refine w_itSM (B := B12) h19 fun J14 it15 => ?_
        refine lcR (P := dBool) it15 S10 h19l (lcM_map (fun (a22 : Str) => (decide (a22 ∈ chars (Str.ofString "abcdefghijklmnopqrstuvwxyz")))) z18) (fun _ _ _ Z e _ => e.tr Z.sub) (fun D20 ac21 a22 o23 x24 B27 B28 H29 ma35 S30 s25 s26 h31 ho32 RR33 kk34 => ?_) ?_
        · refine w_turn ?_
          obtain ⟨rfl, h38⟩ := h31
          refine w_gname ?_
          refine w_wipe rfl ?_
          refine w_yes ?_
          refine iteT ?_
          refine w_ev (Ev.op (Ev.var rfl) Ev.c (rv_inC h38)) ?_
          obtain rfl := Option.some.inj ho32
          exact kk34 _ _ _ S30 (Same.rf _) ⟨_, rfl, (show dBool.rel _ (decide (a22 ∈ chars (Str.ofString "abcdefghijklmnopqrstuvwxyz"))) (V.bl (decide (a22 ∈ chars (Str.ofString "abcdefghijklmnopqrstuvwxyz")))) from rfl)⟩
        · intro p40 B47 H41 o42 S43 s44 n45 h46
          obtain ⟨B50, S48, s49, h51⟩ : ∃ B', Sit _ B' H41 [] ∧ Same _ B' ∧ (dList dBool).rel B' (z18.map (fun (a22 : Str) => (decide (a22 ∈ chars (Str.ofString "abcdefghijklmnopqrstuvwxyz"))))) (.ref p40) := ⟨_, S43.frz (i := 0) rfl n45, S43.frzS (i := 0) rfl, frzL h46 (S43.atB (i := 0) rfl)⟩
          refine w_nil ?_
          refine rall (Rl.mono _ S48.sub h51) _ ?_
          obtain rfl := Option.some.inj hm
          exact k _ _ _  S48 (show dBool.rel _ ((z18.map (fun (a22 : Str) => (decide (a22 ∈ chars (Str.ofString "abcdefghijklmnopqrstuvwxyz"))))).all id) (V.bl ((z18.map (fun (a22 : Str) => (decide (a22 ∈ chars (Str.ofString "abcdefghijklmnopqrstuvwxyz"))))).all id)) from rfl)
abbrev n_is_item : List Str := ["item", "many", "kind", "value"]
theorem sc_is_item : FnScope n_is_item ["item", "many"] (defScope s_is_item) := ⟨rfl, rfl, rfl, by decide +kernel, rfl, by decide +kernel, by decide +kernel⟩
def m_is_item (x_0 : (List PyData)) (x_1 : Int) : Option Bool :=
  if ((!true) || (!((decide ((1 : Int) ≤ (x_0.length : Int))) && (decide ((x_0.length : Int) ≤ (2 : Int)))))) = true then some false else if (decide ((x_0.length : Int) = (1 : Int))) = true then (atI x_0 (0 : Int)).bind fun x3 =>
  (eqD x3 (PyData.str (Str.ofString "gap"))).bind fun b7 =>
  some b7 else (un2 x_0).bind fun x8 =>
  (eqD x8.1 (PyData.str (Str.ofString "number"))).bind fun b15 =>
  if b15 = true then (m_is_number_a (x8.2)).bind fun r17 =>
  some r17 else (eqD x8.1 (PyData.str (Str.ofString "word"))).bind fun b25 =>
  if b25 = true then (m_is_name_a (x8.2)).bind fun r27 =>
  some r27 else ((eqD x8.1 (PyData.str (Str.ofString "node"))).bind fun b39 =>
  if b39 = true then (m_is_number_a (x8.2)).bind fun r41 =>
  if r41 = true then (asI x8.2).bind fun i50 =>
  some ((decide ((0 : Int) ≤ i50)) && (decide (i50 < x_1))) else some false else some false).bind fun c36 =>
  some c36
def sp_is_item (K : PySem.W.Frag) : Sp := fun vs H Q E => ∃ (B : Hp) (x_0 : (List PyData)) (v_0 : V) (x_1 : Int) (r : Bool), vs = [v_0, (V.int x_1)] ∧ Same B H ∧ (dTup K (dAny K)).rel B x_0 v_0 ∧ m_is_item x_0 x_1 = some r ∧ ∀ (v : V) (B' H' : Hp) , Sit ⟨B, H, []⟩ B' H' [] → dBool.rel B' r v → Q v H'
theorem use_is_item {K : PySem.W.Frag} {Φ : Fr} {B H : Hp} {cs : List (Addr × HO)} {Q : VK} {E : XK} {r : Bool} {x_0 : (List PyData)} {v_0 : V} {x_1 : Int} {v_1 : V} (Z : Sit Φ B H cs) (h_0 : (dTup K (dAny K)).rel B x_0 v_0) (h_1 : dInt.rel B x_1 v_1) (hm : m_is_item x_0 x_1 = some r) (k : ∀ (v : V) (B' H' : Hp) , Sit Φ B' H' cs → Same B B' → dBool.rel B' r v → Q v H') : sp_is_item K ([v_0, v_1] ++ []) H Q E := by
  cases h_1
  exact ⟨B, x_0, v_0, x_1, r, rfl, Z.sub, h_0, hm, fun v B' H'  Z' h  => k v B' H'  (Z.call0 Z') Z'.grow h ⟩
theorem ok_is_item (A0 : DefAt K mg "is_item" s_is_item ["item", "many"]) (b_isinstance : mg "isinstance" = none) (b_len : mg "len" = none) (b_tuple : mg "tuple" = none) (D_is_number_a : Does P w K mg base CX0 1 "is_number" ["value"] (sp_is_number_a K )) (D_is_name_a : Does P w K mg base CX0 1 "is_name" ["value"] (sp_is_name_a K )) : Does P w K mg base CX0 2 "is_item" ["item", "many"] (sp_is_item K ) := by
  obtain ⟨f, fd, F, gm, bd⟩ := A0
  obtain ⟨f_is_number_a, fd_is_number_a, G_is_number_a, g_is_number_a, kp_is_number_a, bd_is_number_a⟩ := D_is_number_a
  obtain ⟨f_is_name_a, fd_is_name_a, G_is_name_a, g_is_name_a, kp_is_name_a, bd_is_name_a⟩ := D_is_name_a
  refine ⟨f, fd, ?_, gm, F.kp, bd⟩
  refine F.ok sc_is_item (fun vs H Q E h => ?_) (fun cdv A outer s H vs Q E hr h => ?_)
  · obtain ⟨_, _, _, _, _, rfl, _⟩ := h
    rfl
  · obtain ⟨B, x_0, v_0, x_1, r, rfl, sB, hx_0, hm, k⟩ := h
    have hu := hu_of hr
    refine ⟨_, (pss_cons (ps_if (PW.pt (pw_or (pt_not (pt_val (pe_callB (k_isi K) (by rfl) b_isinstance (by decide +kernel) (pa_cons (pv 0) (pa_cons (pe_bltn (v := .ty "tuple") (by rfl) b_tuple (by decide +kernel) rfl) pa_nil))))) (pw_or1 (pt_not (pt_chain op_le op_le pe_int (pe_callB (k_len K) (by rfl) b_len (by decide +kernel) (pa_cons (pv 0) pa_nil)) pe_int))))) (pss_one (ps_ret pe_bl)) pss_nil)
  (pss_cons (ps_if (pt_cmpR op_eq (pe_callB (k_len K) (by rfl) b_len (by decide +kernel) (pa_cons (pv 0) pa_nil)) pe_int (nomark _)) (pss_one (ps_ret (pe_cmpR (k_eqD K hr.units) (pe_ix (k_ixT K) (pv 0) pe_int (fun _ _ => rfl)) pe_str (nomark _)))) pss_nil)
  (pss_cons (ps_asg (pv 0) (k_gT K (n := 2) (by rfl) (pgs_cons (pg_name (i := 2) sc_is_item.nd rfl (Or.inl rfl)) (pgs_cons (pg_name (i := 3) sc_is_item.nd rfl (Or.inl rfl)) pgs_nil))))
  (pss_cons (ps_if (pt_cmpR (k_eqD K hr.units) (pv 2) pe_str (nomark _)) (pss_one (ps_ret (pe_call G_is_number_a (hr.mono (by decide)) rfl g_is_number_a kp_is_number_a bd_is_number_a .nil pass0 (pa_cons (pv 3) pa_nil)))) pss_nil)
  (pss_cons (ps_if (pt_cmpR (k_eqD K hr.units) (pv 2) pe_str (nomark _)) (pss_one (ps_ret (pe_call G_is_name_a (hr.mono (by decide)) rfl g_is_name_a kp_is_name_a bd_is_name_a .nil pass0 (pa_cons (pv 3) pa_nil)))) pss_nil)
  (pss_one (ps_ret (pe_and (pe_cmpR (k_eqD K hr.units) (pv 2) pe_str (nomark _)) (pe_and (pe_call G_is_number_a (hr.mono (by decide)) rfl g_is_number_a kp_is_number_a bd_is_number_a .nil pass0 (pa_cons (pv 3) pa_nil)) (pe_one (pe_chain op_le op_lt pe_int (pv 3) (pv 1)))))))))))), ?_⟩
    obtain ⟨B0, hB0⟩ : ∃ B0 : Hp, B0 = B := ⟨_, rfl⟩
    subst hB0
    have S0 := Sit.start0 sB
    unfold m_is_item at hm
    refine w_sig (σ' := [(some v_0), (some (V.int x_1)), none, none]) rfl ?_
    refine w_seq ?_
    refine w_ifS ?_
    refine w_evT (EvT.or (EvT.not (EvT.tB (Ev.cb (EvA.cons (Ev.var rfl) (EvA.cons Ev.c EvA.nil)) (isi_xT (b := true) hx_0 S0.sub (kit_ty (r := true) (by decide +kernel)))))) fun _ => (EvT.not (EvT.test (Ev.chain Ev.c (Ev.cb (EvA.cons (Ev.var rfl) EvA.nil) (rlen_q (sqT (K := K) hx_0 S0.sub))) Ev.c rv_I0 rv_I0)))) ?_
    refine w_ifb (fun h1 => ?_) (fun h1 => ?_)
    · rw [ifT h1] at hm
      refine w_ret ?_
      refine w_ev Ev.c ?_
      obtain rfl := Option.some.inj hm
      exact k _ _ _  S0 (show dBool.rel _ false (V.bl false) from rfl)
    · rw [ifF h1] at hm
      refine w_next ?_
      refine w_seq ?_
      refine w_ifS ?_
      refine w_evT (EvT.test (Ev.op (Ev.cb (EvA.cons (Ev.var rfl) EvA.nil) (rlen_q (sqT (K := K) hx_0 S0.sub))) Ev.c rv_eqI)) ?_
      refine w_ifb (fun h2 => ?_) (fun h2 => ?_)
      · rw [ifT h2] at hm
        refine w_ret ?_
        obtain ⟨x3, hx3, hm⟩ := bs hm
        obtain ⟨w5, h6, r4⟩ := ix_T (K := K) hx_0 hx3
        obtain ⟨b7, hb7, hm⟩ := bs hm
        refine w_ev (Ev.op (Ev.op (Ev.var rfl) Ev.c (r4 _ S0.sub)) Ev.c (rv_eqD drAny drStr (Rl.mono _ S0.sub h6) (Rl.mono _ S0.sub (show dStr.rel _ (Str.ofString "gap") (V.str (Str.ofString "gap")) from rfl)) hb7)) ?_
        obtain rfl := Option.some.inj hm
        exact k _ _ _  S0 (show dBool.rel _ b7 (V.bl b7) from rfl)
      · rw [ifF h2] at hm
        refine w_next ?_
        refine w_seq ?_
        refine w_asg ?_
        refine w_ev (Ev.var rfl) ?_
        obtain ⟨x8, h9, hm⟩ := bs hm
        obtain ⟨w10, w11, h12, h13, hu14⟩ := un_T2 (K := K) hx_0 h9
        refine w_gun (hu14 _ S0.sub) rfl ?_
        refine w_gcons ?_
        refine w_gname ?_
        refine w_gcons ?_
        refine w_gname ?_
        refine w_gnil ?_
        refine w_nx (σ' := [(some v_0), (some (V.int x_1)), (some w10), (some w11)]) rfl ?_
        refine w_seq ?_
        refine w_ifS ?_
        obtain ⟨b15, hb15, hm⟩ := bs hm
        refine w_evT (EvT.test (Ev.op (Ev.var rfl) Ev.c (rv_eqD drAny drStr (Rl.mono _ S0.sub h12) (Rl.mono _ S0.sub (show dStr.rel _ (Str.ofString "number") (V.str (Str.ofString "number")) from rfl)) hb15))) ?_
        refine w_ifb (fun h16 => ?_) (fun h16 => ?_)
        · rw [ifT h16] at hm
          refine w_ret ?_
          refine w_call ?_
          refine w_evA (EvA.cons (Ev.var rfl) EvA.nil) ?_
          obtain ⟨r17, h18, hm⟩ := bs hm
          refine use_is_number_a S0 h13 h18 fun v19 B23 H20  (S21 : Sit _ B23 H20 []) s22 h24  => ?_
          cases h24
          obtain rfl := Option.some.inj hm
          exact k _ _ _  S21 (show dBool.rel _ r17 (V.bl r17) from rfl)
        · rw [ifF h16] at hm
          refine w_next ?_
          refine w_seq ?_
          refine w_ifS ?_
          obtain ⟨b25, hb25, hm⟩ := bs hm
          refine w_evT (EvT.test (Ev.op (Ev.var rfl) Ev.c (rv_eqD drAny drStr (Rl.mono _ S0.sub h12) (Rl.mono _ S0.sub (show dStr.rel _ (Str.ofString "word") (V.str (Str.ofString "word")) from rfl)) hb25))) ?_
          refine w_ifb (fun h26 => ?_) (fun h26 => ?_)
          · rw [ifT h26] at hm
            refine w_ret ?_
            refine w_call ?_
            refine w_evA (EvA.cons (Ev.var rfl) EvA.nil) ?_
            obtain ⟨r27, h28, hm⟩ := bs hm
            refine use_is_name_a S0 h13 h28 fun v29 B33 H30  (S31 : Sit _ B33 H30 []) s32 h34  => ?_
            cases h34
            obtain rfl := Option.some.inj hm
            exact k _ _ _  S31 (show dBool.rel _ r27 (V.bl r27) from rfl)
          · rw [ifF h26] at hm
            refine w_next ?_
            refine w_ret ?_
            obtain ⟨c36, hc37, hm⟩ := bs hm
            refine cutE (fun v H' => v = V.bl c36 ∧ ∃ (B' : Hp), Sit (Fr.mk B0 H []) B' H' [] ∧ Same B0 B') (fun kk38 => ?_) ?_
            · refine w_andV ?_
              obtain ⟨b39, hb39, hc37⟩ := bs hc37
              refine w_ev (Ev.op (Ev.var rfl) Ev.c (rv_eqD drAny drStr (Rl.mono _ S0.sub h12) (Rl.mono _ S0.sub (show dStr.rel _ (Str.ofString "node") (V.str (Str.ofString "node")) from rfl)) hb39)) ?_
              refine w_bl ?_
              refine w_ifb (fun h40 => ?_) (fun h40 => ?_)
              · rw [ifT h40] at hc37
                refine w_andV ?_
                refine w_call ?_
                refine w_evA (EvA.cons (Ev.var rfl) EvA.nil) ?_
                obtain ⟨r41, h42, hc37⟩ := bs hc37
                refine use_is_number_a S0 h13 h42 fun v43 B47 H44  (S45 : Sit _ B47 H44 []) s46 h48  => ?_
                cases h48
                refine w_bl ?_
                refine w_ifb (fun h49 => ?_) (fun h49 => ?_)
                · rw [ifT h49] at hc37
                  obtain ⟨i50, hi50, hc37⟩ := bs hc37
                  refine w_ev (Ev.chain Ev.c (Ev.cast (Ev.var rfl) (asI_v (Rl.mono _ s46 h13) hi50)) (Ev.var rfl) rv_I0 rv_I0) ?_
                  obtain rfl := Option.some.inj hc37
                  exact kk38 _ _ ⟨rfl, _, S45, s46⟩
                · rw [ifF h49] at hc37
                  obtain rfl := Option.some.inj hc37
                  exact kk38 _ _ ⟨rfl, _, S45, s46⟩
              · rw [ifF h40] at hc37
                obtain rfl := Option.some.inj hc37
                exact kk38 _ _ ⟨rfl, _, S0, (Same.rf _)⟩
            · rintro _ H51 ⟨rfl, B54, S52, s53⟩
              obtain rfl := Option.some.inj hm
              exact k _ _ _  S52 (show dBool.rel _ c36 (V.bl c36) from rfl)
end
end Mm
namespace Mm
open PySem L2 Mf
section
variable {P : Program} {w : World} {K : PySem.W.Frag} {mg : Str → Option Value} {base : Heap} {cx : Nat → Addr}
abbrev n_check_rows : List Str := ["rows", "number", "row", "item"]
theorem sc_check_rows : FnScope n_check_rows ["rows"] (defScope s_check_rows) := ⟨rfl, rfl, rfl, by decide +kernel, rfl, by decide +kernel, by decide +kernel⟩
def m_check_rows (x_0 : (List (List (List PyData)))) : Option Unit :=
  if (decide ((x_0.length : Int) = (0 : Int))) = true then none else (forL (fun (a7 : (Int × (List (List PyData)))) (st8 : Unit) => if ((decide ((40 : Int) < a7.1)) || (decide ((12 : Int) < (a7.2.length : Int)))) = true then none else (lcM (fun (a40 : (List PyData)) => (m_is_item (a40) ((x_0.length : Int))).bind fun r55 =>
  some (some r55)) a7.2).bind fun ys64 =>
  if (!(ys64.all id)) = true then none else some ()) (enumM 1 x_0) ()).bind fun st85 =>
  some ()
def sp_check_rows (K : PySem.W.Frag) : Sp := fun vs H Q E => ∃ (B : Hp) (x_0 : (List (List (List PyData)))) (v_0 : V) (r : Unit), vs = [v_0] ∧ Same B H ∧ (dList (dList (dTup K (dAny K)))).rel B x_0 v_0 ∧ m_check_rows x_0 = some r ∧ ∀ (v : V) (B' H' : Hp) , Sit ⟨B, H, []⟩ B' H' [] → dNone.rel B' r v → Q v H'
theorem use_check_rows {K : PySem.W.Frag} {Φ : Fr} {B H : Hp} {cs : List (Addr × HO)} {Q : VK} {E : XK} {r : Unit} {x_0 : (List (List (List PyData)))} {v_0 : V} (Z : Sit Φ B H cs) (h_0 : (dList (dList (dTup K (dAny K)))).rel B x_0 v_0) (hm : m_check_rows x_0 = some r) (k : ∀ (v : V) (B' H' : Hp) , Sit Φ B' H' cs → Same B B' → dNone.rel B' r v → Q v H') : sp_check_rows K ([v_0] ++ []) H Q E := by
  exact ⟨B, x_0, v_0, r, rfl, Z.sub, h_0, hm, fun v B' H'  Z' h  => k v B' H'  (Z.call0 Z') Z'.grow h ⟩
theorem ok_check_rows (A0 : DefAt K mg "check_rows" s_check_rows ["rows"]) (b_all : mg "all" = none) (b_enumerate : mg "enumerate" = none) (b_len : mg "len" = none) (e_MOST_ITEMS : ∃ t, mg "MOST_ITEMS" = some (.int 12 t)) (e_MOST_ROWS : ∃ t, mg "MOST_ROWS" = some (.int 40 t)) (D_is_item : Does P w K mg base CX0 2 "is_item" ["item", "many"] (sp_is_item K )) : Does P w K mg base CX0 3 "check_rows" ["rows"] (sp_check_rows K ) := by
  obtain ⟨f, fd, F, gm, bd⟩ := A0
  obtain ⟨t_MOST_ITEMS, g_MOST_ITEMS⟩ := e_MOST_ITEMS
  obtain ⟨t_MOST_ROWS, g_MOST_ROWS⟩ := e_MOST_ROWS
  obtain ⟨f_is_item, fd_is_item, G_is_item, g_is_item, kp_is_item, bd_is_item⟩ := D_is_item
  refine ⟨f, fd, ?_, gm, F.kp, bd⟩
  refine F.ok sc_check_rows (fun vs H Q E h => ?_) (fun cdv A outer s H vs Q E hr h => ?_)
  · obtain ⟨_, _, _, _, rfl, _⟩ := h
    rfl
  · obtain ⟨B, x_0, v_0, r, rfl, sB, hx_0, hm, k⟩ := h
    have hu := hu_of hr
    refine ⟨_, (pss_cons (ps_if (pt_cmpR op_eq (pe_callB (k_len K) (by rfl) b_len (by decide +kernel) (pa_cons (pv 0) pa_nil)) pe_int (nomark _)) (pss_one ps_dead) pss_nil)
  (pss_one (ps_for PassesOwn.never rfl (k_iES K (by rfl) b_enumerate (pa_cons (pv 0) pa_nil) (pk_cons pe_int pk_nil)) (k_gT K (n := 2) (by rfl) (pgs_cons (pg_name (i := 1) sc_check_rows.nd rfl (Or.inl rfl)) (pgs_cons (pg_name (i := 2) sc_check_rows.nd rfl (Or.inl rfl)) pgs_nil)))
  (pss_cons (ps_if (PW.pt (pw_or (pt_cmpR op_gt (pv 1) (pe_glob (v := .int 40) rfl g_MOST_ROWS ⟨_, rfl⟩) (nomark _)) (pw_or1 (pt_cmpR op_gt (pe_callB (k_len K) (by rfl) b_len (by decide +kernel) (pa_cons (pv 2) pa_nil)) (pe_glob (v := .int 12) rfl g_MOST_ITEMS ⟨_, rfl⟩) (nomark _))))) (pss_one ps_dead) pss_nil)
  (pss_one (ps_if (pt_not (pt_val (pe_callB (k_all K rfl) (by rfl) b_all (by decide +kernel) (pa_cons (pe_lc (own := [("item", 3)]) (tt := tYes) rfl sc_check_rows.nd (k_iL K (pv 2)) (blkOk_by (own := [("item", 3)]) (N := n_check_rows) (sc := defScope s_check_rows) (by decide +kernel)) (fun _ _ _ _ _ => (pg_name (i := 3) sc_check_rows.nd rfl (Or.inl rfl))) (fun _ _ _ _ _ => pts_nil) (fun _ _ _ _ _ => (pe_call G_is_item (hr.mono (by decide)) rfl g_is_item kp_is_item bd_is_item .nil pass0 (pa_cons (pv 3) (pa_cons (pe_callB (k_len K) (by rfl) b_len (by decide +kernel) (pa_cons (pv 0) pa_nil)) pa_nil))))) pa_nil)))) (pss_one ps_dead) pss_nil)))))), ?_⟩
    obtain ⟨B0, hB0⟩ : ∃ B0 : Hp, B0 = B := ⟨_, rfl⟩
    subst hB0
    have S0 := Sit.start0 sB
    unfold m_check_rows at hm
    refine w_sig (σ' := [(some v_0), none, none, none]) rfl ?_
    refine w_seq ?_
    refine w_ifS ?_
    refine w_evT (EvT.test (Ev.op (Ev.cb (EvA.cons (Ev.var rfl) EvA.nil) (rlen_q (sqL (K := K) hx_0 S0.sub))) Ev.c rv_eqI)) ?_
    refine w_ifb (fun h1 => ?_) (fun h1 => ?_)
    · rw [ifT h1] at hm
      cases hm
    · rw [ifF h1] at hm
      refine w_next ?_
      refine w_for ?_
      refine x_iES ?_
      refine w_evA (EvA.cons (Ev.var rfl) EvA.nil) ?_
      refine w_evA (EvA.cons Ev.c EvA.nil) ?_
      refine w_itES (by decide) ((subLQ subR) hx_0) S0.sub fun J2 it3 => ?_
      obtain ⟨st85, hl88, hm⟩ := bs hm
      refine forS (s0 := ()) it3 S0 (fun (st4 : Unit) b σ' cs' => ∃ (e5 : Option V) (e6 : Option V), σ' = [(some v_0), e5, e6, none] ∧ cs' = [] ∧ True) ⟨_, _, rfl, rfl, trivial⟩ hl88 (fun _ _ _ _ _ Z e _ => e.tr Z.sub) (fun a7 st8 o9 x10 B20 B23 H11 _ cs12 ma13 S14 s15 s16 hI17 h18 hf19 => ?_) ?_
      · obtain ⟨e21, e22, rfl, rfl, -⟩ := hI17
        obtain ⟨w30, w32, h31, h33, hu34⟩ := un_p (K := K) h18
        refine w_gun (hu34 _ S14.sub) rfl ?_
        refine w_gcons ?_
        cases h31
        refine w_gname ?_
        refine w_gcons ?_
        refine w_gname ?_
        refine w_gnil ?_
        refine w_nx (σ' := [(some v_0), (some (V.int a7.1)), (some w32), none]) rfl ?_
        refine w_seq ?_
        refine w_ifS ?_
        refine w_evT (EvT.or (EvT.test (Ev.op (Ev.var rfl) Ev.c rv_I0)) fun _ => (EvT.test (Ev.op (Ev.cb (EvA.cons (Ev.var rfl) EvA.nil) (rlen_q (sqL (K := K) h33 S14.sub))) Ev.c rv_I0))) ?_
        refine w_ifb (fun h35 => ?_) (fun h35 => ?_)
        · rw [ifT h35] at hf19
          cases hf19
        · rw [ifF h35] at hf19
          refine w_next ?_
          refine w_ifS ?_
          refine w_not ?_
          refine w_tb ?_
          refine w_cb ?_
          refine w_cons ?_
          refine w_lc ?_
          refine x_iL ?_
          refine w_ev (Ev.var rfl) ?_
          refine w_itL h33 S14.sub fun J36 it37 => ?_
          obtain ⟨ys64, h65, hf19⟩ := bs hf19
          refine lcR (P := dBool) it37 S14 (dList.le h33) h65 (fun _ _ _ Z e _ => e.tr Z.sub) (fun D38 ac39 a40 o41 x42 B45 B46 H47 ma53 S48 s43 s44 h49 ho50 RR51 kk52 => ?_) ?_
          · refine w_turn ?_
            refine w_gname ?_
            refine w_wipe rfl ?_
            refine w_yes ?_
            refine iteT ?_
            refine w_call ?_
            refine w_evA (EvA.cons (Ev.var rfl) (EvA.cons (Ev.cb (EvA.cons (Ev.var rfl) EvA.nil) (rlen_q (sqL (K := K) (Rl.mono _ (s15.tr (s16.tr (s43.tr s44))) hx_0) S48.sub))) EvA.nil)) ?_
            obtain ⟨r55, h56, ho50⟩ := bs ho50
            refine use_is_item S48 h49 (show dInt.rel _ (x_0.length : Int) (V.int (x_0.length : Int)) from rfl) h56 fun v57 B61 H58  (S59 : Sit _ B61 H58 [(D38, (.lst ac39))]) s60 h62  => ?_
            cases h62
            obtain rfl := Option.some.inj ho50
            exact kk52 _ _ _ S59 s60 ⟨_, rfl, (show dBool.rel _ r55 (V.bl r55) from rfl)⟩
          · intro p66 B73 H67 o68 S69 s70 n71 h72
            obtain ⟨B76, S74, s75, h77⟩ : ∃ B', Sit _ B' H67 [] ∧ Same _ B' ∧ (dList dBool).rel B' ys64 (.ref p66) := ⟨_, S69.frz (i := 0) rfl n71, S69.frzS (i := 0) rfl, frzL h72 (S69.atB (i := 0) rfl)⟩
            refine w_nil ?_
            refine rall (Rl.mono _ S74.sub h77) _ ?_
            refine w_bl ?_
            refine w_ifb (fun h78 => ?_) (fun h78 => ?_)
            · rw [ifT h78] at hf19
              cases hf19
            · rw [ifF h78] at hf19
              refine w_next ?_
              obtain rfl := Option.some.inj hf19
              exact ⟨_, _, S74, (s15.tr (s16.tr (s70.tr s75))), _, _, rfl, rfl, trivial⟩
      · intro B84 H79 _ cs80 S81 s82 hI83
        obtain ⟨e86, e87, rfl, rfl, -⟩ := hI83
        obtain rfl := Option.some.inj hm
        exact k _ _ _  S81 (show dNone.rel _ () V.non from rfl)
abbrev n_row_shape : List Str := ["row", "classes", "item"]
theorem sc_row_shape : FnScope n_row_shape ["row", "classes"] (defScope s_row_shape) := ⟨rfl, rfl, rfl, by decide +kernel, rfl, by decide +kernel, by decide +kernel⟩
def m_row_shape (x_0 : (List (List PyData))) (x_1 : (List Int)) : Option (List (List PyData)) :=
  (lcM (fun (a5 : (List PyData)) => ((atI a5 (0 : Int)).bind fun x47 =>
  (eqD x47 (PyData.str (Str.ofString "node"))).bind fun b51 =>
  if b51 = true then (atI a5 (1 : Int)).bind fun x53 =>
  (asI x53).bind fun i57 =>
  (atI x_1 i57).bind fun x58 =>
  some ([(PyData.str (Str.ofString "node")), (PyData.int x58)] : (List PyData)) else some a5).bind fun j25 =>
  some (some j25)) x_0).bind fun ys73 =>
  some ys73
def sp_row_shape (K : PySem.W.Frag) : Sp := fun vs H Q E => ∃ (B : Hp) (x_0 : (List (List PyData))) (v_0 : V) (x_1 : (List Int)) (v_1 : V) (r : (List (List PyData))), vs = [v_0, v_1] ∧ Same B H ∧ (dList (dTup K (dAny K))).rel B x_0 v_0 ∧ (dList dInt).rel B x_1 v_1 ∧ m_row_shape x_0 x_1 = some r ∧ ∀ (v : V) (B' H' : Hp) , Sit ⟨B, H, []⟩ B' H' [] → (dTup K (dTup K (dAny K))).rel B' r v → Q v H'
theorem use_row_shape {K : PySem.W.Frag} {Φ : Fr} {B H : Hp} {cs : List (Addr × HO)} {Q : VK} {E : XK} {r : (List (List PyData))} {x_0 : (List (List PyData))} {v_0 : V} {x_1 : (List Int)} {v_1 : V} (Z : Sit Φ B H cs) (h_0 : (dList (dTup K (dAny K))).rel B x_0 v_0) (h_1 : (dList dInt).rel B x_1 v_1) (hm : m_row_shape x_0 x_1 = some r) (k : ∀ (v : V) (B' H' : Hp) , Sit Φ B' H' cs → Same B B' → (dTup K (dTup K (dAny K))).rel B' r v → Q v H') : sp_row_shape K ([v_0, v_1] ++ []) H Q E := by
  exact ⟨B, x_0, v_0, x_1, v_1, r, rfl, Z.sub, h_0, h_1, hm, fun v B' H'  Z' h  => k v B' H'  (Z.call0 Z') Z'.grow h ⟩
theorem ok_row_shape (A0 : DefAt K mg "row_shape" s_row_shape ["row", "classes"]) (b_tuple : mg "tuple" = none) : Does P w K mg base CX0 1 "row_shape" ["row", "classes"] (sp_row_shape K ) := by
  obtain ⟨f, fd, F, gm, bd⟩ := A0
  refine ⟨f, fd, ?_, gm, F.kp, bd⟩
  refine F.ok sc_row_shape (fun vs H Q E h => ?_) (fun cdv A outer s H vs Q E hr h => ?_)
  · obtain ⟨_, _, _, _, _, _, rfl, _⟩ := h
    rfl
  · obtain ⟨B, x_0, v_0, x_1, v_1, r, rfl, sB, hx_0, hx_1, hm, k⟩ := h
    have hu := hu_of hr
    refine ⟨_, (pss_one (ps_ret (pe_callTy (k_tupL K) (by rfl) b_tuple (by decide +kernel) (pa_cons (pe_lc (own := [("item", 2)]) (tt := tYes) rfl sc_row_shape.nd (k_iL K (pv 0)) (blkOk_by (own := [("item", 2)]) (N := n_row_shape) (sc := defScope s_row_shape) (by decide +kernel)) (fun _ _ _ _ _ => (pg_name (i := 2) sc_row_shape.nd rfl (Or.inl rfl))) (fun _ _ _ _ _ => pts_nil) (fun _ _ _ _ _ => (pe_ifExp (pt_cmpR (k_eqD K hr.units) (pe_ix (k_ixT K) (pv 2) pe_int (fun _ _ => rfl)) pe_str (nomark _)) (pe_tup (pa_cons pe_str (pa_cons (pe_ix (k_ixL K) (pv 1) (pe_ix (k_ixT K) (pv 2) pe_int (fun _ _ => rfl)) (fun _ _ => rfl)) pa_nil))) (pv 2)))) pa_nil)))), ?_⟩
    obtain ⟨B0, hB0⟩ : ∃ B0 : Hp, B0 = B := ⟨_, rfl⟩
    subst hB0
    have S0 := Sit.start0 sB
    unfold m_row_shape at hm
    refine w_sig (σ' := [(some v_0), (some v_1), none]) rfl ?_
    refine w_ret ?_
    refine w_cb ?_
    refine w_cons ?_
    refine w_lc ?_
    refine x_iL ?_
    refine w_ev (Ev.var rfl) ?_
    refine w_itL hx_0 S0.sub fun J1 it2 => ?_
    obtain ⟨ys73, h74, hm⟩ := bs hm
    refine lcR (P := (dTup K (dAny K))) it2 S0 (dList.le hx_0) h74 (fun _ _ _ Z e _ => e.tr Z.sub) (fun D3 ac4 a5 o6 x7 B10 B11 H12 ma18 S13 s8 s9 h14 ho15 RR16 kk17 => ?_) ?_
    · refine w_turn ?_
      refine w_gname ?_
      refine w_wipe rfl ?_
      refine w_yes ?_
      refine iteT ?_
      obtain ⟨j25, hj26, ho15⟩ := bs ho15
      refine cutE (fun v H' => ∃ (B' : Hp), Sit (Fr.mk B0 H []) B' H' [(D3, (.lst ac4))] ∧ Same B11 B' ∧ (dTup K (dAny K)).rel B' j25 v) (fun kk27 => ?_) ?_
      · refine w_ifE ?_
        obtain ⟨x47, hx47, hj26⟩ := bs hj26
        obtain ⟨w49, h50, r48⟩ := ix_T (K := K) h14 hx47
        obtain ⟨b51, hb51, hj26⟩ := bs hj26
        refine w_evT (EvT.test (Ev.op (Ev.op (Ev.var rfl) Ev.c (r48 _ S13.sub)) Ev.c (rv_eqD drAny drStr (Rl.mono _ S13.sub h50) (Rl.mono _ S13.sub (show dStr.rel _ (Str.ofString "node") (V.str (Str.ofString "node")) from rfl)) hb51))) ?_
        refine w_ifb (fun h52 => ?_) (fun h52 => ?_)
        · rw [ifT h52] at hj26
          refine x_tup ?_
          obtain ⟨x53, hx53, hj26⟩ := bs hj26
          obtain ⟨w55, h56, r54⟩ := ix_T (K := K) h14 hx53
          obtain ⟨i57, hi57, hj26⟩ := bs hj26
          obtain ⟨x58, hx58, hj26⟩ := bs hj26
          obtain ⟨_, rfl, r59⟩ := ix_L (K := K) (Rl.mono _ (s8.tr s9) hx_1) hx58
          refine w_evA (EvA.cons Ev.c (EvA.cons (Ev.op (Ev.var rfl) (Ev.cast (Ev.op (Ev.var rfl) Ev.c (r54 _ S13.sub)) (asI_v h56 hi57)) (r59 _ S13.sub)) EvA.nil)) ?_
          refine mk2 (K := K)   S13 (show dStr.rel _ (Str.ofString "node") (V.str (Str.ofString "node")) from rfl) (show dInt.rel _ x58 (V.int x58) from rfl) fun v60 B65 H61 S62 s63 h64 => ?_
          obtain rfl := Option.some.inj hj26
          exact kk27 _ _ ⟨_, S62, s63, (show (dTup K (dAny K)).rel _ ([(PyData.str (Str.ofString "node")), (PyData.int x58)] : (List PyData)) v60 from (mp2 (mpA drStr) (mpA drInt)) h64)⟩
        · rw [ifF h52] at hj26
          refine w_ev (Ev.var rfl) ?_
          obtain rfl := Option.some.inj hj26
          exact kk27 _ _ ⟨_, S13, (Same.rf _), h14⟩
      · rintro v69 H66 ⟨B71, S67, s68, h70⟩
        obtain rfl := Option.some.inj ho15
        exact kk17 _ _ _ S67 s68 ⟨_, rfl, h70⟩
    · intro p75 B82 H76 o77 S78 s79 n80 h81
      obtain ⟨B85, S83, s84, h86⟩ : ∃ B', Sit _ B' H76 [] ∧ Same _ B' ∧ (dList (dTup K (dAny K))).rel B' ys73 (.ref p75) := ⟨_, S78.frz (i := 0) rfl n80, S78.frzS (i := 0) rfl, frzL h81 (S78.atB (i := 0) rfl)⟩
      refine w_nil ?_
      refine q_tupL (K := K) S83 h86 fun v87 B92 H88 S89 s90 h91 => ?_
      obtain rfl := Option.some.inj hm
      exact k _ _ _  S89 h91
abbrev n_classes_of : List Str := ["table", "classes", "many", "shapes", "different", "shape", "row"]
theorem sc_classes_of : FnScope n_classes_of ["table"] (defScope s_classes_of) := ⟨rfl, rfl, rfl, by decide +kernel, rfl, by decide +kernel, by decide +kernel⟩
def m_classes_of (x_0 : (List (List (List PyData)))) : Option (List Int) :=
  (repM ([(0 : Int)] : (List Int)) (x_0.length : Int)).bind fun x7 =>
  (whC (S := ((List Int) × Int)) (R := (List Int)) (fun (st24 : ((List Int) × Int)) => if true = true then (lcM (fun (a55 : (List (List PyData))) => (m_row_shape (a55) (st24.1)).bind fun r70 =>
  some (some r70)) x_0).bind fun ys79 =>
  (forL (fun (a105 : (List (List PyData))) (st106 : (List (List (List PyData)))) => (inD ((fun xs => PyData.tuple (xs.map (fun xs => PyData.tuple (xs.map id)))) (a105)) ((st106).map (fun xs => PyData.tuple (xs.map (fun xs => PyData.tuple (xs.map id)))))).bind fun b129 =>
  if (!b129) = true then (pushM st106 a105).bind fun x131 =>
  some x131 else some st106) ys79 ([] : (List (List (List PyData))))).bind fun st143 =>
  (lcM (fun (a151 : (List (List PyData))) => (ixD ((fun xs => PyData.tuple (xs.map (fun xs => PyData.tuple (xs.map id)))) (a151)) (st143.map (fun xs => PyData.tuple (xs.map (fun xs => PyData.tuple (xs.map id)))))).bind fun j166 =>
  some (some j166)) ys79).bind fun ys169 =>
  if (decide ((st143.length : Int) = st24.2)) = true then some (.ret ys169) else some (.nx (ys169, (st143.length : Int))) else none) FUEL (x7, (0 : Int))).bind fun c49 =>
  c49.on (fun st191 => none) (fun r => some r)
def sp_classes_of (K : PySem.W.Frag) : Sp := fun vs H Q E => ∃ (B : Hp) (x_0 : (List (List (List PyData)))) (v_0 : V) (r : (List Int)), vs = [v_0] ∧ Same B H ∧ (dList (dList (dTup K (dAny K)))).rel B x_0 v_0 ∧ m_classes_of x_0 = some r ∧ ∀ (v : V) (B' H' : Hp) , Sit ⟨B, H, []⟩ B' H' [] → (dList dInt).rel B' r v → Q v H'
theorem use_classes_of {K : PySem.W.Frag} {Φ : Fr} {B H : Hp} {cs : List (Addr × HO)} {Q : VK} {E : XK} {r : (List Int)} {x_0 : (List (List (List PyData)))} {v_0 : V} (Z : Sit Φ B H cs) (h_0 : (dList (dList (dTup K (dAny K)))).rel B x_0 v_0) (hm : m_classes_of x_0 = some r) (k : ∀ (v : V) (B' H' : Hp) , Sit Φ B' H' cs → Same B B' → (dList dInt).rel B' r v → Q v H') : sp_classes_of K ([v_0] ++ []) H Q E := by
  exact ⟨B, x_0, v_0, r, rfl, Z.sub, h_0, hm, fun v B' H'  Z' h  => k v B' H'  (Z.call0 Z') Z'.grow h ⟩
theorem ok_classes_of (A0 : DefAt K mg "classes_of" s_classes_of ["table"]) (b_len : mg "len" = none) (D_row_shape : Does P w K mg base CX0 1 "row_shape" ["row", "classes"] (sp_row_shape K )) : Does P w K mg base CX0 2 "classes_of" ["table"] (sp_classes_of K ) := by
  obtain ⟨f, fd, F, gm, bd⟩ := A0
  obtain ⟨f_row_shape, fd_row_shape, G_row_shape, g_row_shape, kp_row_shape, bd_row_shape⟩ := D_row_shape
  refine ⟨f, fd, ?_, gm, F.kp, bd⟩
  refine F.ok sc_classes_of (fun vs H Q E h => ?_) (fun cdv A outer s H vs Q E hr h => ?_)
  · obtain ⟨_, _, _, _, rfl, _⟩ := h
    rfl
  · obtain ⟨B, x_0, v_0, r, rfl, sB, hx_0, hm, k⟩ := h
    have hu := hu_of hr
    refine ⟨_, (pss_cons (ps_set (i := 1) sc_classes_of.nd rfl (Or.inr rfl) (pe_op op_rep (pe_lst (pa_cons pe_int pa_nil)) (pe_callB (k_len K) (by rfl) b_len (by decide +kernel) (pa_cons (pv 0) pa_nil))))
  (pss_cons (ps_set (i := 2) sc_classes_of.nd rfl (Or.inl rfl) pe_int)
  (pss_one (ps_while PassesOwn.never (pt_val pe_bl)
  (pss_cons (ps_setLc (i := 3) (own := [("row", 6)]) (tt := tYes) rfl sc_classes_of.nd rfl rfl (sw_true rfl rfl rfl (by decide +kernel)) (k_iL K (pv 0)) (blkOk_by (own := [("row", 6)]) (N := n_classes_of) (sc := defScope s_classes_of) (by decide +kernel)) (fun _ _ _ _ _ => (pg_name (i := 6) sc_classes_of.nd rfl (Or.inl rfl))) (fun _ _ _ _ _ => pts_nil) (fun _ _ _ _ _ => (pe_call G_row_shape (hr.mono (by decide)) rfl g_row_shape kp_row_shape bd_row_shape .nil pass0 (pa_cons (pv 6) (pa_cons (pv 1) pa_nil)))))
  (pss_cons (ps_set (i := 4) sc_classes_of.nd rfl (Or.inr rfl) (pe_lst pa_nil))
  (pss_cons (ps_for PassesOwn.never rfl (k_iL K (pv 3)) (pg_name (i := 5) sc_classes_of.nd rfl (Or.inl rfl))
  (pss_one (ps_if (pt_cmpR (k_niD K (u65 hr)) (pv 5) (pv 4) (by rfl)) (pss_one (ps_expr (k_bm K PySem.F.plainAttrs_list PySem.F.slot_list_append PySem.F.type_list_append mt_append (pv 4) (pa_cons (pv 5) pa_nil)))) pss_nil)))
  (pss_cons (ps_set (i := 1) sc_classes_of.nd rfl (Or.inr rfl) (pe_lc (own := [("shape", 5)]) (tt := tYes) rfl sc_classes_of.nd (k_iL K (pv 3)) (blkOk_by (own := [("shape", 5)]) (N := n_classes_of) (sc := defScope s_classes_of) (by decide +kernel)) (fun _ _ _ _ _ => (pg_name (i := 5) sc_classes_of.nd rfl (Or.inl rfl))) (fun _ _ _ _ _ => pts_nil) (fun _ _ _ _ _ => (k_bm K PySem.F.plainAttrs_list PySem.F.slot_list_index PySem.F.type_list_index (k_indexD K (u65 hr)) (pv 4) (pa_cons (pv 5) pa_nil)))))
  (pss_cons (ps_if (pt_cmpR op_eq (pe_callB (k_len K) (by rfl) b_len (by decide +kernel) (pa_cons (pv 4) pa_nil)) (pv 2) (nomark _)) (pss_one (ps_ret (pv 1))) pss_nil)
  (pss_one (ps_set (i := 2) sc_classes_of.nd rfl (Or.inl rfl) (pe_callB (k_len K) (by rfl) b_len (by decide +kernel) (pa_cons (pv 4) pa_nil))))))))))))), ?_⟩
    obtain ⟨B0, hB0⟩ : ∃ B0 : Hp, B0 = B := ⟨_, rfl⟩
    subst hB0
    have S0 := Sit.start0 sB
    unfold m_classes_of at hm
    refine w_sig (σ' := [(some v_0), none, none, none, none, none, none]) rfl ?_
    refine w_seq ?_
    refine w_asg ?_
    refine w_op ?_
    refine x_lst ?_
    refine w_evA (EvA.cons Ev.c EvA.nil) ?_
    refine mkL (R := dInt) (xs := [(0 : Int)]) S0 (.cons (show dInt.rel _ (0 : Int) (V.int 0) from rfl) .nil) (by show 1 ≤ BIG; decide) fun v1 B6 H2 S3 s4 h5 => ?_
    refine w_ev (Ev.cb (EvA.cons (Ev.var rfl) EvA.nil) (rlen_q (sqL (K := K) (Rl.mono _ s4 hx_0) S3.sub))) ?_
    obtain ⟨x7, h8, hm⟩ := bs hm
    refine q_rep S3 h5 h8 fun v9 B14 H10 S11 s12 h13 => ?_
    refine w_gname ?_
    refine w_nx (σ' := [(some v_0), (some v9), none, none, none, none, none]) rfl ?_
    refine w_seq ?_
    refine w_asg ?_
    refine w_ev Ev.c ?_
    refine w_gname ?_
    refine w_nx (σ' := [(some v_0), (some v9), (some (V.int 0)), none, none, none, none]) rfl ?_
    obtain ⟨c49, hl199, hm⟩ := bs hm
    refine whK (s0 := (x7, (0 : Int))) S11 (fun (st15 : ((List Int) × Int)) b σ' cs' => ∃ (e16 : V) (e17 : V) (e18 : Option V) (e19 : Option V) (e20 : Option V), σ' = [(some v_0), (some e16), (some e17), e18, e19, e20, none] ∧ cs' = [] ∧ (dList dInt).rel b st15.1 e16 ∧ dInt.rel b st15.2 e17 ∧ True) ⟨_, _, _, _, _, rfl, rfl, h13, (show dInt.rel _ (0 : Int) (V.int 0) from rfl), trivial⟩ hl199 (fun st24 o25 B36 H27 _ cs28 W47 m48 S30 s31 hI33 hf35 hret44 hbrk45 hW46 => ?_) ?_
    · obtain ⟨e37, e38, e39, e40, e41, rfl, rfl, h42, h43, -⟩ := hI33
      cases h43
      refine w_evT (EvT.tB Ev.c) ?_
      refine w_ifb (fun h50 => ?_) (fun h50 => ?_)
      · rw [ifT h50] at hf35
        refine ⟨_, hW46, ?_⟩
        refine w_seq ?_
        refine w_asg ?_
        refine w_lc ?_
        refine x_iL ?_
        refine w_ev (Ev.var rfl) ?_
        refine w_itL (Rl.mono _ (s4.tr (s12.tr s31)) hx_0) S30.sub fun J51 it52 => ?_
        obtain ⟨ys79, h80, hf35⟩ := bs hf35
        refine lcR (P := (dTup K (dTup K (dAny K)))) it52 S30 (dList.le (Rl.mono _ (s4.tr (s12.tr s31)) hx_0)) h80 (fun _ _ _ Z e _ => e.tr Z.sub) (fun D53 ac54 a55 o56 x57 B60 B61 H62 ma68 S63 s58 s59 h64 ho65 RR66 kk67 => ?_) ?_
        · refine w_turn ?_
          refine w_gname ?_
          refine w_wipe rfl ?_
          refine w_yes ?_
          refine iteT ?_
          refine w_call ?_
          refine w_evA (EvA.cons (Ev.var rfl) (EvA.cons (Ev.var rfl) EvA.nil)) ?_
          obtain ⟨r70, h71, ho65⟩ := bs ho65
          refine use_row_shape S63 h64 (Rl.mono _ (s58.tr s59) h42) h71 fun v72 B76 H73  (S74 : Sit _ B76 H73 [(D53, (.lst ac54))]) s75 h77  => ?_
          obtain rfl := Option.some.inj ho65
          exact kk67 _ _ _ S74 s75 ⟨_, rfl, h77⟩
        · intro p81 B88 H82 o83 S84 s85 n86 h87
          obtain ⟨B91, S89, s90, h92⟩ : ∃ B', Sit _ B' H82 [] ∧ Same _ B' ∧ (dList (dTup K (dTup K (dAny K)))).rel B' ys79 (.ref p81) := ⟨_, S84.frz (i := 0) rfl n86, S84.frzS (i := 0) rfl, frzL h87 (S84.atB (i := 0) rfl)⟩
          refine w_gname ?_
          refine w_nx (σ' := [(some v_0), (some e37), (some (V.int st24.2)), (some (.ref p81)), e40, e41, none]) rfl ?_
          refine w_seq ?_
          refine w_asg ?_
          refine x_lst ?_
          refine w_nil ?_
          refine mkO (R := (dTup K (dTup K (dAny K)))) (xs := []) S89 .nil (by show 0 ≤ BIG; decide) fun p93 o94 H95 S96 n97 h98 => ?_
          refine w_gname ?_
          refine w_nx (σ' := [(some v_0), (some e37), (some (V.int st24.2)), (some (.ref p81)), (some (.ref p93)), e41, none]) rfl ?_
          refine w_seq ?_
          refine w_for ?_
          refine x_iL ?_
          refine w_ev (Ev.var rfl) ?_
          refine w_itL h92 S96.sub fun J99 it100 => ?_
          obtain ⟨st143, hl184, hf35⟩ := bs hf35
          refine forS (s0 := ([] : (List (List (List PyData))))) it100 S96 (fun (st101 : (List (List (List PyData)))) b σ' cs' => ∃ (e102 : Option V) (o103 : HO), σ' = [(some v_0), (some e37), (some (V.int st24.2)), (some (.ref p81)), (some (.ref p93)), e102, none] ∧ cs' = [(p93, o103)] ∧ (cList (dTup K (dTup K (dAny K)))).rel b st101 o103 ∧ True) ⟨_, _, rfl, rfl, h98, trivial⟩ hl184 (fun _ _ _ _ _ Z e _ => e.tr Z.sub) (fun a105 st106 o107 x108 B118 B122 H109 _ cs110 ma111 S112 s113 s114 hI115 h116 hf117 => ?_) ?_
          · obtain ⟨e119, o120, rfl, rfl, h121, -⟩ := hI115
            refine w_gname ?_
            refine w_nx (σ' := [(some v_0), (some e37), (some (V.int st24.2)), (some (.ref p81)), (some (.ref p93)), (some x108), none]) rfl ?_
            refine w_ifS ?_
            obtain ⟨b129, hb129, hf117⟩ := bs hf117
            refine w_evT (EvT.test (Ev.op (Ev.var rfl) (Ev.var rfl) (rv_niD (drT (drT drAny)) (drL (drT (drT drAny))) (Rl.mono _ S112.sub h116) (cL_d (Cl.mono _ s114 h121) (S112.at' (i := 0) rfl) S112.sub) hb129))) ?_
            refine w_ifb (fun h130 => ?_) (fun h130 => ?_)
            · rw [ifT h130] at hf117
              refine w_drop ?_
              refine w_bm ?_
              refine w_ev (Ev.var rfl) ?_
              refine w_tyC (Cl.mono _ s114 h121) (S112.at' (i := 0) rfl) ?_
              refine w_evA (EvA.cons (Ev.var rfl) EvA.nil) ?_
              obtain ⟨x131, h132, hf117⟩ := bs hf117
              refine q_append (k := 0) S112 rfl (Cl.mono _ s114 h121) h116 h132 fun o133 H134 (S135 : Sit _ B122 H134 [(p93, o133)]) h136 => ?_
              obtain rfl := Option.some.inj hf117
              exact ⟨_, _, S135, (s113.tr s114), _, _, rfl, rfl, h136, trivial⟩
            · rw [ifF h130] at hf117
              refine w_next ?_
              obtain rfl := Option.some.inj hf117
              exact ⟨_, _, S112, (s113.tr s114), _, _, rfl, rfl, (Cl.mono _ s114 h121), trivial⟩
          · intro B142 H137 _ cs138 S139 s140 hI141
            obtain ⟨e144, o145, rfl, rfl, h146, -⟩ := hI141
            refine w_seq ?_
            refine w_asg ?_
            refine w_lc ?_
            refine x_iL ?_
            refine w_ev (Ev.var rfl) ?_
            refine w_itL (Rl.mono _ s140 h92) S139.sub fun J147 it148 => ?_
            obtain ⟨ys169, h170, hf35⟩ := bs hf35
            refine lcR (P := dInt) it148 S139 (dList.le (Rl.mono _ s140 h92)) h170 (fun _ _ _ Z e _ => e.tr Z.sub) (fun D149 ac150 a151 o152 x153 B156 B157 H158 ma164 S159 s154 s155 h160 ho161 RR162 kk163 => ?_) ?_
            · refine w_turn ?_
              refine w_gname ?_
              refine w_wipe rfl ?_
              refine w_yes ?_
              refine iteT ?_
              refine w_bm ?_
              refine w_ev (Ev.var rfl) ?_
              refine w_tyC (Cl.mono _ (s154.tr s155) h146) (S159.at' (i := 1) rfl) ?_
              refine w_evA (EvA.cons (Ev.var rfl) EvA.nil) ?_
              obtain ⟨j166, h167, ho161⟩ := bs ho161
              refine r_ixD (drT (drT drAny)) (drT (drT drAny)) (cL_d (Cl.mono _ (s154.tr s155) h146) (S159.at' (i := 1) rfl) S159.sub) (Rl.mono _ S159.sub h160) h167 ?_
              obtain rfl := Option.some.inj ho161
              exact kk163 _ _ _ S159 (Same.rf _) ⟨_, rfl, (show dInt.rel _ j166 (V.int j166) from rfl)⟩
            · intro p171 B178 H172 o173 S174 s175 n176 h177
              obtain ⟨B181, S179, s180, h182⟩ : ∃ B', Sit _ B' H172 [(p93, o145)] ∧ Same _ B' ∧ (dList dInt).rel B' ys169 (.ref p171) := ⟨_, S174.frz (i := 0) rfl n176, S174.frzS (i := 0) rfl, frzL h177 (S174.atB (i := 0) rfl)⟩
              refine w_gname ?_
              refine w_nx (σ' := [(some v_0), (some (.ref p171)), (some (V.int st24.2)), (some (.ref p81)), (some (.ref p93)), e144, none]) rfl ?_
              refine w_seq ?_
              refine w_ifS ?_
              refine w_evT (EvT.test (Ev.op (Ev.cb (EvA.cons (Ev.var rfl) EvA.nil) (rlen_q (sqC (K := K) (Cl.mono _ (s175.tr s180) h146) (S179.at' (i := 0) rfl)))) (Ev.var rfl) rv_eqI)) ?_
              refine w_ifb (fun h183 => ?_) (fun h183 => ?_)
              · rw [ifT h183] at hf35
                refine w_ret ?_
                refine w_ev (Ev.var rfl) ?_
                obtain rfl := Option.some.inj hf35
                cases hret44 _ rfl
                obtain rfl := Option.some.inj hm
                exact k _ _ _  S179.tl h182
              · rw [ifF h183] at hf35
                refine w_next ?_
                refine w_asg ?_
                refine w_ev (Ev.cb (EvA.cons (Ev.var rfl) EvA.nil) (rlen_q (sqC (K := K) (Cl.mono _ (s175.tr s180) h146) (S179.at' (i := 0) rfl)))) ?_
                refine w_gname ?_
                refine w_nx (σ' := [(some v_0), (some (.ref p171)), (some (V.int (st143.length : Int))), (some (.ref p81)), (some (.ref p93)), e144, none]) rfl ?_
                obtain rfl := Option.some.inj hf35
                exact ⟨_, rfl, _, _, S179.tl, (s31.tr (s85.tr (s90.tr (s140.tr (s175.tr s180))))), _, _, _, _, _, rfl, rfl, h182, (show dInt.rel _ (st143.length : Int) (V.int (st143.length : Int)) from rfl), trivial⟩
      · rw [ifF h50] at hf35
        cases hf35
    · intro st191 B190 H185 _ cs186 ec200 S187 s188 hI189
      cases ec200
      obtain ⟨e192, e193, e194, e195, e196, rfl, rfl, h197, h198, -⟩ := hI189
      cases h198
      cases hm
end
end Mm
namespace Mm
open PySem L2 Mf
section
variable {P : Program} {w : World} {K : PySem.W.Frag} {mg : Str → Option Value} {base : Heap} {cx : Nat → Addr}
abbrev n_canonical_rows : List Str := ["table", "start", "classes", "order", "known", "rows", "described", "row", "item"]
theorem sc_canonical_rows : FnScope n_canonical_rows ["table", "start"] (defScope s_canonical_rows) := ⟨rfl, rfl, rfl, by decide +kernel, rfl, by decide +kernel, by decide +kernel⟩
def m_canonical_rows (x_0 : (List (List (List PyData)))) (x_1 : Int) : Option (List (List (List PyData))) :=
  (m_classes_of (x_0)).bind fun r1 =>
  (atI r1 x_1).bind fun x15 =>
  (whC (S := ((List (List (List PyData))) × (List Int) × (List Int))) (R := (List (List (List PyData)))) (fun (st40 : ((List (List (List PyData))) × (List Int) × (List Int))) => if (decide ((st40.1.length : Int) < (st40.2.2.length : Int))) = true then (atI st40.2.2 (st40.1.length : Int)).bind fun x69 =>
  (atI x_0 x69).bind fun x71 =>
  (forL (fun (a91 : (List PyData)) (st92 : ((List (List PyData)) × (List Int) × (List Int))) => (atI a91 (0 : Int)).bind fun x119 =>
  (eqD x119 (PyData.str (Str.ofString "node"))).bind fun b123 =>
  if (!b123) = true then (pushM st92.1 a91).bind fun x125 =>
  some (x125, st92.2.1, st92.2.2) else ((atI a91 (1 : Int)).bind fun x140 =>
  (asI x140).bind fun i144 =>
  (atI r1 i144).bind fun x145 =>
  if (!decide (x145 ∈ st92.2.1)) = true then (atI a91 (1 : Int)).bind fun x148 =>
  (asI x148).bind fun i152 =>
  (atI r1 i152).bind fun x153 =>
  (pushM st92.2.1 x153).bind fun x155 =>
  (atI a91 (1 : Int)).bind fun x161 =>
  (asI x161).bind fun i165 =>
  (pushM st92.2.2 i165).bind fun x167 =>
  some (x155, x167) else some (st92.2.1, st92.2.2)).bind fun j138 =>
  (atI a91 (1 : Int)).bind fun x181 =>
  (asI x181).bind fun i185 =>
  (atI r1 i185).bind fun x186 =>
  (ixOf x186 j138.1).bind fun j188 =>
  (pushM st92.1 ([(PyData.str (Str.ofString "node")), (PyData.int j188)] : (List PyData))).bind fun x196 =>
  some (x196, j138.1, j138.2)) x71 (([] : (List (List PyData))), st40.2.1, st40.2.2)).bind fun st208 =>
  (pushM st40.1 st208.1).bind fun x220 =>
  some (.nx (x220, st208.2.1, st208.2.2)) else some (.brk (st40.1, st40.2.1, st40.2.2))) FUEL (([] : (List (List (List PyData)))), ([x15] : (List Int)), ([x_1] : (List Int)))).bind fun c67 =>
  c67.on (fun st233 => some st233.1) (fun r => some r)
def sp_canonical_rows (K : PySem.W.Frag) : Sp := fun vs H Q E => ∃ (B : Hp) (x_0 : (List (List (List PyData)))) (v_0 : V) (x_1 : Int) (r : (List (List (List PyData)))), vs = [v_0, (V.int x_1)] ∧ Same B H ∧ (dList (dList (dTup K (dAny K)))).rel B x_0 v_0 ∧ m_canonical_rows x_0 x_1 = some r ∧ ∀ (v : V) (B' H' : Hp) , Sit ⟨B, H, []⟩ B' H' [] → (dList (dList (dTup K (dAny K)))).rel B' r v → Q v H'
theorem use_canonical_rows {K : PySem.W.Frag} {Φ : Fr} {B H : Hp} {cs : List (Addr × HO)} {Q : VK} {E : XK} {r : (List (List (List PyData)))} {x_0 : (List (List (List PyData)))} {v_0 : V} {x_1 : Int} {v_1 : V} (Z : Sit Φ B H cs) (h_0 : (dList (dList (dTup K (dAny K)))).rel B x_0 v_0) (h_1 : dInt.rel B x_1 v_1) (hm : m_canonical_rows x_0 x_1 = some r) (k : ∀ (v : V) (B' H' : Hp) , Sit Φ B' H' cs → Same B B' → (dList (dList (dTup K (dAny K)))).rel B' r v → Q v H') : sp_canonical_rows K ([v_0, v_1] ++ []) H Q E := by
  cases h_1
  exact ⟨B, x_0, v_0, x_1, r, rfl, Z.sub, h_0, hm, fun v B' H'  Z' h  => k v B' H'  (Z.call0 Z') Z'.grow h ⟩
theorem ok_canonical_rows (A0 : DefAt K mg "canonical_rows" s_canonical_rows ["table", "start"]) (b_len : mg "len" = none) (D_classes_of : Does P w K mg base CX0 2 "classes_of" ["table"] (sp_classes_of K )) : Does P w K mg base CX0 3 "canonical_rows" ["table", "start"] (sp_canonical_rows K ) := by
  obtain ⟨f, fd, F, gm, bd⟩ := A0
  obtain ⟨f_classes_of, fd_classes_of, G_classes_of, g_classes_of, kp_classes_of, bd_classes_of⟩ := D_classes_of
  refine ⟨f, fd, ?_, gm, F.kp, bd⟩
  refine F.ok sc_canonical_rows (fun vs H Q E h => ?_) (fun cdv A outer s H vs Q E hr h => ?_)
  · obtain ⟨_, _, _, _, _, rfl, _⟩ := h
    rfl
  · obtain ⟨B, x_0, v_0, x_1, r, rfl, sB, hx_0, hm, k⟩ := h
    have hu := hu_of hr
    refine ⟨_, (pss_cons (ps_set (i := 2) sc_canonical_rows.nd rfl (Or.inl rfl) (pe_call G_classes_of (hr.mono (by decide)) rfl g_classes_of kp_classes_of bd_classes_of .nil pass0 (pa_cons (pv 0) pa_nil)))
  (pss_cons (ps_set (i := 3) sc_canonical_rows.nd rfl (Or.inl rfl) (pe_lst (pa_cons (pv 1) pa_nil)))
  (pss_cons (ps_set (i := 4) sc_canonical_rows.nd rfl (Or.inl rfl) (pe_lst (pa_cons (pe_ix (k_ixL K) (pv 2) (pv 1) (fun _ _ => rfl)) pa_nil)))
  (pss_cons (ps_set (i := 5) sc_canonical_rows.nd rfl (Or.inl rfl) (pe_lst pa_nil))
  (pss_cons (ps_while PassesOwn.never (pt_cmpR op_lt (pe_callB (k_len K) (by rfl) b_len (by decide +kernel) (pa_cons (pv 5) pa_nil)) (pe_callB (k_len K) (by rfl) b_len (by decide +kernel) (pa_cons (pv 3) pa_nil)) (nomark _))
  (pss_cons (ps_set (i := 6) sc_canonical_rows.nd rfl (Or.inl rfl) (pe_ix (k_ixL K) (pv 0) (pe_ix (k_ixL K) (pv 3) (pe_callB (k_len K) (by rfl) b_len (by decide +kernel) (pa_cons (pv 5) pa_nil)) (fun _ _ => rfl)) (fun _ _ => rfl)))
  (pss_cons (ps_set (i := 7) sc_canonical_rows.nd rfl (Or.inl rfl) (pe_lst pa_nil))
  (pss_cons (ps_for PassesOwn.never rfl (k_iL K (pv 6)) (pg_name (i := 8) sc_canonical_rows.nd rfl (Or.inl rfl))
  (pss_cons (ps_if (pt_cmpR (k_neD K hr.units) (pe_ix (k_ixT K) (pv 8) pe_int (fun _ _ => rfl)) pe_str (nomark _)) (pss_cons (ps_expr (k_bm K PySem.F.plainAttrs_list PySem.F.slot_list_append PySem.F.type_list_append mt_append (pv 7) (pa_cons (pv 8) pa_nil)))
  (pss_one ps_continue)) pss_nil)
  (C8.pss_cut (ps_if (pt_cmpR (k_ni K) (pe_ix (k_ixL K) (pv 2) (pe_ix (k_ixT K) (pv 8) pe_int (fun _ _ => rfl)) (fun _ _ => rfl)) (pv 4) (by rfl)) (pss_cons (ps_expr (k_bm K PySem.F.plainAttrs_list PySem.F.slot_list_append PySem.F.type_list_append mt_append (pv 4) (pa_cons (pe_ix (k_ixL K) (pv 2) (pe_ix (k_ixT K) (pv 8) pe_int (fun _ _ => rfl)) (fun _ _ => rfl)) pa_nil)))
  (pss_one (ps_expr (k_bm K PySem.F.plainAttrs_list PySem.F.slot_list_append PySem.F.type_list_append mt_append (pv 3) (pa_cons (pe_ix (k_ixT K) (pv 8) pe_int (fun _ _ => rfl)) pa_nil))))) pss_nil)
  (pss_one (ps_expr (k_bm K PySem.F.plainAttrs_list PySem.F.slot_list_append PySem.F.type_list_append mt_append (pv 7) (pa_cons (pe_tup (pa_cons pe_str (pa_cons (k_bm K PySem.F.plainAttrs_list PySem.F.slot_list_index PySem.F.type_list_index (k_index K) (pv 4) (pa_cons (pe_ix (k_ixL K) (pv 2) (pe_ix (k_ixT K) (pv 8) pe_int (fun _ _ => rfl)) (fun _ _ => rfl)) pa_nil)) pa_nil))) pa_nil)))))))
  (pss_one (ps_expr (k_bm K PySem.F.plainAttrs_list PySem.F.slot_list_append PySem.F.type_list_append mt_append (pv 5) (pa_cons (pv 7) pa_nil))))))))
  (pss_one (ps_ret (pv 5)))))))), ?_⟩
    obtain ⟨B0, hB0⟩ : ∃ B0 : Hp, B0 = B := ⟨_, rfl⟩
    subst hB0
    have S0 := Sit.start0 sB
    unfold m_canonical_rows at hm
    refine w_sig (σ' := [(some v_0), (some (V.int x_1)), none, none, none, none, none, none, none]) rfl ?_
    refine w_seq ?_
    refine w_asg ?_
    refine w_call ?_
    refine w_evA (EvA.cons (Ev.var rfl) EvA.nil) ?_
    obtain ⟨r1, h2, hm⟩ := bs hm
    refine use_classes_of S0 hx_0 h2 fun v3 B7 H4  (S5 : Sit _ B7 H4 []) s6 h8  => ?_
    refine w_gname ?_
    refine w_nx (σ' := [(some v_0), (some (V.int x_1)), (some v3), none, none, none, none, none, none]) rfl ?_
    refine w_seq ?_
    refine w_asg ?_
    refine x_lst ?_
    refine w_evA (EvA.cons (Ev.var rfl) EvA.nil) ?_
    refine mkO (R := dInt) (xs := [x_1]) S5 (.cons (show dInt.rel _ x_1 (V.int x_1) from rfl) .nil) (by show 1 ≤ BIG; decide) fun p9 o10 H11 S12 n13 h14 => ?_
    refine w_gname ?_
    refine w_nx (σ' := [(some v_0), (some (V.int x_1)), (some v3), (some (.ref p9)), none, none, none, none, none]) rfl ?_
    refine w_seq ?_
    refine w_asg ?_
    refine x_lst ?_
    obtain ⟨x15, hx15, hm⟩ := bs hm
    obtain ⟨_, rfl, r16⟩ := ix_L (K := K) h8 hx15
    refine w_evA (EvA.cons (Ev.op (Ev.var rfl) (Ev.var rfl) (r16 _ S12.sub)) EvA.nil) ?_
    refine mkO (R := dInt) (xs := [x15]) S12 (.cons (show dInt.rel _ x15 (V.int x15) from rfl) .nil) (by show 1 ≤ BIG; decide) fun p17 o18 H19 S20 n21 h22 => ?_
    refine w_gname ?_
    refine w_nx (σ' := [(some v_0), (some (V.int x_1)), (some v3), (some (.ref p9)), (some (.ref p17)), none, none, none, none]) rfl ?_
    refine w_seq ?_
    refine w_asg ?_
    refine x_lst ?_
    refine w_nil ?_
    refine mkO (R := (dList (dTup K (dAny K)))) (xs := []) S20 .nil (by show 0 ≤ BIG; decide) fun p23 o24 H25 S26 n27 h28 => ?_
    refine w_gname ?_
    refine w_nx (σ' := [(some v_0), (some (V.int x_1)), (some v3), (some (.ref p9)), (some (.ref p17)), (some (.ref p23)), none, none, none]) rfl ?_
    refine w_seq ?_
    obtain ⟨c67, hl255, hm⟩ := bs hm
    refine whK (s0 := (([] : (List (List (List PyData)))), ([x15] : (List Int)), ([x_1] : (List Int)))) S26 (fun (st29 : ((List (List (List PyData))) × (List Int) × (List Int))) b σ' cs' => ∃ (e30 : Option V) (e31 : Option V) (e32 : Option V) (o33 : HO) (o35 : HO) (o37 : HO), σ' = [(some v_0), (some (V.int x_1)), (some v3), (some (.ref p9)), (some (.ref p17)), (some (.ref p23)), e30, e31, e32] ∧ cs' = [(p23, o33), (p17, o35), (p9, o37)] ∧ (cList (dList (dTup K (dAny K)))).rel b st29.1 o33 ∧ (cList dInt).rel b st29.2.1 o35 ∧ (cList dInt).rel b st29.2.2 o37 ∧ True) ⟨_, _, _, _, _, _, rfl, rfl, h28, h22, h14, trivial⟩ hl255 (fun st40 o41 B52 H43 _ cs44 W65 m66 S46 s47 hI49 hf51 hret62 hbrk63 hW64 => ?_) ?_
    · obtain ⟨e53, e54, e55, o56, o58, o60, rfl, rfl, h57, h59, h61, -⟩ := hI49
      refine w_evT (EvT.test (Ev.op (Ev.cb (EvA.cons (Ev.var rfl) EvA.nil) (rlen_q (sqC (K := K) h57 (S46.at' (i := 0) rfl)))) (Ev.cb (EvA.cons (Ev.var rfl) EvA.nil) (rlen_q (sqC (K := K) h61 (S46.at' (i := 2) rfl)))) rv_I0)) ?_
      refine w_ifb (fun h68 => ?_) (fun h68 => ?_)
      · rw [ifT h68] at hf51
        refine ⟨_, hW64, ?_⟩
        refine w_seq ?_
        refine w_asg ?_
        obtain ⟨x69, hx69, hf51⟩ := bs hf51
        obtain ⟨_, rfl, r70⟩ := ix_C (K := K) h61 hx69
        obtain ⟨x71, hx71, hf51⟩ := bs hf51
        obtain ⟨w73, h74, r72⟩ := ix_L (K := K) (Rl.mono _ (s6.tr s47) hx_0) hx71
        refine w_ev (Ev.op (Ev.var rfl) (Ev.op (Ev.var rfl) (Ev.cb (EvA.cons (Ev.var rfl) EvA.nil) (rlen_q (sqC (K := K) h57 (S46.at' (i := 0) rfl)))) (r70 _ (S46.at' (i := 2) rfl))) (r72 _ S46.sub)) ?_
        refine w_gname ?_
        refine w_nx (σ' := [(some v_0), (some (V.int x_1)), (some v3), (some (.ref p9)), (some (.ref p17)), (some (.ref p23)), (some w73), e54, e55]) rfl ?_
        refine w_seq ?_
        refine w_asg ?_
        refine x_lst ?_
        refine w_nil ?_
        refine mkO (R := (dTup K (dAny K))) (xs := []) S46 .nil (by show 0 ≤ BIG; decide) fun p75 o76 H77 S78 n79 h80 => ?_
        refine w_gname ?_
        refine w_nx (σ' := [(some v_0), (some (V.int x_1)), (some v3), (some (.ref p9)), (some (.ref p17)), (some (.ref p23)), (some w73), (some (.ref p75)), e55]) rfl ?_
        refine w_seq ?_
        refine w_for ?_
        refine x_iL ?_
        refine w_ev (Ev.var rfl) ?_
        refine w_itL h74 S78.sub fun J81 it82 => ?_
        obtain ⟨st208, hl226, hf51⟩ := bs hf51
        refine forS (s0 := (([] : (List (List PyData))), st40.2.1, st40.2.2)) it82 S78 (fun (st83 : ((List (List PyData)) × (List Int) × (List Int))) b σ' cs' => ∃ (e84 : Option V) (o85 : HO) (o87 : HO) (o89 : HO), σ' = [(some v_0), (some (V.int x_1)), (some v3), (some (.ref p9)), (some (.ref p17)), (some (.ref p23)), (some w73), (some (.ref p75)), e84] ∧ cs' = [(p75, o85), (p23, o56), (p17, o87), (p9, o89)] ∧ (cList (dTup K (dAny K))).rel b st83.1 o85 ∧ (cList dInt).rel b st83.2.1 o87 ∧ (cList dInt).rel b st83.2.2 o89 ∧ True) ⟨_, _, _, _, rfl, rfl, h80, h59, h61, trivial⟩ hl226 (fun _ _ _ _ _ Z e _ => e.tr Z.sub) (fun a91 st92 o93 x94 B104 B112 H95 _ cs96 ma97 S98 s99 s100 hI101 h102 hf103 => ?_) ?_
        · obtain ⟨e105, o106, o108, o110, rfl, rfl, h107, h109, h111, -⟩ := hI101
          refine w_gname ?_
          refine w_nx (σ' := [(some v_0), (some (V.int x_1)), (some v3), (some (.ref p9)), (some (.ref p17)), (some (.ref p23)), (some w73), (some (.ref p75)), (some x94)]) rfl ?_
          refine w_seq ?_
          refine w_ifS ?_
          obtain ⟨x119, hx119, hf103⟩ := bs hf103
          obtain ⟨w121, h122, r120⟩ := ix_T (K := K) h102 hx119
          obtain ⟨b123, hb123, hf103⟩ := bs hf103
          refine w_evT (EvT.test (Ev.op (Ev.op (Ev.var rfl) Ev.c (r120 _ S98.sub)) Ev.c (rv_neD drAny drStr (Rl.mono _ S98.sub h122) (Rl.mono _ S98.sub (show dStr.rel _ (Str.ofString "node") (V.str (Str.ofString "node")) from rfl)) hb123))) ?_
          refine w_ifb (fun h124 => ?_) (fun h124 => ?_)
          · rw [ifT h124] at hf103
            refine w_seq ?_
            refine w_drop ?_
            refine w_bm ?_
            refine w_ev (Ev.var rfl) ?_
            refine w_tyC (Cl.mono _ s100 h107) (S98.at' (i := 0) rfl) ?_
            refine w_evA (EvA.cons (Ev.var rfl) EvA.nil) ?_
            obtain ⟨x125, h126, hf103⟩ := bs hf103
            refine q_append (k := 0) S98 rfl (Cl.mono _ s100 h107) h102 h126 fun o127 H128 (S129 : Sit _ B112 H128 [(p75, o127), (p23, o56), (p17, o108), (p9, o110)]) h130 => ?_
            refine w_cont ?_
            obtain rfl := Option.some.inj hf103
            exact ⟨_, _, S129, (s99.tr s100), _, _, _, _, rfl, rfl, h130, (Cl.mono _ s100 h109), (Cl.mono _ s100 h111), trivial⟩
          · rw [ifF h124] at hf103
            refine w_next ?_
            obtain ⟨j138, hj139, hf103⟩ := bs hf103
            refine w_cut (MidD (fun σ' H' => ∃ (B' : Hp)  (o177 : HO) (o179 : HO), σ' = [(some v_0), (some (V.int x_1)), (some v3), (some (.ref p9)), (some (.ref p17)), (some (.ref p23)), (some w73), (some (.ref p75)), (some x94)] ∧ Sit (Fr.mk B0 H []) B' H' [(p75, o106), (p23, o56), (p17, o177), (p9, o179)] ∧ Same B112 B' ∧ (cList dInt).rel B' j138.1 o177 ∧ (cList dInt).rel B' j138.2 o179 ∧ True)) ?_ ?_
            · refine w_ifS ?_
              obtain ⟨x140, hx140, hj139⟩ := bs hj139
              obtain ⟨w142, h143, r141⟩ := ix_T (K := K) h102 hx140
              obtain ⟨i144, hi144, hj139⟩ := bs hj139
              obtain ⟨x145, hx145, hj139⟩ := bs hj139
              obtain ⟨_, rfl, r146⟩ := ix_L (K := K) (Rl.mono _ (s47.tr (s99.tr s100)) h8) hx145
              refine w_evT (EvT.test (Ev.op (Ev.op (Ev.var rfl) (Ev.cast (Ev.op (Ev.var rfl) Ev.c (r141 _ S98.sub)) (asI_v h143 hi144)) (r146 _ S98.sub)) (Ev.var rfl) (rni_i (sqC (K := K) (Cl.mono _ s100 h109) (S98.at' (i := 2) rfl))))) ?_
              refine w_ifb (fun h147 => ?_) (fun h147 => ?_)
              · rw [ifT h147] at hj139
                refine w_seq ?_
                refine w_drop ?_
                refine w_bm ?_
                refine w_ev (Ev.var rfl) ?_
                refine w_tyC (Cl.mono _ s100 h109) (S98.at' (i := 2) rfl) ?_
                obtain ⟨x148, hx148, hj139⟩ := bs hj139
                obtain ⟨w150, h151, r149⟩ := ix_T (K := K) h102 hx148
                obtain ⟨i152, hi152, hj139⟩ := bs hj139
                obtain ⟨x153, hx153, hj139⟩ := bs hj139
                obtain ⟨_, rfl, r154⟩ := ix_L (K := K) (Rl.mono _ (s47.tr (s99.tr s100)) h8) hx153
                refine w_evA (EvA.cons (Ev.op (Ev.var rfl) (Ev.cast (Ev.op (Ev.var rfl) Ev.c (r149 _ S98.sub)) (asI_v h151 hi152)) (r154 _ S98.sub)) EvA.nil) ?_
                obtain ⟨x155, h156, hj139⟩ := bs hj139
                refine q_append (k := 2) S98 rfl (Cl.mono _ s100 h109) (show dInt.rel _ x153 (V.int x153) from rfl) h156 fun o157 H158 (S159 : Sit _ B112 H158 [(p75, o106), (p23, o56), (p17, o157), (p9, o110)]) h160 => ?_
                refine w_drop ?_
                refine w_bm ?_
                refine w_ev (Ev.var rfl) ?_
                refine w_tyC (Cl.mono _ s100 h111) (S159.at' (i := 3) rfl) ?_
                obtain ⟨x161, hx161, hj139⟩ := bs hj139
                obtain ⟨w163, h164, r162⟩ := ix_T (K := K) h102 hx161
                refine w_evA (EvA.cons (Ev.op (Ev.var rfl) Ev.c (r162 _ S159.sub)) EvA.nil) ?_
                obtain ⟨i165, h166, hj139⟩ := bs hj139
                obtain rfl := asI_v h164 h166
                obtain ⟨x167, h168, hj139⟩ := bs hj139
                refine q_append (k := 3) S159 rfl (Cl.mono _ s100 h111) (show dInt.rel _ i165 (V.int i165) from rfl) h168 fun o169 H170 (S171 : Sit _ B112 H170 [(p75, o106), (p23, o56), (p17, o157), (p9, o169)]) h172 => ?_
                obtain rfl := Option.some.inj hj139
                exact ⟨_, _, _, rfl, S171, (Same.rf _), h160, h172, trivial⟩
              · rw [ifF h147] at hj139
                refine w_next ?_
                obtain rfl := Option.some.inj hj139
                exact ⟨_, _, _, rfl, S98, (Same.rf _), (Cl.mono _ s100 h109), (Cl.mono _ s100 h111), trivial⟩
            · rintro _ H173 ⟨B176, o177, o179, rfl, S174, s175, h178, h180, -⟩
              refine w_drop ?_
              refine w_bm ?_
              refine w_ev (Ev.var rfl) ?_
              refine w_tyC (Cl.mono _ (s100.tr s175) h107) (S174.at' (i := 0) rfl) ?_
              refine w_cons ?_
              refine x_tup ?_
              refine w_cons ?_
              refine w_ev Ev.c ?_
              refine w_cons ?_
              refine w_bm ?_
              refine w_ev (Ev.var rfl) ?_
              refine w_tyC h178 (S174.at' (i := 2) rfl) ?_
              obtain ⟨x181, hx181, hf103⟩ := bs hf103
              obtain ⟨w183, h184, r182⟩ := ix_T (K := K) (Rl.mono _ s175 h102) hx181
              obtain ⟨i185, hi185, hf103⟩ := bs hf103
              obtain ⟨x186, hx186, hf103⟩ := bs hf103
              obtain ⟨_, rfl, r187⟩ := ix_L (K := K) (Rl.mono _ (s47.tr (s99.tr (s100.tr s175))) h8) hx186
              refine w_evA (EvA.cons (Ev.op (Ev.var rfl) (Ev.cast (Ev.op (Ev.var rfl) Ev.c (r182 _ S174.sub)) (asI_v h184 hi185)) (r187 _ S174.sub)) EvA.nil) ?_
              obtain ⟨j188, h189, hf103⟩ := bs hf103
              refine r_ixI (cL_d h178 (S174.at' (i := 2) rfl) S174.sub) h189 ?_
              refine w_nil ?_
              refine mk2 (K := K)   S174 (show dStr.rel _ (Str.ofString "node") (V.str (Str.ofString "node")) from rfl) (show dInt.rel _ j188 (V.int j188) from rfl) fun v190 B195 H191 S192 s193 h194 => ?_
              refine w_nil ?_
              obtain ⟨x196, h197, hf103⟩ := bs hf103
              refine q_append (k := 0) S192 rfl (Cl.mono _ (s100.tr (s175.tr s193)) h107) (show (dTup K (dAny K)).rel _ ([(PyData.str (Str.ofString "node")), (PyData.int j188)] : (List PyData)) v190 from (mp2 (mpA drStr) (mpA drInt)) h194) h197 fun o198 H199 (S200 : Sit _ B195 H199 [(p75, o198), (p23, o56), (p17, o177), (p9, o179)]) h201 => ?_
              obtain rfl := Option.some.inj hf103
              exact ⟨_, _, S200, (s99.tr (s100.tr (s175.tr s193))), _, _, _, _, rfl, rfl, h201, (Cl.mono _ s193 h178), (Cl.mono _ s193 h180), trivial⟩
        · intro B207 H202 _ cs203 S204 s205 hI206
          obtain ⟨e209, o210, o212, o214, rfl, rfl, h211, h213, h215, -⟩ := hI206
          refine w_drop ?_
          refine w_bm ?_
          refine w_ev (Ev.var rfl) ?_
          refine w_tyC (Cl.mono _ s205 h57) (S204.at' (i := 1) rfl) ?_
          refine w_evA (EvA.cons (Ev.var rfl) EvA.nil) ?_
          obtain ⟨B218, S216, s217, h219⟩ : ∃ B', Sit _ B' H202 [(p23, o56), (p17, o212), (p9, o214)] ∧ Same _ B' ∧ (dList (dTup K (dAny K))).rel B' st208.1 (.ref p75) := ⟨_, S204.frz (i := 0) rfl n79, S204.frzS (i := 0) rfl, frzL h211 (S204.atB (i := 0) rfl)⟩
          obtain ⟨x220, h221, hf51⟩ := bs hf51
          refine q_append (k := 0) S216 rfl (Cl.mono _ (s205.tr s217) h57) h219 h221 fun o222 H223 (S224 : Sit _ B218 H223 [(p23, o222), (p17, o212), (p9, o214)]) h225 => ?_
          obtain rfl := Option.some.inj hf51
          exact ⟨_, rfl, _, _, S224, (s47.tr (s205.tr s217)), _, _, _, _, _, _, rfl, rfl, h225, (Cl.mono _ s217 h213), (Cl.mono _ s217 h215), trivial⟩
      · rw [ifF h68] at hf51
        obtain rfl := Option.some.inj hf51
        exact hbrk63 _ _ _ rfl ⟨_, _, S46, s47, _, _, _, _, _, _, rfl, rfl, h57, h59, h61, trivial⟩
    · intro st233 B232 H227 _ cs228 ec256 S229 s230 hI231
      cases ec256
      obtain ⟨e234, e235, e236, o237, o239, o241, rfl, rfl, h238, h240, h242, -⟩ := hI231
      obtain ⟨B245, S243, s244, h246⟩ : ∃ B', Sit _ B' H227 [(p17, o239), (p9, o241)] ∧ Same _ B' ∧ (dList (dList (dTup K (dAny K)))).rel B' st233.1 (.ref p23) := ⟨_, S229.frz (i := 0) rfl n27, S229.frzS (i := 0) rfl, frzL h238 (S229.atB (i := 0) rfl)⟩
      obtain ⟨B249, S247, s248, h250⟩ : ∃ B', Sit _ B' H227 [(p9, o241)] ∧ Same _ B' ∧ (dList dInt).rel B' st233.2.1 (.ref p17) := ⟨_, S243.frz (i := 0) rfl n21, S243.frzS (i := 0) rfl, frzL (Cl.mono _ s244 h240) (S243.atB (i := 0) rfl)⟩
      obtain ⟨B253, S251, s252, h254⟩ : ∃ B', Sit _ B' H227 [] ∧ Same _ B' ∧ (dList dInt).rel B' st233.2.2 (.ref p9) := ⟨_, S247.frz (i := 0) rfl n13, S247.frzS (i := 0) rfl, frzL (Cl.mono _ (s244.tr s248) h242) (S247.atB (i := 0) rfl)⟩
      refine w_ret ?_
      refine w_ev (Ev.var rfl) ?_
      obtain rfl := Option.some.inj hm
      exact k _ _ _  S251 (Rl.mono _ (s248.tr s252) h246)
end
end Mm
namespace Mm
open PySem L2 Mf
section
variable {P : Program} {w : World} {K : PySem.W.Frag} {mg : Str → Option Value} {base : Heap} {cx : Nat → Addr}
abbrev n_Result___init__ : List Str := ["self", "rows", "table", "row"]
theorem sc_Result___init__ : FnScope n_Result___init__ ["self", "rows"] (defScope s_Result___init__) := ⟨rfl, rfl, rfl, by decide +kernel, rfl, by decide +kernel, by decide +kernel⟩
def m_Result___init__ (x_1 : (List (List (List PyData)))) : Option O_Result :=
  (m_check_rows ((x_1.map (fun (a5 : (List (List PyData))) => a5)))).bind fun r45 =>
  (m_canonical_rows ((x_1.map (fun (a5 : (List (List PyData))) => a5))) ((0 : Int))).bind fun r53 =>
  some r53
def sp_Result___init__ (K : PySem.W.Frag) (C_Result : Addr) : Sp := fun vs H Q E => ∃ (x_1 : (List (List (List PyData)))) (r : O_Result), m_Result___init__ x_1 = some r ∧ SpI C_Result (fun B ws => ∃ v_1, ws = [v_1] ∧ (dSeq K (dSeq K (dTup K (dAny K)))).rel B x_1 v_1) (fun B' fs => (F_Result K C_Result).rel B' r fs) vs H Q E
theorem mk_Result___init__ {K : PySem.W.Frag} {C_Result : Addr} {Φ : Fr} {B H : Hp} {cs : List (Addr × HO)} {Q : VK} {E : XK} {r : O_Result} {x_1 : (List (List (List PyData)))} {v_1 : V} (Z : Sit Φ B H cs) (h_1 : (dSeq K (dSeq K (dTup K (dAny K)))).rel B x_1 v_1) (hm : m_Result___init__ x_1 = some r) (k : ∀ v B' H', Sit Φ B' H' cs → Same B B' → (dO_Result K C_Result).rel B' r v → Q v H') : MkB C_Result (sp_Result___init__ K C_Result ) E Q ([v_1] ++ []) H := by
  exact fun x dx nx ndx ne => ⟨x_1, r, hm, mkObj Z (fun B' e => ⟨v_1, rfl, (dSeq K (dSeq K (dTup K (dAny K)))).mono e h_1⟩) (fun _ _ q => q) k x dx nx ndx ne⟩
theorem ok_Result___init__ {C_Result : Addr} (A0 : MkAt K C_Result "Result.__init__" s_Result___init__ ["self", "rows"]) (T_Result : ClsF K mg "Result" C_Result) (b_list : mg "list" = none) (nA_Result_table : NoAttr K C_Result "table") (D_check_rows : Does P w K mg base CX0 3 "check_rows" ["rows"] (sp_check_rows K )) (D_canonical_rows : Does P w K mg base CX0 3 "canonical_rows" ["table", "start"] (sp_canonical_rows K )) : MkDoes P w K mg base CX0 4 "Result" C_Result ["self", "rows"] [] (sp_Result___init__ K C_Result ) := by
  obtain ⟨f, fd, F, mk, bd⟩ := A0
  have cl_Result := T_Result.ic.cl
  have g_Result := T_Result.g
  obtain ⟨f_check_rows, fd_check_rows, G_check_rows, g_check_rows, kp_check_rows, bd_check_rows⟩ := D_check_rows
  obtain ⟨f_canonical_rows, fd_canonical_rows, G_canonical_rows, g_canonical_rows, kp_canonical_rows, bd_canonical_rows⟩ := D_canonical_rows
  refine ⟨f, fd, [], mk, ?_, bd, .nil, T_Result.g⟩
  refine F.ok sc_Result___init__ (fun vs H Q E h => ?_) (fun cdv A outer s H vs Q E hr h => ?_)
  · obtain ⟨_, _, _, _, _, _, _, rfl, _, _, _, ⟨_, rfl, _⟩, _⟩ := h
    rfl
  · obtain ⟨x_1, r, hm, B, p_0, dx, ws, rfl, sB, hp_0, hb_0, ⟨v_1, rfl, hx_1⟩, k⟩ := h
    have hu := hu_of hr
    refine ⟨_, (pss_cons (ps_setLc (i := 2) (own := [("row", 3)]) (tt := tYes) rfl sc_Result___init__.nd rfl rfl (sw_true rfl rfl rfl (by decide +kernel)) (k_iQ K (pv 1)) (blkOk_by (own := [("row", 3)]) (N := n_Result___init__) (sc := defScope s_Result___init__) (by decide +kernel)) (fun _ _ _ _ _ => (pg_name (i := 3) sc_Result___init__.nd rfl (Or.inl rfl))) (fun _ _ _ _ _ => pts_nil) (fun _ _ _ _ _ => (pe_callTy (k_list K) (by rfl) b_list (by decide +kernel) (pa_cons (pv 3) pa_nil))))
  (pss_cons (ps_expr (pe_call G_check_rows (hr.mono (by decide)) rfl g_check_rows kp_check_rows bd_check_rows .nil pass0 (pa_cons (pv 2) pa_nil)))
  (pss_one (k_sfld K (pv 0) (pe_call G_canonical_rows (hr.mono (by decide)) rfl g_canonical_rows kp_canonical_rows bd_canonical_rows .nil pass0 (pa_cons (pv 2) (pa_cons pe_int pa_nil))) rfl)))), ?_⟩
    obtain ⟨B0, hB0⟩ : ∃ B0 : Hp, B0 = B := ⟨_, rfl⟩
    subst hB0
    have S0 := Sit.start1 sB hp_0 hb_0
    unfold m_Result___init__ at hm
    refine w_sig (σ' := [(some (.ref p_0)), (some v_1), none, none]) rfl ?_
    refine w_seq ?_
    refine w_asg ?_
    refine w_lc ?_
    refine x_iQ ?_
    refine w_ev (Ev.var rfl) ?_
    refine w_itQ hx_1 S0.sub fun J1 it2 => ?_
    refine lcR (P := (dList (dTup K (dAny K)))) it2 S0 (dSeq.le hx_1) (lcM_map (fun (a5 : (List (List PyData))) => a5) x_1) (fun _ _ _ Z e _ => e.tr Z.sub) (fun D3 ac4 a5 o6 x7 B10 B11 H12 ma18 S13 s8 s9 h14 ho15 RR16 kk17 => ?_) ?_
    · refine w_turn ?_
      refine w_gname ?_
      refine w_wipe rfl ?_
      refine w_yes ?_
      refine iteT ?_
      refine w_cb ?_
      refine w_evA (EvA.cons (Ev.var rfl) EvA.nil) ?_
      refine q_list S13 (sqQ (K := K) h14 S13.sub) fun v26 B31 H27 S28 s29 h30 => ?_
      obtain rfl := Option.some.inj ho15
      exact kk17 _ _ _ S28 s29 ⟨_, rfl, h30⟩
    · intro p33 B40 H34 o35 S36 s37 n38 h39
      obtain ⟨B43, S41, s42, h44⟩ : ∃ B', Sit _ B' H34 [(p_0, .ins C_Result dx [])] ∧ Same _ B' ∧ (dList (dList (dTup K (dAny K)))).rel B' (x_1.map (fun (a5 : (List (List PyData))) => a5)) (.ref p33) := ⟨_, S36.frz (i := 0) rfl n38, S36.frzS (i := 0) rfl, frzL h39 (S36.atB (i := 0) rfl)⟩
      refine w_gname ?_
      refine w_nx (σ' := [(some (.ref p_0)), (some v_1), (some (.ref p33)), none]) rfl ?_
      refine w_seq ?_
      refine w_drop ?_
      refine w_call ?_
      refine w_evA (EvA.cons (Ev.var rfl) EvA.nil) ?_
      obtain ⟨r45, h46, hm⟩ := bs hm
      refine use_check_rows S41 h44 h46 fun v47 B51 H48  (S49 : Sit _ B51 H48 [(p_0, .ins C_Result dx [])]) s50 h52  => ?_
      cases h52
      refine w_sfld ?_
      refine w_call ?_
      refine w_evA (EvA.cons (Ev.var rfl) (EvA.cons Ev.c EvA.nil)) ?_
      obtain ⟨r53, h54, hm⟩ := bs hm
      refine use_canonical_rows S49 (Rl.mono _ s50 h44) (show dInt.rel _ (0 : Int) (V.int 0) from rfl) h54 fun v55 B59 H56  (S57 : Sit _ B59 H56 [(p_0, .ins C_Result dx [])]) s58 h60  => ?_
      refine w_ev (Ev.var rfl) ?_
      refine q_sfld (i := 0) S57 rfl cl_Result nA_Result_table (by show 0 < 1000; decide) putF_nil fun H61 (S62 : Sit _ B59 H61 [(p_0, .ins C_Result dx [(Str.ofString "table", v55)])]) => ?_
      obtain rfl := Option.some.inj hm
      exact k _ _ _ S62 ⟨_, rfl, h60⟩
abbrev n_Result_rows : List Str := ["self", "row"]
theorem sc_Result_rows : FnScope n_Result_rows ["self"] (defScope s_Result_rows) := ⟨rfl, rfl, rfl, by decide +kernel, rfl, by decide +kernel, by decide +kernel⟩
def m_Result_rows (x_0 : O_Result) : Option (List (List (List PyData))) :=
  some (x_0.map (fun (a11 : (List (List PyData))) => a11))
def sp_Result_rows (K : PySem.W.Frag) (C_Result : Addr) : Sp := fun vs H Q E => ∃ (B : Hp) (x_0 : O_Result) (v_0 : V) (r : (List (List (List PyData)))), vs = [v_0] ∧ Same B H ∧ (dO_Result K C_Result).rel B x_0 v_0 ∧ m_Result_rows x_0 = some r ∧ ∀ (v : V) (B' H' : Hp) , Sit ⟨B, H, []⟩ B' H' [] → (dList (dList (dTup K (dAny K)))).rel B' r v → Q v H'
theorem use_Result_rows {K : PySem.W.Frag} {C_Result : Addr} {Φ : Fr} {B H : Hp} {cs : List (Addr × HO)} {Q : VK} {E : XK} {r : (List (List (List PyData)))} {x_0 : O_Result} {v_0 : V} (Z : Sit Φ B H cs) (h_0 : (dO_Result K C_Result).rel B x_0 v_0) (hm : m_Result_rows x_0 = some r) (k : ∀ (v : V) (B' H' : Hp) , Sit Φ B' H' cs → Same B B' → (dList (dList (dTup K (dAny K)))).rel B' r v → Q v H') : sp_Result_rows K C_Result ([v_0] ++ []) H Q E := by
  exact ⟨B, x_0, v_0, r, rfl, Z.sub, h_0, hm, fun v B' H'  Z' h  => k v B' H'  (Z.call0 Z') Z'.grow h ⟩
theorem ok_Result_rows {C_Result : Addr} (A0 : MethAt K C_Result "rows" "Result.rows" s_Result_rows ["self"]) (T_Result : ClsF K mg "Result" C_Result) (b_list : mg "list" = none) (nA_Result_table : NoAttr K C_Result "table") : MDoes P w K mg base CX0 1 C_Result "rows" ["self"] (sp_Result_rows K C_Result ) := by
  obtain ⟨f, fd, F, me, bd⟩ := A0
  have cl_Result := T_Result.ic.cl
  have g_Result := T_Result.g
  refine ⟨f, fd, ?_, me, bd, F.isIn⟩
  refine F.ok sc_Result_rows (fun vs H Q E h => ?_) (fun cdv A outer s H vs Q E hr h => ?_)
  · obtain ⟨_, _, _, _, rfl, _⟩ := h
    rfl
  · obtain ⟨B, x_0, v_0, r, rfl, sB, hx_0, hm, k⟩ := h
    have hu := hu_of hr
    refine ⟨_, (pss_one (ps_ret (pe_lc (own := [("row", 1)]) (tt := tYes) rfl sc_Result_rows.nd (k_iL K (k_fld K (pv 0) rfl)) (blkOk_by (own := [("row", 1)]) (N := n_Result_rows) (sc := defScope s_Result_rows) (by decide +kernel)) (fun _ _ _ _ _ => (pg_name (i := 1) sc_Result_rows.nd rfl (Or.inl rfl))) (fun _ _ _ _ _ => pts_nil) (fun _ _ _ _ _ => (pe_callTy (k_list K) (by rfl) b_list (by decide +kernel) (pa_cons (pv 1) pa_nil)))))), ?_⟩
    obtain ⟨B0, hB0⟩ : ∃ B0 : Hp, B0 = B := ⟨_, rfl⟩
    subst hB0
    have S0 := Sit.start0 sB
    unfold m_Result_rows at hm
    refine w_sig (σ' := [(some v_0), none]) rfl ?_
    refine w_ret ?_
    refine w_lc ?_
    refine x_iL ?_
    obtain ⟨w7, h8, r6⟩ := fld_Result_table T_Result.ic.cl nA_Result_table hx_0
    refine w_ev (Ev.fld (Ev.var rfl) (r6 _ S0.sub)) ?_
    refine w_itL h8 S0.sub fun J1 it2 => ?_
    refine lcR (P := (dList (dTup K (dAny K)))) it2 S0 (dList.le h8) (lcM_map (fun (a11 : (List (List PyData))) => a11) x_0) (fun _ _ _ Z e _ => e.tr Z.sub) (fun D9 ac10 a11 o12 x13 B16 B17 H18 ma24 S19 s14 s15 h20 ho21 RR22 kk23 => ?_) ?_
    · refine w_turn ?_
      refine w_gname ?_
      refine w_wipe rfl ?_
      refine w_yes ?_
      refine iteT ?_
      refine w_cb ?_
      refine w_evA (EvA.cons (Ev.var rfl) EvA.nil) ?_
      refine q_list S19 (sqL (K := K) h20 S19.sub) fun v32 B37 H33 S34 s35 h36 => ?_
      obtain rfl := Option.some.inj ho21
      exact kk23 _ _ _ S34 s35 ⟨_, rfl, h36⟩
    · intro p39 B46 H40 o41 S42 s43 n44 h45
      obtain ⟨B49, S47, s48, h50⟩ : ∃ B', Sit _ B' H40 [] ∧ Same _ B' ∧ (dList (dList (dTup K (dAny K)))).rel B' (x_0.map (fun (a11 : (List (List PyData))) => a11)) (.ref p39) := ⟨_, S42.frz (i := 0) rfl n44, S42.frzS (i := 0) rfl, frzL h45 (S42.atB (i := 0) rfl)⟩
      obtain rfl := Option.some.inj hm
      exact k _ _ _  S47 h50
abbrev n_Result___eq__ : List Str := ["self", "other"]
theorem sc_Result___eq__ : FnScope n_Result___eq__ ["self", "other"] (defScope s_Result___eq__) := ⟨rfl, rfl, rfl, by decide +kernel, rfl, by decide +kernel, by decide +kernel⟩
def m_Result___eq__ (x_0 : O_Result) (x_1 : O_Result) : Option Bool :=
  (if true = true then (eqD ((fun xs => PyData.list (xs.map (fun xs => PyData.list (xs.map (fun xs => PyData.tuple (xs.map id)))))) (x_0)) ((fun xs => PyData.list (xs.map (fun xs => PyData.list (xs.map (fun xs => PyData.tuple (xs.map id)))))) (x_1))).bind fun b18 =>
  some b18 else some false).bind fun c8 =>
  some c8
def sp_Result___eq__ (K : PySem.W.Frag) (C_Result : Addr) : Sp := fun vs H Q E => ∃ (B : Hp) (x_0 : O_Result) (v_0 : V) (x_1 : O_Result) (v_1 : V) (r : Bool), vs = [v_0, v_1] ∧ Same B H ∧ (dO_Result K C_Result).rel B x_0 v_0 ∧ (dO_Result K C_Result).rel B x_1 v_1 ∧ m_Result___eq__ x_0 x_1 = some r ∧ ∀ (v : V) (B' H' : Hp) , Sit ⟨B, H, []⟩ B' H' [] → dBool.rel B' r v → Q v H'
theorem use_Result___eq__ {K : PySem.W.Frag} {C_Result : Addr} {Φ : Fr} {B H : Hp} {cs : List (Addr × HO)} {Q : VK} {E : XK} {r : Bool} {x_0 : O_Result} {v_0 : V} {x_1 : O_Result} {v_1 : V} (Z : Sit Φ B H cs) (h_0 : (dO_Result K C_Result).rel B x_0 v_0) (h_1 : (dO_Result K C_Result).rel B x_1 v_1) (hm : m_Result___eq__ x_0 x_1 = some r) (k : ∀ (v : V) (B' H' : Hp) , Sit Φ B' H' cs → Same B B' → dBool.rel B' r v → Q v H') : sp_Result___eq__ K C_Result ([v_0, v_1] ++ []) H Q E := by
  exact ⟨B, x_0, v_0, x_1, v_1, r, rfl, Z.sub, h_0, h_1, hm, fun v B' H'  Z' h  => k v B' H'  (Z.call0 Z') Z'.grow h ⟩
theorem ok_Result___eq__ {C_Result : Addr} (A0 : MethAt K C_Result "__eq__" "Result.__eq__" s_Result___eq__ ["self", "other"]) (T_Result : ClsF K mg "Result" C_Result) (b_isinstance : mg "isinstance" = none) (nA_Result_table : NoAttr K C_Result "table") : MDoes P w K mg base CX0 1 C_Result "__eq__" ["self", "other"] (sp_Result___eq__ K C_Result ) := by
  obtain ⟨f, fd, F, me, bd⟩ := A0
  have cl_Result := T_Result.ic.cl
  have g_Result := T_Result.g
  refine ⟨f, fd, ?_, me, bd, F.isIn⟩
  refine F.ok sc_Result___eq__ (fun vs H Q E h => ?_) (fun cdv A outer s H vs Q E hr h => ?_)
  · obtain ⟨_, _, _, _, _, _, rfl, _⟩ := h
    rfl
  · obtain ⟨B, x_0, v_0, x_1, v_1, r, rfl, sB, hx_0, hx_1, hm, k⟩ := h
    have hu := hu_of hr
    refine ⟨_, (pss_one (ps_ret (pe_and (pe_callB (k_isi K) (by rfl) b_isinstance (by decide +kernel) (pa_cons (pv 1) (pa_cons (pe_glob (v := .ref C_Result) rfl g_Result rfl) pa_nil))) (pe_one (pe_cmpR (k_eqD K hr.units) (k_fld K (pv 0) rfl) (k_fld K (pv 1) rfl) (nomark _)))))), ?_⟩
    obtain ⟨B0, hB0⟩ : ∃ B0 : Hp, B0 = B := ⟨_, rfl⟩
    subst hB0
    have S0 := Sit.start0 sB
    unfold m_Result___eq__ at hm
    refine w_sig (σ' := [(some v_0), (some v_1)]) rfl ?_
    refine w_ret ?_
    obtain ⟨c8, hc9, hm⟩ := bs hm
    refine cutE (fun v H' => v = V.bl c8 ∧ ∃ (B' : Hp), Sit (Fr.mk B0 H []) B' H' [] ∧ Same B0 B') (fun kk10 => ?_) ?_
    · refine w_andV ?_
      refine w_ev (Ev.cb (EvA.cons (Ev.var rfl) (EvA.cons Ev.c EvA.nil)) (isi_o T_Result.ic hx_1 S0.sub T_Result.ic.me)) ?_
      refine w_bl ?_
      refine w_ifb (fun h11 => ?_) (fun h11 => ?_)
      · rw [ifT h11] at hc9
        obtain ⟨w13, h14, r12⟩ := fld_Result_table T_Result.ic.cl nA_Result_table hx_0
        obtain ⟨w16, h17, r15⟩ := fld_Result_table T_Result.ic.cl nA_Result_table hx_1
        obtain ⟨b18, hb18, hc9⟩ := bs hc9
        refine w_ev (Ev.op (Ev.fld (Ev.var rfl) (r12 _ S0.sub)) (Ev.fld (Ev.var rfl) (r15 _ S0.sub)) (rv_eqD (drL (drL (drT drAny))) (drL (drL (drT drAny))) (Rl.mono _ S0.sub h14) (Rl.mono _ S0.sub h17) hb18)) ?_
        obtain rfl := Option.some.inj hc9
        exact kk10 _ _ ⟨rfl, _, S0, (Same.rf _)⟩
      · rw [ifF h11] at hc9
        obtain rfl := Option.some.inj hc9
        exact kk10 _ _ ⟨rfl, _, S0, (Same.rf _)⟩
    · rintro _ H19 ⟨rfl, B22, S20, s21⟩
      obtain rfl := Option.some.inj hm
      exact k _ _ _  S20 (show dBool.rel _ c8 (V.bl c8) from rfl)
abbrev n_Result___eq___a : List Str := ["self", "other"]
theorem sc_Result___eq___a : FnScope n_Result___eq___a ["self", "other"] (defScope s_Result___eq__) := ⟨rfl, rfl, rfl, by decide +kernel, rfl, by decide +kernel, by decide +kernel⟩
def m_Result___eq___a (x_0 : O_Result) (x_1 : PyData) : Option Bool :=
  (some false).bind fun c4 =>
  some c4
def sp_Result___eq___a (K : PySem.W.Frag) (C_Result : Addr) : Sp := fun vs H Q E => ∃ (B : Hp) (x_0 : O_Result) (v_0 : V) (x_1 : PyData) (v_1 : V) (r : Bool), vs = [v_0, v_1] ∧ Same B H ∧ (dO_Result K C_Result).rel B x_0 v_0 ∧ (dAny K).rel B x_1 v_1 ∧ m_Result___eq___a x_0 x_1 = some r ∧ ∀ (v : V) (B' H' : Hp) , Sit ⟨B, H, []⟩ B' H' [] → dBool.rel B' r v → Q v H'
theorem use_Result___eq___a {K : PySem.W.Frag} {C_Result : Addr} {Φ : Fr} {B H : Hp} {cs : List (Addr × HO)} {Q : VK} {E : XK} {r : Bool} {x_0 : O_Result} {v_0 : V} {x_1 : PyData} {v_1 : V} (Z : Sit Φ B H cs) (h_0 : (dO_Result K C_Result).rel B x_0 v_0) (h_1 : (dAny K).rel B x_1 v_1) (hm : m_Result___eq___a x_0 x_1 = some r) (k : ∀ (v : V) (B' H' : Hp) , Sit Φ B' H' cs → Same B B' → dBool.rel B' r v → Q v H') : sp_Result___eq___a K C_Result ([v_0, v_1] ++ []) H Q E := by
  exact ⟨B, x_0, v_0, x_1, v_1, r, rfl, Z.sub, h_0, h_1, hm, fun v B' H'  Z' h  => k v B' H'  (Z.call0 Z') Z'.grow h ⟩
theorem ok_Result___eq___a {C_Result : Addr} (A0 : MethAt K C_Result "__eq__" "Result.__eq__" s_Result___eq__ ["self", "other"]) (T_Result : ClsF K mg "Result" C_Result) (b_isinstance : mg "isinstance" = none) (nA_Result_table : NoAttr K C_Result "table") (kit_NoneType_Result : PySem.W.kitOne K (.type "NoneType") (.ref C_Result) = some false) (kit_bool_Result : PySem.W.kitOne K (.type "bool") (.ref C_Result) = some false) (kit_int_Result : PySem.W.kitOne K (.type "int") (.ref C_Result) = some false) (kit_list_Result : PySem.W.kitOne K (.type "list") (.ref C_Result) = some false) (kit_str_Result : PySem.W.kitOne K (.type "str") (.ref C_Result) = some false) (kit_tuple_Result : PySem.W.kitOne K (.type "tuple") (.ref C_Result) = some false) : MDoes P w K mg base CX0 1 C_Result "__eq__" ["self", "other"] (sp_Result___eq___a K C_Result ) := by
  obtain ⟨f, fd, F, me, bd⟩ := A0
  have cl_Result := T_Result.ic.cl
  have g_Result := T_Result.g
  refine ⟨f, fd, ?_, me, bd, F.isIn⟩
  refine F.ok sc_Result___eq___a (fun vs H Q E h => ?_) (fun cdv A outer s H vs Q E hr h => ?_)
  · obtain ⟨_, _, _, _, _, _, rfl, _⟩ := h
    rfl
  · obtain ⟨B, x_0, v_0, x_1, v_1, r, rfl, sB, hx_0, hx_1, hm, k⟩ := h
    have hu := hu_of hr
    refine ⟨_, (pss_one (ps_ret (pe_and (pe_callB (k_isi K) (by rfl) b_isinstance (by decide +kernel) (pa_cons (pv 1) (pa_cons (pe_glob (v := .ref C_Result) rfl g_Result rfl) pa_nil))) (pe_one (pe_cmpR (k_eqD K hr.units) (k_fld K (pv 0) rfl) (k_fld K (pv 1) rfl) (nomark _)))))), ?_⟩
    obtain ⟨B0, hB0⟩ : ∃ B0 : Hp, B0 = B := ⟨_, rfl⟩
    subst hB0
    have S0 := Sit.start0 sB
    unfold m_Result___eq___a at hm
    refine w_sig (σ' := [(some v_0), (some v_1)]) rfl ?_
    refine w_ret ?_
    obtain ⟨c4, hc5, hm⟩ := bs hm
    refine cutE (fun v H' => v = V.bl c4 ∧ ∃ (B' : Hp), Sit (Fr.mk B0 H []) B' H' [] ∧ Same B0 B') (fun kk6 => ?_) ?_
    · refine w_andV ?_
      refine w_ev (Ev.cb (EvA.cons (Ev.var rfl) (EvA.cons Ev.c EvA.nil)) (isi_aC (Rl.mono _ S0.sub hx_1) kit_NoneType_Result kit_bool_Result kit_int_Result kit_str_Result kit_list_Result kit_tuple_Result)) ?_
      refine w_bl ?_
      refine w_ifb (fun h7 => ?_) (fun h7 => ?_)
      · cases h7
      · obtain rfl := Option.some.inj hc5
        exact kk6 _ _ ⟨rfl, _, S0, (Same.rf _)⟩
    · rintro _ H8 ⟨rfl, B11, S9, s10⟩
      obtain rfl := Option.some.inj hm
      exact k _ _ _  S9 (show dBool.rel _ c4 (V.bl c4) from rfl)
abbrev n_Result___len__ : List Str := ["self"]
theorem sc_Result___len__ : FnScope n_Result___len__ ["self"] (defScope s_Result___len__) := ⟨rfl, rfl, rfl, by decide +kernel, rfl, by decide +kernel, by decide +kernel⟩
def m_Result___len__ (x_0 : O_Result) : Option Int :=
  (atI x_0 (0 : Int)).bind fun x4 =>
  some (x4.length : Int)
def sp_Result___len__ (K : PySem.W.Frag) (C_Result : Addr) : Sp := fun vs H Q E => ∃ (B : Hp) (x_0 : O_Result) (v_0 : V) (r : Int), vs = [v_0] ∧ Same B H ∧ (dO_Result K C_Result).rel B x_0 v_0 ∧ m_Result___len__ x_0 = some r ∧ ∀ (v : V) (B' H' : Hp) , Sit ⟨B, H, []⟩ B' H' [] → dInt.rel B' r v → Q v H'
theorem use_Result___len__ {K : PySem.W.Frag} {C_Result : Addr} {Φ : Fr} {B H : Hp} {cs : List (Addr × HO)} {Q : VK} {E : XK} {r : Int} {x_0 : O_Result} {v_0 : V} (Z : Sit Φ B H cs) (h_0 : (dO_Result K C_Result).rel B x_0 v_0) (hm : m_Result___len__ x_0 = some r) (k : ∀ (v : V) (B' H' : Hp) , Sit Φ B' H' cs → Same B B' → dInt.rel B' r v → Q v H') : sp_Result___len__ K C_Result ([v_0] ++ []) H Q E := by
  exact ⟨B, x_0, v_0, r, rfl, Z.sub, h_0, hm, fun v B' H'  Z' h  => k v B' H'  (Z.call0 Z') Z'.grow h ⟩
theorem ok_Result___len__ {C_Result : Addr} (A0 : MethAt K C_Result "__len__" "Result.__len__" s_Result___len__ ["self"]) (T_Result : ClsF K mg "Result" C_Result) (b_len : mg "len" = none) (nA_Result_table : NoAttr K C_Result "table") : MDoes P w K mg base CX0 1 C_Result "__len__" ["self"] (sp_Result___len__ K C_Result ) := by
  obtain ⟨f, fd, F, me, bd⟩ := A0
  have cl_Result := T_Result.ic.cl
  have g_Result := T_Result.g
  refine ⟨f, fd, ?_, me, bd, F.isIn⟩
  refine F.ok sc_Result___len__ (fun vs H Q E h => ?_) (fun cdv A outer s H vs Q E hr h => ?_)
  · obtain ⟨_, _, _, _, rfl, _⟩ := h
    rfl
  · obtain ⟨B, x_0, v_0, r, rfl, sB, hx_0, hm, k⟩ := h
    have hu := hu_of hr
    refine ⟨_, (pss_one (ps_ret (pe_callB (k_len K) (by rfl) b_len (by decide +kernel) (pa_cons (pe_ix (k_ixL K) (k_fld K (pv 0) rfl) pe_int (fun _ _ => rfl)) pa_nil)))), ?_⟩
    obtain ⟨B0, hB0⟩ : ∃ B0 : Hp, B0 = B := ⟨_, rfl⟩
    subst hB0
    have S0 := Sit.start0 sB
    unfold m_Result___len__ at hm
    refine w_sig (σ' := [(some v_0)]) rfl ?_
    refine w_ret ?_
    obtain ⟨w2, h3, r1⟩ := fld_Result_table T_Result.ic.cl nA_Result_table hx_0
    obtain ⟨x4, hx4, hm⟩ := bs hm
    obtain ⟨w6, h7, r5⟩ := ix_L (K := K) h3 hx4
    refine w_ev (Ev.cb (EvA.cons (Ev.op (Ev.fld (Ev.var rfl) (r1 _ S0.sub)) Ev.c (r5 _ S0.sub)) EvA.nil) (rlen_q (sqL (K := K) h7 S0.sub))) ?_
    obtain rfl := Option.some.inj hm
    exact k _ _ _  S0 (show dInt.rel _ (x4.length : Int) (V.int (x4.length : Int)) from rfl)
abbrev n_item_text : List Str := ["item"]
theorem sc_item_text : FnScope n_item_text ["item"] (defScope s_item_text) := ⟨rfl, rfl, rfl, by decide +kernel, rfl, by decide +kernel, by decide +kernel⟩
def m_item_text (x_0 : (List PyData)) : Option Str :=
  (atI x_0 (0 : Int)).bind fun x1 =>
  (eqD x1 (PyData.str (Str.ofString "gap"))).bind fun b5 =>
  if b5 = true then some (Str.ofString "-") else (atI x_0 (0 : Int)).bind fun x7 =>
  (eqD x7 (PyData.str (Str.ofString "node"))).bind fun b11 =>
  if b11 = true then (fcat Str.empty (Str.ofString "@")).bind fun z13 =>
  (atI x_0 (1 : Int)).bind fun x15 =>
  (fmtD x15).bind fun z19 =>
  (fcat z13 z19).bind fun z21 =>
  some z21 else (atI x_0 (1 : Int)).bind fun x23 =>
  (strD x23).bind fun x27 =>
  some x27
def sp_item_text (K : PySem.W.Frag) : Sp := fun vs H Q E => ∃ (B : Hp) (x_0 : (List PyData)) (v_0 : V) (r : Str), vs = [v_0] ∧ Same B H ∧ (dTup K (dAny K)).rel B x_0 v_0 ∧ m_item_text x_0 = some r ∧ ∀ (v : V) (B' H' : Hp) , Sit ⟨B, H, []⟩ B' H' [] → dStr.rel B' r v → Q v H'
theorem use_item_text {K : PySem.W.Frag} {Φ : Fr} {B H : Hp} {cs : List (Addr × HO)} {Q : VK} {E : XK} {r : Str} {x_0 : (List PyData)} {v_0 : V} (Z : Sit Φ B H cs) (h_0 : (dTup K (dAny K)).rel B x_0 v_0) (hm : m_item_text x_0 = some r) (k : ∀ (v : V) (B' H' : Hp) , Sit Φ B' H' cs → Same B B' → dStr.rel B' r v → Q v H') : sp_item_text K ([v_0] ++ []) H Q E := by
  exact ⟨B, x_0, v_0, r, rfl, Z.sub, h_0, hm, fun v B' H'  Z' h  => k v B' H'  (Z.call0 Z') Z'.grow h ⟩
theorem ok_item_text (A0 : DefAt K mg "item_text" s_item_text ["item"]) (b_str : mg "str" = none) : Does P w K mg base CX0 1 "item_text" ["item"] (sp_item_text K ) := by
  obtain ⟨f, fd, F, gm, bd⟩ := A0
  refine ⟨f, fd, ?_, gm, F.kp, bd⟩
  refine F.ok sc_item_text (fun vs H Q E h => ?_) (fun cdv A outer s H vs Q E hr h => ?_)
  · obtain ⟨_, _, _, _, rfl, _⟩ := h
    rfl
  · obtain ⟨B, x_0, v_0, r, rfl, sB, hx_0, hm, k⟩ := h
    have hu := hu_of hr
    refine ⟨_, (pss_cons (ps_if (pt_cmpR (k_eqD K hr.units) (pe_ix (k_ixT K) (pv 0) pe_int (fun _ _ => rfl)) pe_str (nomark _)) (pss_one (ps_ret pe_str)) pss_nil)
  (pss_cons (ps_if (pt_cmpR (k_eqD K hr.units) (pe_ix (k_ixT K) (pv 0) pe_int (fun _ _ => rfl)) pe_str (nomark _)) (pss_one (ps_ret (e_joined (PJ.cons pe_str (PJ.cons (pe_fmt (pe_ix (k_ixT K) (pv 0) pe_int (fun _ _ => rfl))) PJ.nil))))) pss_nil)
  (pss_one (ps_ret (pe_callTy c_strA (by rfl) b_str (by decide +kernel) (pa_cons (pe_ix (k_ixT K) (pv 0) pe_int (fun _ _ => rfl)) pa_nil)))))), ?_⟩
    obtain ⟨B0, hB0⟩ : ∃ B0 : Hp, B0 = B := ⟨_, rfl⟩
    subst hB0
    have S0 := Sit.start0 sB
    unfold m_item_text at hm
    refine w_sig (σ' := [(some v_0)]) rfl ?_
    refine w_seq ?_
    refine w_ifS ?_
    obtain ⟨x1, hx1, hm⟩ := bs hm
    obtain ⟨w3, h4, r2⟩ := ix_T (K := K) hx_0 hx1
    obtain ⟨b5, hb5, hm⟩ := bs hm
    refine w_evT (EvT.test (Ev.op (Ev.op (Ev.var rfl) Ev.c (r2 _ S0.sub)) Ev.c (rv_eqD drAny drStr (Rl.mono _ S0.sub h4) (Rl.mono _ S0.sub (show dStr.rel _ (Str.ofString "gap") (V.str (Str.ofString "gap")) from rfl)) hb5))) ?_
    refine w_ifb (fun h6 => ?_) (fun h6 => ?_)
    · rw [ifT h6] at hm
      refine w_ret ?_
      refine w_ev Ev.c ?_
      obtain rfl := Option.some.inj hm
      exact k _ _ _  S0 (show dStr.rel _ (Str.ofString "-") (V.str (Str.ofString "-")) from rfl)
    · rw [ifF h6] at hm
      refine w_next ?_
      refine w_seq ?_
      refine w_ifS ?_
      obtain ⟨x7, hx7, hm⟩ := bs hm
      obtain ⟨w9, h10, r8⟩ := ix_T (K := K) hx_0 hx7
      obtain ⟨b11, hb11, hm⟩ := bs hm
      refine w_evT (EvT.test (Ev.op (Ev.op (Ev.var rfl) Ev.c (r8 _ S0.sub)) Ev.c (rv_eqD drAny drStr (Rl.mono _ S0.sub h10) (Rl.mono _ S0.sub (show dStr.rel _ (Str.ofString "node") (V.str (Str.ofString "node")) from rfl)) hb11))) ?_
      refine w_ifb (fun h12 => ?_) (fun h12 => ?_)
      · rw [ifT h12] at hm
        refine w_ret ?_
        refine w_joined ?_
        refine x_js ?_
        refine w_ev Ev.c ?_
        obtain ⟨z13, h14, hm⟩ := bs hm
        refine x_jx h14 ?_
        refine x_js ?_
        refine x_fmt ?_
        obtain ⟨x15, hx15, hm⟩ := bs hm
        obtain ⟨w17, h18, r16⟩ := ix_T (K := K) hx_0 hx15
        refine w_ev (Ev.op (Ev.var rfl) Ev.c (r16 _ S0.sub)) ?_
        obtain ⟨z19, h20, hm⟩ := bs hm
        refine x_fmtD h18 h20 ?_
        obtain ⟨z21, h22, hm⟩ := bs hm
        refine x_jx h22 ?_
        refine w_js0 ?_
        obtain rfl := Option.some.inj hm
        exact k _ _ _  S0 (show dStr.rel _ z21 (V.str z21) from rfl)
      · rw [ifF h12] at hm
        refine w_next ?_
        refine w_ret ?_
        obtain ⟨x23, hx23, hm⟩ := bs hm
        obtain ⟨w25, h26, r24⟩ := ix_T (K := K) hx_0 hx23
        obtain ⟨x27, hx27, hm⟩ := bs hm
        refine w_ev (Ev.cb (EvA.cons (Ev.op (Ev.var rfl) Ev.c (r24 _ S0.sub)) EvA.nil) (rstrA h26 hx27)) ?_
        obtain rfl := Option.some.inj hm
        exact k _ _ _  S0 (show dStr.rel _ x27 (V.str x27) from rfl)
abbrev n_Result_text : List Str := ["self", "lines", "index", "row", "item"]
theorem sc_Result_text : FnScope n_Result_text ["self"] (defScope s_Result_text) := ⟨rfl, rfl, rfl, by decide +kernel, rfl, by decide +kernel, by decide +kernel⟩
def m_Result_text (x_0 : O_Result) : Option Str :=
  (forL (fun (a17 : (Int × (List (List PyData)))) (st18 : (List Str)) => (strI a17.1).bind fun z47 =>
  (fcat Str.empty z47).bind fun z49 =>
  (fcat z49 (Str.ofString ":")).bind fun z51 =>
  (lcM (fun (a57 : (List PyData)) => (fcat Str.empty (Str.ofString " ")).bind fun z72 =>
  (m_item_text (a57)).bind fun r74 =>
  (fmtS r74).bind fun z82 =>
  (fcat z72 z82).bind fun z84 =>
  some (some z84)) a17.2).bind fun ys87 =>
  (capM ((z51 :: (ys87 ++ [])) : (List Str))).bind fun r103 =>
  (joinM (Str.ofString "") r103).bind fun x111 =>
  (pushM st18 x111).bind fun x112 =>
  some x112) (enumM 0 x_0) ([] : (List Str))).bind fun st124 =>
  (joinM (Str.ofString "\n") st124).bind fun x133 =>
  some x133
def sp_Result_text (K : PySem.W.Frag) (C_Result : Addr) : Sp := fun vs H Q E => ∃ (B : Hp) (x_0 : O_Result) (v_0 : V) (r : Str), vs = [v_0] ∧ Same B H ∧ (dO_Result K C_Result).rel B x_0 v_0 ∧ m_Result_text x_0 = some r ∧ ∀ (v : V) (B' H' : Hp) , Sit ⟨B, H, []⟩ B' H' [] → dStr.rel B' r v → Q v H'
theorem use_Result_text {K : PySem.W.Frag} {C_Result : Addr} {Φ : Fr} {B H : Hp} {cs : List (Addr × HO)} {Q : VK} {E : XK} {r : Str} {x_0 : O_Result} {v_0 : V} (Z : Sit Φ B H cs) (h_0 : (dO_Result K C_Result).rel B x_0 v_0) (hm : m_Result_text x_0 = some r) (k : ∀ (v : V) (B' H' : Hp) , Sit Φ B' H' cs → Same B B' → dStr.rel B' r v → Q v H') : sp_Result_text K C_Result ([v_0] ++ []) H Q E := by
  exact ⟨B, x_0, v_0, r, rfl, Z.sub, h_0, hm, fun v B' H'  Z' h  => k v B' H'  (Z.call0 Z') Z'.grow h ⟩
theorem ok_Result_text {C_Result : Addr} (A0 : MethAt K C_Result "text" "Result.text" s_Result_text ["self"]) (T_Result : ClsF K mg "Result" C_Result) (b_enumerate : mg "enumerate" = none) (nA_Result_table : NoAttr K C_Result "table") (D_item_text : Does P w K mg base CX0 1 "item_text" ["item"] (sp_item_text K )) : MDoes P w K mg base CX0 2 C_Result "text" ["self"] (sp_Result_text K C_Result ) := by
  obtain ⟨f, fd, F, me, bd⟩ := A0
  have cl_Result := T_Result.ic.cl
  have g_Result := T_Result.g
  obtain ⟨f_item_text, fd_item_text, G_item_text, g_item_text, kp_item_text, bd_item_text⟩ := D_item_text
  refine ⟨f, fd, ?_, me, bd, F.isIn⟩
  refine F.ok sc_Result_text (fun vs H Q E h => ?_) (fun cdv A outer s H vs Q E hr h => ?_)
  · obtain ⟨_, _, _, _, rfl, _⟩ := h
    rfl
  · obtain ⟨B, x_0, v_0, r, rfl, sB, hx_0, hm, k⟩ := h
    have hu := hu_of hr
    refine ⟨_, (pss_cons (ps_set (i := 1) sc_Result_text.nd rfl (Or.inl rfl) (pe_lst pa_nil))
  (pss_cons (ps_for PassesOwn.never rfl (k_iE K (by rfl) b_enumerate (pa_cons (k_fld K (pv 0) rfl) pa_nil)) (k_gT K (n := 2) (by rfl) (pgs_cons (pg_name (i := 2) sc_Result_text.nd rfl (Or.inl rfl)) (pgs_cons (pg_name (i := 3) sc_Result_text.nd rfl (Or.inl rfl)) pgs_nil)))
  (pss_one (ps_expr (k_bm K PySem.F.plainAttrs_list PySem.F.slot_list_append PySem.F.type_list_append mt_append (pv 1) (pa_cons (k_join K pe_str (pe_lst (pa_cons (e_joined (PJ.cons (pe_fmt (pv 2)) (PJ.cons pe_str PJ.nil))) (k_star K (pe_lc (own := [("item", 4)]) (tt := tYes) rfl sc_Result_text.nd (k_iL K (pv 3)) (blkOk_by (own := [("item", 4)]) (N := n_Result_text) (sc := defScope s_Result_text) (by decide +kernel)) (fun _ _ _ _ _ => (pg_name (i := 4) sc_Result_text.nd rfl (Or.inl rfl))) (fun _ _ _ _ _ => pts_nil) (fun _ _ _ _ _ => (e_joined (PJ.cons pe_str (PJ.cons (pe_fmt (pe_call G_item_text (hr.mono (by decide)) rfl g_item_text kp_item_text bd_item_text .nil pass0 (pa_cons (pv 4) pa_nil))) PJ.nil))))) pa_nil)))) pa_nil)))))
  (pss_one (ps_ret (k_join K pe_str (pv 1)))))), ?_⟩
    obtain ⟨B0, hB0⟩ : ∃ B0 : Hp, B0 = B := ⟨_, rfl⟩
    subst hB0
    have S0 := Sit.start0 sB
    unfold m_Result_text at hm
    refine w_sig (σ' := [(some v_0), none, none, none, none]) rfl ?_
    refine w_seq ?_
    refine w_asg ?_
    refine x_lst ?_
    refine w_nil ?_
    refine mkO (R := dStr) (xs := []) S0 .nil (by show 0 ≤ BIG; decide) fun p1 o2 H3 S4 n5 h6 => ?_
    refine w_gname ?_
    refine w_nx (σ' := [(some v_0), (some (.ref p1)), none, none, none]) rfl ?_
    refine w_seq ?_
    refine w_for ?_
    refine x_iE ?_
    obtain ⟨w10, h11, r9⟩ := fld_Result_table T_Result.ic.cl nA_Result_table hx_0
    refine w_evA (EvA.cons (Ev.fld (Ev.var rfl) (r9 _ S4.sub)) EvA.nil) ?_
    refine w_itE h11 S4.sub fun J7 it8 => ?_
    obtain ⟨st124, hl134, hm⟩ := bs hm
    refine forS (s0 := ([] : (List Str))) it8 S4 (fun (st12 : (List Str)) b σ' cs' => ∃ (e13 : Option V) (e14 : Option V) (o15 : HO), σ' = [(some v_0), (some (.ref p1)), e13, e14, none] ∧ cs' = [(p1, o15)] ∧ (cList dStr).rel b st12 o15 ∧ True) ⟨_, _, _, rfl, rfl, h6, trivial⟩ hl134 (fun _ _ _ _ _ Z e _ => e.tr Z.sub) (fun a17 st18 o19 x20 B30 B35 H21 _ cs22 ma23 S24 s25 s26 hI27 h28 hf29 => ?_) ?_
    · obtain ⟨e31, e32, o33, rfl, rfl, h34, -⟩ := hI27
      obtain ⟨w42, w44, h43, h45, hu46⟩ := un_p (K := K) h28
      refine w_gun (hu46 _ S24.sub) rfl ?_
      refine w_gcons ?_
      cases h43
      refine w_gname ?_
      refine w_gcons ?_
      refine w_gname ?_
      refine w_gnil ?_
      refine w_nx (σ' := [(some v_0), (some (.ref p1)), (some (V.int a17.1)), (some w44), none]) rfl ?_
      refine w_drop ?_
      refine w_bm ?_
      refine w_ev (Ev.var rfl) ?_
      refine w_tyC (Cl.mono _ s26 h34) (S24.at' (i := 0) rfl) ?_
      refine w_cons ?_
      refine w_m1 ?_
      refine w_ev Ev.c ?_
      refine w_exS ?_
      refine x_lst ?_
      refine w_cons ?_
      refine w_joined ?_
      refine x_js ?_
      refine x_fmt ?_
      refine w_ev (Ev.var rfl) ?_
      obtain ⟨z47, h48, hf29⟩ := bs hf29
      refine x_fmtI h48 ?_
      obtain ⟨z49, h50, hf29⟩ := bs hf29
      refine x_jx h50 ?_
      refine x_js ?_
      refine w_ev Ev.c ?_
      obtain ⟨z51, h52, hf29⟩ := bs hf29
      refine x_jx h52 ?_
      refine w_js0 ?_
      refine x_star ?_
      refine w_lc ?_
      refine x_iL ?_
      refine w_ev (Ev.var rfl) ?_
      refine w_itL h45 S24.sub fun J53 it54 => ?_
      obtain ⟨ys87, h88, hf29⟩ := bs hf29
      refine lcR (P := dStr) it54 S24 (dList.le h45) h88 (fun _ _ _ Z e _ => e.tr Z.sub) (fun D55 ac56 a57 o58 x59 B62 B63 H64 ma70 S65 s60 s61 h66 ho67 RR68 kk69 => ?_) ?_
      · refine w_turn ?_
        refine w_gname ?_
        refine w_wipe rfl ?_
        refine w_yes ?_
        refine iteT ?_
        refine w_joined ?_
        refine x_js ?_
        refine w_ev Ev.c ?_
        obtain ⟨z72, h73, ho67⟩ := bs ho67
        refine x_jx h73 ?_
        refine x_js ?_
        refine x_fmt ?_
        refine w_call ?_
        refine w_evA (EvA.cons (Ev.var rfl) EvA.nil) ?_
        obtain ⟨r74, h75, ho67⟩ := bs ho67
        refine use_item_text S65 h66 h75 fun v76 B80 H77  (S78 : Sit _ B80 H77 [(D55, (.lst ac56)), (p1, o33)]) s79 h81  => ?_
        cases h81
        obtain ⟨z82, h83, ho67⟩ := bs ho67
        refine x_fmtS h83 ?_
        obtain ⟨z84, h85, ho67⟩ := bs ho67
        refine x_jx h85 ?_
        refine w_js0 ?_
        obtain rfl := Option.some.inj ho67
        exact kk69 _ _ _ S78 s79 ⟨_, rfl, (show dStr.rel _ z84 (V.str z84) from rfl)⟩
      · intro p89 B96 H90 o91 S92 s93 n94 h95
        obtain ⟨B99, S97, s98, h100⟩ : ∃ B', Sit _ B' H90 [(p1, o33)] ∧ Same _ B' ∧ (dList dStr).rel B' ys87 (.ref p89) := ⟨_, S92.frz (i := 0) rfl n94, S92.frzS (i := 0) rfl, frzL h95 (S92.atB (i := 0) rfl)⟩
        refine q_star (sqL (K := K) h100 S97.sub) fun vs101 hF102 => ?_
        refine w_nil ?_
        obtain ⟨r103, h104, hf29⟩ := bs hf29
        refine mkL S97 (R := dStr) (capM_fa h104 (Fa.cons (show dStr.rel _ z51 (V.str z51) from rfl) (Fa.app hF102 .nil))) (capM_le h104) fun v105 B110 H106 S107 s108 h109 => ?_
        obtain ⟨x111, hx111, hf29⟩ := bs hf29
        refine q_join (sqL (K := K) h109 S107.sub) hx111 ?_
        refine w_nil ?_
        obtain ⟨x112, h113, hf29⟩ := bs hf29
        refine q_append (k := 0) S107 rfl (Cl.mono _ (s26.tr (s93.tr (s98.tr s108))) h34) (show dStr.rel _ x111 (V.str x111) from rfl) h113 fun o114 H115 (S116 : Sit _ B110 H115 [(p1, o114)]) h117 => ?_
        obtain rfl := Option.some.inj hf29
        exact ⟨_, _, S116, (s25.tr (s26.tr (s93.tr (s98.tr s108)))), _, _, _, rfl, rfl, h117, trivial⟩
    · intro B123 H118 _ cs119 S120 s121 hI122
      obtain ⟨e125, e126, o127, rfl, rfl, h128, -⟩ := hI122
      obtain ⟨B131, S129, s130, h132⟩ : ∃ B', Sit _ B' H118 [] ∧ Same _ B' ∧ (dList dStr).rel B' st124 (.ref p1) := ⟨_, S120.frz (i := 0) rfl n5, S120.frzS (i := 0) rfl, frzL h128 (S120.atB (i := 0) rfl)⟩
      refine w_ret ?_
      refine w_m1 ?_
      refine w_ev Ev.c ?_
      refine w_exS ?_
      refine w_ev (Ev.var rfl) ?_
      obtain ⟨x133, hx133, hm⟩ := bs hm
      refine q_join (sqL (K := K) h132 S129.sub) hx133 ?_
      obtain rfl := Option.some.inj hm
      exact k _ _ _  S129 (show dStr.rel _ x133 (V.str x133) from rfl)
end
end Mm
namespace Mm
open PySem L2 Mf
section
variable {P : Program} {w : World} {K : PySem.W.Frag} {mg : Str → Option Value} {base : Heap} {cx : Nat → Addr}
abbrev n_classes : List Str := ["_law_rows", "_law_classes_here", "_law_turn", "_law_signs", "_law_row", "_law_kinds", "_law_sign", "_law_finer", "_law_item_here"]
theorem sc_classes : FnScope n_classes ["_law_rows"] (defScope s_classes) := ⟨rfl, rfl, rfl, by decide +kernel, rfl, by decide +kernel, by decide +kernel⟩
def m_classes (x_0 : (List (List (List PyData)))) : Option (List Int) :=
  (forC (R := (List Int)) (fun (a44 : (List (List PyData))) (st45 : (List Int)) => (forL (fun (a85 : (List (List PyData))) (st86 : (List (List (List PyData)))) => (lcM (fun (a113 : (List PyData)) => ((atI a113 (0 : Int)).bind fun x155 =>
  (eqD x155 (PyData.str (Str.ofString "node"))).bind fun b159 =>
  if b159 = true then (atI a113 (1 : Int)).bind fun x161 =>
  (asI x161).bind fun i165 =>
  (atI st45 i165).bind fun x166 =>
  some ([(PyData.str (Str.ofString "node")), (PyData.int x166)] : (List PyData)) else some a113).bind fun j133 =>
  some (some j133)) a85).bind fun ys181 =>
  (pushM st86 ys181).bind fun x195 =>
  some x195) x_0 ([] : (List (List (List PyData))))).bind fun st207 =>
  (forL (fun (a223 : (List (List PyData))) (st224 : (List (List (List PyData)))) => (inD ((fun xs => PyData.list (xs.map (fun xs => PyData.tuple (xs.map id)))) (a223)) ((st224).map (fun xs => PyData.list (xs.map (fun xs => PyData.tuple (xs.map id)))))).bind fun b247 =>
  if (!b247) = true then (pushM st224 a223).bind fun x249 =>
  some x249 else some st224) st207 ([] : (List (List (List PyData))))).bind fun st261 =>
  (lcM (fun (a269 : (List (List PyData))) => (ixD ((fun xs => PyData.list (xs.map (fun xs => PyData.tuple (xs.map id)))) (a269)) (st261.map (fun xs => PyData.list (xs.map (fun xs => PyData.tuple (xs.map id)))))).bind fun j284 =>
  some (some j284)) st207).bind fun ys287 =>
  (eqD ((fun xs => PyData.list (xs.map PyData.int)) (ys287)) ((fun xs => PyData.list (xs.map PyData.int)) (st45))).bind fun b301 =>
  if b301 = true then some (.brk st45) else some (.nx ys287)) x_0 (x_0.map (fun (a5 : (List (List PyData))) => (0 : Int)))).bind fun c72 =>
  c72.on (fun st311 => some st311) (fun r => some r)
def sp_classes (K : PySem.W.Frag) : Sp := fun vs H Q E => ∃ (B : Hp) (x_0 : (List (List (List PyData)))) (v_0 : V) (r : (List Int)), vs = [v_0] ∧ Same B H ∧ (dList (dList (dTup K (dAny K)))).rel B x_0 v_0 ∧ m_classes x_0 = some r ∧ ∀ (v : V) (B' H' : Hp) , Sit ⟨B, H, []⟩ B' H' [] → (dList dInt).rel B' r v → Q v H'
theorem use_classes {K : PySem.W.Frag} {Φ : Fr} {B H : Hp} {cs : List (Addr × HO)} {Q : VK} {E : XK} {r : (List Int)} {x_0 : (List (List (List PyData)))} {v_0 : V} (Z : Sit Φ B H cs) (h_0 : (dList (dList (dTup K (dAny K)))).rel B x_0 v_0) (hm : m_classes x_0 = some r) (k : ∀ (v : V) (B' H' : Hp) , Sit Φ B' H' cs → Same B B' → (dList dInt).rel B' r v → Q v H') : sp_classes K ([v_0] ++ []) H Q E := by
  exact ⟨B, x_0, v_0, r, rfl, Z.sub, h_0, hm, fun v B' H'  Z' h  => k v B' H'  (Z.call0 Z') Z'.grow h ⟩
theorem ok_classes (A0 : DefAt K mg "_law_classes" s_classes ["_law_rows"]) : Does P w K mg base CX0 1 "_law_classes" ["_law_rows"] (sp_classes K ) := by
  obtain ⟨f, fd, F, gm, bd⟩ := A0
  refine ⟨f, fd, ?_, gm, F.kp, bd⟩
  refine F.ok sc_classes (fun vs H Q E h => ?_) (fun cdv A outer s H vs Q E hr h => ?_)
  · obtain ⟨_, _, _, _, rfl, _⟩ := h
    rfl
  · obtain ⟨B, x_0, v_0, r, rfl, sB, hx_0, hm, k⟩ := h
    have hu := hu_of hr
    refine ⟨_, (pss_cons (ps_set (i := 1) sc_classes.nd rfl (Or.inr rfl) (pe_lc (own := [("_law_row", 4)]) (tt := tYes) rfl sc_classes.nd (k_iL K (pv 0)) (blkOk_by (own := [("_law_row", 4)]) (N := n_classes) (sc := defScope s_classes) (by decide +kernel)) (fun _ _ _ _ _ => (pg_name (i := 4) sc_classes.nd rfl (Or.inl rfl))) (fun _ _ _ _ _ => pts_nil) (fun _ _ _ _ _ => pe_int)))
  (pss_cons (ps_for PassesOwn.never rfl (k_iL K (pv 0)) (pg_name (i := 2) sc_classes.nd rfl (Or.inl rfl))
  (pss_cons (ps_set (i := 3) sc_classes.nd rfl (Or.inl rfl) (pe_lst pa_nil))
  (pss_cons (ps_for PassesOwn.never rfl (k_iL K (pv 0)) (pg_name (i := 4) sc_classes.nd rfl (Or.inl rfl))
  (pss_one (ps_expr (k_bm K PySem.F.plainAttrs_list PySem.F.slot_list_append PySem.F.type_list_append mt_append (pv 3) (pa_cons (pe_lc (own := [("_law_item_here", 8)]) (tt := tYes) rfl sc_classes.nd (k_iL K (pv 4)) (blkOk_by (own := [("_law_item_here", 8)]) (N := n_classes) (sc := defScope s_classes) (by decide +kernel)) (fun _ _ _ _ _ => (pg_name (i := 8) sc_classes.nd rfl (Or.inl rfl))) (fun _ _ _ _ _ => pts_nil) (fun _ _ _ _ _ => (pe_ifExp (pt_cmpR (k_eqD K hr.units) (pe_ix (k_ixT K) (pv 8) pe_int (fun _ _ => rfl)) pe_str (nomark _)) (pe_tup (pa_cons pe_str (pa_cons (pe_ix (k_ixL K) (pv 1) (pe_ix (k_ixT K) (pv 8) pe_int (fun _ _ => rfl)) (fun _ _ => rfl)) pa_nil))) (pv 8)))) pa_nil)))))
  (pss_cons (ps_set (i := 5) sc_classes.nd rfl (Or.inr rfl) (pe_lst pa_nil))
  (pss_cons (ps_for PassesOwn.never rfl (k_iL K (pv 3)) (pg_name (i := 6) sc_classes.nd rfl (Or.inl rfl))
  (pss_one (ps_if (pt_cmpR (k_niD K (u65 hr)) (pv 6) (pv 5) (by rfl)) (pss_one (ps_expr (k_bm K PySem.F.plainAttrs_list PySem.F.slot_list_append PySem.F.type_list_append mt_append (pv 5) (pa_cons (pv 6) pa_nil)))) pss_nil)))
  (pss_cons (ps_setLc (i := 7) (own := [("_law_sign", 6)]) (tt := tYes) rfl sc_classes.nd rfl rfl (sw_true rfl rfl rfl (by decide +kernel)) (k_iL K (pv 3)) (blkOk_by (own := [("_law_sign", 6)]) (N := n_classes) (sc := defScope s_classes) (by decide +kernel)) (fun _ _ _ _ _ => (pg_name (i := 6) sc_classes.nd rfl (Or.inl rfl))) (fun _ _ _ _ _ => pts_nil) (fun _ _ _ _ _ => (k_bm K PySem.F.plainAttrs_list PySem.F.slot_list_index PySem.F.type_list_index (k_indexD K (u65 hr)) (pv 5) (pa_cons (pv 6) pa_nil))))
  (pss_cons (ps_if (pt_cmpR (k_eqD K hr.units) (pv 7) (pv 1) (nomark _)) (pss_one ps_break) pss_nil)
  (pss_one (ps_set (i := 1) sc_classes.nd rfl (Or.inr rfl) (pv 7))))))))))
  (pss_one (ps_ret (pv 1))))), ?_⟩
    obtain ⟨B0, hB0⟩ : ∃ B0 : Hp, B0 = B := ⟨_, rfl⟩
    subst hB0
    have S0 := Sit.start0 sB
    unfold m_classes at hm
    refine w_sig (σ' := [(some v_0), none, none, none, none, none, none, none, none]) rfl ?_
    refine w_seq ?_
    refine w_asg ?_
    refine w_lc ?_
    refine x_iL ?_
    refine w_ev (Ev.var rfl) ?_
    refine w_itL hx_0 S0.sub fun J1 it2 => ?_
    refine lcR (P := dInt) it2 S0 (dList.le hx_0) (lcM_map (fun (a5 : (List (List PyData))) => (0 : Int)) x_0) (fun _ _ _ Z e _ => e.tr Z.sub) (fun D3 ac4 a5 o6 x7 B10 B11 H12 ma18 S13 s8 s9 h14 ho15 RR16 kk17 => ?_) ?_
    · refine w_turn ?_
      refine w_gname ?_
      refine w_wipe rfl ?_
      refine w_yes ?_
      refine iteT ?_
      refine w_ev Ev.c ?_
      obtain rfl := Option.some.inj ho15
      exact kk17 _ _ _ S13 (Same.rf _) ⟨_, rfl, (show dInt.rel _ (0 : Int) (V.int 0) from rfl)⟩
    · intro p21 B28 H22 o23 S24 s25 n26 h27
      obtain ⟨B31, S29, s30, h32⟩ : ∃ B', Sit _ B' H22 [] ∧ Same _ B' ∧ (dList dInt).rel B' (x_0.map (fun (a5 : (List (List PyData))) => (0 : Int))) (.ref p21) := ⟨_, S24.frz (i := 0) rfl n26, S24.frzS (i := 0) rfl, frzL h27 (S24.atB (i := 0) rfl)⟩
      refine w_gname ?_
      refine w_nx (σ' := [(some v_0), (some (.ref p21)), none, none, none, none, none, none, none]) rfl ?_
      refine w_seq ?_
      refine w_for ?_
      refine x_iL ?_
      refine w_ev (Ev.var rfl) ?_
      refine w_itL (Rl.mono _ (s25.tr s30) hx_0) S29.sub fun J33 it34 => ?_
      obtain ⟨c72, hl320, hm⟩ := bs hm
      refine forK (s0 := (x_0.map (fun (a5 : (List (List PyData))) => (0 : Int)))) it34 S29 (fun (st35 : (List Int)) b σ' cs' => ∃ (e36 : V) (e37 : Option V) (e38 : Option V) (e39 : Option V) (e40 : Option V) (e41 : Option V) (e42 : Option V), σ' = [(some v_0), (some e36), e37, e38, e39, e40, e41, e42, none] ∧ cs' = [] ∧ (dList dInt).rel b st35 e36 ∧ True) ⟨_, _, _, _, _, _, _, rfl, rfl, h32, trivial⟩ hl320 (fun _ _ _ _ _ Z e _ => e.tr Z.sub) (fun a44 st45 o46 x47 B57 B66 H48 _ cs49 ma50 S51 s52 s53 hI54 h55 hf56 hret67 hbrk68 => ?_) ?_
      · obtain ⟨e58, e59, e60, e61, e62, e63, e64, rfl, rfl, h65, -⟩ := hI54
        refine w_gname ?_
        refine w_nx (σ' := [(some v_0), (some e58), (some x47), e60, e61, e62, e63, e64, none]) rfl ?_
        refine w_seq ?_
        refine w_asg ?_
        refine x_lst ?_
        refine w_nil ?_
        refine mkO (R := (dList (dTup K (dAny K)))) (xs := []) S51 .nil (by show 0 ≤ BIG; decide) fun p73 o74 H75 S76 n77 h78 => ?_
        refine w_gname ?_
        refine w_nx (σ' := [(some v_0), (some e58), (some x47), (some (.ref p73)), e61, e62, e63, e64, none]) rfl ?_
        refine w_seq ?_
        refine w_for ?_
        refine x_iL ?_
        refine w_ev (Ev.var rfl) ?_
        refine w_itL (Rl.mono _ (s25.tr (s30.tr (s52.tr s53))) hx_0) S76.sub fun J79 it80 => ?_
        obtain ⟨st207, hl304, hf56⟩ := bs hf56
        refine forS (s0 := ([] : (List (List (List PyData))))) it80 S76 (fun (st81 : (List (List (List PyData)))) b σ' cs' => ∃ (e82 : Option V) (o83 : HO), σ' = [(some v_0), (some e58), (some x47), (some (.ref p73)), e82, e62, e63, e64, none] ∧ cs' = [(p73, o83)] ∧ (cList (dList (dTup K (dAny K)))).rel b st81 o83 ∧ True) ⟨_, _, rfl, rfl, h78, trivial⟩ hl304 (fun _ _ _ _ _ Z e _ => e.tr Z.sub) (fun a85 st86 o87 x88 B98 B102 H89 _ cs90 ma91 S92 s93 s94 hI95 h96 hf97 => ?_) ?_
        · obtain ⟨e99, o100, rfl, rfl, h101, -⟩ := hI95
          refine w_gname ?_
          refine w_nx (σ' := [(some v_0), (some e58), (some x47), (some (.ref p73)), (some x88), e62, e63, e64, none]) rfl ?_
          refine w_drop ?_
          refine w_bm ?_
          refine w_ev (Ev.var rfl) ?_
          refine w_tyC (Cl.mono _ s94 h101) (S92.at' (i := 0) rfl) ?_
          refine w_cons ?_
          refine w_lc ?_
          refine x_iL ?_
          refine w_ev (Ev.var rfl) ?_
          refine w_itL h96 S92.sub fun J109 it110 => ?_
          obtain ⟨ys181, h182, hf97⟩ := bs hf97
          refine lcR (P := (dTup K (dAny K))) it110 S92 (dList.le h96) h182 (fun _ _ _ Z e _ => e.tr Z.sub) (fun D111 ac112 a113 o114 x115 B118 B119 H120 ma126 S121 s116 s117 h122 ho123 RR124 kk125 => ?_) ?_
          · refine w_turn ?_
            refine w_gname ?_
            refine w_wipe rfl ?_
            refine w_yes ?_
            refine iteT ?_
            obtain ⟨j133, hj134, ho123⟩ := bs ho123
            refine cutE (fun v H' => ∃ (B' : Hp), Sit (Fr.mk B0 H []) B' H' [(D111, (.lst ac112)), (p73, o100)] ∧ Same B119 B' ∧ (dTup K (dAny K)).rel B' j133 v) (fun kk135 => ?_) ?_
            · refine w_ifE ?_
              obtain ⟨x155, hx155, hj134⟩ := bs hj134
              obtain ⟨w157, h158, r156⟩ := ix_T (K := K) h122 hx155
              obtain ⟨b159, hb159, hj134⟩ := bs hj134
              refine w_evT (EvT.test (Ev.op (Ev.op (Ev.var rfl) Ev.c (r156 _ S121.sub)) Ev.c (rv_eqD drAny drStr (Rl.mono _ S121.sub h158) (Rl.mono _ S121.sub (show dStr.rel _ (Str.ofString "node") (V.str (Str.ofString "node")) from rfl)) hb159))) ?_
              refine w_ifb (fun h160 => ?_) (fun h160 => ?_)
              · rw [ifT h160] at hj134
                refine x_tup ?_
                obtain ⟨x161, hx161, hj134⟩ := bs hj134
                obtain ⟨w163, h164, r162⟩ := ix_T (K := K) h122 hx161
                obtain ⟨i165, hi165, hj134⟩ := bs hj134
                obtain ⟨x166, hx166, hj134⟩ := bs hj134
                obtain ⟨_, rfl, r167⟩ := ix_L (K := K) (Rl.mono _ (s53.tr (s93.tr (s94.tr (s116.tr s117)))) h65) hx166
                refine w_evA (EvA.cons Ev.c (EvA.cons (Ev.op (Ev.var rfl) (Ev.cast (Ev.op (Ev.var rfl) Ev.c (r162 _ S121.sub)) (asI_v h164 hi165)) (r167 _ S121.sub)) EvA.nil)) ?_
                refine mk2 (K := K)   S121 (show dStr.rel _ (Str.ofString "node") (V.str (Str.ofString "node")) from rfl) (show dInt.rel _ x166 (V.int x166) from rfl) fun v168 B173 H169 S170 s171 h172 => ?_
                obtain rfl := Option.some.inj hj134
                exact kk135 _ _ ⟨_, S170, s171, (show (dTup K (dAny K)).rel _ ([(PyData.str (Str.ofString "node")), (PyData.int x166)] : (List PyData)) v168 from (mp2 (mpA drStr) (mpA drInt)) h172)⟩
              · rw [ifF h160] at hj134
                refine w_ev (Ev.var rfl) ?_
                obtain rfl := Option.some.inj hj134
                exact kk135 _ _ ⟨_, S121, (Same.rf _), h122⟩
            · rintro v177 H174 ⟨B179, S175, s176, h178⟩
              obtain rfl := Option.some.inj ho123
              exact kk125 _ _ _ S175 s176 ⟨_, rfl, h178⟩
          · intro p183 B190 H184 o185 S186 s187 n188 h189
            obtain ⟨B193, S191, s192, h194⟩ : ∃ B', Sit _ B' H184 [(p73, o100)] ∧ Same _ B' ∧ (dList (dTup K (dAny K))).rel B' ys181 (.ref p183) := ⟨_, S186.frz (i := 0) rfl n188, S186.frzS (i := 0) rfl, frzL h189 (S186.atB (i := 0) rfl)⟩
            refine w_nil ?_
            obtain ⟨x195, h196, hf97⟩ := bs hf97
            refine q_append (k := 0) S191 rfl (Cl.mono _ (s94.tr (s187.tr s192)) h101) h194 h196 fun o197 H198 (S199 : Sit _ B193 H198 [(p73, o197)]) h200 => ?_
            obtain rfl := Option.some.inj hf97
            exact ⟨_, _, S199, (s93.tr (s94.tr (s187.tr s192))), _, _, rfl, rfl, h200, trivial⟩
        · intro B206 H201 _ cs202 S203 s204 hI205
          obtain ⟨e208, o209, rfl, rfl, h210, -⟩ := hI205
          refine w_seq ?_
          refine w_asg ?_
          refine x_lst ?_
          refine w_nil ?_
          refine mkO (R := (dList (dTup K (dAny K)))) (xs := []) S203 .nil (by show 0 ≤ BIG; decide) fun p211 o212 H213 S214 n215 h216 => ?_
          refine w_gname ?_
          refine w_nx (σ' := [(some v_0), (some e58), (some x47), (some (.ref p73)), e208, (some (.ref p211)), e63, e64, none]) rfl ?_
          refine w_seq ?_
          refine w_for ?_
          refine x_iL ?_
          refine w_ev (Ev.var rfl) ?_
          refine w_itC h210 (S214.at' (i := 1) rfl) fun J217 it218 => ?_
          obtain ⟨st261, hl303, hf56⟩ := bs hf56
          refine forS (s0 := ([] : (List (List (List PyData))))) it218 S214 (fun (st219 : (List (List (List PyData)))) b σ' cs' => ∃ (e220 : Option V) (o221 : HO), σ' = [(some v_0), (some e58), (some x47), (some (.ref p73)), e208, (some (.ref p211)), e220, e64, none] ∧ cs' = [(p211, o221), (p73, o209)] ∧ (cList (dList (dTup K (dAny K)))).rel b st219 o221 ∧ True) ⟨_, _, rfl, rfl, h216, trivial⟩ hl303 (fun _ _ _ _ _ Z e h => by obtain ⟨_, _, rfl, rfl, _⟩ := h; exact Z.withB e (i := 1) rfl) (fun a223 st224 o225 x226 B236 B240 H227 _ cs228 ma229 S230 s231 s232 hI233 h234 hf235 => ?_) ?_
          · obtain ⟨e237, o238, rfl, rfl, h239, -⟩ := hI233
            refine w_gname ?_
            refine w_nx (σ' := [(some v_0), (some e58), (some x47), (some (.ref p73)), e208, (some (.ref p211)), (some x226), e64, none]) rfl ?_
            refine w_ifS ?_
            obtain ⟨b247, hb247, hf235⟩ := bs hf235
            refine w_evT (EvT.test (Ev.op (Ev.var rfl) (Ev.var rfl) (rv_niD (drL (drT drAny)) (drL (drL (drT drAny))) (Rl.mono _ S230.sub h234) (cL_d (Cl.mono _ s232 h239) (S230.at' (i := 0) rfl) S230.sub) hb247))) ?_
            refine w_ifb (fun h248 => ?_) (fun h248 => ?_)
            · rw [ifT h248] at hf235
              refine w_drop ?_
              refine w_bm ?_
              refine w_ev (Ev.var rfl) ?_
              refine w_tyC (Cl.mono _ s232 h239) (S230.at' (i := 0) rfl) ?_
              refine w_evA (EvA.cons (Ev.var rfl) EvA.nil) ?_
              obtain ⟨x249, h250, hf235⟩ := bs hf235
              refine q_append (k := 0) S230 rfl (Cl.mono _ s232 h239) h234 h250 fun o251 H252 (S253 : Sit _ B240 H252 [(p211, o251), (p73, o209)]) h254 => ?_
              obtain rfl := Option.some.inj hf235
              exact ⟨_, _, S253, (s231.tr s232), _, _, rfl, rfl, h254, trivial⟩
            · rw [ifF h248] at hf235
              refine w_next ?_
              obtain rfl := Option.some.inj hf235
              exact ⟨_, _, S230, (s231.tr s232), _, _, rfl, rfl, (Cl.mono _ s232 h239), trivial⟩
          · intro B260 H255 _ cs256 S257 s258 hI259
            obtain ⟨e262, o263, rfl, rfl, h264, -⟩ := hI259
            refine w_seq ?_
            refine w_asg ?_
            refine w_lc ?_
            refine x_iL ?_
            refine w_ev (Ev.var rfl) ?_
            refine w_itC (Cl.mono _ s258 h210) (S257.at' (i := 1) rfl) fun J265 it266 => ?_
            obtain ⟨ys287, h288, hf56⟩ := bs hf56
            refine lcR (P := dInt) it266 S257 (cList.le (Cl.mono _ s258 h210)) h288 (fun _ _ _ Z e q => Z.withS e q (i := 1) rfl) (fun D267 ac268 a269 o270 x271 B274 B275 H276 ma282 S277 s272 s273 h278 ho279 RR280 kk281 => ?_) ?_
            · refine w_turn ?_
              refine w_gname ?_
              refine w_wipe rfl ?_
              refine w_yes ?_
              refine iteT ?_
              refine w_bm ?_
              refine w_ev (Ev.var rfl) ?_
              refine w_tyC (Cl.mono _ (s272.tr s273) h264) (S277.at' (i := 1) rfl) ?_
              refine w_evA (EvA.cons (Ev.var rfl) EvA.nil) ?_
              obtain ⟨j284, h285, ho279⟩ := bs ho279
              refine r_ixD (drL (drT drAny)) (drL (drT drAny)) (cL_d (Cl.mono _ (s272.tr s273) h264) (S277.at' (i := 1) rfl) S277.sub) (Rl.mono _ S277.sub h278) h285 ?_
              obtain rfl := Option.some.inj ho279
              exact kk281 _ _ _ S277 (Same.rf _) ⟨_, rfl, (show dInt.rel _ j284 (V.int j284) from rfl)⟩
            · intro p289 B296 H290 o291 S292 s293 n294 h295
              obtain ⟨B299, S297, s298, h300⟩ : ∃ B', Sit _ B' H290 [(p211, o263), (p73, o209)] ∧ Same _ B' ∧ (dList dInt).rel B' ys287 (.ref p289) := ⟨_, S292.frz (i := 0) rfl n294, S292.frzS (i := 0) rfl, frzL h295 (S292.atB (i := 0) rfl)⟩
              refine w_gname ?_
              refine w_nx (σ' := [(some v_0), (some e58), (some x47), (some (.ref p73)), e208, (some (.ref p211)), e262, (some (.ref p289)), none]) rfl ?_
              refine w_seq ?_
              refine w_ifS ?_
              obtain ⟨b301, hb301, hf56⟩ := bs hf56
              refine w_evT (EvT.test (Ev.op (Ev.var rfl) (Ev.var rfl) (rv_eqD (drL drInt) (drL drInt) (Rl.mono _ S297.sub h300) (Rl.mono _ S297.sub (Rl.mono _ (s53.tr (s204.tr (s258.tr (s293.tr s298)))) h65)) hb301))) ?_
              refine w_ifb (fun h302 => ?_) (fun h302 => ?_)
              · rw [ifT h302] at hf56
                refine w_brk ?_
                obtain rfl := Option.some.inj hf56
                exact hbrk68 _ _ _ rfl ⟨_, _, S297.tl.tl, (s52.tr (s53.tr (s204.tr (s258.tr (s293.tr s298))))), _, _, _, _, _, _, _, rfl, rfl, (Rl.mono _ (s53.tr (s204.tr (s258.tr (s293.tr s298)))) h65), trivial⟩
              · rw [ifF h302] at hf56
                refine w_next ?_
                refine w_asg ?_
                refine w_ev (Ev.var rfl) ?_
                refine w_gname ?_
                refine w_nx (σ' := [(some v_0), (some (.ref p289)), (some x47), (some (.ref p73)), e208, (some (.ref p211)), e262, (some (.ref p289)), none]) rfl ?_
                obtain rfl := Option.some.inj hf56
                exact ⟨_, rfl, _, _, S297.tl.tl, (s52.tr (s53.tr (s204.tr (s258.tr (s293.tr s298))))), _, _, _, _, _, _, _, rfl, rfl, h300, trivial⟩
      · intro st311 B310 H305 _ cs306 ec321 S307 s308 hI309
        cases ec321
        obtain ⟨e312, e313, e314, e315, e316, e317, e318, rfl, rfl, h319, -⟩ := hI309
        refine w_ret ?_
        refine w_ev (Ev.var rfl) ?_
        obtain rfl := Option.some.inj hm
        exact k _ _ _  S307 h319
abbrev n_canonical : List Str := ["_law_rows", "_law_classes_here", "_law_order", "_law_result", "_law_row", "_law_item_here", "_law_seen", "_law_each"]
theorem sc_canonical : FnScope n_canonical ["_law_rows"] (defScope s_canonical) := ⟨rfl, rfl, rfl, by decide +kernel, rfl, by decide +kernel, by decide +kernel⟩
def m_canonical (x_0 : (List (List (List PyData)))) : Option (List (List (List PyData))) :=
  (m_classes (x_0)).bind fun r1 =>
  (whC (S := ((List (List (List PyData))) × (List Int))) (R := (List (List (List PyData)))) (fun (st30 : ((List (List (List PyData))) × (List Int))) => if (decide ((st30.1.length : Int) < (st30.2.length : Int))) = true then (atI st30.2 (st30.1.length : Int)).bind fun x71 =>
  (atI x_0 x71).bind fun x73 =>
  (forL (fun (a84 : (List PyData)) (st85 : ((List (List PyData)) × (List Int))) => (atI a84 (0 : Int)).bind fun x111 =>
  (eqD x111 (PyData.str (Str.ofString "node"))).bind fun b115 =>
  if (!b115) = true then (pushM st85.1 a84).bind fun x117 =>
  some (x117, st85.2) else (lcM (fun (a127 : Int) => (atI r1 a127).bind fun x142 =>
  some (some x142)) st85.2).bind fun ys145 =>
  ((atI a84 (1 : Int)).bind fun x164 =>
  (asI x164).bind fun i168 =>
  (atI r1 i168).bind fun x169 =>
  if (!decide (x169 ∈ ys145)) = true then (atI a84 (1 : Int)).bind fun x172 =>
  (asI x172).bind fun i176 =>
  (pushM st85.2 i176).bind fun x178 =>
  (atI a84 (1 : Int)).bind fun x184 =>
  (asI x184).bind fun i188 =>
  (atI r1 i188).bind fun x189 =>
  (pushM ys145 x189).bind fun x191 =>
  some (x191, x178) else some (ys145, st85.2)).bind fun j162 =>
  (atI a84 (1 : Int)).bind fun x205 =>
  (asI x205).bind fun i209 =>
  (atI r1 i209).bind fun x210 =>
  (ixOf x210 j162.1).bind fun j212 =>
  (pushM st85.1 ([(PyData.str (Str.ofString "node")), (PyData.int j212)] : (List PyData))).bind fun x220 =>
  some (x220, j162.2)) x73 (([] : (List (List PyData))), st30.2)).bind fun st232 =>
  (pushM st30.1 st232.1).bind fun x243 =>
  some (.nx (x243, st232.2)) else some (.brk (st30.1, st30.2))) FUEL (([] : (List (List (List PyData)))), ([(0 : Int)] : (List Int)))).bind fun c55 =>
  c55.on (fun st256 => some st256.1) (fun r => some r)
def sp_canonical (K : PySem.W.Frag) : Sp := fun vs H Q E => ∃ (B : Hp) (x_0 : (List (List (List PyData)))) (v_0 : V) (r : (List (List (List PyData)))), vs = [v_0] ∧ Same B H ∧ (dList (dList (dTup K (dAny K)))).rel B x_0 v_0 ∧ m_canonical x_0 = some r ∧ ∀ (v : V) (B' H' : Hp) , Sit ⟨B, H, []⟩ B' H' [] → (dList (dList (dTup K (dAny K)))).rel B' r v → Q v H'
theorem use_canonical {K : PySem.W.Frag} {Φ : Fr} {B H : Hp} {cs : List (Addr × HO)} {Q : VK} {E : XK} {r : (List (List (List PyData)))} {x_0 : (List (List (List PyData)))} {v_0 : V} (Z : Sit Φ B H cs) (h_0 : (dList (dList (dTup K (dAny K)))).rel B x_0 v_0) (hm : m_canonical x_0 = some r) (k : ∀ (v : V) (B' H' : Hp) , Sit Φ B' H' cs → Same B B' → (dList (dList (dTup K (dAny K)))).rel B' r v → Q v H') : sp_canonical K ([v_0] ++ []) H Q E := by
  exact ⟨B, x_0, v_0, r, rfl, Z.sub, h_0, hm, fun v B' H'  Z' h  => k v B' H'  (Z.call0 Z') Z'.grow h ⟩
theorem ok_canonical (A0 : DefAt K mg "_law_canonical" s_canonical ["_law_rows"]) (b_len : mg "len" = none) (D_classes : Does P w K mg base CX0 1 "_law_classes" ["_law_rows"] (sp_classes K )) : Does P w K mg base CX0 2 "_law_canonical" ["_law_rows"] (sp_canonical K ) := by
  obtain ⟨f, fd, F, gm, bd⟩ := A0
  obtain ⟨f_classes, fd_classes, G_classes, g_classes, kp_classes, bd_classes⟩ := D_classes
  refine ⟨f, fd, ?_, gm, F.kp, bd⟩
  refine F.ok sc_canonical (fun vs H Q E h => ?_) (fun cdv A outer s H vs Q E hr h => ?_)
  · obtain ⟨_, _, _, _, rfl, _⟩ := h
    rfl
  · obtain ⟨B, x_0, v_0, r, rfl, sB, hx_0, hm, k⟩ := h
    have hu := hu_of hr
    refine ⟨_, (pss_cons (ps_set (i := 1) sc_canonical.nd rfl (Or.inr rfl) (pe_call G_classes (hr.mono (by decide)) rfl g_classes kp_classes bd_classes .nil pass0 (pa_cons (pv 0) pa_nil)))
  (pss_cons (ps_set (i := 2) sc_canonical.nd rfl (Or.inl rfl) (pe_lst (pa_cons pe_int pa_nil)))
  (pss_cons (ps_set (i := 3) sc_canonical.nd rfl (Or.inl rfl) (pe_lst pa_nil))
  (pss_cons (ps_while PassesOwn.never (pt_cmpR op_lt (pe_callB (k_len K) (by rfl) b_len (by decide +kernel) (pa_cons (pv 3) pa_nil)) (pe_callB (k_len K) (by rfl) b_len (by decide +kernel) (pa_cons (pv 2) pa_nil)) (nomark _))
  (pss_cons (ps_set (i := 4) sc_canonical.nd rfl (Or.inl rfl) (pe_lst pa_nil))
  (pss_cons (ps_for PassesOwn.never rfl (k_iL K (pe_ix (k_ixL K) (pv 0) (pe_ix (k_ixL K) (pv 2) (pe_callB (k_len K) (by rfl) b_len (by decide +kernel) (pa_cons (pv 3) pa_nil)) (fun _ _ => rfl)) (fun _ _ => rfl))) (pg_name (i := 5) sc_canonical.nd rfl (Or.inl rfl))
  (pss_one (ps_if (pt_cmpR (k_neD K hr.units) (pe_ix (k_ixT K) (pv 5) pe_int (fun _ _ => rfl)) pe_str (nomark _)) (pss_one (ps_expr (k_bm K PySem.F.plainAttrs_list PySem.F.slot_list_append PySem.F.type_list_append mt_append (pv 4) (pa_cons (pv 5) pa_nil)))) (pss_cons (ps_setLc (i := 6) (own := [("_law_each", 7)]) (tt := tYes) rfl sc_canonical.nd rfl rfl (sw_true rfl rfl rfl (by decide +kernel)) (k_iL K (pv 2)) (blkOk_by (own := [("_law_each", 7)]) (N := n_canonical) (sc := defScope s_canonical) (by decide +kernel)) (fun _ _ _ _ _ => (pg_name (i := 7) sc_canonical.nd rfl (Or.inl rfl))) (fun _ _ _ _ _ => pts_nil) (fun _ _ _ _ _ => (pe_ix (k_ixL K) (pv 1) (pv 7) (fun _ _ => rfl))))
  (C8.pss_cut (ps_if (pt_cmpR (k_ni K) (pe_ix (k_ixL K) (pv 1) (pe_ix (k_ixT K) (pv 5) pe_int (fun _ _ => rfl)) (fun _ _ => rfl)) (pv 6) (by rfl)) (pss_cons (ps_expr (k_bm K PySem.F.plainAttrs_list PySem.F.slot_list_append PySem.F.type_list_append mt_append (pv 2) (pa_cons (pe_ix (k_ixT K) (pv 5) pe_int (fun _ _ => rfl)) pa_nil)))
  (pss_one (ps_expr (k_bm K PySem.F.plainAttrs_list PySem.F.slot_list_append PySem.F.type_list_append mt_append (pv 6) (pa_cons (pe_ix (k_ixL K) (pv 1) (pe_ix (k_ixT K) (pv 5) pe_int (fun _ _ => rfl)) (fun _ _ => rfl)) pa_nil))))) pss_nil)
  (pss_one (ps_expr (k_bm K PySem.F.plainAttrs_list PySem.F.slot_list_append PySem.F.type_list_append mt_append (pv 4) (pa_cons (pe_tup (pa_cons pe_str (pa_cons (k_bm K PySem.F.plainAttrs_list PySem.F.slot_list_index PySem.F.type_list_index (k_index K) (pv 6) (pa_cons (pe_ix (k_ixL K) (pv 1) (pe_ix (k_ixT K) (pv 5) pe_int (fun _ _ => rfl)) (fun _ _ => rfl)) pa_nil)) pa_nil))) pa_nil)))))))))
  (pss_one (ps_expr (k_bm K PySem.F.plainAttrs_list PySem.F.slot_list_append PySem.F.type_list_append mt_append (pv 3) (pa_cons (pv 4) pa_nil)))))))
  (pss_one (ps_ret (pv 3))))))), ?_⟩
    obtain ⟨B0, hB0⟩ : ∃ B0 : Hp, B0 = B := ⟨_, rfl⟩
    subst hB0
    have S0 := Sit.start0 sB
    unfold m_canonical at hm
    refine w_sig (σ' := [(some v_0), none, none, none, none, none, none, none]) rfl ?_
    refine w_seq ?_
    refine w_asg ?_
    refine w_call ?_
    refine w_evA (EvA.cons (Ev.var rfl) EvA.nil) ?_
    obtain ⟨r1, h2, hm⟩ := bs hm
    refine use_classes S0 hx_0 h2 fun v3 B7 H4  (S5 : Sit _ B7 H4 []) s6 h8  => ?_
    refine w_gname ?_
    refine w_nx (σ' := [(some v_0), (some v3), none, none, none, none, none, none]) rfl ?_
    refine w_seq ?_
    refine w_asg ?_
    refine x_lst ?_
    refine w_evA (EvA.cons Ev.c EvA.nil) ?_
    refine mkO (R := dInt) (xs := [(0 : Int)]) S5 (.cons (show dInt.rel _ (0 : Int) (V.int 0) from rfl) .nil) (by show 1 ≤ BIG; decide) fun p9 o10 H11 S12 n13 h14 => ?_
    refine w_gname ?_
    refine w_nx (σ' := [(some v_0), (some v3), (some (.ref p9)), none, none, none, none, none]) rfl ?_
    refine w_seq ?_
    refine w_asg ?_
    refine x_lst ?_
    refine w_nil ?_
    refine mkO (R := (dList (dTup K (dAny K)))) (xs := []) S12 .nil (by show 0 ≤ BIG; decide) fun p15 o16 H17 S18 n19 h20 => ?_
    refine w_gname ?_
    refine w_nx (σ' := [(some v_0), (some v3), (some (.ref p9)), (some (.ref p15)), none, none, none, none]) rfl ?_
    refine w_seq ?_
    obtain ⟨c55, hl272, hm⟩ := bs hm
    refine whK (s0 := (([] : (List (List (List PyData)))), ([(0 : Int)] : (List Int)))) S18 (fun (st21 : ((List (List (List PyData))) × (List Int))) b σ' cs' => ∃ (e22 : Option V) (e23 : Option V) (e24 : Option V) (o25 : HO) (o27 : HO), σ' = [(some v_0), (some v3), (some (.ref p9)), (some (.ref p15)), e22, e23, e24, none] ∧ cs' = [(p15, o25), (p9, o27)] ∧ (cList (dList (dTup K (dAny K)))).rel b st21.1 o25 ∧ (cList dInt).rel b st21.2 o27 ∧ True) ⟨_, _, _, _, _, rfl, rfl, h20, h14, trivial⟩ hl272 (fun st30 o31 B42 H33 _ cs34 W53 m54 S36 s37 hI39 hf41 hret50 hbrk51 hW52 => ?_) ?_
    · obtain ⟨e43, e44, e45, o46, o48, rfl, rfl, h47, h49, -⟩ := hI39
      refine w_evT (EvT.test (Ev.op (Ev.cb (EvA.cons (Ev.var rfl) EvA.nil) (rlen_q (sqC (K := K) h47 (S36.at' (i := 0) rfl)))) (Ev.cb (EvA.cons (Ev.var rfl) EvA.nil) (rlen_q (sqC (K := K) h49 (S36.at' (i := 1) rfl)))) rv_I0)) ?_
      refine w_ifb (fun h56 => ?_) (fun h56 => ?_)
      · rw [ifT h56] at hf41
        refine ⟨_, hW52, ?_⟩
        refine w_seq ?_
        refine w_asg ?_
        refine x_lst ?_
        refine w_nil ?_
        refine mkO (R := (dTup K (dAny K))) (xs := []) S36 .nil (by show 0 ≤ BIG; decide) fun p57 o58 H59 S60 n61 h62 => ?_
        refine w_gname ?_
        refine w_nx (σ' := [(some v_0), (some v3), (some (.ref p9)), (some (.ref p15)), (some (.ref p57)), e44, e45, none]) rfl ?_
        refine w_seq ?_
        refine w_for ?_
        refine x_iL ?_
        obtain ⟨x71, hx71, hf41⟩ := bs hf41
        obtain ⟨_, rfl, r72⟩ := ix_C (K := K) h49 hx71
        obtain ⟨x73, hx73, hf41⟩ := bs hf41
        obtain ⟨w75, h76, r74⟩ := ix_L (K := K) (Rl.mono _ (s6.tr s37) hx_0) hx73
        refine w_ev (Ev.op (Ev.var rfl) (Ev.op (Ev.var rfl) (Ev.cb (EvA.cons (Ev.var rfl) EvA.nil) (rlen_q (sqC (K := K) h47 (S60.at' (i := 1) rfl)))) (r72 _ (S60.at' (i := 2) rfl))) (r74 _ S60.sub)) ?_
        refine w_itL h76 S60.sub fun J63 it64 => ?_
        obtain ⟨st232, hl249, hf41⟩ := bs hf41
        refine forS (s0 := (([] : (List (List PyData))), st30.2)) it64 S60 (fun (st77 : ((List (List PyData)) × (List Int))) b σ' cs' => ∃ (e78 : Option V) (e79 : Option V) (o80 : HO) (o82 : HO), σ' = [(some v_0), (some v3), (some (.ref p9)), (some (.ref p15)), (some (.ref p57)), e78, e79, none] ∧ cs' = [(p57, o80), (p15, o46), (p9, o82)] ∧ (cList (dTup K (dAny K))).rel b st77.1 o80 ∧ (cList dInt).rel b st77.2 o82 ∧ True) ⟨_, _, _, _, rfl, rfl, h62, h49, trivial⟩ hl249 (fun _ _ _ _ _ Z e _ => e.tr Z.sub) (fun a84 st85 o86 x87 B97 B104 H88 _ cs89 ma90 S91 s92 s93 hI94 h95 hf96 => ?_) ?_
        · obtain ⟨e98, e99, o100, o102, rfl, rfl, h101, h103, -⟩ := hI94
          refine w_gname ?_
          refine w_nx (σ' := [(some v_0), (some v3), (some (.ref p9)), (some (.ref p15)), (some (.ref p57)), (some x87), e99, none]) rfl ?_
          refine w_ifS ?_
          obtain ⟨x111, hx111, hf96⟩ := bs hf96
          obtain ⟨w113, h114, r112⟩ := ix_T (K := K) h95 hx111
          obtain ⟨b115, hb115, hf96⟩ := bs hf96
          refine w_evT (EvT.test (Ev.op (Ev.op (Ev.var rfl) Ev.c (r112 _ S91.sub)) Ev.c (rv_neD drAny drStr (Rl.mono _ S91.sub h114) (Rl.mono _ S91.sub (show dStr.rel _ (Str.ofString "node") (V.str (Str.ofString "node")) from rfl)) hb115))) ?_
          refine w_ifb (fun h116 => ?_) (fun h116 => ?_)
          · rw [ifT h116] at hf96
            refine w_drop ?_
            refine w_bm ?_
            refine w_ev (Ev.var rfl) ?_
            refine w_tyC (Cl.mono _ s93 h101) (S91.at' (i := 0) rfl) ?_
            refine w_evA (EvA.cons (Ev.var rfl) EvA.nil) ?_
            obtain ⟨x117, h118, hf96⟩ := bs hf96
            refine q_append (k := 0) S91 rfl (Cl.mono _ s93 h101) h95 h118 fun o119 H120 (S121 : Sit _ B104 H120 [(p57, o119), (p15, o46), (p9, o102)]) h122 => ?_
            obtain rfl := Option.some.inj hf96
            exact ⟨_, _, S121, (s92.tr s93), _, _, _, _, rfl, rfl, h122, (Cl.mono _ s93 h103), trivial⟩
          · rw [ifF h116] at hf96
            refine w_seq ?_
            refine w_asg ?_
            refine w_lc ?_
            refine x_iL ?_
            refine w_ev (Ev.var rfl) ?_
            refine w_itC (Cl.mono _ s93 h103) (S91.at' (i := 2) rfl) fun J123 it124 => ?_
            obtain ⟨ys145, h146, hf96⟩ := bs hf96
            refine lcR (P := dInt) it124 S91 (cList.le (Cl.mono _ s93 h103)) h146 (fun _ _ _ Z e q => Z.withS e q (i := 2) rfl) (fun D125 ac126 a127 o128 x129 B132 B133 H134 ma140 S135 s130 s131 h136 ho137 RR138 kk139 => ?_) ?_
            · refine w_turn ?_
              cases h136
              refine w_gname ?_
              refine w_wipe rfl ?_
              refine w_yes ?_
              refine iteT ?_
              obtain ⟨x142, hx142, ho137⟩ := bs ho137
              obtain ⟨_, rfl, r143⟩ := ix_L (K := K) (Rl.mono _ (s37.tr (s92.tr (s93.tr (s130.tr s131)))) h8) hx142
              refine w_ev (Ev.op (Ev.var rfl) (Ev.var rfl) (r143 _ S135.sub)) ?_
              obtain rfl := Option.some.inj ho137
              exact kk139 _ _ _ S135 (Same.rf _) ⟨_, rfl, (show dInt.rel _ x142 (V.int x142) from rfl)⟩
            · intro p147 B154 H148 o149 S150 s151 n152 h153
              refine w_gname ?_
              refine w_nx (σ' := [(some v_0), (some v3), (some (.ref p9)), (some (.ref p15)), (some (.ref p57)), (some x87), (some (.ref p147)), none]) rfl ?_
              obtain ⟨j162, hj163, hf96⟩ := bs hf96
              refine w_cut (MidD (fun σ' H' => ∃ (B' : Hp)  (o201 : HO) (o203 : HO), σ' = [(some v_0), (some v3), (some (.ref p9)), (some (.ref p15)), (some (.ref p57)), (some x87), (some (.ref p147)), none] ∧ Sit (Fr.mk B0 H []) B' H' [(p147, o201), (p57, o100), (p15, o46), (p9, o203)] ∧ Same B154 B' ∧ (cList dInt).rel B' j162.1 o201 ∧ (cList dInt).rel B' j162.2 o203 ∧ True)) ?_ ?_
              · refine w_ifS ?_
                obtain ⟨x164, hx164, hj163⟩ := bs hj163
                obtain ⟨w166, h167, r165⟩ := ix_T (K := K) (Rl.mono _ s151 h95) hx164
                obtain ⟨i168, hi168, hj163⟩ := bs hj163
                obtain ⟨x169, hx169, hj163⟩ := bs hj163
                obtain ⟨_, rfl, r170⟩ := ix_L (K := K) (Rl.mono _ (s37.tr (s92.tr (s93.tr s151))) h8) hx169
                refine w_evT (EvT.test (Ev.op (Ev.op (Ev.var rfl) (Ev.cast (Ev.op (Ev.var rfl) Ev.c (r165 _ S150.sub)) (asI_v h167 hi168)) (r170 _ S150.sub)) (Ev.var rfl) (rni_i (sqC (K := K) h153 (S150.at' (i := 0) rfl))))) ?_
                refine w_ifb (fun h171 => ?_) (fun h171 => ?_)
                · rw [ifT h171] at hj163
                  refine w_seq ?_
                  refine w_drop ?_
                  refine w_bm ?_
                  refine w_ev (Ev.var rfl) ?_
                  refine w_tyC (Cl.mono _ (s93.tr s151) h103) (S150.at' (i := 3) rfl) ?_
                  obtain ⟨x172, hx172, hj163⟩ := bs hj163
                  obtain ⟨w174, h175, r173⟩ := ix_T (K := K) (Rl.mono _ s151 h95) hx172
                  refine w_evA (EvA.cons (Ev.op (Ev.var rfl) Ev.c (r173 _ S150.sub)) EvA.nil) ?_
                  obtain ⟨i176, h177, hj163⟩ := bs hj163
                  obtain rfl := asI_v h175 h177
                  obtain ⟨x178, h179, hj163⟩ := bs hj163
                  refine q_append (k := 3) S150 rfl (Cl.mono _ (s93.tr s151) h103) (show dInt.rel _ i176 (V.int i176) from rfl) h179 fun o180 H181 (S182 : Sit _ B154 H181 [(p147, o149), (p57, o100), (p15, o46), (p9, o180)]) h183 => ?_
                  refine w_drop ?_
                  refine w_bm ?_
                  refine w_ev (Ev.var rfl) ?_
                  refine w_tyC h153 (S182.at' (i := 0) rfl) ?_
                  obtain ⟨x184, hx184, hj163⟩ := bs hj163
                  obtain ⟨w186, h187, r185⟩ := ix_T (K := K) (Rl.mono _ s151 h95) hx184
                  obtain ⟨i188, hi188, hj163⟩ := bs hj163
                  obtain ⟨x189, hx189, hj163⟩ := bs hj163
                  obtain ⟨_, rfl, r190⟩ := ix_L (K := K) (Rl.mono _ (s37.tr (s92.tr (s93.tr s151))) h8) hx189
                  refine w_evA (EvA.cons (Ev.op (Ev.var rfl) (Ev.cast (Ev.op (Ev.var rfl) Ev.c (r185 _ S182.sub)) (asI_v h187 hi188)) (r190 _ S182.sub)) EvA.nil) ?_
                  obtain ⟨x191, h192, hj163⟩ := bs hj163
                  refine q_append (k := 0) S182 rfl h153 (show dInt.rel _ x189 (V.int x189) from rfl) h192 fun o193 H194 (S195 : Sit _ B154 H194 [(p147, o193), (p57, o100), (p15, o46), (p9, o180)]) h196 => ?_
                  obtain rfl := Option.some.inj hj163
                  exact ⟨_, _, _, rfl, S195, (Same.rf _), h196, h183, trivial⟩
                · rw [ifF h171] at hj163
                  refine w_next ?_
                  obtain rfl := Option.some.inj hj163
                  exact ⟨_, _, _, rfl, S150, (Same.rf _), h153, (Cl.mono _ (s93.tr s151) h103), trivial⟩
              · rintro _ H197 ⟨B200, o201, o203, rfl, S198, s199, h202, h204, -⟩
                refine w_drop ?_
                refine w_bm ?_
                refine w_ev (Ev.var rfl) ?_
                refine w_tyC (Cl.mono _ (s93.tr (s151.tr s199)) h101) (S198.at' (i := 1) rfl) ?_
                refine w_cons ?_
                refine x_tup ?_
                refine w_cons ?_
                refine w_ev Ev.c ?_
                refine w_cons ?_
                refine w_bm ?_
                refine w_ev (Ev.var rfl) ?_
                refine w_tyC h202 (S198.at' (i := 0) rfl) ?_
                obtain ⟨x205, hx205, hf96⟩ := bs hf96
                obtain ⟨w207, h208, r206⟩ := ix_T (K := K) (Rl.mono _ (s151.tr s199) h95) hx205
                obtain ⟨i209, hi209, hf96⟩ := bs hf96
                obtain ⟨x210, hx210, hf96⟩ := bs hf96
                obtain ⟨_, rfl, r211⟩ := ix_L (K := K) (Rl.mono _ (s37.tr (s92.tr (s93.tr (s151.tr s199)))) h8) hx210
                refine w_evA (EvA.cons (Ev.op (Ev.var rfl) (Ev.cast (Ev.op (Ev.var rfl) Ev.c (r206 _ S198.sub)) (asI_v h208 hi209)) (r211 _ S198.sub)) EvA.nil) ?_
                obtain ⟨j212, h213, hf96⟩ := bs hf96
                refine r_ixI (cL_d h202 (S198.at' (i := 0) rfl) S198.sub) h213 ?_
                refine w_nil ?_
                refine mk2 (K := K)   S198 (show dStr.rel _ (Str.ofString "node") (V.str (Str.ofString "node")) from rfl) (show dInt.rel _ j212 (V.int j212) from rfl) fun v214 B219 H215 S216 s217 h218 => ?_
                refine w_nil ?_
                obtain ⟨x220, h221, hf96⟩ := bs hf96
                refine q_append (k := 1) S216 rfl (Cl.mono _ (s93.tr (s151.tr (s199.tr s217))) h101) (show (dTup K (dAny K)).rel _ ([(PyData.str (Str.ofString "node")), (PyData.int j212)] : (List PyData)) v214 from (mp2 (mpA drStr) (mpA drInt)) h218) h221 fun o222 H223 (S224 : Sit _ B219 H223 [(p147, o201), (p57, o222), (p15, o46), (p9, o203)]) h225 => ?_
                obtain rfl := Option.some.inj hf96
                exact ⟨_, _, S224.tl, (s92.tr (s93.tr (s151.tr (s199.tr s217)))), _, _, _, _, rfl, rfl, h225, (Cl.mono _ s217 h204), trivial⟩
        · intro B231 H226 _ cs227 S228 s229 hI230
          obtain ⟨e233, e234, o235, o237, rfl, rfl, h236, h238, -⟩ := hI230
          refine w_drop ?_
          refine w_bm ?_
          refine w_ev (Ev.var rfl) ?_
          refine w_tyC (Cl.mono _ s229 h47) (S228.at' (i := 1) rfl) ?_
          refine w_evA (EvA.cons (Ev.var rfl) EvA.nil) ?_
          obtain ⟨B241, S239, s240, h242⟩ : ∃ B', Sit _ B' H226 [(p15, o46), (p9, o237)] ∧ Same _ B' ∧ (dList (dTup K (dAny K))).rel B' st232.1 (.ref p57) := ⟨_, S228.frz (i := 0) rfl n61, S228.frzS (i := 0) rfl, frzL h236 (S228.atB (i := 0) rfl)⟩
          obtain ⟨x243, h244, hf41⟩ := bs hf41
          refine q_append (k := 0) S239 rfl (Cl.mono _ (s229.tr s240) h47) h242 h244 fun o245 H246 (S247 : Sit _ B241 H246 [(p15, o245), (p9, o237)]) h248 => ?_
          obtain rfl := Option.some.inj hf41
          exact ⟨_, rfl, _, _, S247, (s37.tr (s229.tr s240)), _, _, _, _, _, rfl, rfl, h248, (Cl.mono _ s240 h238), trivial⟩
      · rw [ifF h56] at hf41
        obtain rfl := Option.some.inj hf41
        exact hbrk51 _ _ _ rfl ⟨_, _, S36, s37, _, _, _, _, _, rfl, rfl, h47, h49, trivial⟩
    · intro st256 B255 H250 _ cs251 ec273 S252 s253 hI254
      cases ec273
      obtain ⟨e257, e258, e259, o260, o262, rfl, rfl, h261, h263, -⟩ := hI254
      obtain ⟨B266, S264, s265, h267⟩ : ∃ B', Sit _ B' H250 [(p9, o262)] ∧ Same _ B' ∧ (dList (dList (dTup K (dAny K)))).rel B' st256.1 (.ref p15) := ⟨_, S252.frz (i := 0) rfl n19, S252.frzS (i := 0) rfl, frzL h261 (S252.atB (i := 0) rfl)⟩
      obtain ⟨B270, S268, s269, h271⟩ : ∃ B', Sit _ B' H250 [] ∧ Same _ B' ∧ (dList dInt).rel B' st256.2 (.ref p9) := ⟨_, S264.frz (i := 0) rfl n13, S264.frzS (i := 0) rfl, frzL (Cl.mono _ s265 h263) (S264.atB (i := 0) rfl)⟩
      refine w_ret ?_
      refine w_ev (Ev.var rfl) ?_
      obtain rfl := Option.some.inj hm
      exact k _ _ _  S268 (Rl.mono _ s269 h267)
end
end Mm
namespace Mm
open PySem L2 Mf
theorem shape_eq {r : Row} {c : List Nat} (h : ∀ k, Item.node k ∈ r → k < c.length) : m_row_shape (rD r) (nI c) = some (rD (shape c r)) := by
  unfold m_row_shape
  refine Wp.eq (Wp.go (a := rD (shape c r)) ?_ (Wp.some rfl))
  unfold rD
  rw [lcM_on]
  rw [lcM_mapE (fun x => (Item.ren (cls c) x).d)]
  · unfold shape; rw [List.map_map]; rfl
  · intro x hx
    rw [it_node]
    cases x with
    | node k =>
      rw [ifT (show (Item.node k).isNode = true from rfl), it_ix, atI_nI (h k hx)]
      rfl
    | _ => rfl
theorem num_lt {α : Type} [DecidableEq α] {xs : List α} {k : Nat} (h : k ∈ num xs) : k < cnt xs := by
  unfold num at h
  obtain ⟨x, hx, rfl⟩ := List.mem_map.mp h
  exact pos_lt (mem_dis.mpr hx)
theorem cls_lt {c : List Nat} {n : Nat} (h : ∀ k ∈ c, k < n) (hn : 0 < n) (k : Nat) : cls c k < n := by
  unfold cls
  by_cases hk : k < c.length
  · simp only [List.getD, hk, List.getElem?_eq_getElem, Option.getD_some]
    exact h _ (List.getElem_mem hk)
  · simp only [List.getD]
    rw [List.getElem?_eq_none (by omega)]
    exact hn
theorem seq_lt {t : Tbl} (h0 : 0 < t.length) : ∀ k, ∀ z ∈ seqC t k, z < t.length
  | 0, z, hz => by
    have := (List.mem_replicate.mp hz).2
    omega
  | k + 1, z, hz => by
    have h1 := num_lt (xs := keysC t (seqC t k)) hz
    have h2 := cnt_le (keysC t (seqC t k))
    unfold keysC at h2
    rw [List.length_map] at h2
    unfold keysC at h1
    omega
theorem keys_good {t : Tbl} (h : GoodT t) (k : Nat) : ∀ r ∈ keysC t (seqC t k), ∀ x ∈ r, GoodI t.length x := by
  intro r hr x hx
  obtain ⟨r', hr', rfl⟩ := List.mem_map.mp hr
  obtain ⟨x', hx', rfl⟩ := List.mem_map.mp hx
  exact (h.item r' hr' x' hx').ren (cls_lt (seq_lt h.pos k) h.pos)
theorem classes_of_eq {t : Tbl} (h : GoodT t) : m_classes_of (tD t) = some (nI (C t)) := by
  have h40 := h.few
  have hpos := h.pos
  refine Wp.eq ?_
  unfold m_classes_of
  refine Wp.go (a := nI (seqC t 0)) ?_ ?_
  · unfold repM
    rw [tD_len, if_pos ⟨by omega, by omega, by simp; unfold BIG; omega⟩]
    congr 1
    show _ = (List.replicate t.length 0).map _
    rw [List.map_replicate]
    simp only [Int.toNat_natCast]
    rw [List.flatten_replicate_singleton]
    rfl
  refine Wp.bind (P := fun c => c = .ret (nI (C t))) (wp_whC (fun st => ∃ k, st = (nI (seqC t k), ((match k with | 0 => 0 | j + 1 => cntC t j : Nat) : Int)) ∧ ∀ j, j + 1 < k → cntC t j ≠ cntC t (j + 1)) (fun st => 100 - st.2.toNat) ⟨0, rfl, fun _ z => by omega⟩ (by unfold FUEL; omega) ?_) ?_
  · rintro st ⟨k, rfl, hinc⟩
    refine Wp.yes rfl ?_
    have hk := keys_good h k
    refine Wp.go (a := tD (keysC t (seqC t k))) ?_ ?_
    · unfold tD
      rw [lcM_on, lcM_mapE (fun r => rD (shape (seqC t k) r))]
      · unfold keysC; rw [List.map_map]; rfl
      · intro r hr
        rw [shape_eq fun j hj => by rw [seqC_len]; exact h.tok r hr j hj]
        rfl
    have kl : (keysC t (seqC t k)).length = t.length := by unfold keysC; simp
    refine Wp.go (a := tD (dis (keysC t (seqC t k)))) (dis_loop (F := rowT) (e := rD) (n := 2) (fun a b => rowT_inj) rowT_nb (fun a ha => rowT_ly (hk a ha)) (by decide) (by omega)) ?_
    refine Wp.go (a := nI (seqC t (k + 1))) ?_ ?_
    · unfold tD
      rw [lcM_on, lcM_mapE (fun r => ((pos (dis (keysC t (seqC t k))) r : Nat) : Int))]
      · show _ = some (nI (num (keysC t (seqC t k))))
        unfold nI num
        rw [List.map_map]
        rfl
      · intro r hr
        refine Wp.eq (Wp.go (ixD_dis (F := rowT) (e := rD) (n := 2) (fun a b => rowT_inj) rowT_nb (fun a ha => rowT_ly (hk a ha)) (by decide) hr) (Wp.some rfl))
    have el : ((tD (dis (keysC t (seqC t k)))).length : Int) = (cntC t k : Nat) := by rw [tD_len]; rfl
    rw [el]
    have top := cntC_top t k
    refine Wp.ite (fun c => Wp.some ?_) (fun c => Wp.some ?_)
    · have c := of_decide_eq_true c
      cases k with
      | zero =>
        exfalso
        have c : ((cntC t 0 : Nat) : Int) = ((0 : Nat) : Int) := c
        have hm : (keysC t (seqC t 0)) ≠ [] := by intro z; rw [z] at kl; simp at kl; omega
        obtain ⟨r, hr⟩ := List.exists_mem_of_ne_nil _ hm
        have := List.length_pos_of_mem (mem_dis.mpr hr)
        unfold cntC cnt at c
        omega
      | succ j =>
        have c : ((cntC t (j + 1) : Nat) : Int) = ((cntC t j : Nat) : Int) := c
        have e := cntC_eq h.tok (k := j) (by omega)
        show Ctl.ret (nI (seqC t (j + 1 + 1))) = _
        rw [← e, C_of h.tok h.pos e.symm]
    · have c := of_decide_eq_false c
      refine ⟨⟨k + 1, rfl, fun j hj => ?_⟩, ?_⟩
      · rcases Nat.lt_or_ge (j + 1) k with z | z
        · exact hinc j z
        · cases k with
          | zero => omega
          | succ i =>
            have : j = i := by omega
            subst this
            intro q
            exact c (by show ((cntC t (j + 1) : Nat) : Int) = ((cntC t j : Nat) : Int); omega)
      · simp only
        cases k with
        | zero =>
          have : 0 < cntC t 0 := by
            have hm : (keysC t (seqC t 0)) ≠ [] := by intro z; rw [z] at kl; simp at kl; omega
            obtain ⟨r, hr⟩ := List.exists_mem_of_ne_nil _ hm
            have := List.length_pos_of_mem (mem_dis.mpr hr)
            exact this
          show 100 - ((cntC t 0 : Nat) : Int).toNat < 100 - ((0 : Nat) : Int).toNat
          omega
        | succ j =>
          have h1 := cntC_le h.tok j
          have c : ¬ ((cntC t (j + 1) : Nat) : Int) = ((cntC t j : Nat) : Int) := c
          simp only at c ⊢
          omega
  · rintro c rfl
    exact Wp.some rfl
theorem law_classes_eq {t : Tbl} (h : GoodT t) : m_classes (tD t) = some (nI (C t)) := by
  have h40 := h.few
  have hpos := h.pos
  refine Wp.eq ?_
  unfold m_classes
  have e0 : ((tD t).map fun (a5 : List (List PyData)) => (0 : Int)) = nI (seqC t 0) := by
    show _ = (List.replicate t.length 0).map _
    rw [List.map_replicate]
    unfold tD
    rw [List.map_map, List.eq_replicate_iff]
    exact ⟨by simp, fun z hz => by obtain ⟨_, _, rfl⟩ := List.mem_map.mp hz; rfl⟩
  rw [e0]
  refine Wp.bind (P := fun c => c = .nx (nI (C t))) (wp_forC (fun i st => st = nI (seqC t i) ∧ ∀ j, j < i → seqC t (j + 1) ≠ seqC t j) ⟨rfl, fun _ z => by omega⟩ ?_ ?_) ?_
  · rintro k a st ha ⟨rfl, hno⟩
    have hk := keys_good h k
    have kl : (keysC t (seqC t k)).length = t.length := by unfold keysC; simp
    refine Wp.go (a := tD (keysC t (seqC t k))) ?_ ?_
    · refine Wp.eq ?_
      refine (wp_forL (fun i st => st = tD (keysC (t.take i) (seqC t k))) rfl ?_).mono ?_
      · rintro i b st hb rfl
        unfold tD at hb
        rw [List.getElem?_map] at hb
        cases q : t[i]? with
        | none => rw [q] at hb; cases hb
        | some r =>
          rw [q] at hb
          cases hb
          have hi := (List.getElem?_eq_some_iff.mp q).1
          refine Wp.go (a := rD (shape (seqC t k) r)) ?_ ?_
          · unfold rD
            rw [lcM_on, lcM_mapE (fun x => (Item.ren (cls (seqC t k)) x).d)]
            · unfold shape; rw [List.map_map]; rfl
            · intro x hx
              rw [it_node]
              cases x with
              | node j =>
                rw [ifT (show (Item.node j).isNode = true from rfl), it_ix, atI_nI (by rw [seqC_len]; exact h.tok r (List.mem_of_getElem? q) j hx)]
                rfl
              | _ => rfl
          · refine Wp.go (pushM_eq (by rw [tD_len]; unfold keysC; rw [List.length_map, List.length_take]; omega)) (Wp.some ?_)
            unfold keysC tD
            rw [take_next q, List.map_append, List.map_append]
            rfl
      · rintro st rfl
        rw [tD_len, List.take_length]
    refine Wp.go (a := tD (dis (keysC t (seqC t k)))) (dis_loop (F := rowL) (e := rD) (n := 2) (fun a b => rowL_inj) rowL_nb (fun a ha => rowL_ly (hk a ha)) (by decide) (by omega)) ?_
    refine Wp.go (a := nI (seqC t (k + 1))) ?_ ?_
    · unfold tD
      rw [lcM_on, lcM_mapE (fun r => ((pos (dis (keysC t (seqC t k))) r : Nat) : Int))]
      · show _ = some (nI (num (keysC t (seqC t k))))
        unfold nI num
        rw [List.map_map]
        rfl
      · intro r hr
        refine Wp.eq (Wp.go (ixD_dis (F := rowL) (e := rD) (n := 2) (fun a b => rowL_inj) rowL_nb (fun a ha => rowL_ly (hk a ha)) (by decide) hr) (Wp.some rfl))
    have ee : eqD ((fun xs => PyData.list (xs.map PyData.int)) (nI (seqC t (k + 1)))) ((fun xs => PyData.list (xs.map PyData.int)) (nI (seqC t k))) = some (decide (seqC t (k + 1) = seqC t k)) := by
      rw [eqD_of ints_ly ints_ly (by decide) (by decide)]
      congr 1
      refine eqv_dec (ints_nb _) (ints_nb _) ?_
      simp only [PyData.list.injEq]
      rw [map_inj' (fun a b => by rw [PyData.int.injEq])]
      exact map_inj' fun a b => by omega
    refine Wp.go ee (Wp.ite (fun c => Wp.some ?_) (fun c => Wp.some ⟨rfl, fun j hj => ?_⟩))
    · have c := of_decide_eq_true c
      show Ctl.nx _ = _
      rw [C_of h.tok h.pos c]
    · have c := of_decide_eq_false c
      rcases Nat.lt_or_ge j k with z | z
      · exact hno j z
      · have : j = k := by omega
        subst this
        exact c
  · rintro st ⟨rfl, hno⟩
    exfalso
    rw [tD_len] at hno
    obtain ⟨k, hk, e⟩ := seq_end h.tok h.pos
    exact hno k hk e
  · rintro c rfl
    exact Wp.some rfl
theorem canonical_rows_eq {t : Tbl} (h : GoodT t) {s : Nat} (hs : s < t.length) : m_canonical_rows (tD t) (s : Int) = some (tD (canonAt t s)) := by
  have h40 := h.few
  refine Wp.eq ?_
  unfold m_canonical_rows
  refine Wp.go (classes_of_eq h) ?_
  rw [atI_nI (by rw [C_len]; exact hs)]
  generalize hc : C t = c
  have hcl : c.length = t.length := by rw [← hc, C_len]
  have hcan : canonAt t s = cGo t c (t.length + 1) [] [s] := by unfold canonAt; rw [hc]
  refine Wp.bind (P := fun z => ∃ st : List (List (List PyData)) × List Int × List Int, z = .nx st ∧ st.1 = tD (canonAt t s)) (wp_whC (fun st => ∃ n acc o, st = (tD acc, nI (o.map (cls c)), nI o) ∧ Ord c t.length o ∧ acc.length ≤ o.length ∧ n + acc.length = t.length + 1 ∧ cGo t c n acc o = canonAt t s) (fun st => 100 - st.1.length) ?_ ?_ ?_) ?_
  · exact ⟨t.length + 1, [], [s], rfl, ⟨by simp, fun k hk => by rw [List.mem_singleton.mp hk]; exact hs⟩, by simp, by simp, hcan.symm⟩
  · simp only; unfold FUEL; omega
  · rintro st ⟨n, acc, o, rfl, ho, hle, hn, hgo⟩
    have hol := ho.len
    rw [tD_len, nI_len]
    refine Wp.ite (fun q => ?_) (fun q => Wp.some ⟨_, rfl, ?_⟩)
    · have q : acc.length < o.length := by have := of_decide_eq_true q; omega
      obtain ⟨k, hk⟩ : ∃ k, o[acc.length]? = some k := ⟨o[acc.length], by simp [q]⟩
      have hkn := ho.lt k (List.mem_of_getElem? hk)
      obtain ⟨r, hr⟩ : ∃ r, t[k]? = some r := ⟨t[k], by simp [hkn]⟩
      have hrt := List.mem_of_getElem? hr
      have hr12 := h.short r hrt
      rw [atI_get (nI_get hk), atI_get (tD_get hr)]
      have hnode : ∀ j, Item.node j ∈ r → j < t.length := fun j hj => h.tok r hrt j hj
      refine Wp.bind (P := fun z => z = (rD (cRow c o r).1, nI ((cRow c o r).2.map (cls c)), nI (cRow c o r).2)) ((wp_forL (fun i st => st = (rD (cRow c o (r.take i)).1, nI ((cRow c o (r.take i)).2.map (cls c)), nI (cRow c o (r.take i)).2)) rfl ?_).mono ?_) ?_
      · rintro i a st ha rfl
        unfold rD at ha
        rw [List.getElem?_map] at ha
        cases qa : r[i]? with
        | none => rw [qa] at ha; cases ha
        | some x =>
          rw [qa] at ha
          cases ha
          have hi := (List.getElem?_eq_some_iff.mp qa).1
          have hx := List.mem_of_getElem? qa
          obtain ⟨ho1, hle1⟩ := cRow_ord (r := r.take i) ho fun j hj => hnode j (List.mem_of_mem_take hj)
          have hl1 : (cRow c o (r.take i)).1.length < 1000 := by rw [cRow_len, List.length_take]; omega
          rw [take_next qa, cRow_snoc]
          generalize cRow c o (r.take i) = p at ho1 hle1 hl1
          obtain ⟨a1, o1⟩ := p
          simp only at ho1 hle1 hl1 ⊢
          have hol1 := ho1.len
          rw [it_node]
          cases x with
          | node j =>
            have hj := hnode j hx
            have hjc : j < c.length := by omega
            refine Wp.no rfl ?_
            refine Wp.bind (P := fun z => z = (nI ((addN c o1 j).map (cls c)), nI (addN c o1 j))) ?_ ?_
            · rw [it_ix, atI_nI hjc]
              refine Wp.ite (fun z => ?_) (fun z => Wp.some ?_)
              · have z : cls c j ∉ o1.map (cls c) := by
                  have : ¬ ((cls c j : Nat) : Int) ∈ nI (o1.map (cls c)) := by simpa using z
                  exact fun w => this (mem_nI.mpr w)
                rw [it_ix, atI_nI hjc]
                refine Wp.go (pushM_eq (by rw [nI_len, List.length_map]; omega)) ?_
                rw [it_ix]
                refine Wp.go (pushM_eq (by rw [nI_len]; omega)) (Wp.some ?_)
                unfold addN
                rw [if_neg z, List.map_append, List.map_singleton, nI_push, nI_push]
              · have z : cls c j ∈ o1.map (cls c) := by
                  have : ((cls c j : Nat) : Int) ∈ nI (o1.map (cls c)) := by simpa using z
                  exact mem_nI.mp this
                unfold addN
                rw [if_pos z]
            · rintro _ rfl
              rw [it_ix, atI_nI hjc]
              refine Wp.go (ixOf_nI addN_mem) ?_
              rw [node_d]
              refine Wp.go (pushM_eq (by rw [rD_len]; omega)) (Wp.some ?_)
              rw [← rD_push]
              rfl
          | gap => exact Wp.yes rfl (Wp.go (pushM_eq (by rw [rD_len]; omega)) (Wp.some (by rw [← rD_push]; rfl)))
          | word w => exact Wp.yes rfl (Wp.go (pushM_eq (by rw [rD_len]; omega)) (Wp.some (by rw [← rD_push]; rfl)))
          | num w => exact Wp.yes rfl (Wp.go (pushM_eq (by rw [rD_len]; omega)) (Wp.some (by rw [← rD_push]; rfl)))
      · rintro st rfl
        rw [rD_len, List.take_length]
      · rintro _ rfl
        refine Wp.go (pushM_eq (by rw [tD_len]; omega)) (Wp.some ⟨?_, ?_⟩)
        · obtain ⟨ho1, hle1⟩ := cRow_ord (r := r) ho hnode
          obtain ⟨n, rfl⟩ : ∃ m, n = m + 1 := ⟨n - 1, by omega⟩
          refine ⟨n, acc ++ [(cRow c o r).1], (cRow c o r).2, by rw [tD_push], ho1, by rw [List.length_append]; simp; omega, by rw [List.length_append]; simp; omega, ?_⟩
          have hgo : (if acc.length < o.length then cGo t c n (acc ++ [(cRow c o (t.getD (o.getD acc.length 0) [])).1]) (cRow c o (t.getD (o.getD acc.length 0) [])).2 else acc) = canonAt t s := hgo
          rw [if_pos q, show o.getD acc.length 0 = k by simp [List.getD, hk], show t.getD k [] = r by simp [List.getD, hr]] at hgo
          exact hgo
        · simp only [List.length_append, tD_len]
          simp
          omega
    · have q : ¬ acc.length < o.length := by have := of_decide_eq_false q; omega
      obtain ⟨n, rfl⟩ : ∃ m, n = m + 1 := ⟨n - 1, by omega⟩
      have hgo : (if acc.length < o.length then cGo t c n (acc ++ [(cRow c o (t.getD (o.getD acc.length 0) [])).1]) (cRow c o (t.getD (o.getD acc.length 0) [])).2 else acc) = canonAt t s := hgo
      rw [if_neg q] at hgo
      rw [hgo]
  · rintro _ ⟨st, rfl, e⟩
    exact Wp.some e
theorem law_canonical_eq {t : Tbl} (h : GoodT t) : m_canonical (tD t) = some (tD (canon t)) := by
  have h40 := h.few
  have hs := h.pos
  refine Wp.eq ?_
  unfold m_canonical
  refine Wp.go (law_classes_eq h) ?_
  generalize hc : C t = c
  have hcl : c.length = t.length := by rw [← hc, C_len]
  have hcan : canon t = cGo t c (t.length + 1) [] [0] := by unfold canon canonAt; rw [hc]
  refine Wp.bind (P := fun z => ∃ st : List (List (List PyData)) × List Int, z = .nx st ∧ st.1 = tD (canon t)) (wp_whC (fun st => ∃ n acc o, st = (tD acc, nI o) ∧ Ord c t.length o ∧ acc.length ≤ o.length ∧ n + acc.length = t.length + 1 ∧ cGo t c n acc o = canon t) (fun st => 100 - st.1.length) ?_ ?_ ?_) ?_
  · exact ⟨t.length + 1, [], [0], rfl, ⟨by simp, fun k hk => by rw [List.mem_singleton.mp hk]; exact hs⟩, by simp, by simp, hcan.symm⟩
  · simp only; unfold FUEL; omega
  · rintro st ⟨n, acc, o, rfl, ho, hle, hn, hgo⟩
    have hol := ho.len
    rw [tD_len, nI_len]
    refine Wp.ite (fun q => ?_) (fun q => Wp.some ⟨_, rfl, ?_⟩)
    · have q : acc.length < o.length := by have := of_decide_eq_true q; omega
      obtain ⟨k, hk⟩ : ∃ k, o[acc.length]? = some k := ⟨o[acc.length], by simp [q]⟩
      have hkn := ho.lt k (List.mem_of_getElem? hk)
      obtain ⟨r, hr⟩ : ∃ r, t[k]? = some r := ⟨t[k], by simp [hkn]⟩
      have hrt := List.mem_of_getElem? hr
      have hr12 := h.short r hrt
      rw [atI_get (nI_get hk), atI_get (tD_get hr)]
      have hnode : ∀ j, Item.node j ∈ r → j < t.length := fun j hj => h.tok r hrt j hj
      refine Wp.bind (P := fun z => z = (rD (cRow c o r).1, nI (cRow c o r).2)) ((wp_forL (fun i st => st = (rD (cRow c o (r.take i)).1, nI (cRow c o (r.take i)).2)) rfl ?_).mono ?_) ?_
      · rintro i a st ha rfl
        unfold rD at ha
        rw [List.getElem?_map] at ha
        cases qa : r[i]? with
        | none => rw [qa] at ha; cases ha
        | some x =>
          rw [qa] at ha
          cases ha
          have hi := (List.getElem?_eq_some_iff.mp qa).1
          have hx := List.mem_of_getElem? qa
          obtain ⟨ho1, hle1⟩ := cRow_ord (r := r.take i) ho fun j hj => hnode j (List.mem_of_mem_take hj)
          have hl1 : (cRow c o (r.take i)).1.length < 1000 := by rw [cRow_len, List.length_take]; omega
          rw [take_next qa, cRow_snoc]
          generalize cRow c o (r.take i) = p at ho1 hle1 hl1
          obtain ⟨a1, o1⟩ := p
          simp only at ho1 hle1 hl1 ⊢
          have hol1 := ho1.len
          rw [it_node]
          cases x with
          | node j =>
            have hj := hnode j hx
            have hjc : j < c.length := by omega
            refine Wp.no rfl ?_
            refine Wp.go (a := nI (o1.map (cls c))) ?_ ?_
            · unfold nI
              rw [lcM_on, lcM_mapE (fun k => ((cls c k : Nat) : Int)), List.map_map]
              · rfl
              · intro k hk
                exact atI_nI (by have := ho1.lt k hk; omega) _
            refine Wp.bind (P := fun z => z = (nI ((addN c o1 j).map (cls c)), nI (addN c o1 j))) ?_ ?_
            · rw [it_ix, atI_nI hjc]
              refine Wp.ite (fun z => ?_) (fun z => Wp.some ?_)
              · have z : cls c j ∉ o1.map (cls c) := by
                  have : ¬ ((cls c j : Nat) : Int) ∈ nI (o1.map (cls c)) := by simpa using z
                  exact fun w => this (mem_nI.mpr w)
                rw [it_ix]
                refine Wp.go (pushM_eq (by rw [nI_len]; omega)) ?_
                rw [it_ix, atI_nI hjc]
                refine Wp.go (pushM_eq (by rw [nI_len, List.length_map]; omega)) (Wp.some ?_)
                unfold addN
                rw [if_neg z, List.map_append, List.map_singleton, nI_push, nI_push]
              · have z : cls c j ∈ o1.map (cls c) := by
                  have : ((cls c j : Nat) : Int) ∈ nI (o1.map (cls c)) := by simpa using z
                  exact mem_nI.mp this
                unfold addN
                rw [if_pos z]
            · rintro _ rfl
              rw [it_ix, atI_nI hjc]
              refine Wp.go (ixOf_nI addN_mem) ?_
              rw [node_d]
              refine Wp.go (pushM_eq (by rw [rD_len]; omega)) (Wp.some ?_)
              rw [← rD_push]
              rfl
          | gap => exact Wp.yes rfl (Wp.go (pushM_eq (by rw [rD_len]; omega)) (Wp.some (by rw [← rD_push]; rfl)))
          | word w => exact Wp.yes rfl (Wp.go (pushM_eq (by rw [rD_len]; omega)) (Wp.some (by rw [← rD_push]; rfl)))
          | num w => exact Wp.yes rfl (Wp.go (pushM_eq (by rw [rD_len]; omega)) (Wp.some (by rw [← rD_push]; rfl)))
      · rintro st rfl
        rw [rD_len, List.take_length]
      · rintro _ rfl
        refine Wp.go (pushM_eq (by rw [tD_len]; omega)) (Wp.some ⟨?_, ?_⟩)
        · obtain ⟨ho1, hle1⟩ := cRow_ord (r := r) ho hnode
          obtain ⟨n, rfl⟩ : ∃ m, n = m + 1 := ⟨n - 1, by omega⟩
          refine ⟨n, acc ++ [(cRow c o r).1], (cRow c o r).2, by rw [tD_push], ho1, by rw [List.length_append]; simp; omega, by rw [List.length_append]; simp; omega, ?_⟩
          have hgo : (if acc.length < o.length then cGo t c n (acc ++ [(cRow c o (t.getD (o.getD acc.length 0) [])).1]) (cRow c o (t.getD (o.getD acc.length 0) [])).2 else acc) = canon t := hgo
          rw [if_pos q, show o.getD acc.length 0 = k by simp [List.getD, hk], show t.getD k [] = r by simp [List.getD, hr]] at hgo
          exact hgo
        · simp only [List.length_append, tD_len]
          simp
          omega
    · have q : ¬ acc.length < o.length := by have := of_decide_eq_false q; omega
      obtain ⟨n, rfl⟩ : ∃ m, n = m + 1 := ⟨n - 1, by omega⟩
      have hgo : (if acc.length < o.length then cGo t c n (acc ++ [(cRow c o (t.getD (o.getD acc.length 0) [])).1]) (cRow c o (t.getD (o.getD acc.length 0) [])).2 else acc) = canon t := hgo
      rw [if_neg q] at hgo
      rw [hgo]
  · rintro _ ⟨st, rfl, e⟩
    exact Wp.some e
theorem is_number_yes {i : Int} (h : -(1000000000000000000000000000000000000000000000000000000000000 : Int) < i ∧ i < 1000000000000000000000000000000000000000000000000000000000000) : m_is_number_a (.int i) = some true := by
  unfold m_is_number_a
  show (some ((decide _) && (decide _))).bind some = _
  rw [decide_eq_true h.1, decide_eq_true h.2]
  rfl
theorem is_name_a_eq {x : Str} (h : x.length < 1000000) : m_is_name_a (.str x) = some (decide (IsName x)) := by
  unfold m_is_name_a
  show (((lenS x).bind fun n8 => some (!((decide ((1 : Int) ≤ n8)) && (decide (n8 ≤ (8 : Int)))))).bind fun c3 => if c3 = true then some false else (charsM x).bind fun z18 => some ((z18.map (fun (a22 : Str) => (decide (a22 ∈ chars (Str.ofString "abcdefghijklmnopqrstuvwxyz"))))).all id)) = _
  rw [lenS_eq h, Option.bind_some, Option.bind_some, charsM_eq h, Option.bind_some, chars_letters']
  by_cases h1 : 1 ≤ x.length ∧ x.length ≤ 8
  · rw [if_neg (by simp; omega)]
    exact congrArg some (decide_eq_decide.mpr ⟨fun z => ⟨h1.1, h1.2, z⟩, fun z => z.2.2⟩)
  · rw [if_pos (by simp; omega)]
    exact congrArg some (decide_eq_false fun z => h1 ⟨z.1, z.2.1⟩).symm
theorem is_item_yes {n : Nat} {x : Item} (h : GoodI n x) (hn : n ≤ 1000) : m_is_item x.d (n : Int) = some true := by
  refine Wp.eq ?_
  unfold m_is_item
  obtain ⟨k1, k2, k3, k4, k5, k6⟩ := kne
  cases x with
  | gap =>
    refine Wp.no rfl (Wp.yes rfl ?_)
    exact Wp.go (show atI (Item.gap).d 0 = some (.str (Str.ofString "gap")) from rfl) (Wp.go (eqS kok1 kok1) (Wp.some (by simp)))
  | word s =>
    refine Wp.no rfl (Wp.no rfl (Wp.go (show un2 (Item.word s).d = some (.str (Str.ofString "word"), .str s) from rfl) ?_))
    refine Wp.go (eqS kok2 kok3) (Wp.no (by simp [k4]) (Wp.go (eqS kok2 kok2) (Wp.yes (by simp) ?_)))
    have hs := h.word s rfl
    exact Wp.go (is_name_a_eq (by have := hs.2.1; omega)) (Wp.some (decide_eq_true hs))
  | num i =>
    refine Wp.no rfl (Wp.no rfl (Wp.go (show un2 (Item.num i).d = some (.str (Str.ofString "number"), .int i) from rfl) ?_))
    exact Wp.go (eqS kok3 kok3) (Wp.yes (by simp) (Wp.go (is_number_yes (h.num i rfl)) (Wp.some rfl)))
  | node k =>
    have hk := h.node k rfl
    refine Wp.no rfl (Wp.no rfl (Wp.go (show un2 (Item.node k).d = some (.str (Str.ofString "node"), .int (k : Int)) from rfl) ?_))
    refine Wp.go (eqS kok4 kok3) (Wp.no (by simp [Ne.symm k6]) (Wp.go (eqS kok4 kok2) (Wp.no (by simp [Ne.symm k5]) ?_)))
    refine Wp.bind (P := fun c => c = true) ?_ fun c hc => Wp.some hc
    refine Wp.go (eqS kok4 kok4) (Wp.yes (by simp) (Wp.go (is_number_yes ⟨by omega, by omega⟩) (Wp.yes rfl (Wp.go (show asI (.int (k : Int)) = some (k : Int) from rfl) (Wp.some ?_)))))
    simp
    omega
theorem check_rows_eq {t : Tbl} (h : GoodT t) : m_check_rows (tD t) = some () := by
  have h40 := h.few
  have hpos := h.pos
  refine Wp.eq ?_
  unfold m_check_rows
  refine Wp.no (decide_eq_false (by rw [tD_len]; omega)) ?_
  refine Wp.bind (P := fun _ => True) ((wp_forL (fun _ _ => True) trivial ?_).mono fun _ _ => trivial) fun _ _ => Wp.some rfl
  rintro i ⟨j, a⟩ _ ha _
  obtain ⟨hia, hij⟩ := enum_at ha
  simp only at hij hia
  unfold tD at hia
  rw [List.getElem?_map] at hia
  cases q : t[i]? with
  | none => rw [q] at hia; cases hia
  | some r =>
    rw [q] at hia
    cases hia
    have hr := List.mem_of_getElem? q
    have h12 := h.short r hr
    have hil := (List.getElem?_eq_some_iff.mp q).1
    refine Wp.no ?_ ?_
    · simp only
      rw [rD_len]
      simp only [Bool.or_eq_false_iff, decide_eq_false_iff_not]
      omega
    · simp only
      refine Wp.go (a := r.map fun _ => true) ?_ ?_
      · unfold rD
        rw [lcM_on, lcM_mapE (fun _ => true)]
        intro x hx
        rw [tD_len, is_item_yes (h.item r hr x hx) (by omega)]
        rfl
      · exact Wp.no (by simp) (Wp.some trivial)
theorem tD_id (t : Tbl) : ((tD t).map fun (a5 : List (List PyData)) => a5) = tD t := List.map_id' _
theorem result_eq {t : Tbl} (h : GoodT t) : m_Result___init__ (tD t) = some (tD (canon t)) := by
  unfold m_Result___init__
  rw [tD_id, check_rows_eq h, Option.bind_some, show (0 : Int) = ((0 : Nat) : Int) from rfl, canonical_rows_eq h h.pos]
  rfl
theorem cItem_good {c : List Nat} {n : Nat} {o : List Nat} {x : Item} (ho : Ord c n o) (hx : GoodI n x) : GoodI n (cItem c o x).1 := by
  cases x with
  | node k =>
    refine ⟨fun j e => ?_, fun s e => (by cases e), fun s e => (by cases e)⟩
    cases e
    have h1 := pos_lt (addN_mem (c := c) (o := o) (k := k))
    have h2 := (ho.add (hx.node k rfl)).len
    rw [List.length_map] at h1
    omega
  | gap => exact hx
  | word s => exact hx
  | num s => exact hx
theorem cRow_good {c : List Nat} {n : Nat} : ∀ {r : Row} {o : List Nat}, Ord c n o → (∀ x ∈ r, GoodI n x) → ∀ x ∈ (cRow c o r).1, GoodI n x
  | [], o, _, _, x, hx => by cases hx
  | y :: r, o, ho, hr, x, hx => by
    have hx : x ∈ (cItem c o y).1 :: (cRow c (cItem c o y).2 r).1 := hx
    rcases List.mem_cons.mp hx with rfl | hx
    · exact cItem_good ho (hr y List.mem_cons_self)
    · refine cRow_good (r := r) (o := (cItem c o y).2) ?_ (fun z hz => hr z (List.mem_cons_of_mem _ hz)) x hx
      cases y with
      | node k => exact ho.add ((hr _ List.mem_cons_self).node k rfl)
      | _ => exact ho
theorem cGo_good {t : Tbl} {c : List Nat} (ht : ∀ r ∈ t, ∀ x ∈ r, GoodI t.length x) : ∀ {n : Nat} {acc : Tbl} {o : List Nat}, Ord c t.length o → (∀ r ∈ acc, (∀ x ∈ r, GoodI t.length x)) → ∀ r ∈ cGo t c n acc o, ∀ x ∈ r, GoodI t.length x
  | 0, acc, o, _, ha, r, hr, x, hx => ha r hr x hx
  | n + 1, acc, o, ho, ha, r, hr, x, hx => by
    unfold cGo at hr
    by_cases q : acc.length < o.length
    · rw [if_pos q] at hr
      obtain ⟨k, hk⟩ : ∃ k, o[acc.length]? = some k := ⟨o[acc.length], by simp [q]⟩
      have hkn := ho.lt k (List.mem_of_getElem? hk)
      obtain ⟨r', hr'⟩ : ∃ r, t[k]? = some r := ⟨t[k], by simp [hkn]⟩
      rw [show o.getD acc.length 0 = k by simp [List.getD, hk], show t.getD k [] = r' by simp [List.getD, hr']] at hr
      have hg := ht r' (List.mem_of_getElem? hr')
      refine cGo_good ht (cRow_ord (r := r') ho fun j hj => (hg _ hj).node j rfl).1 (fun z hz => ?_) r hr x hx
      rcases List.mem_append.mp hz with w | w
      · exact ha z w
      · rw [List.mem_singleton.mp w]
        exact cRow_good ho hg
    · rw [if_neg q] at hr
      exact ha r hr x hx
theorem canon_good {t : Tbl} (h : GoodT t) {s : Nat} (hs : s < t.length) : ∀ r ∈ canonAt t s, ∀ x ∈ r, GoodI t.length x :=
  cGo_good h.item ⟨by simp, fun k hk => by rw [List.mem_singleton.mp hk]; exact hs⟩ (fun r hr => by cases hr)
theorem result_eq_eq {a b : Tbl} {n m : Nat} (ha : ∀ r ∈ a, ∀ x ∈ r, GoodI n x) (hb : ∀ r ∈ b, ∀ x ∈ r, GoodI m x) : m_Result___eq__ (tD a) (tD b) = some (decide (a = b)) := by
  unfold m_Result___eq__
  rw [if_pos rfl]
  refine Wp.eq (Wp.bind (P := fun c => c = decide (a = b)) (Wp.go (tbl_eqD ha hb) (Wp.some rfl)) fun c hc => Wp.some hc)
theorem rows_eq (t : Tbl) : m_Result_rows (tD t) = some (tD t) := by
  unfold m_Result_rows
  rw [show (List.map (fun (a11 : List (List PyData)) => a11) (tD t)) = tD t from List.map_id' _]
end Mm
namespace Mm
open PySem L2 Mf
section
variable {P : Program} {w : World} {K : PySem.W.Frag} {mg : Str → Option Value} {base : Heap} {cx : Nat → Addr}
abbrev n_number : List Str := ["_law_source_here", "_law_digit"]
theorem sc_number : FnScope n_number ["_law_source_here"] (defScope s_number) := ⟨rfl, rfl, rfl, by decide +kernel, rfl, by decide +kernel, by decide +kernel⟩
def m_number (x_0 : Src3) : Option (Int × Src3) :=
  (m_draw (x_0) ((6 : Int))).bind fun r1 =>
  if (decide (r1.1 < (3 : Int))) = true then (atI ([(0 : Int), (1 : Int), (7 : Int)] : (List Int)) r1.1).bind fun x18 =>
  some (x18, r1.2) else if (decide (r1.1 = (3 : Int))) = true then (m_draw (r1.2) (((2 : Int) * ((10 : Int) ^ ((59 : Int)).toNat)))).bind fun r21 =>
  some ((r21.1 - ((10 : Int) ^ ((59 : Int)).toNat)), r21.2) else if (decide (r1.1 = (4 : Int))) = true then (m_draw (r1.2) ((3 : Int))).bind fun r32 =>
  some (((((10 : Int) ^ ((60 : Int)).toNat) - (1 : Int)) - r32.1), r32.2) else (m_draw (r1.2) ((3 : Int))).bind fun r42 =>
  some (((r42.1 + (1 : Int)) - ((10 : Int) ^ ((60 : Int)).toNat)), r42.2)
def sp_number (K : PySem.W.Frag) : Sp := fun vs H Q E => ∃ (B : Hp) (x_0 : Src3) (p_0 : Addr) (o_0 : HO) (r : (Int × Src3)), vs = [.ref p_0] ∧ Same B H ∧ (H p_0 = some o_0 ∧ B p_0 = none ∧ cSrc.rel B x_0 o_0) ∧ m_number x_0 = some r ∧ ∀ (v : V) (B' H' : Hp) (op_0 : HO), Sit ⟨B, H, [p_0]⟩ B' H' [(p_0, op_0)] → dInt.rel B' r.1 v → cSrc.rel B' r.2 op_0 → Q v H'
theorem use_number {K : PySem.W.Frag} {Φ : Fr} {B H : Hp} {cs : List (Addr × HO)} {Q : VK} {E : XK} {r : (Int × Src3)} {x_0 : Src3} {p_0 : Addr} {o_0 : HO} {i1 : Nat} (Z : Sit Φ B H cs) (hc_0 : cs[i1]? = some (p_0, o_0)) (h_0 : cSrc.rel B x_0 o_0) (hm : m_number x_0 = some r) (k : ∀ (v : V) (B' H' : Hp) (op_0 : HO), Sit Φ B' H' (cs.set i1 (p_0, op_0)) → Same B B' → dInt.rel B' r.1 v → cSrc.rel B' r.2 op_0 → Q v H') : sp_number K ([.ref p_0] ++ []) H Q E := by
  exact ⟨B, x_0, p_0, o_0, r, rfl, Z.sub, ⟨Z.at' hc_0, Z.atB hc_0, h_0⟩, hm, fun v B' H' op_0 Z' h qp_0 => k v B' H' op_0 (Z.call1 hc_0 Z') Z'.grow h qp_0⟩
theorem ok_number (A0 : DefAt K mg "_law_number" s_number ["_law_source_here"]) (D_draw : Does P w K mg base CX0 1 "_law_draw" ["_law_source_here", "_law_many"] sp_drawM) : Does P w K mg base CX0 2 "_law_number" ["_law_source_here"] (sp_number K ) := by
  obtain ⟨f, fd, F, gm, bd⟩ := A0
  obtain ⟨f_draw, fd_draw, G_draw, g_draw, kp_draw, bd_draw⟩ := D_draw
  refine ⟨f, fd, ?_, gm, F.kp, bd⟩
  refine F.ok sc_number (fun vs H Q E h => ?_) (fun cdv A outer s H vs Q E hr h => ?_)
  · obtain ⟨_, _, _, _, _, rfl, _⟩ := h
    rfl
  · obtain ⟨B, x_0, p_0, o_0, r, rfl, sB, ⟨hp_0, hb_0, hx_0⟩, hm, k⟩ := h
    have hu := hu_of hr
    refine ⟨_, (pss_cons (ps_set (i := 1) sc_number.nd rfl (Or.inl rfl) (pe_call G_draw (hr.mono (by decide)) rfl g_draw kp_draw bd_draw .nil pass0 (pa_cons (pv 0) (pa_cons pe_int pa_nil))))
  (pss_cons (ps_if (pt_cmpR op_lt (pv 1) pe_int (nomark _)) (pss_one (ps_ret (pe_ix (k_ixL K) (pe_lst (pa_cons pe_int (pa_cons pe_int (pa_cons pe_int pa_nil)))) (pv 1) (fun _ _ => rfl)))) pss_nil)
  (pss_cons (ps_if (pt_cmpR op_eq (pv 1) pe_int (nomark _)) (pss_one (ps_ret (pe_op op_sub (pe_call G_draw (hr.mono (by decide)) rfl g_draw kp_draw bd_draw .nil pass0 (pa_cons (pv 0) (pa_cons (pe_op op_mul pe_int (pe_op op_pow pe_int pe_int)) pa_nil))) (pe_op op_pow pe_int pe_int)))) pss_nil)
  (pss_cons (ps_if (pt_cmpR op_eq (pv 1) pe_int (nomark _)) (pss_one (ps_ret (pe_op op_sub (pe_op op_sub (pe_op op_pow pe_int pe_int) pe_int) (pe_call G_draw (hr.mono (by decide)) rfl g_draw kp_draw bd_draw .nil pass0 (pa_cons (pv 0) (pa_cons pe_int pa_nil)))))) pss_nil)
  (pss_one (ps_ret (pe_op op_sub (pe_op op_add (pe_call G_draw (hr.mono (by decide)) rfl g_draw kp_draw bd_draw .nil pass0 (pa_cons (pv 0) (pa_cons pe_int pa_nil))) pe_int) (pe_op op_pow pe_int pe_int)))))))), ?_⟩
    obtain ⟨B0, hB0⟩ : ∃ B0 : Hp, B0 = B := ⟨_, rfl⟩
    subst hB0
    have S0 := Sit.start1 sB hp_0 hb_0
    unfold m_number at hm
    refine w_sig (σ' := [(some (.ref p_0)), none]) rfl ?_
    refine w_seq ?_
    refine w_asg ?_
    refine w_call ?_
    refine w_evA (EvA.cons (Ev.var rfl) (EvA.cons Ev.c EvA.nil)) ?_
    obtain ⟨r1, h2, hm⟩ := bs hm
    refine use_draw S0 (i1 := 0) rfl hx_0 (show dInt.rel _ (6 : Int) (V.int 6) from rfl) h2 fun v3 B7 H4 o8 (S5 : Sit _ B7 H4 [(p_0, o8)]) s6 h10 h9 => ?_
    cases h10
    refine w_gname ?_
    refine w_nx (σ' := [(some (.ref p_0)), (some (V.int r1.1))]) rfl ?_
    refine w_seq ?_
    refine w_ifS ?_
    refine w_evT (EvT.test (Ev.op (Ev.var rfl) Ev.c rv_I0)) ?_
    refine w_ifb (fun h11 => ?_) (fun h11 => ?_)
    · rw [ifT h11] at hm
      refine w_ret ?_
      refine w_op ?_
      refine x_lst ?_
      refine w_evA (EvA.cons Ev.c (EvA.cons Ev.c (EvA.cons Ev.c EvA.nil))) ?_
      refine mkL (R := dInt) (xs := [(0 : Int), (1 : Int), (7 : Int)]) S5 (.cons (show dInt.rel _ (0 : Int) (V.int 0) from rfl) (.cons (show dInt.rel _ (1 : Int) (V.int 1) from rfl) (.cons (show dInt.rel _ (7 : Int) (V.int 7) from rfl) .nil))) (by show 3 ≤ BIG; decide) fun v12 B17 H13 S14 s15 h16 => ?_
      refine w_ev (Ev.var rfl) ?_
      obtain ⟨x18, hx18, hm⟩ := bs hm
      obtain ⟨_, rfl, r19⟩ := ix_L (K := K) h16 hx18
      refine w_rv (r19 _ S14.sub) ?_
      obtain rfl := Option.some.inj hm
      exact k _ _ _ _ S14 (show dInt.rel _ x18 (V.int x18) from rfl) (Cl.mono _ s15 h9)
    · rw [ifF h11] at hm
      refine w_next ?_
      refine w_seq ?_
      refine w_ifS ?_
      refine w_evT (EvT.test (Ev.op (Ev.var rfl) Ev.c rv_eqI)) ?_
      refine w_ifb (fun h20 => ?_) (fun h20 => ?_)
      · rw [ifT h20] at hm
        refine w_ret ?_
        refine w_op ?_
        refine w_call ?_
        refine w_evA (EvA.cons (Ev.var rfl) (EvA.cons (Ev.op Ev.c (Ev.op Ev.c Ev.c (rv_powI ⟨by decide, by decide, by decide⟩)) (rv_mulI (.inl ⟨by decide, by decide⟩))) EvA.nil)) ?_
        obtain ⟨r21, h22, hm⟩ := bs hm
        refine use_draw S5 (i1 := 0) rfl h9 (show dInt.rel _ ((2 : Int) * ((10 : Int) ^ ((59 : Int)).toNat)) (V.int ((2 : Int) * ((10 : Int) ^ ((59 : Int)).toNat))) from rfl) h22 fun v23 B27 H24 o28 (S25 : Sit _ B27 H24 [(p_0, o28)]) s26 h30 h29 => ?_
        cases h30
        refine w_ev (Ev.op Ev.c Ev.c (rv_powI ⟨by decide, by decide, by decide⟩)) ?_
        refine w_rv rv_I0 ?_
        obtain rfl := Option.some.inj hm
        exact k _ _ _ _ S25 (show dInt.rel _ (r21.1 - ((10 : Int) ^ ((59 : Int)).toNat)) (V.int (r21.1 - ((10 : Int) ^ ((59 : Int)).toNat))) from rfl) h29
      · rw [ifF h20] at hm
        refine w_next ?_
        refine w_seq ?_
        refine w_ifS ?_
        refine w_evT (EvT.test (Ev.op (Ev.var rfl) Ev.c rv_eqI)) ?_
        refine w_ifb (fun h31 => ?_) (fun h31 => ?_)
        · rw [ifT h31] at hm
          refine w_ret ?_
          refine w_op ?_
          refine w_ev (Ev.op (Ev.op Ev.c Ev.c (rv_powI ⟨by decide, by decide, by decide⟩)) Ev.c rv_I0) ?_
          refine w_call ?_
          refine w_evA (EvA.cons (Ev.var rfl) (EvA.cons Ev.c EvA.nil)) ?_
          obtain ⟨r32, h33, hm⟩ := bs hm
          refine use_draw S5 (i1 := 0) rfl h9 (show dInt.rel _ (3 : Int) (V.int 3) from rfl) h33 fun v34 B38 H35 o39 (S36 : Sit _ B38 H35 [(p_0, o39)]) s37 h41 h40 => ?_
          cases h41
          refine w_rv rv_I0 ?_
          obtain rfl := Option.some.inj hm
          exact k _ _ _ _ S36 (show dInt.rel _ ((((10 : Int) ^ ((60 : Int)).toNat) - (1 : Int)) - r32.1) (V.int ((((10 : Int) ^ ((60 : Int)).toNat) - (1 : Int)) - r32.1)) from rfl) h40
        · rw [ifF h31] at hm
          refine w_next ?_
          refine w_ret ?_
          refine w_op ?_
          refine w_op ?_
          refine w_call ?_
          refine w_evA (EvA.cons (Ev.var rfl) (EvA.cons Ev.c EvA.nil)) ?_
          obtain ⟨r42, h43, hm⟩ := bs hm
          refine use_draw S5 (i1 := 0) rfl h9 (show dInt.rel _ (3 : Int) (V.int 3) from rfl) h43 fun v44 B48 H45 o49 (S46 : Sit _ B48 H45 [(p_0, o49)]) s47 h51 h50 => ?_
          cases h51
          refine w_ev Ev.c ?_
          refine w_rv rv_I0 ?_
          refine w_ev (Ev.op Ev.c Ev.c (rv_powI ⟨by decide, by decide, by decide⟩)) ?_
          refine w_rv rv_I0 ?_
          obtain rfl := Option.some.inj hm
          exact k _ _ _ _ S46 (show dInt.rel _ ((r42.1 + (1 : Int)) - ((10 : Int) ^ ((60 : Int)).toNat)) (V.int ((r42.1 + (1 : Int)) - ((10 : Int) ^ ((60 : Int)).toNat))) from rfl) h50
abbrev n_item : List Str := ["_law_source_here", "_law_many", "_law_words", "_law_digit"]
theorem sc_item : FnScope n_item ["_law_source_here", "_law_many", "_law_words"] (defScope s_item) := ⟨rfl, rfl, rfl, by decide +kernel, rfl, by decide +kernel, by decide +kernel⟩
def m_item (x_0 : Src3) (x_1 : Int) (x_2 : (List Str)) : Option ((List PyData) × Src3) :=
  (m_draw (x_0) ((7 : Int))).bind fun r1 =>
  if (decide (r1.1 = (0 : Int))) = true then some (([(PyData.str (Str.ofString "gap"))] : (List PyData)), r1.2) else if (decide (r1.1 = (1 : Int))) = true then (m_draw (r1.2) ((x_2.length : Int))).bind fun r19 =>
  (atI x_2 r19.1).bind fun x29 =>
  some (([(PyData.str (Str.ofString "word")), (PyData.str x29)] : (List PyData)), r19.2) else if (decide (r1.1 = (2 : Int))) = true then (m_number (r1.2)).bind fun r38 =>
  some (([(PyData.str (Str.ofString "number")), (PyData.int r38.1)] : (List PyData)), r38.2) else (m_draw (r1.2) (x_1)).bind fun r54 =>
  some (([(PyData.str (Str.ofString "node")), (PyData.int r54.1)] : (List PyData)), r54.2)
def sp_item (K : PySem.W.Frag) : Sp := fun vs H Q E => ∃ (B : Hp) (x_0 : Src3) (p_0 : Addr) (o_0 : HO) (x_1 : Int) (x_2 : (List Str)) (v_2 : V) (r : ((List PyData) × Src3)), vs = [.ref p_0, (V.int x_1), v_2] ∧ Same B H ∧ (H p_0 = some o_0 ∧ B p_0 = none ∧ cSrc.rel B x_0 o_0) ∧ (dList dStr).rel B x_2 v_2 ∧ m_item x_0 x_1 x_2 = some r ∧ ∀ (v : V) (B' H' : Hp) (op_0 : HO), Sit ⟨B, H, [p_0]⟩ B' H' [(p_0, op_0)] → (dTup K (dAny K)).rel B' r.1 v → cSrc.rel B' r.2 op_0 → Q v H'
theorem use_item {K : PySem.W.Frag} {Φ : Fr} {B H : Hp} {cs : List (Addr × HO)} {Q : VK} {E : XK} {r : ((List PyData) × Src3)} {x_0 : Src3} {p_0 : Addr} {o_0 : HO} {i1 : Nat} {x_1 : Int} {v_1 : V} {x_2 : (List Str)} {v_2 : V} (Z : Sit Φ B H cs) (hc_0 : cs[i1]? = some (p_0, o_0)) (h_0 : cSrc.rel B x_0 o_0) (h_1 : dInt.rel B x_1 v_1) (h_2 : (dList dStr).rel B x_2 v_2) (hm : m_item x_0 x_1 x_2 = some r) (k : ∀ (v : V) (B' H' : Hp) (op_0 : HO), Sit Φ B' H' (cs.set i1 (p_0, op_0)) → Same B B' → (dTup K (dAny K)).rel B' r.1 v → cSrc.rel B' r.2 op_0 → Q v H') : sp_item K ([.ref p_0, v_1, v_2] ++ []) H Q E := by
  cases h_1
  exact ⟨B, x_0, p_0, o_0, x_1, x_2, v_2, r, rfl, Z.sub, ⟨Z.at' hc_0, Z.atB hc_0, h_0⟩, h_2, hm, fun v B' H' op_0 Z' h qp_0 => k v B' H' op_0 (Z.call1 hc_0 Z') Z'.grow h qp_0⟩
theorem ok_item (A0 : DefAt K mg "_law_item" s_item ["_law_source_here", "_law_many", "_law_words"]) (b_len : mg "len" = none) (D_draw : Does P w K mg base CX0 1 "_law_draw" ["_law_source_here", "_law_many"] sp_drawM) (D_number : Does P w K mg base CX0 2 "_law_number" ["_law_source_here"] (sp_number K )) : Does P w K mg base CX0 3 "_law_item" ["_law_source_here", "_law_many", "_law_words"] (sp_item K ) := by
  obtain ⟨f, fd, F, gm, bd⟩ := A0
  obtain ⟨f_draw, fd_draw, G_draw, g_draw, kp_draw, bd_draw⟩ := D_draw
  obtain ⟨f_number, fd_number, G_number, g_number, kp_number, bd_number⟩ := D_number
  refine ⟨f, fd, ?_, gm, F.kp, bd⟩
  refine F.ok sc_item (fun vs H Q E h => ?_) (fun cdv A outer s H vs Q E hr h => ?_)
  · obtain ⟨_, _, _, _, _, _, _, _, rfl, _⟩ := h
    rfl
  · obtain ⟨B, x_0, p_0, o_0, x_1, x_2, v_2, r, rfl, sB, ⟨hp_0, hb_0, hx_0⟩, hx_2, hm, k⟩ := h
    have hu := hu_of hr
    refine ⟨_, (pss_cons (ps_set (i := 3) sc_item.nd rfl (Or.inl rfl) (pe_call G_draw (hr.mono (by decide)) rfl g_draw kp_draw bd_draw .nil pass0 (pa_cons (pv 0) (pa_cons pe_int pa_nil))))
  (pss_cons (ps_if (pt_cmpR op_eq (pv 3) pe_int (nomark _)) (pss_one (ps_ret (pe_tup (pa_cons pe_str pa_nil)))) pss_nil)
  (pss_cons (ps_if (pt_cmpR op_eq (pv 3) pe_int (nomark _)) (pss_one (ps_ret (pe_tup (pa_cons pe_str (pa_cons (pe_ix (k_ixL K) (pv 2) (pe_call G_draw (hr.mono (by decide)) rfl g_draw kp_draw bd_draw .nil pass0 (pa_cons (pv 0) (pa_cons (pe_callB (k_len K) (by rfl) b_len (by decide +kernel) (pa_cons (pv 2) pa_nil)) pa_nil))) (fun _ _ => rfl)) pa_nil))))) pss_nil)
  (pss_cons (ps_if (pt_cmpR op_eq (pv 3) pe_int (nomark _)) (pss_one (ps_ret (pe_tup (pa_cons pe_str (pa_cons (pe_call G_number (hr.mono (by decide)) rfl g_number kp_number bd_number .nil pass0 (pa_cons (pv 0) pa_nil)) pa_nil))))) pss_nil)
  (pss_one (ps_ret (pe_tup (pa_cons pe_str (pa_cons (pe_call G_draw (hr.mono (by decide)) rfl g_draw kp_draw bd_draw .nil pass0 (pa_cons (pv 0) (pa_cons (pv 1) pa_nil))) pa_nil))))))))), ?_⟩
    obtain ⟨B0, hB0⟩ : ∃ B0 : Hp, B0 = B := ⟨_, rfl⟩
    subst hB0
    have S0 := Sit.start1 sB hp_0 hb_0
    unfold m_item at hm
    refine w_sig (σ' := [(some (.ref p_0)), (some (V.int x_1)), (some v_2), none]) rfl ?_
    refine w_seq ?_
    refine w_asg ?_
    refine w_call ?_
    refine w_evA (EvA.cons (Ev.var rfl) (EvA.cons Ev.c EvA.nil)) ?_
    obtain ⟨r1, h2, hm⟩ := bs hm
    refine use_draw S0 (i1 := 0) rfl hx_0 (show dInt.rel _ (7 : Int) (V.int 7) from rfl) h2 fun v3 B7 H4 o8 (S5 : Sit _ B7 H4 [(p_0, o8)]) s6 h10 h9 => ?_
    cases h10
    refine w_gname ?_
    refine w_nx (σ' := [(some (.ref p_0)), (some (V.int x_1)), (some v_2), (some (V.int r1.1))]) rfl ?_
    refine w_seq ?_
    refine w_ifS ?_
    refine w_evT (EvT.test (Ev.op (Ev.var rfl) Ev.c rv_eqI)) ?_
    refine w_ifb (fun h11 => ?_) (fun h11 => ?_)
    · rw [ifT h11] at hm
      refine w_ret ?_
      refine x_tup ?_
      refine w_evA (EvA.cons Ev.c EvA.nil) ?_
      refine mk1 (K := K)  S5 (show dStr.rel _ (Str.ofString "gap") (V.str (Str.ofString "gap")) from rfl) fun v12 B17 H13 S14 s15 h16 => ?_
      obtain rfl := Option.some.inj hm
      exact k _ _ _ _ S14 (show (dTup K (dAny K)).rel _ ([(PyData.str (Str.ofString "gap"))] : (List PyData)) v12 from (mp1 (mpA drStr)) h16) (Cl.mono _ s15 h9)
    · rw [ifF h11] at hm
      refine w_next ?_
      refine w_seq ?_
      refine w_ifS ?_
      refine w_evT (EvT.test (Ev.op (Ev.var rfl) Ev.c rv_eqI)) ?_
      refine w_ifb (fun h18 => ?_) (fun h18 => ?_)
      · rw [ifT h18] at hm
        refine w_ret ?_
        refine x_tup ?_
        refine w_cons ?_
        refine w_ev Ev.c ?_
        refine w_cons ?_
        refine w_op ?_
        refine w_ev (Ev.var rfl) ?_
        refine w_call ?_
        refine w_evA (EvA.cons (Ev.var rfl) (EvA.cons (Ev.cb (EvA.cons (Ev.var rfl) EvA.nil) (rlen_q (sqL (K := K) (Rl.mono _ s6 hx_2) S5.sub))) EvA.nil)) ?_
        obtain ⟨r19, h20, hm⟩ := bs hm
        refine use_draw S5 (i1 := 0) rfl h9 (show dInt.rel _ (x_2.length : Int) (V.int (x_2.length : Int)) from rfl) h20 fun v21 B25 H22 o26 (S23 : Sit _ B25 H22 [(p_0, o26)]) s24 h28 h27 => ?_
        cases h28
        obtain ⟨x29, hx29, hm⟩ := bs hm
        obtain ⟨_, rfl, r30⟩ := ix_L (K := K) (Rl.mono _ (s6.tr s24) hx_2) hx29
        refine w_rv (r30 _ S23.sub) ?_
        refine w_nil ?_
        refine mk2 (K := K)   S23 (show dStr.rel _ (Str.ofString "word") (V.str (Str.ofString "word")) from rfl) (show dStr.rel _ x29 (V.str x29) from rfl) fun v31 B36 H32 S33 s34 h35 => ?_
        obtain rfl := Option.some.inj hm
        exact k _ _ _ _ S33 (show (dTup K (dAny K)).rel _ ([(PyData.str (Str.ofString "word")), (PyData.str x29)] : (List PyData)) v31 from (mp2 (mpA drStr) (mpA drStr)) h35) (Cl.mono _ s34 h27)
      · rw [ifF h18] at hm
        refine w_next ?_
        refine w_seq ?_
        refine w_ifS ?_
        refine w_evT (EvT.test (Ev.op (Ev.var rfl) Ev.c rv_eqI)) ?_
        refine w_ifb (fun h37 => ?_) (fun h37 => ?_)
        · rw [ifT h37] at hm
          refine w_ret ?_
          refine x_tup ?_
          refine w_cons ?_
          refine w_ev Ev.c ?_
          refine w_cons ?_
          refine w_call ?_
          refine w_evA (EvA.cons (Ev.var rfl) EvA.nil) ?_
          obtain ⟨r38, h39, hm⟩ := bs hm
          refine use_number S5 (i1 := 0) rfl h9 h39 fun v40 B44 H41 o45 (S42 : Sit _ B44 H41 [(p_0, o45)]) s43 h47 h46 => ?_
          cases h47
          refine w_nil ?_
          refine mk2 (K := K)   S42 (show dStr.rel _ (Str.ofString "number") (V.str (Str.ofString "number")) from rfl) (show dInt.rel _ r38.1 (V.int r38.1) from rfl) fun v48 B53 H49 S50 s51 h52 => ?_
          obtain rfl := Option.some.inj hm
          exact k _ _ _ _ S50 (show (dTup K (dAny K)).rel _ ([(PyData.str (Str.ofString "number")), (PyData.int r38.1)] : (List PyData)) v48 from (mp2 (mpA drStr) (mpA drInt)) h52) (Cl.mono _ s51 h46)
        · rw [ifF h37] at hm
          refine w_next ?_
          refine w_ret ?_
          refine x_tup ?_
          refine w_cons ?_
          refine w_ev Ev.c ?_
          refine w_cons ?_
          refine w_call ?_
          refine w_evA (EvA.cons (Ev.var rfl) (EvA.cons (Ev.var rfl) EvA.nil)) ?_
          obtain ⟨r54, h55, hm⟩ := bs hm
          refine use_draw S5 (i1 := 0) rfl h9 (show dInt.rel _ x_1 (V.int x_1) from rfl) h55 fun v56 B60 H57 o61 (S58 : Sit _ B60 H57 [(p_0, o61)]) s59 h63 h62 => ?_
          cases h63
          refine w_nil ?_
          refine mk2 (K := K)   S58 (show dStr.rel _ (Str.ofString "node") (V.str (Str.ofString "node")) from rfl) (show dInt.rel _ r54.1 (V.int r54.1) from rfl) fun v64 B69 H65 S66 s67 h68 => ?_
          obtain rfl := Option.some.inj hm
          exact k _ _ _ _ S66 (show (dTup K (dAny K)).rel _ ([(PyData.str (Str.ofString "node")), (PyData.int r54.1)] : (List PyData)) v64 from (mp2 (mpA drStr) (mpA drInt)) h68) (Cl.mono _ s67 h62)
abbrev n_raw_rows : List Str := ["_law_source_here", "_law_most", "_law_many", "_law_words", "_law_rows", "_law_k", "_law_size", "_law_step"]
theorem sc_raw_rows : FnScope n_raw_rows ["_law_source_here", "_law_most"] (defScope s_raw_rows) := ⟨rfl, rfl, rfl, by decide +kernel, rfl, by decide +kernel, by decide +kernel⟩
def m_raw_rows (x_0 : Src3) (x_1 : Int) : Option ((List (List (List PyData))) × Src3) :=
  (m_draw (x_0) (x_1)).bind fun r1 =>
  (m_draw (r1.2) ((3 : Int))).bind fun r17 =>
  (m_names (r17.2) (((1 : Int) + r17.1))).bind fun r27 =>
  (catM ([(Str.ofString "a"), (Str.ofString "b")] : (List Str)) r27.1).bind fun x37 =>
  (rngM ((1 : Int) + r1.1)).bind fun x53 =>
  (forL (fun (a63 : Int) (st64 : ((List (List (List PyData))) × Src3)) => (m_draw (st64.2) ((8 : Int))).bind fun r96 =>
  (atI ([(1 : Int), (2 : Int), (0 : Int), (3 : Int), (1 : Int), (2 : Int), (4 : Int), (12 : Int)] : (List Int)) r96.1).bind fun x106 =>
  (rngM x106).bind fun x110 =>
  (lcS (fun (a115 : Int) (st129 : Src3) => (m_item (st129) (((1 : Int) + r1.1)) (x37)).bind fun r132 =>
  some ((some r132.1), r132.2)) x110 r96.2).bind fun r143 =>
  (pushM st64.1 r143.1).bind fun x163 =>
  some (x163, r143.2)) x53 (([] : (List (List (List PyData)))), r27.2)).bind fun st175 =>
  some (st175.1, st175.2)
def sp_raw_rows (K : PySem.W.Frag) : Sp := fun vs H Q E => ∃ (B : Hp) (x_0 : Src3) (p_0 : Addr) (o_0 : HO) (x_1 : Int) (r : ((List (List (List PyData))) × Src3)), vs = [.ref p_0, (V.int x_1)] ∧ Same B H ∧ (H p_0 = some o_0 ∧ B p_0 = none ∧ cSrc.rel B x_0 o_0) ∧ m_raw_rows x_0 x_1 = some r ∧ ∀ (p : Addr) (o : HO) (B' H' : Hp) (op_0 : HO), Sit ⟨B, H, [p_0]⟩ B' H' ((p, o) :: [(p_0, op_0)]) → H p = none → (cList (dList (dTup K (dAny K)))).rel B' r.1 o → cSrc.rel B' r.2 op_0 → Q (.ref p) H'
theorem use_raw_rows {K : PySem.W.Frag} {Φ : Fr} {B H : Hp} {cs : List (Addr × HO)} {Q : VK} {E : XK} {r : ((List (List (List PyData))) × Src3)} {x_0 : Src3} {p_0 : Addr} {o_0 : HO} {i1 : Nat} {x_1 : Int} {v_1 : V} (Z : Sit Φ B H cs) (hc_0 : cs[i1]? = some (p_0, o_0)) (h_0 : cSrc.rel B x_0 o_0) (h_1 : dInt.rel B x_1 v_1) (hm : m_raw_rows x_0 x_1 = some r) (k : ∀ (p : Addr) (o : HO) (B' H' : Hp) (op_0 : HO), Sit Φ B' H' ((p, o) :: (cs.set i1 (p_0, op_0))) → Same B B' → Φ.H p = none → (cList (dList (dTup K (dAny K)))).rel B' r.1 o → cSrc.rel B' r.2 op_0 → Q (.ref p) H') : sp_raw_rows K ([.ref p_0, v_1] ++ []) H Q E := by
  cases h_1
  exact ⟨B, x_0, p_0, o_0, x_1, r, rfl, Z.sub, ⟨Z.at' hc_0, Z.atB hc_0, h_0⟩, hm, fun p o B' H' op_0 Z' n h qp_0 => k p o B' H' op_0 (Z.call1F hc_0 Z' n) Z'.grow (Z.fresh n) h qp_0⟩
theorem ok_raw_rows (A0 : DefAt K mg "_law_raw_rows" s_raw_rows ["_law_source_here", "_law_most"]) (b_range : mg "range" = none) (D_draw : Does P w K mg base CX0 1 "_law_draw" ["_law_source_here", "_law_many"] sp_drawM) (D_names : Does P w K mg base CX0 3 "_law_names" ["_law_source_here", "_law_many"] (sp_names K )) (D_item : Does P w K mg base CX0 3 "_law_item" ["_law_source_here", "_law_many", "_law_words"] (sp_item K )) : Does P w K mg base CX0 4 "_law_raw_rows" ["_law_source_here", "_law_most"] (sp_raw_rows K ) := by
  obtain ⟨f, fd, F, gm, bd⟩ := A0
  obtain ⟨f_draw, fd_draw, G_draw, g_draw, kp_draw, bd_draw⟩ := D_draw
  obtain ⟨f_names, fd_names, G_names, g_names, kp_names, bd_names⟩ := D_names
  obtain ⟨f_item, fd_item, G_item, g_item, kp_item, bd_item⟩ := D_item
  refine ⟨f, fd, ?_, gm, F.kp, bd⟩
  refine F.ok sc_raw_rows (fun vs H Q E h => ?_) (fun cdv A outer s H vs Q E hr h => ?_)
  · obtain ⟨_, _, _, _, _, _, rfl, _⟩ := h
    rfl
  · obtain ⟨B, x_0, p_0, o_0, x_1, r, rfl, sB, ⟨hp_0, hb_0, hx_0⟩, hm, k⟩ := h
    have hu := hu_of hr
    refine ⟨_, (pss_cons (ps_set (i := 2) sc_raw_rows.nd rfl (Or.inr rfl) (pe_op op_add pe_int (pe_call G_draw (hr.mono (by decide)) rfl g_draw kp_draw bd_draw .nil pass0 (pa_cons (pv 0) (pa_cons (pv 1) pa_nil)))))
  (pss_cons (ps_set (i := 3) sc_raw_rows.nd rfl (Or.inr rfl) (pe_op op_cat (pe_lst (pa_cons pe_str (pa_cons pe_str pa_nil))) (pe_call G_names (hr.mono (by decide)) rfl g_names kp_names bd_names .nil pass0 (pa_cons (pv 0) (pa_cons (pe_op op_add pe_int (pe_call G_draw (hr.mono (by decide)) rfl g_draw kp_draw bd_draw .nil pass0 (pa_cons (pv 0) (pa_cons pe_int pa_nil)))) pa_nil)))))
  (pss_cons (ps_set (i := 4) sc_raw_rows.nd rfl (Or.inl rfl) (pe_lst pa_nil))
  (pss_cons (ps_for PassesOwn.never rfl (pi_range1 (by rfl) b_range (pa_cons (pv 2) pa_nil)) (pg_name (i := 5) sc_raw_rows.nd rfl (Or.inl rfl))
  (pss_cons (ps_set (i := 6) sc_raw_rows.nd rfl (Or.inl rfl) (pe_ix (k_ixL K) (pe_lst (pa_cons pe_int (pa_cons pe_int (pa_cons pe_int (pa_cons pe_int (pa_cons pe_int (pa_cons pe_int (pa_cons pe_int (pa_cons pe_int pa_nil))))))))) (pe_call G_draw (hr.mono (by decide)) rfl g_draw kp_draw bd_draw .nil pass0 (pa_cons (pv 0) (pa_cons pe_int pa_nil))) (fun _ _ => rfl)))
  (pss_one (ps_expr (k_bm K PySem.F.plainAttrs_list PySem.F.slot_list_append PySem.F.type_list_append mt_append (pv 4) (pa_cons (pe_lc (own := [("_law_step", 7)]) (tt := tYes) rfl sc_raw_rows.nd (pi_range1 (by rfl) b_range (pa_cons (pv 6) pa_nil)) (blkOk_by (own := [("_law_step", 7)]) (N := n_raw_rows) (sc := defScope s_raw_rows) (by decide +kernel)) (fun _ _ _ _ _ => (pg_name (i := 7) sc_raw_rows.nd rfl (Or.inl rfl))) (fun _ _ _ _ _ => pts_nil) (fun _ _ _ _ _ => (pe_call G_item (hr.mono (by decide)) rfl g_item kp_item bd_item .nil pass0 (pa_cons (pv 0) (pa_cons (pv 2) (pa_cons (pv 3) pa_nil)))))) pa_nil))))))
  (pss_one (ps_ret (pv 4))))))), ?_⟩
    obtain ⟨B0, hB0⟩ : ∃ B0 : Hp, B0 = B := ⟨_, rfl⟩
    subst hB0
    have S0 := Sit.start1 sB hp_0 hb_0
    unfold m_raw_rows at hm
    refine w_sig (σ' := [(some (.ref p_0)), (some (V.int x_1)), none, none, none, none, none, none]) rfl ?_
    refine w_seq ?_
    refine w_asg ?_
    refine w_op ?_
    refine w_ev Ev.c ?_
    refine w_call ?_
    refine w_evA (EvA.cons (Ev.var rfl) (EvA.cons (Ev.var rfl) EvA.nil)) ?_
    obtain ⟨r1, h2, hm⟩ := bs hm
    refine use_draw S0 (i1 := 0) rfl hx_0 (show dInt.rel _ x_1 (V.int x_1) from rfl) h2 fun v3 B7 H4 o8 (S5 : Sit _ B7 H4 [(p_0, o8)]) s6 h10 h9 => ?_
    cases h10
    refine w_rv rv_I0 ?_
    refine w_gname ?_
    refine w_nx (σ' := [(some (.ref p_0)), (some (V.int x_1)), (some (V.int ((1 : Int) + r1.1))), none, none, none, none, none]) rfl ?_
    refine w_seq ?_
    refine w_asg ?_
    refine w_op ?_
    refine x_lst ?_
    refine w_evA (EvA.cons Ev.c (EvA.cons Ev.c EvA.nil)) ?_
    refine mkL (R := dStr) (xs := [(Str.ofString "a"), (Str.ofString "b")]) S5 (.cons (show dStr.rel _ (Str.ofString "a") (V.str (Str.ofString "a")) from rfl) (.cons (show dStr.rel _ (Str.ofString "b") (V.str (Str.ofString "b")) from rfl) .nil)) (by show 2 ≤ BIG; decide) fun v11 B16 H12 S13 s14 h15 => ?_
    refine w_call ?_
    refine w_cons ?_
    refine w_ev (Ev.var rfl) ?_
    refine w_cons ?_
    refine w_op ?_
    refine w_ev Ev.c ?_
    refine w_call ?_
    refine w_evA (EvA.cons (Ev.var rfl) (EvA.cons Ev.c EvA.nil)) ?_
    obtain ⟨r17, h18, hm⟩ := bs hm
    refine use_draw S13 (i1 := 0) rfl (Cl.mono _ s14 h9) (show dInt.rel _ (3 : Int) (V.int 3) from rfl) h18 fun v19 B23 H20 o24 (S21 : Sit _ B23 H20 [(p_0, o24)]) s22 h26 h25 => ?_
    cases h26
    refine w_rv rv_I0 ?_
    refine w_nil ?_
    obtain ⟨r27, h28, hm⟩ := bs hm
    refine use_names S21 (i1 := 0) rfl h25 (show dInt.rel _ ((1 : Int) + r17.1) (V.int ((1 : Int) + r17.1)) from rfl) h28 fun v29 B33 H30 o34 (S31 : Sit _ B33 H30 [(p_0, o34)]) s32 h36 h35 => ?_
    obtain ⟨x37, h38, hm⟩ := bs hm
    refine q_cat S31 (Rl.mono _ (s22.tr s32) h15) h36 h38 fun v39 B44 H40 S41 s42 h43 => ?_
    refine w_gname ?_
    refine w_nx (σ' := [(some (.ref p_0)), (some (V.int x_1)), (some (V.int ((1 : Int) + r1.1))), (some v39), none, none, none, none]) rfl ?_
    refine w_seq ?_
    refine w_asg ?_
    refine x_lst ?_
    refine w_nil ?_
    refine mkO (R := (dList (dTup K (dAny K)))) (xs := []) S41 .nil (by show 0 ≤ BIG; decide) fun p45 o46 H47 S48 n49 h50 => ?_
    refine w_gname ?_
    refine w_nx (σ' := [(some (.ref p_0)), (some (V.int x_1)), (some (V.int ((1 : Int) + r1.1))), (some v39), (some (.ref p45)), none, none, none]) rfl ?_
    refine w_seq ?_
    refine w_for ?_
    refine x_iR1 ?_
    refine w_evA (EvA.cons (Ev.var rfl) EvA.nil) ?_
    obtain ⟨x53, h54, hm⟩ := bs hm
    refine w_itR1 (B := B44) h54 fun J51 it52 hl55 => ?_
    obtain ⟨st175, hl182, hm⟩ := bs hm
    refine forS (s0 := (([] : (List (List (List PyData)))), r27.2)) it52 S48 (fun (st56 : ((List (List (List PyData))) × Src3)) b σ' cs' => ∃ (e57 : Option V) (e58 : Option V) (o59 : HO) (o61 : HO), σ' = [(some (.ref p_0)), (some (V.int x_1)), (some (V.int ((1 : Int) + r1.1))), (some v39), (some (.ref p45)), e57, e58, none] ∧ cs' = [(p45, o59), (p_0, o61)] ∧ (cList (dList (dTup K (dAny K)))).rel b st56.1 o59 ∧ cSrc.rel b st56.2 o61 ∧ True) ⟨_, _, _, _, rfl, rfl, h50, (Cl.mono _ s42 h35), trivial⟩ hl182 (fun _ _ _ _ _ Z e _ => e.tr Z.sub) (fun a63 st64 o65 x66 B76 B83 H67 _ cs68 ma69 S70 s71 s72 hI73 h74 hf75 => ?_) ?_
    · obtain ⟨e77, e78, o79, o81, rfl, rfl, h80, h82, -⟩ := hI73
      cases h74
      refine w_gname ?_
      refine w_nx (σ' := [(some (.ref p_0)), (some (V.int x_1)), (some (V.int ((1 : Int) + r1.1))), (some v39), (some (.ref p45)), (some (V.int a63)), e78, none]) rfl ?_
      refine w_seq ?_
      refine w_asg ?_
      refine w_op ?_
      refine x_lst ?_
      refine w_evA (EvA.cons Ev.c (EvA.cons Ev.c (EvA.cons Ev.c (EvA.cons Ev.c (EvA.cons Ev.c (EvA.cons Ev.c (EvA.cons Ev.c (EvA.cons Ev.c EvA.nil)))))))) ?_
      refine mkL (R := dInt) (xs := [(1 : Int), (2 : Int), (0 : Int), (3 : Int), (1 : Int), (2 : Int), (4 : Int), (12 : Int)]) S70 (.cons (show dInt.rel _ (1 : Int) (V.int 1) from rfl) (.cons (show dInt.rel _ (2 : Int) (V.int 2) from rfl) (.cons (show dInt.rel _ (0 : Int) (V.int 0) from rfl) (.cons (show dInt.rel _ (3 : Int) (V.int 3) from rfl) (.cons (show dInt.rel _ (1 : Int) (V.int 1) from rfl) (.cons (show dInt.rel _ (2 : Int) (V.int 2) from rfl) (.cons (show dInt.rel _ (4 : Int) (V.int 4) from rfl) (.cons (show dInt.rel _ (12 : Int) (V.int 12) from rfl) .nil)))))))) (by show 8 ≤ BIG; decide) fun v90 B95 H91 S92 s93 h94 => ?_
      refine w_call ?_
      refine w_evA (EvA.cons (Ev.var rfl) (EvA.cons Ev.c EvA.nil)) ?_
      obtain ⟨r96, h97, hf75⟩ := bs hf75
      refine use_draw S92 (i1 := 1) rfl (Cl.mono _ (s72.tr s93) h82) (show dInt.rel _ (8 : Int) (V.int 8) from rfl) h97 fun v98 B102 H99 o103 (S100 : Sit _ B102 H99 [(p45, o79), (p_0, o103)]) s101 h105 h104 => ?_
      cases h105
      obtain ⟨x106, hx106, hf75⟩ := bs hf75
      obtain ⟨_, rfl, r107⟩ := ix_L (K := K) (Rl.mono _ s101 h94) hx106
      refine w_rv (r107 _ S100.sub) ?_
      refine w_gname ?_
      refine w_nx (σ' := [(some (.ref p_0)), (some (V.int x_1)), (some (V.int ((1 : Int) + r1.1))), (some v39), (some (.ref p45)), (some (V.int a63)), (some (V.int x106)), none]) rfl ?_
      refine w_drop ?_
      refine w_bm ?_
      refine w_ev (Ev.var rfl) ?_
      refine w_tyC (Cl.mono _ (s72.tr (s93.tr s101)) h80) (S100.at' (i := 0) rfl) ?_
      refine w_cons ?_
      refine w_lc ?_
      refine x_iR1 ?_
      refine w_evA (EvA.cons (Ev.var rfl) EvA.nil) ?_
      obtain ⟨x110, h111, hf75⟩ := bs hf75
      refine w_itR1 (B := B102) h111 fun J108 it109 hl112 => ?_
      obtain ⟨r143, h144, hf75⟩ := bs hf75
      refine lcRS (P := (dTup K (dAny K))) it109 S100 hl112 (fun (st129 : Src3) b cs' => ∃ o130, cs' = [(p45, o79), (p_0, o130)] ∧ cSrc.rel b st129 o130) ⟨_, rfl, h104⟩ (h144 : _ = some (r143.1, r143.2)) (fun _ _ _ _ _ Z e _ => e.tr Z.sub) (fun D113 ac114 a115 st129 o116 x117 B120 B121 H122 cs146 ma128 S123 s118 s119 hI145 h124 ho125 RR126 kk127 => ?_) ?_
      · obtain ⟨o130, rfl, h131⟩ := hI145
        refine w_turn ?_
        cases h124
        refine w_gname ?_
        refine w_wipe rfl ?_
        refine w_yes ?_
        refine iteT ?_
        refine w_call ?_
        refine w_evA (EvA.cons (Ev.var rfl) (EvA.cons (Ev.var rfl) (EvA.cons (Ev.var rfl) EvA.nil))) ?_
        obtain ⟨r132, h133, ho125⟩ := bs ho125
        refine use_item S123 (i1 := 2) rfl (Cl.mono _ s119 h131) (show dInt.rel _ ((1 : Int) + r1.1) (V.int ((1 : Int) + r1.1)) from rfl) (Rl.mono _ (s71.tr (s72.tr (s93.tr (s101.tr (s118.tr s119))))) h43) h133 fun v134 B138 H135 o139 (S136 : Sit _ B138 H135 [(D113, (.lst ac114)), (p45, o79), (p_0, o139)]) s137 h141 h140 => ?_
        obtain rfl := Option.some.inj ho125
        exact kk127 _ _ _ _ S136 s137 ⟨o139, rfl, h140⟩ ⟨_, rfl, h141⟩
      · intro p147 B154 H148 o149 cs158 S150 s151 hI157 n152 h153
        obtain ⟨o155, rfl, h156⟩ := hI157
        obtain ⟨B161, S159, s160, h162⟩ : ∃ B', Sit _ B' H148 [(p45, o79), (p_0, o155)] ∧ Same _ B' ∧ (dList (dTup K (dAny K))).rel B' r143.1 (.ref p147) := ⟨_, S150.frz (i := 0) rfl n152, S150.frzS (i := 0) rfl, frzL h153 (S150.atB (i := 0) rfl)⟩
        refine w_nil ?_
        obtain ⟨x163, h164, hf75⟩ := bs hf75
        refine q_append (k := 0) S159 rfl (Cl.mono _ (s72.tr (s93.tr (s101.tr (s151.tr s160)))) h80) h162 h164 fun o165 H166 (S167 : Sit _ B161 H166 [(p45, o165), (p_0, o155)]) h168 => ?_
        obtain rfl := Option.some.inj hf75
        exact ⟨_, _, S167, (s71.tr (s72.tr (s93.tr (s101.tr (s151.tr s160))))), _, _, _, _, rfl, rfl, h168, (Cl.mono _ s160 h156), trivial⟩
    · intro B174 H169 _ cs170 S171 s172 hI173
      obtain ⟨e176, e177, o178, o180, rfl, rfl, h179, h181, -⟩ := hI173
      refine w_ret ?_
      refine w_ev (Ev.var rfl) ?_
      obtain rfl := Option.some.inj hm
      exact k _ _ _ _ _ (S171.only (.cons₂ _ (.cons₂ _ .slnil))) n49 h179 h181
abbrev n_twin : List Str := ["_law_source_here", "_law_item_here", "_law_twins"]
theorem sc_twin : FnScope n_twin ["_law_source_here", "_law_item_here", "_law_twins"] (defScope s_twin) := ⟨rfl, rfl, rfl, by decide +kernel, rfl, by decide +kernel, by decide +kernel⟩
def m_twin (x_0 : Src3) (x_1 : (List PyData)) (x_2 : (List (Int × Int))) : Option ((List PyData) × Src3) :=
  ((atI x_1 (0 : Int)).bind fun x14 =>
  (eqD x14 (PyData.str (Str.ofString "node"))).bind fun b18 =>
  if b18 = true then (atI x_1 (1 : Int)).bind fun x20 =>
  (asI x20).bind fun i24 =>
  if (gHas x_2 i24) = true then (m_draw (x_0) ((2 : Int))).bind fun r26 =>
  some ((decide (r26.1 = (1 : Int))), r26.2) else some (false, x_0) else some (false, x_0)).bind fun c11 =>
  if c11.1 = true then (atI x_1 (1 : Int)).bind fun x43 =>
  (asI x43).bind fun i47 =>
  (gGet x_2 i47).bind fun x48 =>
  some (([(PyData.str (Str.ofString "node")), (PyData.int x48)] : (List PyData)), c11.2) else some (x_1, c11.2)
def sp_twin (K : PySem.W.Frag) : Sp := fun vs H Q E => ∃ (B : Hp) (x_0 : Src3) (p_0 : Addr) (o_0 : HO) (x_1 : (List PyData)) (v_1 : V) (x_2 : (List (Int × Int))) (v_2 : V) (r : ((List PyData) × Src3)), vs = [.ref p_0, v_1, v_2] ∧ Same B H ∧ (H p_0 = some o_0 ∧ B p_0 = none ∧ cSrc.rel B x_0 o_0) ∧ (dTup K (dAny K)).rel B x_1 v_1 ∧ (dDictI dInt).rel B x_2 v_2 ∧ m_twin x_0 x_1 x_2 = some r ∧ ∀ (v : V) (B' H' : Hp) (op_0 : HO), Sit ⟨B, H, [p_0]⟩ B' H' [(p_0, op_0)] → (dTup K (dAny K)).rel B' r.1 v → cSrc.rel B' r.2 op_0 → Q v H'
theorem use_twin {K : PySem.W.Frag} {Φ : Fr} {B H : Hp} {cs : List (Addr × HO)} {Q : VK} {E : XK} {r : ((List PyData) × Src3)} {x_0 : Src3} {p_0 : Addr} {o_0 : HO} {i1 : Nat} {x_1 : (List PyData)} {v_1 : V} {x_2 : (List (Int × Int))} {v_2 : V} (Z : Sit Φ B H cs) (hc_0 : cs[i1]? = some (p_0, o_0)) (h_0 : cSrc.rel B x_0 o_0) (h_1 : (dTup K (dAny K)).rel B x_1 v_1) (h_2 : (dDictI dInt).rel B x_2 v_2) (hm : m_twin x_0 x_1 x_2 = some r) (k : ∀ (v : V) (B' H' : Hp) (op_0 : HO), Sit Φ B' H' (cs.set i1 (p_0, op_0)) → Same B B' → (dTup K (dAny K)).rel B' r.1 v → cSrc.rel B' r.2 op_0 → Q v H') : sp_twin K ([.ref p_0, v_1, v_2] ++ []) H Q E := by
  exact ⟨B, x_0, p_0, o_0, x_1, v_1, x_2, v_2, r, rfl, Z.sub, ⟨Z.at' hc_0, Z.atB hc_0, h_0⟩, h_1, h_2, hm, fun v B' H' op_0 Z' h qp_0 => k v B' H' op_0 (Z.call1 hc_0 Z') Z'.grow h qp_0⟩
theorem ok_twin (A0 : DefAt K mg "_law_twin" s_twin ["_law_source_here", "_law_item_here", "_law_twins"]) (D_draw : Does P w K mg base CX0 1 "_law_draw" ["_law_source_here", "_law_many"] sp_drawM) : Does P w K mg base CX0 2 "_law_twin" ["_law_source_here", "_law_item_here", "_law_twins"] (sp_twin K ) := by
  obtain ⟨f, fd, F, gm, bd⟩ := A0
  obtain ⟨f_draw, fd_draw, G_draw, g_draw, kp_draw, bd_draw⟩ := D_draw
  refine ⟨f, fd, ?_, gm, F.kp, bd⟩
  refine F.ok sc_twin (fun vs H Q E h => ?_) (fun cdv A outer s H vs Q E hr h => ?_)
  · obtain ⟨_, _, _, _, _, _, _, _, _, rfl, _⟩ := h
    rfl
  · obtain ⟨B, x_0, p_0, o_0, x_1, v_1, x_2, v_2, r, rfl, sB, ⟨hp_0, hb_0, hx_0⟩, hx_1, hx_2, hm, k⟩ := h
    have hu := hu_of hr
    refine ⟨_, (pss_cons (ps_if (PW.pt (pw_and (pt_cmpR (k_eqD K hr.units) (pe_ix (k_ixT K) (pv 1) pe_int (fun _ _ => rfl)) pe_str (nomark _)) (pw_and (pt_cmp (pc_din hu (pe_ix (k_ixT K) (pv 1) pe_int (fun _ _ => rfl)) (pv 2))) (pw_and1 (pt_cmpR op_eq (pe_call G_draw (hr.mono (by decide)) rfl g_draw kp_draw bd_draw .nil pass0 (pa_cons (pv 0) (pa_cons pe_int pa_nil))) pe_int (nomark _)))))) (pss_one (ps_ret (pe_tup (pa_cons pe_str (pa_cons (pe_dget hu (pv 2) (pe_ix (k_ixT K) (pv 1) pe_int (fun _ _ => rfl)) (fun _ _ => rfl)) pa_nil))))) pss_nil)
  (pss_one (ps_ret (pv 1)))), ?_⟩
    obtain ⟨B0, hB0⟩ : ∃ B0 : Hp, B0 = B := ⟨_, rfl⟩
    subst hB0
    have S0 := Sit.start1 sB hp_0 hb_0
    unfold m_twin at hm
    refine w_sig (σ' := [(some (.ref p_0)), (some v_1), (some v_2)]) rfl ?_
    refine w_seq ?_
    refine w_ifS ?_
    obtain ⟨c11, hc12, hm⟩ := bs hm
    refine cutT (fun b H' => c11.1 = b ∧ ∃ (B' : Hp) (o40 : HO), Sit (Fr.mk B0 H [p_0]) B' H' [(p_0, o40)] ∧ Same B0 B' ∧ cSrc.rel B' c11.2 o40) (fun kk13 => ?_) ?_
    · refine w_and ?_
      obtain ⟨x14, hx14, hc12⟩ := bs hc12
      obtain ⟨w16, h17, r15⟩ := ix_T (K := K) hx_1 hx14
      obtain ⟨b18, hb18, hc12⟩ := bs hc12
      refine w_evT (EvT.test (Ev.op (Ev.op (Ev.var rfl) Ev.c (r15 _ S0.sub)) Ev.c (rv_eqD drAny drStr (Rl.mono _ S0.sub h17) (Rl.mono _ S0.sub (show dStr.rel _ (Str.ofString "node") (V.str (Str.ofString "node")) from rfl)) hb18))) ?_
      refine w_ifb (fun h19 => ?_) (fun h19 => ?_)
      · rw [ifT h19] at hc12
        refine w_and ?_
        obtain ⟨x20, hx20, hc12⟩ := bs hc12
        obtain ⟨w22, h23, r21⟩ := ix_T (K := K) hx_1 hx20
        obtain ⟨i24, hi24, hc12⟩ := bs hc12
        refine w_evT (EvT.tB (Ev.iin (Ev.cast (Ev.op (Ev.var rfl) Ev.c (r21 _ S0.sub)) (asI_v h23 hi24)) (Ev.var rfl) (dqGD hx_2 S0.sub))) ?_
        refine w_ifb (fun h25 => ?_) (fun h25 => ?_)
        · rw [ifT h25] at hc12
          refine w_test ?_
          refine w_op ?_
          refine w_call ?_
          refine w_evA (EvA.cons (Ev.var rfl) (EvA.cons Ev.c EvA.nil)) ?_
          obtain ⟨r26, h27, hc12⟩ := bs hc12
          refine use_draw S0 (i1 := 0) rfl hx_0 (show dInt.rel _ (2 : Int) (V.int 2) from rfl) h27 fun v28 B32 H29 o33 (S30 : Sit _ B32 H29 [(p_0, o33)]) s31 h35 h34 => ?_
          cases h35
          refine w_ev Ev.c ?_
          refine w_rv rv_eqI ?_
          refine w_bl ?_
          obtain rfl := Option.some.inj hc12
          exact kk13 _ _ ⟨rfl, _, _, S30, s31, h34⟩
        · rw [ifF h25] at hc12
          obtain rfl := Option.some.inj hc12
          exact kk13 _ _ ⟨rfl, _, _, S0, (Same.rf _), hx_0⟩
      · rw [ifF h19] at hc12
        obtain rfl := Option.some.inj hc12
        exact kk13 _ _ ⟨rfl, _, _, S0, (Same.rf _), hx_0⟩
    · rintro _ H36 ⟨rfl, B39, o40, S37, s38, h41⟩
      refine w_ifb (fun h42 => ?_) (fun h42 => ?_)
      · rw [ifT h42] at hm
        refine w_ret ?_
        refine x_tup ?_
        obtain ⟨x43, hx43, hm⟩ := bs hm
        obtain ⟨w45, h46, r44⟩ := ix_T (K := K) (Rl.mono _ s38 hx_1) hx43
        obtain ⟨i47, hi47, hm⟩ := bs hm
        obtain ⟨x48, hx48, hm⟩ := bs hm
        obtain ⟨_, rfl, r49⟩ := DqG.get inlI (dqGD (Rl.mono _ s38 hx_2) S37.sub) hx48
        refine w_evA (EvA.cons Ev.c (EvA.cons (Ev.iget (Ev.var rfl) (Ev.cast (Ev.op (Ev.var rfl) Ev.c (r44 _ S37.sub)) (asI_v h46 hi47)) r49) EvA.nil)) ?_
        refine mk2 (K := K)   S37 (show dStr.rel _ (Str.ofString "node") (V.str (Str.ofString "node")) from rfl) (show dInt.rel _ x48 (V.int x48) from rfl) fun v50 B55 H51 S52 s53 h54 => ?_
        obtain rfl := Option.some.inj hm
        exact k _ _ _ _ S52 (show (dTup K (dAny K)).rel _ ([(PyData.str (Str.ofString "node")), (PyData.int x48)] : (List PyData)) v50 from (mp2 (mpA drStr) (mpA drInt)) h54) (Cl.mono _ s53 h41)
      · rw [ifF h42] at hm
        refine w_next ?_
        refine w_ret ?_
        refine w_ev (Ev.var rfl) ?_
        obtain rfl := Option.some.inj hm
        exact k _ _ _ _ S37 (Rl.mono _ s38 hx_1) h41
end
end Mm
namespace Mm
open PySem L2 Mf
section
variable {P : Program} {w : World} {K : PySem.W.Frag} {mg : Str → Option Value} {base : Heap} {cx : Nat → Addr}
abbrev n_doubled : List Str := ["_law_source_here", "_law_rows", "_law_found", "_law_twins", "_law_k", "_law_result", "_law_row", "_law_item_here"]
theorem sc_doubled : FnScope n_doubled ["_law_source_here", "_law_rows"] (defScope s_doubled) := ⟨rfl, rfl, rfl, by decide +kernel, rfl, by decide +kernel, by decide +kernel⟩
def m_doubled (x_0 : Src3) (x_1 : (List (List (List PyData)))) : Option ((List (List (List PyData))) × Src3) :=
  (rngM (x_1.length : Int)).bind fun x49 =>
  (forL (fun (a60 : Int) (st61 : ((List (Int × Int)) × (List (List (List PyData))) × Src3)) => (if (decide ((st61.2.1.length : Int) < (40 : Int))) = true then (m_draw (st61.2.2) ((2 : Int))).bind fun r92 =>
  some ((decide (r92.1 = (1 : Int))), r92.2) else some (false, st61.2.2)).bind fun c88 =>
  if c88.1 = true then (putM st61.1 a60 (st61.2.1.length : Int)).bind fun x109 =>
  (atI x_1 a60).bind fun x115 =>
  (pushM st61.2.1 x115).bind fun x125 =>
  some (x109, x125, c88.2) else some (st61.1, st61.2.1, c88.2)) x49 (([] : (List (Int × Int))), (x_1.map (fun (a5 : (List (List PyData))) => a5)), x_0)).bind fun st137 =>
  (forL (fun (a167 : (List (List PyData))) (st168 : ((List (List (List PyData))) × Src3)) => (lcS (fun (a197 : (List PyData)) (st211 : Src3) => (m_twin (st211) (a197) (st137.1)).bind fun r214 =>
  some ((some r214.1), r214.2)) a167 st168.2).bind fun r225 =>
  (pushM st168.1 r225.1).bind fun x245 =>
  some (x245, r225.2)) st137.2.1 (([] : (List (List (List PyData)))), st137.2.2)).bind fun st257 =>
  some (st257.1, st257.2)
def sp_doubled (K : PySem.W.Frag) : Sp := fun vs H Q E => ∃ (B : Hp) (x_0 : Src3) (p_0 : Addr) (o_0 : HO) (x_1 : (List (List (List PyData)))) (v_1 : V) (r : ((List (List (List PyData))) × Src3)), vs = [.ref p_0, v_1] ∧ Same B H ∧ (H p_0 = some o_0 ∧ B p_0 = none ∧ cSrc.rel B x_0 o_0) ∧ (dList (dList (dTup K (dAny K)))).rel B x_1 v_1 ∧ m_doubled x_0 x_1 = some r ∧ ∀ (v : V) (B' H' : Hp) (op_0 : HO), Sit ⟨B, H, [p_0]⟩ B' H' [(p_0, op_0)] → (dList (dList (dTup K (dAny K)))).rel B' r.1 v → cSrc.rel B' r.2 op_0 → Q v H'
theorem use_doubled {K : PySem.W.Frag} {Φ : Fr} {B H : Hp} {cs : List (Addr × HO)} {Q : VK} {E : XK} {r : ((List (List (List PyData))) × Src3)} {x_0 : Src3} {p_0 : Addr} {o_0 : HO} {i1 : Nat} {x_1 : (List (List (List PyData)))} {v_1 : V} (Z : Sit Φ B H cs) (hc_0 : cs[i1]? = some (p_0, o_0)) (h_0 : cSrc.rel B x_0 o_0) (h_1 : (dList (dList (dTup K (dAny K)))).rel B x_1 v_1) (hm : m_doubled x_0 x_1 = some r) (k : ∀ (v : V) (B' H' : Hp) (op_0 : HO), Sit Φ B' H' (cs.set i1 (p_0, op_0)) → Same B B' → (dList (dList (dTup K (dAny K)))).rel B' r.1 v → cSrc.rel B' r.2 op_0 → Q v H') : sp_doubled K ([.ref p_0, v_1] ++ []) H Q E := by
  exact ⟨B, x_0, p_0, o_0, x_1, v_1, r, rfl, Z.sub, ⟨Z.at' hc_0, Z.atB hc_0, h_0⟩, h_1, hm, fun v B' H' op_0 Z' h qp_0 => k v B' H' op_0 (Z.call1 hc_0 Z') Z'.grow h qp_0⟩
theorem ok_doubled (A0 : DefAt K mg "_law_doubled" s_doubled ["_law_source_here", "_law_rows"]) (b_len : mg "len" = none) (b_list : mg "list" = none) (b_range : mg "range" = none) (D_draw : Does P w K mg base CX0 1 "_law_draw" ["_law_source_here", "_law_many"] sp_drawM) (D_twin : Does P w K mg base CX0 2 "_law_twin" ["_law_source_here", "_law_item_here", "_law_twins"] (sp_twin K )) : Does P w K mg base CX0 3 "_law_doubled" ["_law_source_here", "_law_rows"] (sp_doubled K ) := by
  obtain ⟨f, fd, F, gm, bd⟩ := A0
  obtain ⟨f_draw, fd_draw, G_draw, g_draw, kp_draw, bd_draw⟩ := D_draw
  obtain ⟨f_twin, fd_twin, G_twin, g_twin, kp_twin, bd_twin⟩ := D_twin
  refine ⟨f, fd, ?_, gm, F.kp, bd⟩
  refine F.ok sc_doubled (fun vs H Q E h => ?_) (fun cdv A outer s H vs Q E hr h => ?_)
  · obtain ⟨_, _, _, _, _, _, _, rfl, _⟩ := h
    rfl
  · obtain ⟨B, x_0, p_0, o_0, x_1, v_1, r, rfl, sB, ⟨hp_0, hb_0, hx_0⟩, hx_1, hm, k⟩ := h
    have hu := hu_of hr
    refine ⟨_, (pss_cons (ps_setLc (i := 2) (own := [("_law_row", 6)]) (tt := tYes) rfl sc_doubled.nd rfl rfl (sw_true rfl rfl rfl (by decide +kernel)) (k_iL K (pv 1)) (blkOk_by (own := [("_law_row", 6)]) (N := n_doubled) (sc := defScope s_doubled) (by decide +kernel)) (fun _ _ _ _ _ => (pg_name (i := 6) sc_doubled.nd rfl (Or.inl rfl))) (fun _ _ _ _ _ => pts_nil) (fun _ _ _ _ _ => (pe_callTy (k_list K) (by rfl) b_list (by decide +kernel) (pa_cons (pv 6) pa_nil))))
  (pss_cons (ps_set (i := 3) sc_doubled.nd rfl (Or.inr rfl) pe_dnewK)
  (pss_cons (ps_for PassesOwn.never rfl (pi_range1 (by rfl) b_range (pa_cons (pe_callB (k_len K) (by rfl) b_len (by decide +kernel) (pa_cons (pv 1) pa_nil)) pa_nil)) (pg_name (i := 4) sc_doubled.nd rfl (Or.inl rfl))
  (pss_one (ps_if (PW.pt (pw_and (pt_cmpR op_lt (pe_callB (k_len K) (by rfl) b_len (by decide +kernel) (pa_cons (pv 2) pa_nil)) pe_int (nomark _)) (pw_and1 (pt_cmpR op_eq (pe_call G_draw (hr.mono (by decide)) rfl g_draw kp_draw bd_draw .nil pass0 (pa_cons (pv 0) (pa_cons pe_int pa_nil))) pe_int (nomark _))))) (pss_cons (ps_dput hu (pv 3) (pv 4) (pe_callB (k_len K) (by rfl) b_len (by decide +kernel) (pa_cons (pv 2) pa_nil)) rfl)
  (pss_one (ps_expr (k_bm K PySem.F.plainAttrs_list PySem.F.slot_list_append PySem.F.type_list_append mt_append (pv 2) (pa_cons (pe_callTy (k_list K) (by rfl) b_list (by decide +kernel) (pa_cons (pe_ix (k_ixL K) (pv 1) (pv 4) (fun _ _ => rfl)) pa_nil)) pa_nil))))) pss_nil)))
  (pss_cons (ps_set (i := 5) sc_doubled.nd rfl (Or.inl rfl) (pe_lst pa_nil))
  (pss_cons (ps_for PassesOwn.never rfl (k_iL K (pv 2)) (pg_name (i := 6) sc_doubled.nd rfl (Or.inl rfl))
  (pss_one (ps_expr (k_bm K PySem.F.plainAttrs_list PySem.F.slot_list_append PySem.F.type_list_append mt_append (pv 5) (pa_cons (pe_lc (own := [("_law_item_here", 7)]) (tt := tYes) rfl sc_doubled.nd (k_iL K (pv 6)) (blkOk_by (own := [("_law_item_here", 7)]) (N := n_doubled) (sc := defScope s_doubled) (by decide +kernel)) (fun _ _ _ _ _ => (pg_name (i := 7) sc_doubled.nd rfl (Or.inl rfl))) (fun _ _ _ _ _ => pts_nil) (fun _ _ _ _ _ => (pe_call G_twin (hr.mono (by decide)) rfl g_twin kp_twin bd_twin .nil pass0 (pa_cons (pv 0) (pa_cons (pv 7) (pa_cons (pv 3) pa_nil)))))) pa_nil)))))
  (pss_one (ps_ret (pv 5)))))))), ?_⟩
    obtain ⟨B0, hB0⟩ : ∃ B0 : Hp, B0 = B := ⟨_, rfl⟩
    subst hB0
    have S0 := Sit.start1 sB hp_0 hb_0
    unfold m_doubled at hm
    refine w_sig (σ' := [(some (.ref p_0)), (some v_1), none, none, none, none, none, none]) rfl ?_
    refine w_seq ?_
    refine w_asg ?_
    refine w_lc ?_
    refine x_iL ?_
    refine w_ev (Ev.var rfl) ?_
    refine w_itL hx_1 S0.sub fun J1 it2 => ?_
    refine lcR (P := (dList (dTup K (dAny K)))) it2 S0 (dList.le hx_1) (lcM_map (fun (a5 : (List (List PyData))) => a5) x_1) (fun _ _ _ Z e _ => e.tr Z.sub) (fun D3 ac4 a5 o6 x7 B10 B11 H12 ma18 S13 s8 s9 h14 ho15 RR16 kk17 => ?_) ?_
    · refine w_turn ?_
      refine w_gname ?_
      refine w_wipe rfl ?_
      refine w_yes ?_
      refine iteT ?_
      refine w_cb ?_
      refine w_evA (EvA.cons (Ev.var rfl) EvA.nil) ?_
      refine q_list S13 (sqL (K := K) h14 S13.sub) fun v26 B31 H27 S28 s29 h30 => ?_
      obtain rfl := Option.some.inj ho15
      exact kk17 _ _ _ S28 s29 ⟨_, rfl, h30⟩
    · intro p33 B40 H34 o35 S36 s37 n38 h39
      refine w_gname ?_
      refine w_nx (σ' := [(some (.ref p_0)), (some v_1), (some (.ref p33)), none, none, none, none, none]) rfl ?_
      refine w_seq ?_
      refine w_asg ?_
      refine q_dnewG (R := dInt) (ky := Sum.inl) S36 fun p41 o42 H43 S44 n45 h46 => ?_
      refine w_gname ?_
      refine w_nx (σ' := [(some (.ref p_0)), (some v_1), (some (.ref p33)), (some (.ref p41)), none, none, none, none]) rfl ?_
      refine w_seq ?_
      refine w_for ?_
      refine x_iR1 ?_
      refine w_evA (EvA.cons (Ev.cb (EvA.cons (Ev.var rfl) EvA.nil) (rlen_q (sqL (K := K) (Rl.mono _ s37 hx_1) S44.sub))) EvA.nil) ?_
      obtain ⟨x49, h50, hm⟩ := bs hm
      refine w_itR1 (B := B40) h50 fun J47 it48 hl51 => ?_
      obtain ⟨st137, hl268, hm⟩ := bs hm
      refine forS (s0 := (([] : (List (Int × Int))), (x_1.map (fun (a5 : (List (List PyData))) => a5)), x_0)) it48 S44 (fun (st52 : ((List (Int × Int)) × (List (List (List PyData))) × Src3)) b σ' cs' => ∃ (e53 : Option V) (o54 : HO) (o56 : HO) (o58 : HO), σ' = [(some (.ref p_0)), (some v_1), (some (.ref p33)), (some (.ref p41)), e53, none, none, none] ∧ cs' = [(p41, o54), (p33, o56), (p_0, o58)] ∧ (cDictI dInt).rel b st52.1 o54 ∧ (cList (dList (dTup K (dAny K)))).rel b st52.2.1 o56 ∧ cSrc.rel b st52.2.2 o58 ∧ True) ⟨_, _, _, _, rfl, rfl, h46, h39, (Cl.mono _ s37 hx_0), trivial⟩ hl268 (fun _ _ _ _ _ Z e _ => e.tr Z.sub) (fun a60 st61 o62 x63 B73 B81 H64 _ cs65 ma66 S67 s68 s69 hI70 h71 hf72 => ?_) ?_
      · obtain ⟨e74, o75, o77, o79, rfl, rfl, h76, h78, h80, -⟩ := hI70
        cases h71
        refine w_gname ?_
        refine w_nx (σ' := [(some (.ref p_0)), (some v_1), (some (.ref p33)), (some (.ref p41)), (some (V.int a60)), none, none, none]) rfl ?_
        refine w_ifS ?_
        obtain ⟨c88, hc89, hf72⟩ := bs hf72
        refine cutT (fun b H' => c88.1 = b ∧ ∃ (B' : Hp) (o106 : HO), Sit (Fr.mk B0 H [p_0]) B' H' [(p41, o75), (p33, o77), (p_0, o106)] ∧ Same B81 B' ∧ cSrc.rel B' c88.2 o106) (fun kk90 => ?_) ?_
        · refine w_and ?_
          refine w_evT (EvT.test (Ev.op (Ev.cb (EvA.cons (Ev.var rfl) EvA.nil) (rlen_q (sqC (K := K) (Cl.mono _ s69 h78) (S67.at' (i := 1) rfl)))) Ev.c rv_I0)) ?_
          refine w_ifb (fun h91 => ?_) (fun h91 => ?_)
          · rw [ifT h91] at hc89
            refine w_test ?_
            refine w_op ?_
            refine w_call ?_
            refine w_evA (EvA.cons (Ev.var rfl) (EvA.cons Ev.c EvA.nil)) ?_
            obtain ⟨r92, h93, hc89⟩ := bs hc89
            refine use_draw S67 (i1 := 2) rfl (Cl.mono _ s69 h80) (show dInt.rel _ (2 : Int) (V.int 2) from rfl) h93 fun v94 B98 H95 o99 (S96 : Sit _ B98 H95 [(p41, o75), (p33, o77), (p_0, o99)]) s97 h101 h100 => ?_
            cases h101
            refine w_ev Ev.c ?_
            refine w_rv rv_eqI ?_
            refine w_bl ?_
            obtain rfl := Option.some.inj hc89
            exact kk90 _ _ ⟨rfl, _, _, S96, s97, h100⟩
          · rw [ifF h91] at hc89
            obtain rfl := Option.some.inj hc89
            exact kk90 _ _ ⟨rfl, _, _, S67, (Same.rf _), (Cl.mono _ s69 h80)⟩
        · rintro _ H102 ⟨rfl, B105, o106, S103, s104, h107⟩
          refine w_ifb (fun h108 => ?_) (fun h108 => ?_)
          · rw [ifT h108] at hf72
            refine w_seq ?_
            refine w_dput ?_
            refine w_ev (Ev.cb (EvA.cons (Ev.var rfl) EvA.nil) (rlen_q (sqC (K := K) (Cl.mono _ (s69.tr s104) h78) (S103.at' (i := 1) rfl)))) ?_
            obtain ⟨x109, h110, hf72⟩ := bs hf72
            refine w_ev (Ev.var rfl) ?_
            refine w_ev (Ev.var rfl) ?_
            refine q_dputG inlI (i := 0) S103 rfl (Cl.mono _ (s69.tr s104) h76) (show dInt.rel _ (st61.2.1.length : Int) (V.int (st61.2.1.length : Int)) from rfl) h110 fun o111 H112 (S113 : Sit _ B105 H112 [(p41, o111), (p33, o77), (p_0, o106)]) h114 => ?_
            refine w_pnx ?_
            refine w_drop ?_
            refine w_bm ?_
            refine w_ev (Ev.var rfl) ?_
            refine w_tyC (Cl.mono _ (s69.tr s104) h78) (S113.at' (i := 1) rfl) ?_
            refine w_cons ?_
            refine w_cb ?_
            obtain ⟨x115, hx115, hf72⟩ := bs hf72
            obtain ⟨w117, h118, r116⟩ := ix_L (K := K) (Rl.mono _ (s37.tr (s68.tr (s69.tr s104))) hx_1) hx115
            refine w_evA (EvA.cons (Ev.op (Ev.var rfl) (Ev.var rfl) (r116 _ S113.sub)) EvA.nil) ?_
            refine q_list S113 (sqL (K := K) h118 S113.sub) fun v119 B124 H120 S121 s122 h123 => ?_
            refine w_nil ?_
            obtain ⟨x125, h126, hf72⟩ := bs hf72
            refine q_append (k := 1) S121 rfl (Cl.mono _ (s69.tr (s104.tr s122)) h78) h123 h126 fun o127 H128 (S129 : Sit _ B124 H128 [(p41, o111), (p33, o127), (p_0, o106)]) h130 => ?_
            obtain rfl := Option.some.inj hf72
            exact ⟨_, _, S129, (s68.tr (s69.tr (s104.tr s122))), _, _, _, _, rfl, rfl, (Cl.mono _ s122 h114), h130, (Cl.mono _ s122 h107), trivial⟩
          · rw [ifF h108] at hf72
            refine w_next ?_
            obtain rfl := Option.some.inj hf72
            exact ⟨_, _, S103, (s68.tr (s69.tr s104)), _, _, _, _, rfl, rfl, (Cl.mono _ (s69.tr s104) h76), (Cl.mono _ (s69.tr s104) h78), h107, trivial⟩
      · intro B136 H131 _ cs132 S133 s134 hI135
        obtain ⟨e138, o139, o141, o143, rfl, rfl, h140, h142, h144, -⟩ := hI135
        obtain ⟨B147, S145, s146, h148⟩ : ∃ B', Sit _ B' H131 [(p33, o141), (p_0, o143)] ∧ Same _ B' ∧ (dDictI dInt).rel B' st137.1 (.ref p41) := ⟨_, S133.frz (i := 0) rfl n45, S133.frzS (i := 0) rfl, frzG h140 (S133.atB (i := 0) rfl)⟩
        obtain ⟨B151, S149, s150, h152⟩ : ∃ B', Sit _ B' H131 [(p_0, o143)] ∧ Same _ B' ∧ (dList (dList (dTup K (dAny K)))).rel B' st137.2.1 (.ref p33) := ⟨_, S145.frz (i := 0) rfl n38, S145.frzS (i := 0) rfl, frzL (Cl.mono _ s146 h142) (S145.atB (i := 0) rfl)⟩
        refine w_seq ?_
        refine w_asg ?_
        refine x_lst ?_
        refine w_nil ?_
        refine mkO (R := (dList (dTup K (dAny K)))) (xs := []) S149 .nil (by show 0 ≤ BIG; decide) fun p153 o154 H155 S156 n157 h158 => ?_
        refine w_gname ?_
        refine w_nx (σ' := [(some (.ref p_0)), (some v_1), (some (.ref p33)), (some (.ref p41)), e138, (some (.ref p153)), none, none]) rfl ?_
        refine w_seq ?_
        refine w_for ?_
        refine x_iL ?_
        refine w_ev (Ev.var rfl) ?_
        refine w_itL h152 S156.sub fun J159 it160 => ?_
        obtain ⟨st257, hl267, hm⟩ := bs hm
        refine forS (s0 := (([] : (List (List (List PyData)))), st137.2.2)) it160 S156 (fun (st161 : ((List (List (List PyData))) × Src3)) b σ' cs' => ∃ (e162 : Option V) (o163 : HO) (o165 : HO), σ' = [(some (.ref p_0)), (some v_1), (some (.ref p33)), (some (.ref p41)), e138, (some (.ref p153)), e162, none] ∧ cs' = [(p153, o163), (p_0, o165)] ∧ (cList (dList (dTup K (dAny K)))).rel b st161.1 o163 ∧ cSrc.rel b st161.2 o165 ∧ True) ⟨_, _, _, rfl, rfl, h158, (Cl.mono _ (s146.tr s150) h144), trivial⟩ hl267 (fun _ _ _ _ _ Z e _ => e.tr Z.sub) (fun a167 st168 o169 x170 B180 B186 H171 _ cs172 ma173 S174 s175 s176 hI177 h178 hf179 => ?_) ?_
        · obtain ⟨e181, o182, o184, rfl, rfl, h183, h185, -⟩ := hI177
          refine w_gname ?_
          refine w_nx (σ' := [(some (.ref p_0)), (some v_1), (some (.ref p33)), (some (.ref p41)), e138, (some (.ref p153)), (some x170), none]) rfl ?_
          refine w_drop ?_
          refine w_bm ?_
          refine w_ev (Ev.var rfl) ?_
          refine w_tyC (Cl.mono _ s176 h183) (S174.at' (i := 0) rfl) ?_
          refine w_cons ?_
          refine w_lc ?_
          refine x_iL ?_
          refine w_ev (Ev.var rfl) ?_
          refine w_itL h178 S174.sub fun J193 it194 => ?_
          obtain ⟨r225, h226, hf179⟩ := bs hf179
          refine lcRS (P := (dTup K (dAny K))) it194 S174 (dList.le h178) (fun (st211 : Src3) b cs' => ∃ o212, cs' = [(p153, o182), (p_0, o212)] ∧ cSrc.rel b st211 o212) ⟨_, rfl, (Cl.mono _ s176 h185)⟩ (h226 : _ = some (r225.1, r225.2)) (fun _ _ _ _ _ Z e _ => e.tr Z.sub) (fun D195 ac196 a197 st211 o198 x199 B202 B203 H204 cs228 ma210 S205 s200 s201 hI227 h206 ho207 RR208 kk209 => ?_) ?_
          · obtain ⟨o212, rfl, h213⟩ := hI227
            refine w_turn ?_
            refine w_gname ?_
            refine w_wipe rfl ?_
            refine w_yes ?_
            refine iteT ?_
            refine w_call ?_
            refine w_evA (EvA.cons (Ev.var rfl) (EvA.cons (Ev.var rfl) (EvA.cons (Ev.var rfl) EvA.nil))) ?_
            obtain ⟨r214, h215, ho207⟩ := bs ho207
            refine use_twin S205 (i1 := 2) rfl (Cl.mono _ s201 h213) h206 (Rl.mono _ (s150.tr (s175.tr (s176.tr (s200.tr s201)))) h148) h215 fun v216 B220 H217 o221 (S218 : Sit _ B220 H217 [(D195, (.lst ac196)), (p153, o182), (p_0, o221)]) s219 h223 h222 => ?_
            obtain rfl := Option.some.inj ho207
            exact kk209 _ _ _ _ S218 s219 ⟨o221, rfl, h222⟩ ⟨_, rfl, h223⟩
          · intro p229 B236 H230 o231 cs240 S232 s233 hI239 n234 h235
            obtain ⟨o237, rfl, h238⟩ := hI239
            obtain ⟨B243, S241, s242, h244⟩ : ∃ B', Sit _ B' H230 [(p153, o182), (p_0, o237)] ∧ Same _ B' ∧ (dList (dTup K (dAny K))).rel B' r225.1 (.ref p229) := ⟨_, S232.frz (i := 0) rfl n234, S232.frzS (i := 0) rfl, frzL h235 (S232.atB (i := 0) rfl)⟩
            refine w_nil ?_
            obtain ⟨x245, h246, hf179⟩ := bs hf179
            refine q_append (k := 0) S241 rfl (Cl.mono _ (s176.tr (s233.tr s242)) h183) h244 h246 fun o247 H248 (S249 : Sit _ B243 H248 [(p153, o247), (p_0, o237)]) h250 => ?_
            obtain rfl := Option.some.inj hf179
            exact ⟨_, _, S249, (s175.tr (s176.tr (s233.tr s242))), _, _, _, rfl, rfl, h250, (Cl.mono _ s242 h238), trivial⟩
        · intro B256 H251 _ cs252 S253 s254 hI255
          obtain ⟨e258, o259, o261, rfl, rfl, h260, h262, -⟩ := hI255
          obtain ⟨B265, S263, s264, h266⟩ : ∃ B', Sit _ B' H251 [(p_0, o261)] ∧ Same _ B' ∧ (dList (dList (dTup K (dAny K)))).rel B' st257.1 (.ref p153) := ⟨_, S253.frz (i := 0) rfl n157, S253.frzS (i := 0) rfl, frzL h260 (S253.atB (i := 0) rfl)⟩
          refine w_ret ?_
          refine w_ev (Ev.var rfl) ?_
          obtain rfl := Option.some.inj hm
          exact k _ _ _ _ S263 h266 (Cl.mono _ s264 h262)
abbrev n_turned : List Str := ["_law_source_here", "_law_rows", "_law_order", "_law_k", "_law_found", "_law_item_here"]
theorem sc_turned : FnScope n_turned ["_law_source_here", "_law_rows"] (defScope s_turned) := ⟨rfl, rfl, rfl, by decide +kernel, rfl, by decide +kernel, by decide +kernel⟩
def m_turned (x_0 : Src3) (x_1 : (List (List (List PyData)))) : Option ((List (List (List PyData))) × Src3) :=
  (rng2M (1 : Int) (x_1.length : Int)).bind fun x9 =>
  (forL (fun (a18 : Int) (st19 : ((List Int) × Src3)) => (m_draw (st19.2) ((st19.1.length : Int))).bind fun r44 =>
  (insM st19.1 ((1 : Int) + r44.1) a18).bind fun x54 =>
  some (x54, r44.2)) x9 (([(0 : Int)] : (List Int)), x_0)).bind fun st66 =>
  (forL (fun (a88 : Int) (st89 : (List (List (List PyData)))) => (atI x_1 a88).bind fun x118 =>
  (lcM (fun (a124 : (List PyData)) => ((atI a124 (0 : Int)).bind fun x165 =>
  (eqD x165 (PyData.str (Str.ofString "node"))).bind fun b169 =>
  if b169 = true then (atI a124 (1 : Int)).bind fun x171 =>
  (ixD x171 (st66.1.map PyData.int)).bind fun j175 =>
  some ([(PyData.str (Str.ofString "node")), (PyData.int j175)] : (List PyData)) else some a124).bind fun j144 =>
  some (some j144)) x118).bind fun ys190 =>
  (pushM st89 ys190).bind fun x204 =>
  some x204) st66.1 ([] : (List (List (List PyData))))).bind fun st216 =>
  some (st216, st66.2)
def sp_turned (K : PySem.W.Frag) : Sp := fun vs H Q E => ∃ (B : Hp) (x_0 : Src3) (p_0 : Addr) (o_0 : HO) (x_1 : (List (List (List PyData)))) (v_1 : V) (r : ((List (List (List PyData))) × Src3)), vs = [.ref p_0, v_1] ∧ Same B H ∧ (H p_0 = some o_0 ∧ B p_0 = none ∧ cSrc.rel B x_0 o_0) ∧ (dList (dList (dTup K (dAny K)))).rel B x_1 v_1 ∧ m_turned x_0 x_1 = some r ∧ ∀ (p : Addr) (o : HO) (B' H' : Hp) (op_0 : HO), Sit ⟨B, H, [p_0]⟩ B' H' ((p, o) :: [(p_0, op_0)]) → H p = none → (cList (dList (dTup K (dAny K)))).rel B' r.1 o → cSrc.rel B' r.2 op_0 → Q (.ref p) H'
theorem use_turned {K : PySem.W.Frag} {Φ : Fr} {B H : Hp} {cs : List (Addr × HO)} {Q : VK} {E : XK} {r : ((List (List (List PyData))) × Src3)} {x_0 : Src3} {p_0 : Addr} {o_0 : HO} {i1 : Nat} {x_1 : (List (List (List PyData)))} {v_1 : V} (Z : Sit Φ B H cs) (hc_0 : cs[i1]? = some (p_0, o_0)) (h_0 : cSrc.rel B x_0 o_0) (h_1 : (dList (dList (dTup K (dAny K)))).rel B x_1 v_1) (hm : m_turned x_0 x_1 = some r) (k : ∀ (p : Addr) (o : HO) (B' H' : Hp) (op_0 : HO), Sit Φ B' H' ((p, o) :: (cs.set i1 (p_0, op_0))) → Same B B' → Φ.H p = none → (cList (dList (dTup K (dAny K)))).rel B' r.1 o → cSrc.rel B' r.2 op_0 → Q (.ref p) H') : sp_turned K ([.ref p_0, v_1] ++ []) H Q E := by
  exact ⟨B, x_0, p_0, o_0, x_1, v_1, r, rfl, Z.sub, ⟨Z.at' hc_0, Z.atB hc_0, h_0⟩, h_1, hm, fun p o B' H' op_0 Z' n h qp_0 => k p o B' H' op_0 (Z.call1F hc_0 Z' n) Z'.grow (Z.fresh n) h qp_0⟩
theorem ok_turned (A0 : DefAt K mg "_law_turned" s_turned ["_law_source_here", "_law_rows"]) (b_len : mg "len" = none) (b_range : mg "range" = none) (D_draw : Does P w K mg base CX0 1 "_law_draw" ["_law_source_here", "_law_many"] sp_drawM) : Does P w K mg base CX0 2 "_law_turned" ["_law_source_here", "_law_rows"] (sp_turned K ) := by
  obtain ⟨f, fd, F, gm, bd⟩ := A0
  obtain ⟨f_draw, fd_draw, G_draw, g_draw, kp_draw, bd_draw⟩ := D_draw
  refine ⟨f, fd, ?_, gm, F.kp, bd⟩
  refine F.ok sc_turned (fun vs H Q E h => ?_) (fun cdv A outer s H vs Q E hr h => ?_)
  · obtain ⟨_, _, _, _, _, _, _, rfl, _⟩ := h
    rfl
  · obtain ⟨B, x_0, p_0, o_0, x_1, v_1, r, rfl, sB, ⟨hp_0, hb_0, hx_0⟩, hx_1, hm, k⟩ := h
    have hu := hu_of hr
    refine ⟨_, (pss_cons (ps_set (i := 2) sc_turned.nd rfl (Or.inr rfl) (pe_lst (pa_cons pe_int pa_nil)))
  (pss_cons (ps_for PassesOwn.never rfl (pi_range2 (by rfl) b_range (pa_cons pe_int (pa_cons (pe_callB (k_len K) (by rfl) b_len (by decide +kernel) (pa_cons (pv 1) pa_nil)) pa_nil))) (pg_name (i := 3) sc_turned.nd rfl (Or.inl rfl))
  (pss_one (ps_expr (k_bm K PySem.F.plainAttrs_list PySem.F.slot_list_insert PySem.F.type_list_insert m_insert (pv 2) (pa_cons (pe_op op_add pe_int (pe_call G_draw (hr.mono (by decide)) rfl g_draw kp_draw bd_draw .nil pass0 (pa_cons (pv 0) (pa_cons (pe_callB (k_len K) (by rfl) b_len (by decide +kernel) (pa_cons (pv 2) pa_nil)) pa_nil)))) (pa_cons (pv 3) pa_nil))))))
  (pss_cons (ps_set (i := 4) sc_turned.nd rfl (Or.inl rfl) (pe_lst pa_nil))
  (pss_cons (ps_for PassesOwn.never rfl (k_iL K (pv 2)) (pg_name (i := 3) sc_turned.nd rfl (Or.inl rfl))
  (pss_one (ps_expr (k_bm K PySem.F.plainAttrs_list PySem.F.slot_list_append PySem.F.type_list_append mt_append (pv 4) (pa_cons (pe_lc (own := [("_law_item_here", 5)]) (tt := tYes) rfl sc_turned.nd (k_iL K (pe_ix (k_ixL K) (pv 1) (pv 3) (fun _ _ => rfl))) (blkOk_by (own := [("_law_item_here", 5)]) (N := n_turned) (sc := defScope s_turned) (by decide +kernel)) (fun _ _ _ _ _ => (pg_name (i := 5) sc_turned.nd rfl (Or.inl rfl))) (fun _ _ _ _ _ => pts_nil) (fun _ _ _ _ _ => (pe_ifExp (pt_cmpR (k_eqD K hr.units) (pe_ix (k_ixT K) (pv 5) pe_int (fun _ _ => rfl)) pe_str (nomark _)) (pe_tup (pa_cons pe_str (pa_cons (k_bm K PySem.F.plainAttrs_list PySem.F.slot_list_index PySem.F.type_list_index (k_indexD K (u65 hr)) (pv 2) (pa_cons (pe_ix (k_ixT K) (pv 5) pe_int (fun _ _ => rfl)) pa_nil)) pa_nil))) (pv 5)))) pa_nil)))))
  (pss_one (ps_ret (pv 4))))))), ?_⟩
    obtain ⟨B0, hB0⟩ : ∃ B0 : Hp, B0 = B := ⟨_, rfl⟩
    subst hB0
    have S0 := Sit.start1 sB hp_0 hb_0
    unfold m_turned at hm
    refine w_sig (σ' := [(some (.ref p_0)), (some v_1), none, none, none, none]) rfl ?_
    refine w_seq ?_
    refine w_asg ?_
    refine x_lst ?_
    refine w_evA (EvA.cons Ev.c EvA.nil) ?_
    refine mkO (R := dInt) (xs := [(0 : Int)]) S0 (.cons (show dInt.rel _ (0 : Int) (V.int 0) from rfl) .nil) (by show 1 ≤ BIG; decide) fun p1 o2 H3 S4 n5 h6 => ?_
    refine w_gname ?_
    refine w_nx (σ' := [(some (.ref p_0)), (some v_1), (some (.ref p1)), none, none, none]) rfl ?_
    refine w_seq ?_
    refine w_for ?_
    refine x_iR2 ?_
    refine w_evA (EvA.cons Ev.c (EvA.cons (Ev.cb (EvA.cons (Ev.var rfl) EvA.nil) (rlen_q (sqL (K := K) hx_1 S4.sub))) EvA.nil)) ?_
    obtain ⟨x9, h10, hm⟩ := bs hm
    refine w_itR2 (B := B0) h10 fun J7 it8 hl11 => ?_
    obtain ⟨st66, hl221, hm⟩ := bs hm
    refine forS (s0 := (([(0 : Int)] : (List Int)), x_0)) it8 S4 (fun (st12 : ((List Int) × Src3)) b σ' cs' => ∃ (e13 : Option V) (o14 : HO) (o16 : HO), σ' = [(some (.ref p_0)), (some v_1), (some (.ref p1)), e13, none, none] ∧ cs' = [(p1, o14), (p_0, o16)] ∧ (cList dInt).rel b st12.1 o14 ∧ cSrc.rel b st12.2 o16 ∧ True) ⟨_, _, _, rfl, rfl, h6, hx_0, trivial⟩ hl221 (fun _ _ _ _ _ Z e _ => e.tr Z.sub) (fun a18 st19 o20 x21 B31 B37 H22 _ cs23 ma24 S25 s26 s27 hI28 h29 hf30 => ?_) ?_
    · obtain ⟨e32, o33, o35, rfl, rfl, h34, h36, -⟩ := hI28
      cases h29
      refine w_gname ?_
      refine w_nx (σ' := [(some (.ref p_0)), (some v_1), (some (.ref p1)), (some (V.int a18)), none, none]) rfl ?_
      refine w_drop ?_
      refine w_bm ?_
      refine w_ev (Ev.var rfl) ?_
      refine w_tyC (Cl.mono _ s27 h34) (S25.at' (i := 0) rfl) ?_
      refine w_cons ?_
      refine w_op ?_
      refine w_ev Ev.c ?_
      refine w_call ?_
      refine w_evA (EvA.cons (Ev.var rfl) (EvA.cons (Ev.cb (EvA.cons (Ev.var rfl) EvA.nil) (rlen_q (sqC (K := K) (Cl.mono _ s27 h34) (S25.at' (i := 0) rfl)))) EvA.nil)) ?_
      obtain ⟨r44, h45, hf30⟩ := bs hf30
      refine use_draw S25 (i1 := 1) rfl (Cl.mono _ s27 h36) (show dInt.rel _ (st19.1.length : Int) (V.int (st19.1.length : Int)) from rfl) h45 fun v46 B50 H47 o51 (S48 : Sit _ B50 H47 [(p1, o33), (p_0, o51)]) s49 h53 h52 => ?_
      cases h53
      refine w_rv rv_I0 ?_
      refine w_evA (EvA.cons (Ev.var rfl) EvA.nil) ?_
      obtain ⟨x54, h55, hf30⟩ := bs hf30
      refine q_insert (k := 0) S48 rfl (Cl.mono _ (s27.tr s49) h34) (show dInt.rel _ a18 (V.int a18) from rfl) h55 fun o56 H57 (S58 : Sit _ B50 H57 [(p1, o56), (p_0, o51)]) h59 => ?_
      obtain rfl := Option.some.inj hf30
      exact ⟨_, _, S58, (s26.tr (s27.tr s49)), _, _, _, rfl, rfl, h59, h52, trivial⟩
    · intro B65 H60 _ cs61 S62 s63 hI64
      obtain ⟨e67, o68, o70, rfl, rfl, h69, h71, -⟩ := hI64
      obtain ⟨B74, S72, s73, h75⟩ : ∃ B', Sit _ B' H60 [(p_0, o70)] ∧ Same _ B' ∧ (dList dInt).rel B' st66.1 (.ref p1) := ⟨_, S62.frz (i := 0) rfl n5, S62.frzS (i := 0) rfl, frzL h69 (S62.atB (i := 0) rfl)⟩
      refine w_seq ?_
      refine w_asg ?_
      refine x_lst ?_
      refine w_nil ?_
      refine mkO (R := (dList (dTup K (dAny K)))) (xs := []) S72 .nil (by show 0 ≤ BIG; decide) fun p76 o77 H78 S79 n80 h81 => ?_
      refine w_gname ?_
      refine w_nx (σ' := [(some (.ref p_0)), (some v_1), (some (.ref p1)), e67, (some (.ref p76)), none]) rfl ?_
      refine w_seq ?_
      refine w_for ?_
      refine x_iL ?_
      refine w_ev (Ev.var rfl) ?_
      refine w_itL h75 S79.sub fun J82 it83 => ?_
      obtain ⟨st216, hl220, hm⟩ := bs hm
      refine forS (s0 := ([] : (List (List (List PyData))))) it83 S79 (fun (st84 : (List (List (List PyData)))) b σ' cs' => ∃ (e85 : Option V) (o86 : HO), σ' = [(some (.ref p_0)), (some v_1), (some (.ref p1)), e85, (some (.ref p76)), none] ∧ cs' = [(p76, o86), (p_0, o70)] ∧ (cList (dList (dTup K (dAny K)))).rel b st84 o86 ∧ True) ⟨_, _, rfl, rfl, h81, trivial⟩ hl220 (fun _ _ _ _ _ Z e _ => e.tr Z.sub) (fun a88 st89 o90 x91 B101 B105 H92 _ cs93 ma94 S95 s96 s97 hI98 h99 hf100 => ?_) ?_
      · obtain ⟨e102, o103, rfl, rfl, h104, -⟩ := hI98
        cases h99
        refine w_gname ?_
        refine w_nx (σ' := [(some (.ref p_0)), (some v_1), (some (.ref p1)), (some (V.int a88)), (some (.ref p76)), none]) rfl ?_
        refine w_drop ?_
        refine w_bm ?_
        refine w_ev (Ev.var rfl) ?_
        refine w_tyC (Cl.mono _ s97 h104) (S95.at' (i := 0) rfl) ?_
        refine w_cons ?_
        refine w_lc ?_
        refine x_iL ?_
        obtain ⟨x118, hx118, hf100⟩ := bs hf100
        obtain ⟨w120, h121, r119⟩ := ix_L (K := K) (Rl.mono _ (s63.tr (s73.tr (s96.tr s97))) hx_1) hx118
        refine w_ev (Ev.op (Ev.var rfl) (Ev.var rfl) (r119 _ S95.sub)) ?_
        refine w_itL h121 S95.sub fun J112 it113 => ?_
        obtain ⟨ys190, h191, hf100⟩ := bs hf100
        refine lcR (P := (dTup K (dAny K))) it113 S95 (dList.le h121) h191 (fun _ _ _ Z e _ => e.tr Z.sub) (fun D122 ac123 a124 o125 x126 B129 B130 H131 ma137 S132 s127 s128 h133 ho134 RR135 kk136 => ?_) ?_
        · refine w_turn ?_
          refine w_gname ?_
          refine w_wipe rfl ?_
          refine w_yes ?_
          refine iteT ?_
          obtain ⟨j144, hj145, ho134⟩ := bs ho134
          refine cutE (fun v H' => ∃ (B' : Hp), Sit (Fr.mk B0 H [p_0]) B' H' [(D122, (.lst ac123)), (p76, o103), (p_0, o70)] ∧ Same B130 B' ∧ (dTup K (dAny K)).rel B' j144 v) (fun kk146 => ?_) ?_
          · refine w_ifE ?_
            obtain ⟨x165, hx165, hj145⟩ := bs hj145
            obtain ⟨w167, h168, r166⟩ := ix_T (K := K) h133 hx165
            obtain ⟨b169, hb169, hj145⟩ := bs hj145
            refine w_evT (EvT.test (Ev.op (Ev.op (Ev.var rfl) Ev.c (r166 _ S132.sub)) Ev.c (rv_eqD drAny drStr (Rl.mono _ S132.sub h168) (Rl.mono _ S132.sub (show dStr.rel _ (Str.ofString "node") (V.str (Str.ofString "node")) from rfl)) hb169))) ?_
            refine w_ifb (fun h170 => ?_) (fun h170 => ?_)
            · rw [ifT h170] at hj145
              refine x_tup ?_
              refine w_cons ?_
              refine w_ev Ev.c ?_
              refine w_cons ?_
              refine w_bm ?_
              refine w_ev (Ev.var rfl) ?_
              refine w_tyD (Rl.mono _ (s96.tr (s97.tr (s127.tr s128))) h75) S132.sub ?_
              obtain ⟨x171, hx171, hj145⟩ := bs hj145
              obtain ⟨w173, h174, r172⟩ := ix_T (K := K) h133 hx171
              refine w_evA (EvA.cons (Ev.op (Ev.var rfl) Ev.c (r172 _ S132.sub)) EvA.nil) ?_
              obtain ⟨j175, h176, hj145⟩ := bs hj145
              refine r_ixD drAny drInt (Rl.mono _ S132.sub (Rl.mono _ (s96.tr (s97.tr (s127.tr s128))) h75)) (Rl.mono _ S132.sub h174) h176 ?_
              refine w_nil ?_
              refine mk2 (K := K)   S132 (show dStr.rel _ (Str.ofString "node") (V.str (Str.ofString "node")) from rfl) (show dInt.rel _ j175 (V.int j175) from rfl) fun v177 B182 H178 S179 s180 h181 => ?_
              obtain rfl := Option.some.inj hj145
              exact kk146 _ _ ⟨_, S179, s180, (show (dTup K (dAny K)).rel _ ([(PyData.str (Str.ofString "node")), (PyData.int j175)] : (List PyData)) v177 from (mp2 (mpA drStr) (mpA drInt)) h181)⟩
            · rw [ifF h170] at hj145
              refine w_ev (Ev.var rfl) ?_
              obtain rfl := Option.some.inj hj145
              exact kk146 _ _ ⟨_, S132, (Same.rf _), h133⟩
          · rintro v186 H183 ⟨B188, S184, s185, h187⟩
            obtain rfl := Option.some.inj ho134
            exact kk136 _ _ _ S184 s185 ⟨_, rfl, h187⟩
        · intro p192 B199 H193 o194 S195 s196 n197 h198
          obtain ⟨B202, S200, s201, h203⟩ : ∃ B', Sit _ B' H193 [(p76, o103), (p_0, o70)] ∧ Same _ B' ∧ (dList (dTup K (dAny K))).rel B' ys190 (.ref p192) := ⟨_, S195.frz (i := 0) rfl n197, S195.frzS (i := 0) rfl, frzL h198 (S195.atB (i := 0) rfl)⟩
          refine w_nil ?_
          obtain ⟨x204, h205, hf100⟩ := bs hf100
          refine q_append (k := 0) S200 rfl (Cl.mono _ (s97.tr (s196.tr s201)) h104) h203 h205 fun o206 H207 (S208 : Sit _ B202 H207 [(p76, o206), (p_0, o70)]) h209 => ?_
          obtain rfl := Option.some.inj hf100
          exact ⟨_, _, S208, (s96.tr (s97.tr (s196.tr s201))), _, _, rfl, rfl, h209, trivial⟩
      · intro B215 H210 _ cs211 S212 s213 hI214
        obtain ⟨e217, o218, rfl, rfl, h219, -⟩ := hI214
        refine w_ret ?_
        refine w_ev (Ev.var rfl) ?_
        obtain rfl := Option.some.inj hm
        exact k _ _ _ _ _ (S212.only (.cons₂ _ (.cons₂ _ .slnil))) n80 h219 (Cl.mono _ (s73.tr s213) h71)
end
end Mm
namespace Mm
open PySem L2 Mf
theorem wp_drawB {s : Src3} {n m : Int} (h : s.ok n) (hn : n < 1000000000) (h0 : 0 < m) (h1 : m < 2 ^ 1000) : Wp (m_draw s m) (fun r => 0 ≤ r.1 ∧ r.1 < m ∧ r.2.ok (n + 1)) := by
  obtain ⟨v, s', e, a, b, c⟩ := draw_ok h hn h0 h1
  exact ⟨_, e, a, b, c⟩
theorem number_wp {s : Src3} {n : Int} (ok : s.ok n) (hn : n + 2 < 1000000000) : Wp (m_number s) (fun r => (-(1000000000000000000000000000000000000000000000000000000000000 : Int) < r.1 ∧ r.1 < 1000000000000000000000000000000000000000000000000000000000000) ∧ r.2.ok (n + 2)) := by
  unfold m_number
  refine (wp_draw ok (by omega) (by decide) (by decide)).bind fun r hr => ?_
  obtain ⟨r0, r1, ok1⟩ := hr
  have e59 : ((10 : Int) ^ ((59 : Int)).toNat) = 100000000000000000000000000000000000000000000000000000000000 := by decide +kernel
  have e60 : ((10 : Int) ^ ((60 : Int)).toNat) = 1000000000000000000000000000000000000000000000000000000000000 := by decide +kernel
  refine Wp.ite (fun c => ?_) (fun c => Wp.ite (fun c => ?_) (fun c => Wp.ite (fun c => ?_) (fun c => ?_)))
  · have c := of_decide_eq_true c
    refine (wp_atM (P := fun x => 0 ≤ x ∧ x ≤ 7) r0 (by simpa using c) (by decide)).bind fun z hz => Wp.some ⟨⟨by simp only; omega, by simp only; omega⟩, ok1.le (by omega)⟩
  · rw [e59]
    refine (wp_drawB ok1 (by omega) (by decide) (by decide +kernel)).bind fun u hu => Wp.some ⟨?_, hu.2.2.le (by omega)⟩
    have h1 := hu.1
    have h2 := hu.2.1
    simp only
    omega
  · rw [e60]
    refine (wp_draw ok1 (by omega) (by decide) (by decide)).bind fun u hu => Wp.some ⟨?_, hu.2.2.le (by omega)⟩
    have h1 := hu.1
    have h2 := hu.2.1
    simp only
    omega
  · rw [e60]
    refine (wp_draw ok1 (by omega) (by decide) (by decide)).bind fun u hu => Wp.some ⟨?_, hu.2.2.le (by omega)⟩
    have h1 := hu.1
    have h2 := hu.2.1
    simp only
    omega
theorem GoodI.word' {n : Nat} {s : Str} (h : IsName s) : GoodI n (.word s) := ⟨fun j e => (by cases e), fun t e => (by cases e; exact h), fun t e => (by cases e)⟩
theorem GoodI.gap' {n : Nat} : GoodI n .gap := ⟨fun j e => (by cases e), fun t e => (by cases e), fun t e => (by cases e)⟩
theorem GoodI.node' {n k : Nat} (h : k < n) : GoodI n (.node k) := ⟨fun j e => (by cases e; exact h), fun t e => (by cases e), fun t e => (by cases e)⟩
theorem GoodI.num' {n : Nat} {i : Int} (h : -(1000000000000000000000000000000000000000000000000000000000000 : Int) < i ∧ i < 1000000000000000000000000000000000000000000000000000000000000) : GoodI n (.num i) := ⟨fun j e => (by cases e), fun t e => (by cases e), fun t e => (by cases e; exact h)⟩
theorem item_wp {s : Src3} {n : Int} {m : Nat} {ws : List Str} (ok : s.ok n) (hn : n + 3 < 1000000000) (hm : 0 < m) (hm2 : m < 1000) (hw : ∀ w ∈ ws, IsName w) (hw0 : 0 < ws.length) (hw1 : ws.length < 1000) : Wp (m_item s (m : Int) ws) (fun r => ∃ x : Item, r.1 = x.d ∧ GoodI m x ∧ r.2.ok (n + 3)) := by
  unfold m_item
  refine (wp_draw ok (by omega) (by decide) (by decide)).bind fun r hr => ?_
  obtain ⟨r0, r1, ok1⟩ := hr
  refine Wp.ite (fun c => Wp.some ⟨.gap, rfl, GoodI.gap', ok1.le (by omega)⟩) (fun c => Wp.ite (fun c => ?_) (fun c => Wp.ite (fun c => ?_) (fun c => ?_)))
  · refine (wp_draw ok1 (by omega) (by omega) (by omega)).bind fun u hu => ?_
    refine (wp_atM (P := fun x => IsName x) hu.1 hu.2.1 hw).bind fun w hw => Wp.some ⟨.word w, rfl, GoodI.word' hw, hu.2.2.le (by omega)⟩
  · refine (number_wp ok1 (by omega)).bind fun u hu => Wp.some ⟨.num u.1, rfl, GoodI.num' hu.1, hu.2.le (by omega)⟩
  · refine (wp_draw ok1 (by omega) (by omega) (by omega)).bind fun u hu => ?_
    obtain ⟨k, hk⟩ := Int.eq_ofNat_of_zero_le hu.1
    refine Wp.some ⟨.node k, ?_, GoodI.node' (by have := hu.2.1; omega), hu.2.2.le (by omega)⟩
    simp only
    rw [hk]
    rfl
theorem raw_rows_wp {s : Src3} {n : Int} {most : Int} (ok : s.ok n) (hn : n + 10000 < 1000000000) (h0 : 0 < most) (h1 : most ≤ 40) : Wp (m_raw_rows s most) (fun r => ∃ t : Tbl, r.1 = tD t ∧ GoodT t ∧ (t.length : Int) ≤ most ∧ r.2.ok (n + 10000)) := by
  unfold m_raw_rows
  refine (wp_draw ok (by omega) h0 (by omega)).bind fun r hr => ?_
  obtain ⟨r0, r1, ok1⟩ := hr
  refine (wp_draw ok1 (by omega) (by decide) (by decide)).bind fun u hu => ?_
  obtain ⟨u0, u1, ok2⟩ := hu
  refine (names_wp ok2 (by omega) (by omega) (by omega)).bind fun v hv => ?_
  obtain ⟨hN, hNl, ok3⟩ := hv
  refine Wp.go (catM_eq (by simp only [List.length_cons, List.length_nil]; omega)) ?_
  obtain ⟨m, hm⟩ : ∃ m : Nat, (1 : Int) + r.1 = (m : Int) := ⟨(1 + r.1).toNat, by omega⟩
  rw [hm]
  have hw : ∀ w ∈ ([(Str.ofString "a"), (Str.ofString "b")] : List Str) ++ v.1, IsName w := by
    intro w hw
    rcases List.mem_append.mp hw with z | z
    · simp only [List.mem_cons, List.not_mem_nil, or_false] at z
      rcases z with rfl | rfl
      · refine ⟨by decide +kernel, by decide +kernel, by decide +kernel⟩
      · refine ⟨by decide +kernel, by decide +kernel, by decide +kernel⟩
    · exact hN.2 w z
  have hwl : (([(Str.ofString "a"), (Str.ofString "b")] : List Str) ++ v.1).length < 1000 ∧ 0 < (([(Str.ofString "a"), (Str.ofString "b")] : List Str) ++ v.1).length := by
    simp only [List.length_append, List.length_cons, List.length_nil]
    omega
  generalize ([(Str.ofString "a"), (Str.ofString "b")] : List Str) ++ v.1 = ws at hw hwl
  refine Wp.go (rngM_eq (by omega) (by omega)) ?_
  refine Wp.bind (P := fun (z : List (List (List PyData)) × Src3) => ∃ t : Tbl, z.1 = tD t ∧ t.length = m ∧ (∀ r ∈ t, r.length ≤ 12 ∧ ∀ x ∈ r, GoodI m x) ∧ z.2.ok (n + 10000)) ((wp_forL (fun i (z : List (List (List PyData)) × Src3) => ∃ t : Tbl, z.1 = tD t ∧ t.length = i ∧ (∀ r ∈ t, r.length ≤ 12 ∧ ∀ x ∈ r, GoodI m x) ∧ z.2.ok (n + 1000 + 100 * i)) ⟨[], rfl, rfl, by simp, ok3.le (by omega)⟩ ?_).mono ?_) ?_
  · rintro i a ⟨zs, s'⟩ ha ⟨t, e, hl, ht, ok4⟩
    simp only at e ok4 ⊢
    subst e
    have hi := (List.getElem?_eq_some_iff.mp ha).1
    simp only [List.length_map, List.length_range] at hi
    refine (wp_draw ok4 (by omega) (by decide) (by decide)).bind fun u hu => ?_
    obtain ⟨u0, u1, ok5⟩ := hu
    refine (wp_atM (P := fun x => 0 ≤ x ∧ x ≤ 12) u0 (by simpa using u1) (by decide)).bind fun z hz => ?_
    refine Wp.go (rngM_eq hz.1 (by omega)) ?_
    refine Wp.bind (P := fun (y : List (List PyData) × Src3) => ∃ r : Row, y.1 = rD r ∧ r.length ≤ 12 ∧ (∀ x ∈ r, GoodI m x) ∧ y.2.ok (n + 1000 + 100 * i + 50)) ((wp_lcS (fun j ys s' => ∃ r : Row, ys = rD r ∧ r.length = j ∧ (∀ x ∈ r, GoodI m x) ∧ s'.ok (n + 1000 + 100 * i + 1 + 3 * j)) ⟨[], rfl, rfl, by simp, ok5.le (by omega)⟩ ?_).mono ?_) ?_
    · rintro j b ys s2 hb ⟨r, rfl, hrl, hr, ok6⟩
      have hj := (List.getElem?_eq_some_iff.mp hb).1
      simp only [List.length_map, List.length_range] at hj
      refine (item_wp ok6 (by omega) (by omega) (by omega) hw hwl.2 hwl.1).bind fun y hy => ?_
      obtain ⟨x, hx, hxg, ok7⟩ := hy
      refine Wp.some ⟨r ++ [x], by simp only [Option.toList]; rw [hx, rD_push], by simp [hrl], fun z hz => ?_, ok7.le (by push_cast; omega)⟩
      rcases List.mem_append.mp hz with q | q
      · exact hr z q
      · rw [List.mem_singleton.mp q]; exact hxg
    · rintro ⟨ys, s2⟩ ⟨r, h1, h2, h3, h4⟩
      simp only [List.length_map, List.length_range] at h2 h4
      exact ⟨r, h1, by omega, h3, h4.le (by omega)⟩
    · rintro ⟨ys, s2⟩ ⟨r, h1, h2, h3, h4⟩
      simp only at h1 h4 ⊢
      subst h1
      refine Wp.go (pushM_eq (by rw [tD_len]; omega)) (Wp.some ⟨t ++ [r], by rw [tD_push], by simp [hl], fun q hq => ?_, h4.le (by push_cast; omega)⟩)
      rcases List.mem_append.mp hq with z | z
      · exact ht q z
      · rw [List.mem_singleton.mp z]; exact ⟨h2, h3⟩
  · rintro ⟨zs, s'⟩ ⟨t, h1, h2, h3, h4⟩
    simp only [List.length_map, List.length_range] at h2 h4
    exact ⟨t, h1, by omega, h3, h4.le (by omega)⟩
  · rintro ⟨zs, s'⟩ ⟨t, h1, h2, h3, h4⟩
    exact Wp.some ⟨t, h1, ⟨by omega, by omega, fun q hq => (h3 q hq).1, fun q hq => by rw [h2]; exact (h3 q hq).2⟩, by omega, h4⟩
theorem GoodI.le {n m : Nat} {x : Item} (h : GoodI n x) (e : n ≤ m) : GoodI m x := ⟨fun k q => Nat.lt_of_lt_of_le (h.node k q) e, h.word, h.num⟩
theorem gGet_mem {κ α : Type} [DecidableEq κ] {kvs : List (κ × α)} {k : κ} {v : α} (h : gGet kvs k = some v) : (k, v) ∈ kvs := by
  unfold gGet at h
  cases e : kvs.find? (fun x => decide (x.1 = k)) with
  | none => rw [e] at h; cases h
  | some z =>
    rw [e] at h
    cases h
    have h1 := List.mem_of_find?_eq_some e
    have h2 := List.find?_some e
    have : z.1 = k := by simpa using h2
    rw [← this]
    exact h1
theorem gPut_mem {κ α : Type} [DecidableEq κ] {kvs : List (κ × α)} {k : κ} {v : α} {z : κ × α} (h : z ∈ gPut kvs k v) : z ∈ kvs ∨ z = (k, v) := by
  unfold gPut at h
  split at h
  · obtain ⟨y, hy, e⟩ := List.mem_map.mp h
    by_cases c : y.1 = k
    · rw [if_pos c] at e
      exact .inr (by rw [← e, c])
    · rw [if_neg c] at e
      exact .inl (e ▸ hy)
  · rcases List.mem_append.mp h with q | q
    · exact .inl q
    · exact .inr (List.mem_singleton.mp q)
theorem putM_eq {κ α : Type} [DecidableEq κ] {kvs : List (κ × α)} {k : κ} {v : α} (h : kvs.length < 1000000) : putM kvs k v = some (gPut kvs k v) := by
  unfold putM BIG
  rw [if_pos (by omega)]
theorem twin_wp {s : Src3} {n : Int} {m : Nat} {x : Item} {tw : List (Int × Int)} (ok : s.ok n) (hn : n + 1 < 1000000000) (hx : GoodI m x) (ht : ∀ z ∈ tw, 0 ≤ z.2 ∧ z.2 < m) : Wp (m_twin s x.d tw) (fun r => ∃ y : Item, r.1 = y.d ∧ GoodI m y ∧ r.2.ok (n + 1)) := by
  unfold m_twin
  refine Wp.bind (P := fun c => c.2.ok (n + 1) ∧ (c.1 = true → ∃ k, x = .node k ∧ gHas tw (k : Int) = true)) ?_ ?_
  · rw [it_node]
    cases x with
    | node k =>
      refine Wp.yes rfl ?_
      rw [it_ix]
      refine Wp.ite (fun c => ?_) (fun c => Wp.some ⟨ok.le (by omega), fun z => (by cases z)⟩)
      exact (wp_draw ok (by omega) (by decide) (by decide)).bind fun u hu => Wp.some ⟨hu.2.2, fun _ => ⟨k, rfl, c⟩⟩
    | gap => exact Wp.no rfl (Wp.some ⟨ok.le (by omega), fun z => (by cases z)⟩)
    | word w => exact Wp.no rfl (Wp.some ⟨ok.le (by omega), fun z => (by cases z)⟩)
    | num w => exact Wp.no rfl (Wp.some ⟨ok.le (by omega), fun z => (by cases z)⟩)
  · rintro ⟨c, s'⟩ ⟨ok1, hc⟩
    simp only at ok1 hc ⊢
    refine Wp.ite (fun q => ?_) (fun q => Wp.some ⟨x, rfl, hx, ok1⟩)
    obtain ⟨k, rfl, hk⟩ := hc q
    rw [it_ix]
    unfold gHas at hk
    cases e : gGet tw (k : Int) with
    | none => rw [e] at hk; cases hk
    | some v =>
      obtain ⟨h1, h2⟩ := ht _ (gGet_mem e)
      simp only at h1 h2
      obtain ⟨j, rfl⟩ := Int.eq_ofNat_of_zero_le h1
      exact Wp.some ⟨.node j, rfl, GoodI.node' (by omega), ok1⟩
theorem doubled_wp {s : Src3} {n : Int} {t : Tbl} (ok : s.ok n) (hn : n + 1000 < 1000000000) (h : GoodT t) : Wp (m_doubled s (tD t)) (fun r => ∃ t' : Tbl, r.1 = tD t' ∧ GoodT t' ∧ r.2.ok (n + 1000)) := by
  unfold m_doubled
  have h40 := h.few
  have hpos := h.pos
  rw [tD_len, show (List.map (fun (a5 : List (List PyData)) => a5) (tD t)) = tD t from List.map_id' _]
  refine Wp.go (rngM_eq (by omega) (by omega)) ?_
  refine Wp.bind (P := fun (z : List (Int × Int) × List (List (List PyData)) × Src3) => ∃ f : Tbl, z.2.1 = tD f ∧ t.length ≤ f.length ∧ f.length ≤ 40 ∧ (∀ r ∈ f, r ∈ t) ∧ (∀ q ∈ z.1, 0 ≤ q.2 ∧ q.2 < f.length) ∧ z.2.2.ok (n + 100)) ((wp_forL (fun i (z : List (Int × Int) × List (List (List PyData)) × Src3) => ∃ f : Tbl, z.2.1 = tD f ∧ t.length ≤ f.length ∧ f.length ≤ 40 ∧ (∀ r ∈ f, r ∈ t) ∧ (∀ q ∈ z.1, 0 ≤ q.2 ∧ q.2 < f.length) ∧ z.1.length ≤ i ∧ z.2.2.ok (n + i)) ⟨t, rfl, Nat.le_refl _, h40, fun _ q => q, by simp, by simp, by simpa using ok⟩ ?_).mono ?_) ?_
  · rintro i a ⟨tw, zs, s'⟩ ha ⟨f, e, f1, f2, f3, f4, f5, ok1⟩
    simp only at e f4 f5 ok1 ⊢
    subst e
    have hi := (List.getElem?_eq_some_iff.mp ha).1
    simp only [List.length_map, List.length_range, Int.toNat_natCast] at hi
    have hai : a = (i : Int) := by
      rw [List.getElem?_map, List.getElem?_range (by simpa using hi)] at ha
      simpa using ha.symm
    subst hai
    refine Wp.bind (P := fun c => c.2.ok (n + (i + 1 : Nat)) ∧ (c.1 = true → f.length < 40)) ?_ ?_
    · rw [tD_len]
      refine Wp.ite (fun c => ?_) (fun c => Wp.some ⟨ok1.le (by push_cast; omega), fun z => (by cases z)⟩)
      have c := of_decide_eq_true c
      exact (wp_draw ok1 (by omega) (by decide) (by decide)).bind fun u hu => Wp.some ⟨hu.2.2.le (by push_cast; omega), fun _ => by omega⟩
    · rintro ⟨c, s2⟩ ⟨ok2, hc⟩
      simp only at ok2 hc ⊢
      refine Wp.ite (fun q => ?_) (fun q => Wp.some ⟨f, rfl, f1, f2, f3, f4, by show tw.length ≤ i + 1; omega, ok2⟩)
      have hlt := hc q
      refine Wp.go (putM_eq (by omega)) ?_
      obtain ⟨r, hr⟩ : ∃ r, t[i]? = some r := ⟨t[i], by simp [hi]⟩
      rw [atI_get (tD_get hr)]
      refine Wp.go (pushM_eq (by rw [tD_len]; omega)) (Wp.some ⟨f ++ [r], by rw [tD_push], by simp; omega, by simp; omega, fun z hz => ?_, fun z hz => ?_, ?_, ok2⟩)
      · rcases List.mem_append.mp hz with w | w
        · exact f3 z w
        · rw [List.mem_singleton.mp w]; exact List.mem_of_getElem? hr
      · rcases gPut_mem hz with w | w
        · have := f4 z w; simp only [List.length_append, List.length_cons, List.length_nil]; push_cast; omega
        · rw [w]; simp only [List.length_append, List.length_cons, List.length_nil, tD_len]; push_cast; omega
      · have := gPut_len tw (i : Int) (((tD f).length : Nat) : Int)
        simp only
        omega
  · rintro ⟨tw, zs, s'⟩ ⟨f, h1, h2, h3, h4, h5, h6, h7⟩
    simp only [List.length_map, List.length_range, Int.toNat_natCast] at h7
    exact ⟨f, h1, h2, h3, h4, h5, h7.le (by omega)⟩
  · rintro ⟨tw, zs, s'⟩ ⟨f, e, f1, f2, f3, f4, ok1⟩
    simp only at e f4 ok1 ⊢
    subst e
    refine Wp.bind (P := fun (z : List (List (List PyData)) × Src3) => ∃ g : Tbl, z.1 = tD g ∧ g.length = f.length ∧ (∀ r ∈ g, r.length ≤ 12 ∧ ∀ x ∈ r, GoodI f.length x) ∧ z.2.ok (n + 1000)) ((wp_forL (fun i (z : List (List (List PyData)) × Src3) => ∃ g : Tbl, z.1 = tD g ∧ g.length = i ∧ (∀ r ∈ g, r.length ≤ 12 ∧ ∀ x ∈ r, GoodI f.length x) ∧ z.2.ok (n + 100 + 12 * i)) ⟨[], rfl, rfl, by simp, ok1.le (by simp)⟩ ?_).mono ?_) ?_
    · rintro i a ⟨zs, s2⟩ ha ⟨g, e, hl, hg, ok2⟩
      simp only at e ok2 ⊢
      subst e
      unfold tD at ha
      rw [List.getElem?_map] at ha
      cases q : f[i]? with
      | none => rw [q] at ha; cases ha
      | some r =>
        rw [q] at ha
        cases ha
        have hi := (List.getElem?_eq_some_iff.mp q).1
        have hrt := f3 r (List.mem_of_getElem? q)
        have h12 := h.short r hrt
        refine Wp.bind (P := fun (y : List (List PyData) × Src3) => ∃ r' : Row, y.1 = rD r' ∧ r'.length ≤ 12 ∧ (∀ x ∈ r', GoodI f.length x) ∧ y.2.ok (n + 100 + 12 * i + 12)) ((wp_lcS (fun j ys s' => ∃ r' : Row, ys = rD r' ∧ r'.length = j ∧ (∀ x ∈ r', GoodI f.length x) ∧ s'.ok (n + 100 + 12 * i + j)) ⟨[], rfl, rfl, by simp, ok2.le (by simp)⟩ ?_).mono ?_) ?_
        · rintro j b ys s3 hb ⟨r', rfl, hrl, hr', ok3⟩
          unfold rD at hb
          rw [List.getElem?_map] at hb
          cases qb : r[j]? with
          | none => rw [qb] at hb; cases hb
          | some x =>
            rw [qb] at hb
            cases hb
            have hj := (List.getElem?_eq_some_iff.mp qb).1
            refine (twin_wp ok3 (by omega) (GoodI.le (h.item r hrt x (List.mem_of_getElem? qb)) f1) f4).bind fun y hy => ?_
            obtain ⟨z, hz, hzg, ok4⟩ := hy
            refine Wp.some ⟨r' ++ [z], by simp only [Option.toList]; rw [hz, rD_push], by simp [hrl], fun w hw => ?_, ok4.le (by push_cast; omega)⟩
            rcases List.mem_append.mp hw with q | q
            · exact hr' w q
            · rw [List.mem_singleton.mp q]; exact hzg
        · rintro ⟨ys, s3⟩ ⟨r', h1, h2, h3, h4⟩
          rw [rD_len] at h2 h4
          exact ⟨r', h1, by omega, h3, h4.le (by omega)⟩
        · rintro ⟨ys, s3⟩ ⟨r', h1, h2, h3, h4⟩
          simp only at h1 h4 ⊢
          subst h1
          refine Wp.go (pushM_eq (by rw [tD_len]; omega)) (Wp.some ⟨g ++ [r'], by rw [tD_push], by simp [hl], fun q hq => ?_, h4.le (by push_cast; omega)⟩)
          rcases List.mem_append.mp hq with z | z
          · exact hg q z
          · rw [List.mem_singleton.mp z]; exact ⟨h2, h3⟩
    · rintro ⟨zs, s2⟩ ⟨g, h1, h2, h3, h4⟩
      rw [tD_len] at h2 h4
      exact ⟨g, h1, h2, h3, h4.le (by omega)⟩
    · rintro ⟨zs, s2⟩ ⟨g, h1, h2, h3, h4⟩
      exact Wp.some ⟨g, h1, ⟨by omega, by omega, fun q hq => (h3 q hq).1, fun q hq => by rw [h2]; exact (h3 q hq).2⟩, h4⟩
theorem rng2M_eq {i j : Int} (h0 : 0 ≤ i) (h1 : j ≤ 1000000) (h2 : i ≤ 1000000) (h3 : -1000000 ≤ j) : rng2M i j = some ((List.range (j - i).toNat).map fun k => i + ((k : Nat) : Int)) := by
  unfold rng2M BIG
  rw [if_pos ⟨⟨by omega, by omega, by omega, by omega⟩, by omega⟩]
/-- an order of the rows, the first one first -/
structure Perm0 (n : Nat) (o : List Nat) : Prop where
  nd : o.Nodup
  mem : ∀ k, k ∈ o ↔ k < n
  fst : o.head? = some 0
theorem Perm0.len {n : Nat} {o : List Nat} (h : Perm0 n o) : o.length = n := by
  have h1 := nd_le (m := List.range n) h.nd fun z hz => List.mem_range.mpr ((h.mem z).mp hz)
  have h2 := nd_le (l := List.range n) (m := o) List.nodup_range fun z hz => (h.mem z).mpr (List.mem_range.mp hz)
  simp only [List.length_range] at h1 h2
  omega
def turnT (o : List Nat) (t : Tbl) : Tbl := o.map fun k => (t.getD k []).map (Item.ren fun j => pos o j)
theorem ixD_ints {l : List Nat} {k : Nat} (h : k ∈ l) : ixD (.int (k : Int)) ((nI l).map PyData.int) = some ((pos l k : Nat) : Int) := by
  unfold ixD
  rw [if_pos ⟨(ints_ly (xs := nI l)).shaped (by decide), (Ly.int (n := 0)).shaped (by decide)⟩]
  unfold nI
  rw [List.map_map, fIx_on, ← fIx_mem h]
  congr 1
  funext a
  refine eqv_dec rfl rfl ?_
  show PyData.int (a : Int) = PyData.int (k : Int) ↔ a = k
  rw [PyData.int.injEq]
  omega
theorem order_wp {s : Src3} {n : Int} {m : Nat} (ok : s.ok n) (hn : n + 1000 < 1000000000) (h0 : 0 < m) (h1 : m ≤ 40) (f : Int → (List Int × Src3) → Option (List Int × Src3)) (hf : f = fun (a18 : Int) (st19 : ((List Int) × Src3)) => (m_draw (st19.2) ((st19.1.length : Int))).bind fun r44 => (insM st19.1 ((1 : Int) + r44.1) a18).bind fun x54 => some (x54, r44.2)) :
    Wp (forL f ((List.range ((m : Int) - 1).toNat).map fun k => (1 : Int) + ((k : Nat) : Int)) ([0], s)) (fun r => ∃ o, r.1 = nI o ∧ Perm0 m o ∧ r.2.ok (n + 1000)) := by
  subst hf
  refine (wp_forL (fun i (z : List Int × Src3) => ∃ o, z.1 = nI o ∧ Perm0 (i + 1) o ∧ z.2.ok (n + i)) ⟨[0], rfl, ⟨by simp, fun k => by simp, rfl⟩, by simpa using ok⟩ ?_).mono ?_
  · rintro i a ⟨zs, s'⟩ ha ⟨o, e, ho, ok1⟩
    simp only at e ok1 ⊢
    subst e
    have hi := (List.getElem?_eq_some_iff.mp ha).1
    simp only [List.length_map, List.length_range] at hi
    have hai : a = ((i + 1 : Nat) : Int) := by
      rw [List.getElem?_map, List.getElem?_range (by simpa using hi)] at ha
      simp at ha
      omega
    subst hai
    have hl := ho.len
    refine (wp_draw ok1 (by omega) (by rw [nI_len]; omega) (by rw [nI_len]; omega)).bind fun u hu => ?_
    obtain ⟨u0, u1, ok2⟩ := hu
    rw [nI_len] at u1
    refine Wp.go (insM_eq (by omega) (by omega) (by rw [nI_len]; omega)) (Wp.some ?_)
    obtain ⟨j, hj⟩ : ∃ j : Nat, ((1 : Int) + u.1).toNat = j + 1 := ⟨u.1.toNat, by omega⟩
    rw [hj]
    refine ⟨o.take (j + 1) ++ [i + 1] ++ o.drop (j + 1), ?_, ⟨?_, fun k => ?_, ?_⟩, ok2.le (by push_cast; omega)⟩
    · unfold nI
      simp [List.map_append, List.map_take, List.map_drop]
    · have hnot : i + 1 ∉ o := fun z => by have := (ho.mem _).mp z; omega
      have hnd := ho.nd
      rw [← List.take_append_drop (j + 1) o] at hnd hnot
      rw [List.append_assoc, List.nodup_append] at *
      refine ⟨hnd.1, ?_, fun a ha b hb => ?_⟩
      · rw [List.singleton_append, List.nodup_cons]
        exact ⟨fun z => hnot (List.mem_append_right _ z), hnd.2.1⟩
      · rcases List.mem_append.mp hb with z | z
        · rw [List.mem_singleton.mp z]
          exact fun e => hnot (List.mem_append_left _ (e ▸ ha))
        · exact hnd.2.2 a ha b z
    · have : k ∈ o.take (j + 1) ++ [i + 1] ++ o.drop (j + 1) ↔ k ∈ o ∨ k = i + 1 := by
        rw [List.mem_append, List.mem_append, List.mem_singleton]
        conv => rhs; rw [← List.take_append_drop (j + 1) o, List.mem_append]
        constructor
        · rintro ((z | z) | z)
          · exact .inl (.inl z)
          · exact .inr z
          · exact .inl (.inr z)
        · rintro ((z | z) | z)
          · exact .inl (.inl z)
          · exact .inr z
          · exact .inl (.inr z)
      rw [this, ho.mem]
      omega
    · have := ho.fst
      cases o with
      | nil => cases this
      | cons y o => simpa using this
  · rintro ⟨zs, s'⟩ ⟨o, h1, h2, h3⟩
    have el : ((List.range ((m : Int) - 1).toNat).map fun k => (1 : Int) + ((k : Nat) : Int)).length = m - 1 := by simp
    rw [el] at h2 h3
    exact ⟨o, h1, by rw [show m - 1 + 1 = m by omega] at h2; exact h2, h3.le (by omega)⟩
theorem turned_wp {s : Src3} {n : Int} {t : Tbl} (ok : s.ok n) (hn : n + 1000 < 1000000000) (h : GoodT t) : Wp (m_turned s (tD t)) (fun r => ∃ o, Perm0 t.length o ∧ r.1 = tD (turnT o t) ∧ r.2.ok (n + 1000)) := by
  have h40 := h.few
  have hpos := h.pos
  unfold m_turned
  rw [tD_len]
  refine Wp.go (rng2M_eq (by decide) (by omega) (by decide) (by omega)) ?_
  refine (order_wp ok hn hpos h40 _ rfl).bind fun r hr => ?_
  obtain ⟨is, s1⟩ := r
  obtain ⟨o, e, ho, ok1⟩ := hr
  simp only at e ok1 ⊢
  subst e
  have hl := ho.len
  refine Wp.bind (P := fun z => z = tD (turnT o t)) ((wp_forL (fun i z => z = tD ((o.take i).map fun k => (t.getD k []).map (Item.ren fun j => pos o j))) rfl ?_).mono ?_) fun z hz => Wp.some ⟨o, ho, hz, ok1⟩
  · rintro i a z ha rfl
    unfold nI at ha
    rw [List.getElem?_map] at ha
    cases q : o[i]? with
    | none => rw [q] at ha; cases ha
    | some k =>
      rw [q] at ha
      cases ha
      have hi := (List.getElem?_eq_some_iff.mp q).1
      have hk := (ho.mem k).mp (List.mem_of_getElem? q)
      obtain ⟨r, hr⟩ : ∃ r, t[k]? = some r := ⟨t[k], by simp [hk]⟩
      have hrt := List.mem_of_getElem? hr
      rw [atI_get (tD_get hr)]
      refine Wp.go (a := rD (r.map (Item.ren fun j => pos o j))) ?_ ?_
      · unfold rD
        rw [lcM_on, lcM_mapE (fun x => (Item.ren (fun j => pos o j) x).d), List.map_map]
        · rfl
        · intro x hx
          rw [it_node]
          cases x with
          | node j =>
            rw [ifT (show (Item.node j).isNode = true from rfl)]
            have hj := h.tok r hrt j hx
            show ((ixD (.int (j : Int)) ((nI o).map PyData.int)).bind _).bind _ = _
            rw [ixD_ints ((ho.mem j).mpr hj)]
            rfl
          | _ => rfl
      · refine Wp.go (pushM_eq (by rw [tD_len, List.length_map, List.length_take]; omega)) (Wp.some ?_)
        rw [take_next q, List.map_append, List.map_singleton, tD_push, show t.getD k [] = r by simp [List.getD, hr]]
  · rintro z rfl
    rw [nI_len, List.take_length]
    rfl
theorem turn_good {t : Tbl} {o : List Nat} (h : GoodT t) (ho : Perm0 t.length o) : GoodT (turnT o t) := by
  have hl := ho.len
  have h1 := h.pos
  have h2 := h.few
  have el : (turnT o t).length = t.length := by unfold turnT; rw [List.length_map, hl]
  have hr : ∀ r ∈ turnT o t, ∃ r' ∈ t, r = r'.map (Item.ren fun j => pos o j) := fun r hr => by
    obtain ⟨k, hk, rfl⟩ := List.mem_map.mp hr
    have hk := (ho.mem k).mp hk
    exact ⟨t[k], List.getElem_mem hk, by simp [List.getD, hk]⟩
  refine ⟨by omega, by omega, fun r h => ?_, fun r h' x hx => ?_⟩
  · obtain ⟨r', hr', rfl⟩ := hr r h
    rw [List.length_map]
    exact GoodT.short ‹GoodT t› r' hr'
  · obtain ⟨r', hr', rfl⟩ := hr r h'
    obtain ⟨y, hy, rfl⟩ := List.mem_map.mp hx
    have hg := h.item r' hr' y hy
    cases y with
    | node j =>
      have hj := hg.node j rfl
      exact GoodI.node' (by rw [el, ← hl]; exact pos_lt ((ho.mem j).mpr hj))
    | gap => exact GoodI.gap'
    | word w => exact GoodI.word' (hg.word w rfl)
    | num w => exact GoodI.num' (hg.num w rfl)
theorem lt60 {n : Nat} (h : n ≤ 1000) : n < 10 ^ 60 := Nat.lt_of_le_of_lt h (by decide +kernel)
theorem l_at : (Str.ofString "@").length = 1 := by decide +kernel
theorem l_colon : (Str.ofString ":").length = 1 := by decide +kernel
theorem l_blank : (Str.ofString " ").length = 1 := by decide +kernel
theorem l_nl : (Str.ofString "\n").length = 1 := by decide +kernel
theorem l_no : (Str.ofString "").length = 0 := by decide +kernel
theorem e_len : Str.empty.length = 0 := rfl
theorem item_text_eq {n : Nat} {x : Item} (h : GoodI n x) (hn : n ≤ 1000) : m_item_text x.d = some (itemTxt x) := by
  obtain ⟨k1, k2, k3, k4, k5, k6⟩ := kne
  refine Wp.eq ?_
  unfold m_item_text
  cases x with
  | gap => exact Wp.go (show atI (Item.gap).d 0 = some (.str (Str.ofString "gap")) from rfl) (Wp.go (eqS kok1 kok1) (Wp.yes (by simp) (Wp.some rfl)))
  | word s =>
    refine Wp.go (show atI (Item.word s).d 0 = some (.str (Str.ofString "word")) from rfl) (Wp.go (eqS kok2 kok1) (Wp.no (by simp [Ne.symm k1]) ?_))
    exact Wp.go (show atI (Item.word s).d 0 = some (.str (Str.ofString "word")) from rfl) (Wp.go (eqS kok2 kok4) (Wp.no (by simp [k5]) (Wp.go (show atI (Item.word s).d 1 = some (.str s) from rfl) (Wp.some rfl))))
  | num i =>
    have hi := h.num i rfl
    refine Wp.go (show atI (Item.num i).d 0 = some (.str (Str.ofString "number")) from rfl) (Wp.go (eqS kok3 kok1) (Wp.no (by simp [Ne.symm k2]) ?_))
    exact Wp.go (show atI (Item.num i).d 0 = some (.str (Str.ofString "number")) from rfl) (Wp.go (eqS kok3 kok4) (Wp.no (by simp [k6]) (Wp.go (show atI (Item.num i).d 1 = some (.int i) from rfl) (Wp.go (show strD (.int i) = some (Str.ofString (toString i)) from strI_eq (by omega)) (Wp.some rfl)))))
  | node k =>
    have hk := h.node k rfl
    have hl := natT_len (m := k) (lt60 (by omega))
    refine Wp.go (show atI (Item.node k).d 0 = some (.str (Str.ofString "node")) from rfl) (Wp.go (eqS kok4 kok1) (Wp.no (by simp [Ne.symm k3]) ?_))
    refine Wp.go (show atI (Item.node k).d 0 = some (.str (Str.ofString "node")) from rfl) (Wp.go (eqS kok4 kok4) (Wp.yes (by simp) ?_))
    refine Wp.go (fcat_eq (by rw [e_len, l_at]; omega)) (Wp.go (show atI (Item.node k).d 1 = some (.int (k : Int)) from rfl) ?_)
    refine Wp.go (show fmtD (.int (k : Int)) = some (Str.ofString (toString (k : Int))) from strI_eq (lt60 (by simp; omega))) ?_
    rw [empty_app]
    exact Wp.go (fcat_eq (by rw [l_at]; omega)) (Wp.some rfl)
theorem row_sum {i : Nat} {r : Row} {n : Nat} (hi : i ≤ 1000) (hn : n ≤ 1000) (h : ∀ x ∈ r, GoodI n x) (z : Str) (hz : z ∈ (Str.ofString (toString ((i : Nat) : Int)) ++ Str.ofString ":") :: r.map (fun x => Str.ofString " " ++ itemTxt x)) : z.length ≤ 63 := by
  rcases List.mem_cons.mp hz with rfl | hz
  · rw [Str.length_append, l_colon]
    have := natT_len (m := i) (lt60 hi)
    omega
  · obtain ⟨x, hx, rfl⟩ := List.mem_map.mp hz
    rw [Str.length_append, l_blank]
    have := itemTxt_len (h x hx) hn
    omega
theorem rowTxt_len {i : Nat} {r : Row} {n : Nat} (hi : i ≤ 1000) (hn : n ≤ 1000) (hr : r.length ≤ 12) (h : ∀ x ∈ r, GoodI n x) : (rowTxt i r).length ≤ 900 := by
  unfold rowTxt
  have := join_len (y := Str.ofString "") (row_sum hi hn h)
  rw [l_no] at this
  simp only [List.length_cons, List.length_map] at this
  have h2 : (r.length + 1) * (63 + 0) ≤ 13 * 63 := Nat.mul_le_mul (by omega) (by omega)
  omega
theorem text_rows_eq {t : Tbl} {n : Nat} (h1 : t.length ≤ 40) (h2 : ∀ r ∈ t, r.length ≤ 12) (h3 : ∀ r ∈ t, ∀ x ∈ r, GoodI n x) (hn : n ≤ 1000) : m_Result_text (tD t) = some (tblTxt t) := by
  refine Wp.eq ?_
  unfold m_Result_text
  refine Wp.bind (P := fun z => z = (List.range t.length).zipWith (fun i r => rowTxt i r) t) ((wp_forL (fun i z => z = ((List.range t.length).zipWith (fun i r => rowTxt i r) t).take i) (by simp) ?_).mono ?_) ?_
  · rintro i ⟨j, a⟩ z ha rfl
    obtain ⟨hia, hij⟩ := enum_at ha
    simp only at hij hia
    unfold tD at hia
    rw [List.getElem?_map] at hia
    cases q : t[i]? with
    | none => rw [q] at hia; cases hia
    | some r =>
      rw [q] at hia
      cases hia
      have hr := List.mem_of_getElem? q
      have hil := (List.getElem?_eq_some_iff.mp q).1
      have hj : j = ((i : Nat) : Int) := by omega
      subst hj
      have hl := natT_len (m := i) (lt60 (by omega))
      have qz : ((List.range t.length).zipWith (fun i r => rowTxt i r) t)[i]? = some (rowTxt i r) := by
        rw [List.getElem?_zipWith, q, List.getElem?_range hil]
      simp only
      refine Wp.go (strI_eq (lt60 (by simp; omega))) (Wp.go (fcat_eq (by rw [e_len]; omega)) ?_)
      rw [empty_app]
      refine Wp.go (fcat_eq (by rw [l_colon]; omega)) ?_
      refine Wp.go (a := r.map fun x => Str.ofString " " ++ itemTxt x) ?_ ?_
      · unfold rD
        rw [lcM_on, lcM_mapE (fun x => Str.ofString " " ++ itemTxt x)]
        intro x hx
        have hx := h3 r hr x hx
        have hxl := itemTxt_len hx hn
        refine Wp.eq (Wp.go (fcat_eq (by rw [e_len, l_blank]; omega)) (Wp.go (item_text_eq hx hn) (Wp.go (fmtS_eq (by omega)) ?_)))
        rw [empty_app]
        exact Wp.go (fcat_eq (by rw [l_blank]; omega)) (Wp.some rfl)
      have h12 := h2 r hr
      refine Wp.go (capM_eq (by simp; omega)) ?_
      rw [List.append_nil]
      refine Wp.go (a := rowTxt i r) ?_ ?_
      · unfold joinM
        rw [if_pos]
        · rfl
        · have := sum_len (row_sum (i := i) (by omega) hn (h3 r hr))
          rw [l_no]
          simp only [List.length_cons, List.length_map] at this ⊢
          have h2 : (r.length + 1) * 63 ≤ 13 * 63 := Nat.mul_le_mul (by omega) (by omega)
          omega
      · refine Wp.go (pushM_eq (by rw [List.length_take, List.length_zipWith, List.length_range]; omega)) (Wp.some ?_)
        rw [take_next qz]
  · rintro z rfl
    have : (enumM 0 (tD t)).length = ((List.range t.length).zipWith (fun i r => rowTxt i r) t).length := by
      unfold enumM
      simp [tD_len]
    rw [this, List.take_length]
  · rintro _ rfl
    refine Wp.go (a := tblTxt t) ?_ (Wp.some rfl)
    have hb : ∀ z ∈ (List.range t.length).zipWith (fun i r => rowTxt i r) t, z.length ≤ 900 := fun z hz => by
      obtain ⟨i, hi⟩ := List.getElem?_of_mem hz
      rw [List.getElem?_zipWith] at hi
      cases q : t[i]? with
      | none => rw [q] at hi; cases q2 : (List.range t.length)[i]? <;> rw [q2] at hi <;> cases hi
      | some r =>
        have hil := (List.getElem?_eq_some_iff.mp q).1
        rw [q, List.getElem?_range hil] at hi
        cases hi
        have hr := List.mem_of_getElem? q
        exact rowTxt_len (by omega) hn (h2 r hr) (h3 r hr)
    unfold joinM
    rw [if_pos]
    · rfl
    · have := sum_len hb
      rw [l_nl]
      have hl : ((List.range t.length).zipWith (fun i r => rowTxt i r) t).length = t.length := by simp
      rw [hl] at this ⊢
      omega
theorem cGo_pre {t : Tbl} {c : List Nat} : ∀ {n : Nat} {acc : Tbl} {o : List Nat}, ∃ more, cGo t c n acc o = acc ++ more
  | 0, acc, o => ⟨[], by unfold cGo; simp⟩
  | n + 1, acc, o => by
    unfold cGo
    by_cases q : acc.length < o.length
    · rw [if_pos q]
      obtain ⟨more, h⟩ := cGo_pre (t := t) (c := c) (n := n) (acc := acc ++ [(cRow c o (t.getD (o.getD acc.length 0) [])).1]) (o := (cRow c o (t.getD (o.getD acc.length 0) [])).2)
      exact ⟨_, by rw [h, List.append_assoc]⟩
    · rw [if_neg q]
      exact ⟨[], by simp⟩
theorem canon_head {t : Tbl} {s : Nat} {r : Row} (h : t[s]? = some r) : ∃ more, canonAt t s = (cRow (C t) [s] r).1 :: more := by
  unfold canonAt cGo
  rw [if_pos (by simp)]
  obtain ⟨more, h1⟩ := cGo_pre (t := t) (c := C t) (n := t.length) (acc := [] ++ [(cRow (C t) [s] (t.getD ([s].getD ([] : Tbl).length 0) [])).1]) (o := (cRow (C t) [s] (t.getD ([s].getD ([] : Tbl).length 0) [])).2)
  refine ⟨more, ?_⟩
  rw [h1]
  have e : t.getD ([s].getD ([] : Tbl).length 0) [] = r := by
    show t.getD s [] = r
    simp [List.getD, h]
  rw [e]
  rfl
theorem cGo_size {t : Tbl} {c : List Nat} (ht : Tok t) (hs : ∀ r ∈ t, r.length ≤ 12) : ∀ {n : Nat} {acc : Tbl} {o : List Nat}, Ord c t.length o → acc.length ≤ o.length → (∀ r ∈ acc, r.length ≤ 12) → (cGo t c n acc o).length ≤ t.length ∧ ∀ r ∈ cGo t c n acc o, r.length ≤ 12
  | 0, acc, o, ho, hl, ha => by
    have := ho.len
    exact ⟨by unfold cGo; omega, by unfold cGo; exact ha⟩
  | n + 1, acc, o, ho, hl, ha => by
    have hol := ho.len
    unfold cGo
    by_cases q : acc.length < o.length
    · rw [if_pos q]
      obtain ⟨k, hk⟩ : ∃ k, o[acc.length]? = some k := ⟨o[acc.length], by simp [q]⟩
      have hkn := ho.lt k (List.mem_of_getElem? hk)
      obtain ⟨r', hr'⟩ : ∃ r, t[k]? = some r := ⟨t[k], by simp [hkn]⟩
      rw [show o.getD acc.length 0 = k by simp [List.getD, hk], show t.getD k [] = r' by simp [List.getD, hr']]
      have hm := List.mem_of_getElem? hr'
      obtain ⟨ho1, hle⟩ := cRow_ord (r := r') ho fun j hj => ht r' hm j hj
      refine cGo_size ht hs ho1 (by simp; omega) fun z hz => ?_
      rcases List.mem_append.mp hz with w | w
      · exact ha z w
      · rw [List.mem_singleton.mp w, cRow_len]
        exact hs r' hm
    · rw [if_neg q]
      exact ⟨by omega, ha⟩
theorem canon_size {t : Tbl} (h : GoodT t) {s : Nat} (hs : s < t.length) : (canonAt t s).length ≤ t.length ∧ ∀ r ∈ canonAt t s, r.length ≤ 12 :=
  cGo_size h.tok h.short ⟨by simp, fun k hk => by rw [List.mem_singleton.mp hk]; exact hs⟩ (by simp) (fun r hr => by cases hr)
theorem result_text_eq {t : Tbl} (h : GoodT t) : m_Result_text (tD (canon t)) = some (tblTxt (canon t)) := by
  obtain ⟨h1, h2⟩ := canon_size h h.pos
  have h3 := h.few
  exact text_rows_eq (show (canonAt t 0).length ≤ 40 by omega) h2 (canon_good h h.pos) (by omega)
theorem result_len_eq {t : Tbl} (h : GoodT t) {r : Row} (hr : t[0]? = some r) : m_Result___len__ (tD (canon t)) = some (r.length : Int) := by
  obtain ⟨more, e⟩ := canon_head hr
  unfold m_Result___len__
  refine Wp.eq ?_
  have e0 : (tD (canon t))[0]? = some (rD (cRow (C t) [0] r).1) := by
    unfold canon
    rw [e]
    rfl
  rw [show (0 : Int) = ((0 : Nat) : Int) from rfl, atI_get e0]
  refine Wp.some ?_
  rw [rD_len, cRow_len]
end Mm
namespace Mm
open PySem L2 Mf
section
variable {P : Program} {w : World} {K : PySem.W.Frag} {mg : Str → Option Value} {base : Heap} {cx : Nat → Addr}
abbrev n_law : List Str := ["_law_script", "_law_source_here", "_law_way", "_law_rows", "_law_others", "_law_k", "_law_one", "_law_other", "_law_due", "_law_strange", "_law_thing"]
theorem sc_law : FnScope n_law ["_law_script"] (defScope s_law) := ⟨rfl, rfl, rfl, by decide +kernel, rfl, by decide +kernel, by decide +kernel⟩
def m_law (x_s : Src3) : Option Bool :=
  (m_draw (x_s) ((3 : Int))).bind fun r1 =>
  (m_raw_rows (r1.2) ((6 : Int))).bind fun r11 =>
  (m_doubled (r11.2) (r11.1)).bind fun r28 =>
  (m_turned (r28.2) (r28.1)).bind fun r38 =>
  (if (decide (r1.1 = (1 : Int))) = true then (m_draw (r38.2) ((r38.1.length : Int))).bind fun r54 =>
  (atI r38.1 r54.1).bind fun x64 =>
  (m_item (r54.2) ((r38.1.length : Int)) (([(Str.ofString "a"), (Str.ofString "b")] : (List Str)))).bind fun r80 =>
  (catM (cutL x64 none (some (11 : Int))) ([r80.1] : (List (List PyData)))).bind fun x96 =>
  (setM r38.1 r54.1 x96).bind fun x104 =>
  some (x104, r80.2) else some (r38.1, r38.2)).bind fun j51 =>
  (if (decide (r1.1 = (2 : Int))) = true then (m_raw_rows (j51.2) ((3 : Int))).bind fun r126 =>
  some (r126.1, r126.2) else some (j51.1, j51.2)).bind fun j123 =>
  (m_Result___init__ (r11.1)).bind fun r151 =>
  (m_Result___init__ (j123.1)).bind fun r159 =>
  (m_canonical (r11.1)).bind fun r178 =>
  (m_canonical (j123.1)).bind fun r186 =>
  (eqD ((fun xs => PyData.list (xs.map (fun xs => PyData.list (xs.map (fun xs => PyData.tuple (xs.map id)))))) (r178)) ((fun xs => PyData.list (xs.map (fun xs => PyData.list (xs.map (fun xs => PyData.tuple (xs.map id)))))) (r186))).bind fun b194 =>
  (m_Result___eq__ ((r151, r159).1) ((r151, r159).2)).bind fun r195 =>
  (m_Result___eq__ ((r151, r159).2) ((r151, r159).1)).bind fun r203 =>
  (m_Result___eq__ ((r151, r159).1) ((r151, r159).2)).bind fun r211 =>
  (m_Result___eq__ ((r151, r159).2) ((r151, r159).1)).bind fun r219 =>
  (eqD ((fun xs => PyData.list (xs.map PyData.bool)) (([r195, r203, (!r211), (!r219)] : (List Bool)))) ((fun xs => PyData.list (xs.map PyData.bool)) (([b194, b194, (!b194), (!b194)] : (List Bool))))).bind fun b239 =>
  if (!b239) = true then some false else (m_Result___eq__ ((r151, r159).1) ((r151, r159).1)).bind fun r241 =>
  (m_Result___init__ (r11.1)).bind fun r249 =>
  (m_Result___eq__ ((r151, r159).1) (r249)).bind fun r257 =>
  (m_Result___eq__ ((r151, r159).1) ((r151, r159).1)).bind fun r265 =>
  (eqD ((fun xs => PyData.list (xs.map PyData.bool)) (([r241, r257, (!r265)] : (List Bool)))) ((fun xs => PyData.list (xs.map PyData.bool)) (([true, true, false] : (List Bool))))).bind fun b285 =>
  if (!b285) = true then some false else (m_Result_rows ((r151, r159).1)).bind fun r287 =>
  (m_Result_text ((r151, r159).1)).bind fun r295 =>
  (m_Result___len__ ((r151, r159).1)).bind fun r303 =>
  (natM r303).bind fun n311 =>
  ((lcM (fun (a326 : PyData) => (m_Result___eq___a ((r151, r159).1) (a326)).bind fun r344 =>
  some (some r344)) ([((fun xs => PyData.list (xs.map (fun xs => PyData.list (xs.map (fun xs => PyData.tuple (xs.map id)))))) (r11.1)), ((fun xs => PyData.list (xs.map (fun xs => PyData.list (xs.map (fun xs => PyData.tuple (xs.map id)))))) (r287)), (PyData.str r295), (PyData.int n311), PyData.none] : (List PyData))).bind fun ys353 =>
  if (!(ys353.any id)) = true then (lcM (fun (a372 : PyData) => (m_Result___eq___a ((r151, r159).1) (a372)).bind fun r390 =>
  some (some (!r390))) ([((fun xs => PyData.list (xs.map (fun xs => PyData.list (xs.map (fun xs => PyData.tuple (xs.map id)))))) (r11.1)), ((fun xs => PyData.list (xs.map (fun xs => PyData.list (xs.map (fun xs => PyData.tuple (xs.map id)))))) (r287)), (PyData.str r295), (PyData.int n311), PyData.none] : (List PyData))).bind fun ys399 =>
  some (ys399.all id) else some false).bind fun c319 =>
  some c319
theorem ok_law {C_Result : Addr} {f : Addr} {fd : FuncData} (F : Fun K "law" "law" s_law f fd) (T_Result : ClsF K mg "Result" C_Result) (b_all : mg "all" = none) (b_any : mg "any" = none) (b_len : mg "len" = none) (nf_NoneType_Result : PySem.W.notFirst K C_Result (.type "NoneType") = true) (nf_bool_Result : PySem.W.notFirst K C_Result (.type "bool") = true) (nf_int_Result : PySem.W.notFirst K C_Result (.type "int") = true) (nf_list_Result : PySem.W.notFirst K C_Result (.type "list") = true) (nf_str_Result : PySem.W.notFirst K C_Result (.type "str") = true) (nf_tuple_Result : PySem.W.notFirst K C_Result (.type "tuple") = true) (D_Result___init__ : MkDoes P w K mg base CX0 4 "Result" C_Result ["self", "rows"] [] (sp_Result___init__ K C_Result )) (D_Result___eq__ : MDoes P w K mg base CX0 1 C_Result "__eq__" ["self", "other"] (sp_Result___eq__ K C_Result )) (D_Result_rows : MDoes P w K mg base CX0 1 C_Result "rows" ["self"] (sp_Result_rows K C_Result )) (D_Result_text : MDoes P w K mg base CX0 2 C_Result "text" ["self"] (sp_Result_text K C_Result )) (D_Result___len__ : MDoes P w K mg base CX0 1 C_Result "__len__" ["self"] (sp_Result___len__ K C_Result )) (D_Result___eq___a : MDoes P w K mg base CX0 1 C_Result "__eq__" ["self", "other"] (sp_Result___eq___a K C_Result )) (D_source : Does P w K mg base CX0 1 "_law_source" ["_law_script"] (sp_source K)) (D_draw : Does P w K mg base CX0 1 "_law_draw" ["_law_source_here", "_law_many"] sp_drawM) (D_raw_rows : Does P w K mg base CX0 4 "_law_raw_rows" ["_law_source_here", "_law_most"] (sp_raw_rows K )) (D_turned : Does P w K mg base CX0 2 "_law_turned" ["_law_source_here", "_law_rows"] (sp_turned K )) (D_doubled : Does P w K mg base CX0 3 "_law_doubled" ["_law_source_here", "_law_rows"] (sp_doubled K )) (D_item : Does P w K mg base CX0 3 "_law_item" ["_law_source_here", "_law_many", "_law_words"] (sp_item K )) (D_canonical : Does P w K mg base CX0 2 "_law_canonical" ["_law_rows"] (sp_canonical K )) (hlaw : ∀ s : Src3, s.ok 0 → m_law s = some true) : FnOk P w K mg base CX0 6 f fd ["_law_script"] (sp_law K) := by
  have cl_Result := T_Result.ic.cl
  have g_Result := T_Result.g
  obtain ⟨f_source, fd_source, G_source, g_source, kp_source, bd_source⟩ := D_source
  obtain ⟨f_draw, fd_draw, G_draw, g_draw, kp_draw, bd_draw⟩ := D_draw
  obtain ⟨f_raw_rows, fd_raw_rows, G_raw_rows, g_raw_rows, kp_raw_rows, bd_raw_rows⟩ := D_raw_rows
  obtain ⟨f_turned, fd_turned, G_turned, g_turned, kp_turned, bd_turned⟩ := D_turned
  obtain ⟨f_doubled, fd_doubled, G_doubled, g_doubled, kp_doubled, bd_doubled⟩ := D_doubled
  obtain ⟨f_item, fd_item, G_item, g_item, kp_item, bd_item⟩ := D_item
  obtain ⟨f_canonical, fd_canonical, G_canonical, g_canonical, kp_canonical, bd_canonical⟩ := D_canonical
  obtain ⟨f_Result___init__, fd_Result___init__, ds_Result___init__, M_Result___init__, G_Result___init__, bd_Result___init__, vd_Result___init__, g_Result___init__⟩ := D_Result___init__
  cases vd_Result___init__
  obtain ⟨f_Result___eq__, fd_Result___eq__, G_Result___eq__, m_Result___eq__, bd_Result___eq__, q_Result___eq__⟩ := D_Result___eq__
  obtain ⟨f_Result_rows, fd_Result_rows, G_Result_rows, m_Result_rows, bd_Result_rows, q_Result_rows⟩ := D_Result_rows
  obtain ⟨f_Result_text, fd_Result_text, G_Result_text, m_Result_text, bd_Result_text, q_Result_text⟩ := D_Result_text
  obtain ⟨f_Result___len__, fd_Result___len__, G_Result___len__, m_Result___len__, bd_Result___len__, q_Result___len__⟩ := D_Result___len__
  obtain ⟨f_Result___eq___a, fd_Result___eq___a, G_Result___eq___a, m_Result___eq___a, bd_Result___eq___a, q_Result___eq___a⟩ := D_Result___eq___a
  refine F.ok sc_law (fun vs H Q E h => ?_) (fun cdv A outer s H vs Q E hr h => ?_)
  · obtain ⟨_, _, rfl, _⟩ := h
    rfl
  · obtain ⟨a_0, ns, rfl, hS, hlen, k⟩ := h
    have hu := hu_of hr
    refine ⟨_, (pss_cons (ps_set (i := 1) sc_law.nd rfl (Or.inl rfl) (pe_call G_source (hr.mono (by decide)) rfl g_source kp_source bd_source .nil pass0 (pa_cons (pv 0) pa_nil)))
  (pss_cons (ps_set (i := 2) sc_law.nd rfl (Or.inl rfl) (pe_call G_draw (hr.mono (by decide)) rfl g_draw kp_draw bd_draw .nil pass0 (pa_cons (pv 1) (pa_cons pe_int pa_nil))))
  (pss_cons (ps_set (i := 3) sc_law.nd rfl (Or.inl rfl) (pe_call G_raw_rows (hr.mono (by decide)) rfl g_raw_rows kp_raw_rows bd_raw_rows .nil pass0 (pa_cons (pv 1) (pa_cons pe_int pa_nil))))
  (pss_cons (ps_set (i := 4) sc_law.nd rfl (Or.inl rfl) (pe_call G_turned (hr.mono (by decide)) rfl g_turned kp_turned bd_turned .nil pass0 (pa_cons (pv 1) (pa_cons (pe_call G_doubled (hr.mono (by decide)) rfl g_doubled kp_doubled bd_doubled .nil pass0 (pa_cons (pv 1) (pa_cons (pv 3) pa_nil))) pa_nil))))
  (C8.pss_cut (ps_if (pt_cmpR op_eq (pv 2) pe_int (nomark _)) (pss_cons (ps_set (i := 5) sc_law.nd rfl (Or.inl rfl) (pe_call G_draw (hr.mono (by decide)) rfl g_draw kp_draw bd_draw .nil pass0 (pa_cons (pv 1) (pa_cons (pe_callB (k_len K) (by rfl) b_len (by decide +kernel) (pa_cons (pv 4) pa_nil)) pa_nil))))
  (pss_one (ps_asg (pe_op op_cat (pe_slice (k_slL K) (pe_ix (k_ixL K) (pv 4) (pv 5) (fun _ _ => rfl)) po_none (po_some pe_int)) (pe_lst (pa_cons (pe_call G_item (hr.mono (by decide)) rfl g_item kp_item bd_item .nil pass0 (pa_cons (pv 1) (pa_cons (pe_callB (k_len K) (by rfl) b_len (by decide +kernel) (pa_cons (pv 4) pa_nil)) (pa_cons (pe_lst (pa_cons pe_str (pa_cons pe_str pa_nil))) pa_nil)))) pa_nil))) (pg_sub (pv 4) (pv 5) set_list)))) pss_nil)
  (C8.pss_cut (ps_if (pt_cmpR op_eq (pv 2) pe_int (nomark _)) (pss_one (ps_set (i := 4) sc_law.nd rfl (Or.inl rfl) (pe_call G_raw_rows (hr.mono (by decide)) rfl g_raw_rows kp_raw_rows bd_raw_rows .nil pass0 (pa_cons (pv 1) (pa_cons pe_int pa_nil))))) pss_nil)
  (pss_cons (ps_asg (pe_tup (pa_cons (pe_make M_Result___init__ G_Result___init__ (hr.mono (by decide)) rfl g_Result___init__ bd_Result___init__ .nil pass0 (pa_cons (pv 3) pa_nil)) (pa_cons (pe_make M_Result___init__ G_Result___init__ (hr.mono (by decide)) rfl g_Result___init__ bd_Result___init__ .nil pass0 (pa_cons (pv 4) pa_nil)) pa_nil))) (k_gT K (n := 2) (by rfl) (pgs_cons (pg_name (i := 6) sc_law.nd rfl (Or.inr rfl)) (pgs_cons (pg_name (i := 7) sc_law.nd rfl (Or.inl rfl)) pgs_nil))))
  (pss_cons (ps_set (i := 8) sc_law.nd rfl (Or.inl rfl) (pe_cmpR (k_eqD K hr.units) (pe_call G_canonical (hr.mono (by decide)) rfl g_canonical kp_canonical bd_canonical .nil pass0 (pa_cons (pv 3) pa_nil)) (pe_call G_canonical (hr.mono (by decide)) rfl g_canonical kp_canonical bd_canonical .nil pass0 (pa_cons (pv 4) pa_nil)) (nomark _)))
  (pss_cons (ps_if (pt_cmpR (k_neD K hr.units) (pe_lst (pa_cons (pe_cmpR (o_cmpO K (fun _ _ => rfl) m_Result___eq__ G_Result___eq__ (hr.mono (by decide)) bd_Result___eq__ pass0) (pv 6) (pv 7) (nomark _)) (pa_cons (pe_cmpR (o_cmpO K (fun _ _ => rfl) m_Result___eq__ G_Result___eq__ (hr.mono (by decide)) bd_Result___eq__ pass0) (pv 7) (pv 6) (nomark _)) (pa_cons (pe_cmpR (o_neO K T_Result.ne T_Result.ic.hm m_Result___eq__ G_Result___eq__ (hr.mono (by decide)) bd_Result___eq__ pass0) (pv 6) (pv 7) (nomark _)) (pa_cons (pe_cmpR (o_neO K T_Result.ne T_Result.ic.hm m_Result___eq__ G_Result___eq__ (hr.mono (by decide)) bd_Result___eq__ pass0) (pv 7) (pv 6) (nomark _)) pa_nil))))) (pe_lst (pa_cons (pv 8) (pa_cons (pv 8) (pa_cons (pe_not (pv 8)) (pa_cons (pe_not (pv 8)) pa_nil))))) (nomark _)) (pss_one (ps_ret pe_bl)) pss_nil)
  (pss_cons (ps_if (pt_cmpR (k_neD K hr.units) (pe_lst (pa_cons (pe_cmpR (o_cmpO K (fun _ _ => rfl) m_Result___eq__ G_Result___eq__ (hr.mono (by decide)) bd_Result___eq__ pass0) (pv 6) (pv 6) (nomark _)) (pa_cons (pe_cmpR (o_cmpO K (fun _ _ => rfl) m_Result___eq__ G_Result___eq__ (hr.mono (by decide)) bd_Result___eq__ pass0) (pv 6) (pe_make M_Result___init__ G_Result___init__ (hr.mono (by decide)) rfl g_Result___init__ bd_Result___init__ .nil pass0 (pa_cons (pv 3) pa_nil)) (nomark _)) (pa_cons (pe_cmpR (o_neO K T_Result.ne T_Result.ic.hm m_Result___eq__ G_Result___eq__ (hr.mono (by decide)) bd_Result___eq__ pass0) (pv 6) (pv 6) (nomark _)) pa_nil)))) (pe_lst (pa_cons pe_bl (pa_cons pe_bl (pa_cons pe_bl pa_nil)))) (nomark _)) (pss_one (ps_ret pe_bl)) pss_nil)
  (pss_cons (ps_set (i := 9) sc_law.nd rfl (Or.inl rfl) (pe_lst (pa_cons (pv 3) (pa_cons (pe_meth0 (pv 6) T_Result.ic.cl m_Result_rows G_Result_rows (hr.mono (by decide)) bd_Result_rows .nil pass0) (pa_cons (pe_meth0 (pv 6) T_Result.ic.cl m_Result_text G_Result_text (hr.mono (by decide)) bd_Result_text .nil pass0) (pa_cons (pe_callB (c_lenO m_Result___len__ G_Result___len__ (hr.mono (by decide)) bd_Result___len__ pass0) (by rfl) b_len (by decide +kernel) (pa_cons (pv 6) pa_nil)) (pa_cons pe_non pa_nil)))))))
  (pss_one (ps_ret (pe_and (pe_not (pe_callB (k_any K rfl) (by rfl) b_any (by decide +kernel) (pa_cons (pe_lc (own := [("_law_thing", 10)]) (tt := tYes) rfl sc_law.nd (k_iL K (pv 9)) (blkOk_by (own := [("_law_thing", 10)]) (N := n_law) (sc := defScope s_law) (by decide +kernel)) (fun _ _ _ _ _ => (pg_name (i := 10) sc_law.nd rfl (Or.inl rfl))) (fun _ _ _ _ _ => pts_nil) (fun _ _ _ _ _ => (pe_cmpR (o_cmpO K (fun _ _ => rfl) m_Result___eq___a G_Result___eq___a (hr.mono (by decide)) bd_Result___eq___a pass0) (pv 6) (pv 10) (nomark _)))) pa_nil))) (pe_one (pe_callB (k_all K rfl) (by rfl) b_all (by decide +kernel) (pa_cons (pe_lc (own := [("_law_thing", 10)]) (tt := tYes) rfl sc_law.nd (k_iL K (pv 9)) (blkOk_by (own := [("_law_thing", 10)]) (N := n_law) (sc := defScope s_law) (by decide +kernel)) (fun _ _ _ _ _ => (pg_name (i := 10) sc_law.nd rfl (Or.inl rfl))) (fun _ _ _ _ _ => pts_nil) (fun _ _ _ _ _ => (pe_cmpR (o_neO K T_Result.ne T_Result.ic.hm m_Result___eq___a G_Result___eq___a (hr.mono (by decide)) bd_Result___eq___a pass0) (pv 6) (pv 10) (nomark _)))) pa_nil))))))))))))))))), ?_⟩
    have S0 : Sit (Fr.mk (fun _ => none) H []) (fun _ => none) H [] := Sit.start0 (fun _ _ z => by cases z)
    obtain ⟨B0, hB0⟩ : ∃ B0 : Hp, B0 = fun _ => none := ⟨_, rfl⟩
    rw [← hB0] at S0
    refine w_sig (σ' := [(some (.ref a_0)), none, none, none, none, none, none, none, none, none, none]) rfl ?_
    refine w_seq ?_
    refine w_asg ?_
    refine w_call ?_
    refine w_evA (EvA.cons (Ev.var rfl) EvA.nil) ?_
    refine use_source hS hlen fun p_s H1 sH np hsrc => ?_
    obtain ⟨x_s, o_s, hok, hp_s, h_s⟩ := src_of (B := B0) hsrc
    have S1 := S0.src sH np hp_s
    have n_s := np
    have hm := hlaw x_s hok
    unfold m_law at hm
    refine w_gname ?_
    refine w_nx (σ' := [(some (.ref a_0)), (some (.ref p_s)), none, none, none, none, none, none, none, none, none]) rfl ?_
    refine w_seq ?_
    refine w_asg ?_
    refine w_call ?_
    refine w_evA (EvA.cons (Ev.var rfl) (EvA.cons Ev.c EvA.nil)) ?_
    obtain ⟨r1, h2, hm⟩ := bs hm
    refine use_draw S1 (i1 := 0) rfl h_s (show dInt.rel _ (3 : Int) (V.int 3) from rfl) h2 fun v3 B7 H4 o8 (S5 : Sit _ B7 H4 [(p_s, o8)]) s6 h10 h9 => ?_
    cases h10
    refine w_gname ?_
    refine w_nx (σ' := [(some (.ref a_0)), (some (.ref p_s)), (some (V.int r1.1)), none, none, none, none, none, none, none, none]) rfl ?_
    refine w_seq ?_
    refine w_asg ?_
    refine w_call ?_
    refine w_evA (EvA.cons (Ev.var rfl) (EvA.cons Ev.c EvA.nil)) ?_
    obtain ⟨r11, h12, hm⟩ := bs hm
    refine use_raw_rows S5 (i1 := 0) rfl h9 (show dInt.rel _ (6 : Int) (V.int 6) from rfl) h12 fun p21 o22 B17 H14 o18 (S15 : Sit _ B17 H14 [(p21, o22), (p_s, o18)]) s16 n23 h20 h19 => ?_
    obtain ⟨B26, S24, s25, h27⟩ : ∃ B', Sit _ B' H14 [(p_s, o18)] ∧ Same _ B' ∧ (dList (dList (dTup K (dAny K)))).rel B' r11.1 (.ref p21) := ⟨_, S15.frz (i := 0) rfl n23, S15.frzS (i := 0) rfl, frzL h20 (S15.atB (i := 0) rfl)⟩
    refine w_gname ?_
    refine w_nx (σ' := [(some (.ref a_0)), (some (.ref p_s)), (some (V.int r1.1)), (some (.ref p21)), none, none, none, none, none, none, none]) rfl ?_
    refine w_seq ?_
    refine w_asg ?_
    refine w_call ?_
    refine w_cons ?_
    refine w_ev (Ev.var rfl) ?_
    refine w_cons ?_
    refine w_call ?_
    refine w_evA (EvA.cons (Ev.var rfl) (EvA.cons (Ev.var rfl) EvA.nil)) ?_
    obtain ⟨r28, h29, hm⟩ := bs hm
    refine use_doubled S24 (i1 := 0) rfl (Cl.mono _ s25 h19) h27 h29 fun v30 B34 H31 o35 (S32 : Sit _ B34 H31 [(p_s, o35)]) s33 h37 h36 => ?_
    refine w_nil ?_
    obtain ⟨r38, h39, hm⟩ := bs hm
    refine use_turned S32 (i1 := 0) rfl h36 h37 h39 fun p48 o49 B44 H41 o45 (S42 : Sit _ B44 H41 [(p48, o49), (p_s, o45)]) s43 n50 h47 h46 => ?_
    refine w_gname ?_
    refine w_nx (σ' := [(some (.ref a_0)), (some (.ref p_s)), (some (V.int r1.1)), (some (.ref p21)), (some (.ref p48)), none, none, none, none, none, none]) rfl ?_
    obtain ⟨j51, hj52, hm⟩ := bs hm
    refine w_cut (MidD (fun σ' H' => ∃ (B' : Hp) (e114 : Option V) (o115 : HO) (o117 : HO), σ' = [(some (.ref a_0)), (some (.ref p_s)), (some (V.int r1.1)), (some (.ref p21)), (some (.ref p48)), e114, none, none, none, none, none] ∧ Sit (Fr.mk B0 H []) B' H' [(p48, o115), (p_s, o117)] ∧ Same B44 B' ∧ (cList (dList (dTup K (dAny K)))).rel B' j51.1 o115 ∧ cSrc.rel B' j51.2 o117 ∧ True)) ?_ ?_
    · refine w_ifS ?_
      refine w_evT (EvT.test (Ev.op (Ev.var rfl) Ev.c rv_eqI)) ?_
      refine w_ifb (fun h53 => ?_) (fun h53 => ?_)
      · rw [ifT h53] at hj52
        refine w_seq ?_
        refine w_asg ?_
        refine w_call ?_
        refine w_evA (EvA.cons (Ev.var rfl) (EvA.cons (Ev.cb (EvA.cons (Ev.var rfl) EvA.nil) (rlen_q (sqC (K := K) h47 (S42.at' (i := 0) rfl)))) EvA.nil)) ?_
        obtain ⟨r54, h55, hj52⟩ := bs hj52
        refine use_draw S42 (i1 := 1) rfl h46 (show dInt.rel _ (r38.1.length : Int) (V.int (r38.1.length : Int)) from rfl) h55 fun v56 B60 H57 o61 (S58 : Sit _ B60 H57 [(p48, o49), (p_s, o61)]) s59 h63 h62 => ?_
        cases h63
        refine w_gname ?_
        refine w_nx (σ' := [(some (.ref a_0)), (some (.ref p_s)), (some (V.int r1.1)), (some (.ref p21)), (some (.ref p48)), (some (V.int r54.1)), none, none, none, none, none]) rfl ?_
        refine w_asg ?_
        refine w_op ?_
        obtain ⟨x64, hx64, hj52⟩ := bs hj52
        obtain ⟨w66, h67, r65⟩ := ix_C (K := K) (Cl.mono _ s59 h47) hx64
        refine w_sl ?_
        refine w_ev (Ev.op (Ev.var rfl) (Ev.var rfl) (r65 _ (S58.at' (i := 0) rfl))) ?_
        refine w_noP ?_
        refine w_part ?_
        refine w_ev Ev.c ?_
        refine w_exI ?_
        refine q_slD S58 h67 fun v68 B73 H69 S70 s71 h72 => ?_
        refine x_lst ?_
        refine w_cons ?_
        refine w_call ?_
        refine w_cons ?_
        refine w_ev (Ev.var rfl) ?_
        refine w_cons ?_
        refine w_ev (Ev.cb (EvA.cons (Ev.var rfl) EvA.nil) (rlen_q (sqC (K := K) (Cl.mono _ (s59.tr s71) h47) (S70.at' (i := 0) rfl)))) ?_
        refine w_cons ?_
        refine x_lst ?_
        refine w_evA (EvA.cons Ev.c (EvA.cons Ev.c EvA.nil)) ?_
        refine mkL (R := dStr) (xs := [(Str.ofString "a"), (Str.ofString "b")]) S70 (.cons (show dStr.rel _ (Str.ofString "a") (V.str (Str.ofString "a")) from rfl) (.cons (show dStr.rel _ (Str.ofString "b") (V.str (Str.ofString "b")) from rfl) .nil)) (by show 2 ≤ BIG; decide) fun v74 B79 H75 S76 s77 h78 => ?_
        refine w_nil ?_
        obtain ⟨r80, h81, hj52⟩ := bs hj52
        refine use_item S76 (i1 := 1) rfl (Cl.mono _ (s71.tr s77) h62) (show dInt.rel _ (r38.1.length : Int) (V.int (r38.1.length : Int)) from rfl) h78 h81 fun v82 B86 H83 o87 (S84 : Sit _ B86 H83 [(p48, o49), (p_s, o87)]) s85 h89 h88 => ?_
        refine w_nil ?_
        refine mkL (R := (dTup K (dAny K))) (xs := [r80.1]) S84 (.cons h89 .nil) (by show 1 ≤ BIG; decide) fun v90 B95 H91 S92 s93 h94 => ?_
        obtain ⟨x96, h97, hj52⟩ := bs hj52
        refine q_cat S92 (Rl.mono _ (s77.tr (s85.tr s93)) h72) h94 h97 fun v98 B103 H99 S100 s101 h102 => ?_
        obtain ⟨x104, h105, hj52⟩ := bs hj52
        refine w_gsub ?_
        refine w_ev (Ev.var rfl) ?_
        refine w_ev (Ev.var rfl) ?_
        refine q_setL (k := 0) S100 rfl (Cl.mono _ (s59.tr (s71.tr (s77.tr (s85.tr (s93.tr s101))))) h47) h102 h105 fun o106 H107 (S108 : Sit _ B103 H107 [(p48, o106), (p_s, o87)]) h109 => ?_
        obtain rfl := Option.some.inj hj52
        exact ⟨_, _, _, _, rfl, S108, (s59.tr (s71.tr (s77.tr (s85.tr (s93.tr s101))))), h109, (Cl.mono _ (s93.tr s101) h88), trivial⟩
      · rw [ifF h53] at hj52
        refine w_next ?_
        obtain rfl := Option.some.inj hj52
        exact ⟨_, _, _, _, rfl, S42, (Same.rf _), h47, h46, trivial⟩
    · rintro _ H110 ⟨B113, e114, o115, o117, rfl, S111, s112, h116, h118, -⟩
      obtain ⟨B121, S119, s120, h122⟩ : ∃ B', Sit _ B' H110 [(p_s, o117)] ∧ Same _ B' ∧ (dList (dList (dTup K (dAny K)))).rel B' j51.1 (.ref p48) := ⟨_, S111.frz (i := 0) rfl n50, S111.frzS (i := 0) rfl, frzL h116 (S111.atB (i := 0) rfl)⟩
      obtain ⟨j123, hj124, hm⟩ := bs hm
      refine w_cut (MidD (fun σ' H' => ∃ (B' : Hp) (e147 : V) (o149 : HO), σ' = [(some (.ref a_0)), (some (.ref p_s)), (some (V.int r1.1)), (some (.ref p21)), (some e147), e114, none, none, none, none, none] ∧ Sit (Fr.mk B0 H []) B' H' [(p_s, o149)] ∧ Same B121 B' ∧ (dList (dList (dTup K (dAny K)))).rel B' j123.1 e147 ∧ cSrc.rel B' j123.2 o149 ∧ True)) ?_ ?_
      · refine w_ifS ?_
        refine w_evT (EvT.test (Ev.op (Ev.var rfl) Ev.c rv_eqI)) ?_
        refine w_ifb (fun h125 => ?_) (fun h125 => ?_)
        · rw [ifT h125] at hj124
          refine w_asg ?_
          refine w_call ?_
          refine w_evA (EvA.cons (Ev.var rfl) (EvA.cons Ev.c EvA.nil)) ?_
          obtain ⟨r126, h127, hj124⟩ := bs hj124
          refine use_raw_rows S119 (i1 := 0) rfl (Cl.mono _ s120 h118) (show dInt.rel _ (3 : Int) (V.int 3) from rfl) h127 fun p136 o137 B132 H129 o133 (S130 : Sit _ B132 H129 [(p136, o137), (p_s, o133)]) s131 n138 h135 h134 => ?_
          refine w_gname ?_
          refine w_nx (σ' := [(some (.ref a_0)), (some (.ref p_s)), (some (V.int r1.1)), (some (.ref p21)), (some (.ref p136)), e114, none, none, none, none, none]) rfl ?_
          obtain ⟨B141, S139, s140, h142⟩ : ∃ B', Sit _ B' H129 [(p_s, o133)] ∧ Same _ B' ∧ (dList (dList (dTup K (dAny K)))).rel B' r126.1 (.ref p136) := ⟨_, S130.frz (i := 0) rfl n138, S130.frzS (i := 0) rfl, frzL h135 (S130.atB (i := 0) rfl)⟩
          obtain rfl := Option.some.inj hj124
          exact ⟨_, _, _, rfl, S139, (s131.tr s140), h142, (Cl.mono _ s140 h134), trivial⟩
        · rw [ifF h125] at hj124
          refine w_next ?_
          obtain rfl := Option.some.inj hj124
          exact ⟨_, _, _, rfl, S119, (Same.rf _), h122, (Cl.mono _ s120 h118), trivial⟩
      · rintro _ H143 ⟨B146, e147, o149, rfl, S144, s145, h148, h150, -⟩
        refine w_seq ?_
        refine w_asg ?_
        refine x_tup ?_
        refine w_cons ?_
        refine w_make ?_
        refine w_evA (EvA.cons (Ev.var rfl) EvA.nil) ?_
        obtain ⟨r151, h152, hm⟩ := bs hm
        refine mk_Result___init__ S144 ((subLQ (subLQ subR)) (Rl.mono _ (s33.tr (s43.tr (s112.tr (s120.tr s145)))) h27)) h152 fun v153 B158 H154 S155 s156 h157 => ?_
        refine w_cons ?_
        refine w_make ?_
        refine w_evA (EvA.cons (Ev.var rfl) EvA.nil) ?_
        obtain ⟨r159, h160, hm⟩ := bs hm
        refine mk_Result___init__ S155 ((subLQ (subLQ subR)) (Rl.mono _ s156 h148)) h160 fun v161 B166 H162 S163 s164 h165 => ?_
        refine w_nil ?_
        refine mk2 (K := K)   S163 (Rl.mono _ s164 h157) h165 fun v167 B172 H168 S169 s170 h171 => ?_
        obtain ⟨w173, w175, h174, h176, hu177⟩ := un_p (K := K) h171
        refine w_gun (hu177 _ S169.sub) rfl ?_
        refine w_gcons ?_
        refine w_gname ?_
        refine w_gcons ?_
        refine w_gname ?_
        refine w_gnil ?_
        refine w_nx (σ' := [(some (.ref a_0)), (some (.ref p_s)), (some (V.int r1.1)), (some (.ref p21)), (some e147), e114, (some w173), (some w175), none, none, none]) rfl ?_
        refine w_seq ?_
        refine w_asg ?_
        refine w_op ?_
        refine w_call ?_
        refine w_evA (EvA.cons (Ev.var rfl) EvA.nil) ?_
        obtain ⟨r178, h179, hm⟩ := bs hm
        refine use_canonical S169 (Rl.mono _ (s33.tr (s43.tr (s112.tr (s120.tr (s145.tr (s156.tr (s164.tr s170))))))) h27) h179 fun v180 B184 H181  (S182 : Sit _ B184 H181 [(p_s, o149)]) s183 h185  => ?_
        refine w_call ?_
        refine w_evA (EvA.cons (Ev.var rfl) EvA.nil) ?_
        obtain ⟨r186, h187, hm⟩ := bs hm
        refine use_canonical S182 (Rl.mono _ (s156.tr (s164.tr (s170.tr s183))) h148) h187 fun v188 B192 H189  (S190 : Sit _ B192 H189 [(p_s, o149)]) s191 h193  => ?_
        obtain ⟨b194, hb194, hm⟩ := bs hm
        refine w_rv (rv_eqD (drL (drL (drT drAny))) (drL (drL (drT drAny))) (Rl.mono _ S190.sub (Rl.mono _ s191 h185)) (Rl.mono _ S190.sub h193) hb194) ?_
        refine w_gname ?_
        refine w_nx (σ' := [(some (.ref a_0)), (some (.ref p_s)), (some (V.int r1.1)), (some (.ref p21)), (some e147), e114, (some w173), (some w175), (some (V.bl b194)), none, none]) rfl ?_
        refine w_seq ?_
        refine w_ifS ?_
        refine w_test ?_
        refine w_op ?_
        refine x_lst ?_
        refine w_cons ?_
        refine w_op ?_
        refine w_ev (Ev.var rfl) ?_
        refine w_ev (Ev.var rfl) ?_
        refine q_cmpO (Rl.mono _ (s183.tr s191) h174) S190.sub (obj_ty T_Result.ic (Rl.mono _ S190.sub (Rl.mono _ (s183.tr s191) h176))) nf_self ?_
        obtain ⟨r195, h196, hm⟩ := bs hm
        refine use_Result___eq__ S190 (Rl.mono _ (s183.tr s191) h174) (Rl.mono _ (s183.tr s191) h176) h196 fun v197 B201 H198  (S199 : Sit _ B201 H198 [(p_s, o149)]) s200 h202  => ?_
        cases h202
        refine w_cons ?_
        refine w_op ?_
        refine w_ev (Ev.var rfl) ?_
        refine w_ev (Ev.var rfl) ?_
        refine q_cmpO (Rl.mono _ (s183.tr (s191.tr s200)) h176) S199.sub (obj_ty T_Result.ic (Rl.mono _ S199.sub (Rl.mono _ (s183.tr (s191.tr s200)) h174))) nf_self ?_
        obtain ⟨r203, h204, hm⟩ := bs hm
        refine use_Result___eq__ S199 (Rl.mono _ (s183.tr (s191.tr s200)) h176) (Rl.mono _ (s183.tr (s191.tr s200)) h174) h204 fun v205 B209 H206  (S207 : Sit _ B209 H206 [(p_s, o149)]) s208 h210  => ?_
        cases h210
        refine w_cons ?_
        refine w_op ?_
        refine w_ev (Ev.var rfl) ?_
        refine w_ev (Ev.var rfl) ?_
        refine q_neO (Rl.mono _ (s183.tr (s191.tr (s200.tr s208))) h174) S207.sub (obj_ty T_Result.ic (Rl.mono _ S207.sub (Rl.mono _ (s183.tr (s191.tr (s200.tr s208))) h176))) nf_self ?_
        obtain ⟨r211, h212, hm⟩ := bs hm
        refine use_Result___eq__ S207 (Rl.mono _ (s183.tr (s191.tr (s200.tr s208))) h174) (Rl.mono _ (s183.tr (s191.tr (s200.tr s208))) h176) h212 fun v213 B217 H214  (S215 : Sit _ B217 H214 [(p_s, o149)]) s216 h218  => ?_
        cases h218
        refine w_neQ ?_
        refine w_cons ?_
        refine w_op ?_
        refine w_ev (Ev.var rfl) ?_
        refine w_ev (Ev.var rfl) ?_
        refine q_neO (Rl.mono _ (s183.tr (s191.tr (s200.tr (s208.tr s216)))) h176) S215.sub (obj_ty T_Result.ic (Rl.mono _ S215.sub (Rl.mono _ (s183.tr (s191.tr (s200.tr (s208.tr s216)))) h174))) nf_self ?_
        obtain ⟨r219, h220, hm⟩ := bs hm
        refine use_Result___eq__ S215 (Rl.mono _ (s183.tr (s191.tr (s200.tr (s208.tr s216)))) h176) (Rl.mono _ (s183.tr (s191.tr (s200.tr (s208.tr s216)))) h174) h220 fun v221 B225 H222  (S223 : Sit _ B225 H222 [(p_s, o149)]) s224 h226  => ?_
        cases h226
        refine w_neQ ?_
        refine w_nil ?_
        refine mkL (R := dBool) (xs := [r195, r203, (!r211), (!r219)]) S223 (.cons (show dBool.rel _ r195 (V.bl r195) from rfl) (.cons (show dBool.rel _ r203 (V.bl r203) from rfl) (.cons (show dBool.rel _ (!r211) (V.bl (!r211)) from rfl) (.cons (show dBool.rel _ (!r219) (V.bl (!r219)) from rfl) .nil)))) (by show 4 ≤ BIG; decide) fun v227 B232 H228 S229 s230 h231 => ?_
        refine x_lst ?_
        refine w_evA (EvA.cons (Ev.var rfl) (EvA.cons (Ev.var rfl) (EvA.cons (Ev.not (Ev.var rfl)) (EvA.cons (Ev.not (Ev.var rfl)) EvA.nil)))) ?_
        refine mkL (R := dBool) (xs := [b194, b194, (!b194), (!b194)]) S229 (.cons (show dBool.rel _ b194 (V.bl b194) from rfl) (.cons (show dBool.rel _ b194 (V.bl b194) from rfl) (.cons (show dBool.rel _ (!b194) (V.bl (!b194)) from rfl) (.cons (show dBool.rel _ (!b194) (V.bl (!b194)) from rfl) .nil)))) (by show 4 ≤ BIG; decide) fun v233 B238 H234 S235 s236 h237 => ?_
        obtain ⟨b239, hb239, hm⟩ := bs hm
        refine w_rv (rv_neD (drL drBool) (drL drBool) (Rl.mono _ S235.sub (Rl.mono _ s236 h231)) (Rl.mono _ S235.sub h237) hb239) ?_
        refine w_bl ?_
        refine w_ifb (fun h240 => ?_) (fun h240 => ?_)
        · rw [ifT h240] at hm
          refine w_ret ?_
          refine w_ev Ev.c ?_
          exact retB (Option.some.inj hm) k
        · rw [ifF h240] at hm
          refine w_next ?_
          refine w_seq ?_
          refine w_ifS ?_
          refine w_test ?_
          refine w_op ?_
          refine x_lst ?_
          refine w_cons ?_
          refine w_op ?_
          refine w_ev (Ev.var rfl) ?_
          refine w_ev (Ev.var rfl) ?_
          refine q_cmpO (Rl.mono _ (s183.tr (s191.tr (s200.tr (s208.tr (s216.tr (s224.tr (s230.tr s236))))))) h174) S235.sub (obj_ty T_Result.ic (Rl.mono _ S235.sub (Rl.mono _ (s183.tr (s191.tr (s200.tr (s208.tr (s216.tr (s224.tr (s230.tr s236))))))) h174))) nf_self ?_
          obtain ⟨r241, h242, hm⟩ := bs hm
          refine use_Result___eq__ S235 (Rl.mono _ (s183.tr (s191.tr (s200.tr (s208.tr (s216.tr (s224.tr (s230.tr s236))))))) h174) (Rl.mono _ (s183.tr (s191.tr (s200.tr (s208.tr (s216.tr (s224.tr (s230.tr s236))))))) h174) h242 fun v243 B247 H244  (S245 : Sit _ B247 H244 [(p_s, o149)]) s246 h248  => ?_
          cases h248
          refine w_cons ?_
          refine w_op ?_
          refine w_ev (Ev.var rfl) ?_
          refine w_make ?_
          refine w_evA (EvA.cons (Ev.var rfl) EvA.nil) ?_
          obtain ⟨r249, h250, hm⟩ := bs hm
          refine mk_Result___init__ S245 ((subLQ (subLQ subR)) (Rl.mono _ (s33.tr (s43.tr (s112.tr (s120.tr (s145.tr (s156.tr (s164.tr (s170.tr (s183.tr (s191.tr (s200.tr (s208.tr (s216.tr (s224.tr (s230.tr (s236.tr s246)))))))))))))))) h27)) h250 fun v251 B256 H252 S253 s254 h255 => ?_
          refine q_cmpO (Rl.mono _ (s183.tr (s191.tr (s200.tr (s208.tr (s216.tr (s224.tr (s230.tr (s236.tr (s246.tr s254))))))))) h174) S253.sub (obj_ty T_Result.ic (Rl.mono _ S253.sub h255)) nf_self ?_
          obtain ⟨r257, h258, hm⟩ := bs hm
          refine use_Result___eq__ S253 (Rl.mono _ (s183.tr (s191.tr (s200.tr (s208.tr (s216.tr (s224.tr (s230.tr (s236.tr (s246.tr s254))))))))) h174) h255 h258 fun v259 B263 H260  (S261 : Sit _ B263 H260 [(p_s, o149)]) s262 h264  => ?_
          cases h264
          refine w_cons ?_
          refine w_op ?_
          refine w_ev (Ev.var rfl) ?_
          refine w_ev (Ev.var rfl) ?_
          refine q_neO (Rl.mono _ (s183.tr (s191.tr (s200.tr (s208.tr (s216.tr (s224.tr (s230.tr (s236.tr (s246.tr (s254.tr s262)))))))))) h174) S261.sub (obj_ty T_Result.ic (Rl.mono _ S261.sub (Rl.mono _ (s183.tr (s191.tr (s200.tr (s208.tr (s216.tr (s224.tr (s230.tr (s236.tr (s246.tr (s254.tr s262)))))))))) h174))) nf_self ?_
          obtain ⟨r265, h266, hm⟩ := bs hm
          refine use_Result___eq__ S261 (Rl.mono _ (s183.tr (s191.tr (s200.tr (s208.tr (s216.tr (s224.tr (s230.tr (s236.tr (s246.tr (s254.tr s262)))))))))) h174) (Rl.mono _ (s183.tr (s191.tr (s200.tr (s208.tr (s216.tr (s224.tr (s230.tr (s236.tr (s246.tr (s254.tr s262)))))))))) h174) h266 fun v267 B271 H268  (S269 : Sit _ B271 H268 [(p_s, o149)]) s270 h272  => ?_
          cases h272
          refine w_neQ ?_
          refine w_nil ?_
          refine mkL (R := dBool) (xs := [r241, r257, (!r265)]) S269 (.cons (show dBool.rel _ r241 (V.bl r241) from rfl) (.cons (show dBool.rel _ r257 (V.bl r257) from rfl) (.cons (show dBool.rel _ (!r265) (V.bl (!r265)) from rfl) .nil))) (by show 3 ≤ BIG; decide) fun v273 B278 H274 S275 s276 h277 => ?_
          refine x_lst ?_
          refine w_evA (EvA.cons Ev.c (EvA.cons Ev.c (EvA.cons Ev.c EvA.nil))) ?_
          refine mkL (R := dBool) (xs := [true, true, false]) S275 (.cons (show dBool.rel _ true (V.bl true) from rfl) (.cons (show dBool.rel _ true (V.bl true) from rfl) (.cons (show dBool.rel _ false (V.bl false) from rfl) .nil))) (by show 3 ≤ BIG; decide) fun v279 B284 H280 S281 s282 h283 => ?_
          obtain ⟨b285, hb285, hm⟩ := bs hm
          refine w_rv (rv_neD (drL drBool) (drL drBool) (Rl.mono _ S281.sub (Rl.mono _ s282 h277)) (Rl.mono _ S281.sub h283) hb285) ?_
          refine w_bl ?_
          refine w_ifb (fun h286 => ?_) (fun h286 => ?_)
          · rw [ifT h286] at hm
            refine w_ret ?_
            refine w_ev Ev.c ?_
            exact retB (Option.some.inj hm) k
          · rw [ifF h286] at hm
            refine w_next ?_
            refine w_seq ?_
            refine w_asg ?_
            refine x_lst ?_
            refine w_cons ?_
            refine w_ev (Ev.var rfl) ?_
            refine w_cons ?_
            refine x_meth ?_
            refine w_ev (Ev.var rfl) ?_
            refine q_meth (Rl.mono _ (s183.tr (s191.tr (s200.tr (s208.tr (s216.tr (s224.tr (s230.tr (s236.tr (s246.tr (s254.tr (s262.tr (s270.tr (s276.tr s282))))))))))))) h174) S281.sub (by rintro _ ⟨_, rfl, _⟩; rfl) ?_
            refine w_nil ?_
            obtain ⟨r287, h288, hm⟩ := bs hm
            refine use_Result_rows S281 (Rl.mono _ (s183.tr (s191.tr (s200.tr (s208.tr (s216.tr (s224.tr (s230.tr (s236.tr (s246.tr (s254.tr (s262.tr (s270.tr (s276.tr s282))))))))))))) h174) h288 fun v289 B293 H290  (S291 : Sit _ B293 H290 [(p_s, o149)]) s292 h294  => ?_
            refine w_cons ?_
            refine x_meth ?_
            refine w_ev (Ev.var rfl) ?_
            refine q_meth (Rl.mono _ (s183.tr (s191.tr (s200.tr (s208.tr (s216.tr (s224.tr (s230.tr (s236.tr (s246.tr (s254.tr (s262.tr (s270.tr (s276.tr (s282.tr s292)))))))))))))) h174) S291.sub (by rintro _ ⟨_, rfl, _⟩; rfl) ?_
            refine w_nil ?_
            obtain ⟨r295, h296, hm⟩ := bs hm
            refine use_Result_text S291 (Rl.mono _ (s183.tr (s191.tr (s200.tr (s208.tr (s216.tr (s224.tr (s230.tr (s236.tr (s246.tr (s254.tr (s262.tr (s270.tr (s276.tr (s282.tr s292)))))))))))))) h174) h296 fun v297 B301 H298  (S299 : Sit _ B301 H298 [(p_s, o149)]) s300 h302  => ?_
            cases h302
            refine w_cons ?_
            refine w_cb ?_
            refine w_evA (EvA.cons (Ev.var rfl) EvA.nil) ?_
            refine q_lenO (Rl.mono _ (s183.tr (s191.tr (s200.tr (s208.tr (s216.tr (s224.tr (s230.tr (s236.tr (s246.tr (s254.tr (s262.tr (s270.tr (s276.tr (s282.tr (s292.tr s300))))))))))))))) h174) S299.sub ?_
            obtain ⟨r303, h304, hm⟩ := bs hm
            refine use_Result___len__ S299 (Rl.mono _ (s183.tr (s191.tr (s200.tr (s208.tr (s216.tr (s224.tr (s230.tr (s236.tr (s246.tr (s254.tr (s262.tr (s270.tr (s276.tr (s282.tr (s292.tr s300))))))))))))))) h174) h304 fun v305 B309 H306  (S307 : Sit _ B309 H306 [(p_s, o149)]) s308 h310  => ?_
            cases h310
            obtain ⟨n311, h312, hm⟩ := bs hm
            refine lenI h312 ?_
            refine w_evA (EvA.cons Ev.c EvA.nil) ?_
            refine mkL (R := (dAny K)) (xs := [((fun xs => PyData.list (xs.map (fun xs => PyData.list (xs.map (fun xs => PyData.tuple (xs.map id)))))) (r11.1)), ((fun xs => PyData.list (xs.map (fun xs => PyData.list (xs.map (fun xs => PyData.tuple (xs.map id)))))) (r287)), (PyData.str r295), (PyData.int n311), PyData.none]) S307 (.cons (show (dAny K).rel _ ((fun xs => PyData.list (xs.map (fun xs => PyData.list (xs.map (fun xs => PyData.tuple (xs.map id)))))) (r11.1)) (.ref p21) from (mpA (drL (drL (drT drAny)))) (Rl.mono _ (s33.tr (s43.tr (s112.tr (s120.tr (s145.tr (s156.tr (s164.tr (s170.tr (s183.tr (s191.tr (s200.tr (s208.tr (s216.tr (s224.tr (s230.tr (s236.tr (s246.tr (s254.tr (s262.tr (s270.tr (s276.tr (s282.tr (s292.tr (s300.tr s308)))))))))))))))))))))))) h27)) (.cons (show (dAny K).rel _ ((fun xs => PyData.list (xs.map (fun xs => PyData.list (xs.map (fun xs => PyData.tuple (xs.map id)))))) (r287)) v289 from (mpA (drL (drL (drT drAny)))) (Rl.mono _ (s300.tr s308) h294)) (.cons (show (dAny K).rel _ (PyData.str r295) (V.str r295) from (mpA drStr) (show dStr.rel _ r295 (V.str r295) from rfl)) (.cons (show (dAny K).rel _ (PyData.int n311) (V.int n311) from (mpA drInt) (show dInt.rel _ n311 (V.int n311) from rfl)) (.cons (show (dAny K).rel _ PyData.none V.non from (mpA drNon) (show dNone.rel _ () V.non from rfl)) .nil))))) (by show 5 ≤ BIG; decide) fun v313 B318 H314 S315 s316 h317 => ?_
            refine w_gname ?_
            refine w_nx (σ' := [(some (.ref a_0)), (some (.ref p_s)), (some (V.int r1.1)), (some (.ref p21)), (some e147), e114, (some w173), (some w175), (some (V.bl b194)), (some v313), none]) rfl ?_
            refine w_ret ?_
            obtain ⟨c319, hc320, hm⟩ := bs hm
            refine cutE (fun v H' => v = V.bl c319 ∧ ∃ (B' : Hp), Sit (Fr.mk B0 H []) B' H' [(p_s, o149)] ∧ Same B318 B') (fun kk321 => ?_) ?_
            · refine w_andV ?_
              refine w_notV ?_
              refine w_cb ?_
              refine w_cons ?_
              refine w_lc ?_
              refine x_iL ?_
              refine w_ev (Ev.var rfl) ?_
              refine w_itL h317 S315.sub fun J322 it323 => ?_
              obtain ⟨ys353, h354, hc320⟩ := bs hc320
              refine lcR (P := dBool) it323 S315 (dList.le h317) h354 (fun _ _ _ Z e _ => e.tr Z.sub) (fun D324 ac325 a326 o327 x328 B331 B332 H333 ma339 S334 s329 s330 h335 ho336 RR337 kk338 => ?_) ?_
              · refine w_turn ?_
                refine w_gname ?_
                refine w_wipe rfl ?_
                refine w_yes ?_
                refine iteT ?_
                refine w_op ?_
                refine w_ev (Ev.var rfl) ?_
                refine w_ev (Ev.var rfl) ?_
                obtain ⟨t343, ht341, hn342⟩ := any_ty (C := C_Result) (Rl.mono _ S334.sub h335) nf_NoneType_Result nf_bool_Result nf_int_Result nf_str_Result nf_list_Result nf_tuple_Result
                refine q_cmpO (Rl.mono _ (s183.tr (s191.tr (s200.tr (s208.tr (s216.tr (s224.tr (s230.tr (s236.tr (s246.tr (s254.tr (s262.tr (s270.tr (s276.tr (s282.tr (s292.tr (s300.tr (s308.tr (s316.tr (s329.tr s330))))))))))))))))))) h174) S334.sub (ht341) hn342 ?_
                obtain ⟨r344, h345, ho336⟩ := bs ho336
                refine use_Result___eq___a S334 (Rl.mono _ (s183.tr (s191.tr (s200.tr (s208.tr (s216.tr (s224.tr (s230.tr (s236.tr (s246.tr (s254.tr (s262.tr (s270.tr (s276.tr (s282.tr (s292.tr (s300.tr (s308.tr (s316.tr (s329.tr s330))))))))))))))))))) h174) h335 h345 fun v346 B350 H347  (S348 : Sit _ B350 H347 [(D324, (.lst ac325)), (p_s, o149)]) s349 h351  => ?_
                cases h351
                obtain rfl := Option.some.inj ho336
                exact kk338 _ _ _ S348 s349 ⟨_, rfl, (show dBool.rel _ r344 (V.bl r344) from rfl)⟩
              · intro p355 B362 H356 o357 S358 s359 n360 h361
                obtain ⟨B365, S363, s364, h366⟩ : ∃ B', Sit _ B' H356 [(p_s, o149)] ∧ Same _ B' ∧ (dList dBool).rel B' ys353 (.ref p355) := ⟨_, S358.frz (i := 0) rfl n360, S358.frzS (i := 0) rfl, frzL h361 (S358.atB (i := 0) rfl)⟩
                refine w_nil ?_
                refine rany (Rl.mono _ S363.sub h366) _ ?_
                refine w_bl ?_
                refine w_bl ?_
                refine w_ifb (fun h367 => ?_) (fun h367 => ?_)
                · rw [ifT h367] at hc320
                  refine w_cb ?_
                  refine w_cons ?_
                  refine w_lc ?_
                  refine x_iL ?_
                  refine w_ev (Ev.var rfl) ?_
                  refine w_itL (Rl.mono _ (s359.tr s364) h317) S363.sub fun J368 it369 => ?_
                  obtain ⟨ys399, h400, hc320⟩ := bs hc320
                  refine lcR (P := dBool) it369 S363 (dList.le (Rl.mono _ (s359.tr s364) h317)) h400 (fun _ _ _ Z e _ => e.tr Z.sub) (fun D370 ac371 a372 o373 x374 B377 B378 H379 ma385 S380 s375 s376 h381 ho382 RR383 kk384 => ?_) ?_
                  · refine w_turn ?_
                    refine w_gname ?_
                    refine w_wipe rfl ?_
                    refine w_yes ?_
                    refine iteT ?_
                    refine w_op ?_
                    refine w_ev (Ev.var rfl) ?_
                    refine w_ev (Ev.var rfl) ?_
                    obtain ⟨t389, ht387, hn388⟩ := any_ty (C := C_Result) (Rl.mono _ S380.sub h381) nf_NoneType_Result nf_bool_Result nf_int_Result nf_str_Result nf_list_Result nf_tuple_Result
                    refine q_neO (Rl.mono _ (s183.tr (s191.tr (s200.tr (s208.tr (s216.tr (s224.tr (s230.tr (s236.tr (s246.tr (s254.tr (s262.tr (s270.tr (s276.tr (s282.tr (s292.tr (s300.tr (s308.tr (s316.tr (s359.tr (s364.tr (s375.tr s376))))))))))))))))))))) h174) S380.sub (ht387) hn388 ?_
                    obtain ⟨r390, h391, ho382⟩ := bs ho382
                    refine use_Result___eq___a S380 (Rl.mono _ (s183.tr (s191.tr (s200.tr (s208.tr (s216.tr (s224.tr (s230.tr (s236.tr (s246.tr (s254.tr (s262.tr (s270.tr (s276.tr (s282.tr (s292.tr (s300.tr (s308.tr (s316.tr (s359.tr (s364.tr (s375.tr s376))))))))))))))))))))) h174) h381 h391 fun v392 B396 H393  (S394 : Sit _ B396 H393 [(D370, (.lst ac371)), (p_s, o149)]) s395 h397  => ?_
                    cases h397
                    refine w_neQ ?_
                    obtain rfl := Option.some.inj ho382
                    exact kk384 _ _ _ S394 s395 ⟨_, rfl, (show dBool.rel _ (!r390) (V.bl (!r390)) from rfl)⟩
                  · intro p401 B408 H402 o403 S404 s405 n406 h407
                    obtain ⟨B411, S409, s410, h412⟩ : ∃ B', Sit _ B' H402 [(p_s, o149)] ∧ Same _ B' ∧ (dList dBool).rel B' ys399 (.ref p401) := ⟨_, S404.frz (i := 0) rfl n406, S404.frzS (i := 0) rfl, frzL h407 (S404.atB (i := 0) rfl)⟩
                    refine w_nil ?_
                    refine rall (Rl.mono _ S409.sub h412) _ ?_
                    obtain rfl := Option.some.inj hc320
                    exact kk321 _ _ ⟨rfl, _, S409, (s359.tr (s364.tr (s405.tr s410)))⟩
                · rw [ifF h367] at hc320
                  obtain rfl := Option.some.inj hc320
                  exact kk321 _ _ ⟨rfl, _, S363, (s359.tr s364)⟩
            · rintro _ H413 ⟨rfl, B416, S414, s415⟩
              exact retB (Option.some.inj hm) k
end
end Mm
namespace Mm
open PySem L2 Mf
theorem eqa_no (x : List (List (List PyData))) (a : PyData) : m_Result___eq___a x a = some false := rfl
theorem bools_eq {xs ys : List Bool} (h : xs = ys) : eqD ((fun xs => PyData.list (xs.map PyData.bool)) xs) ((fun xs => PyData.list (xs.map PyData.bool)) ys) = some true := by
  subst h
  exact eqD_self bools_ly (by decide)
theorem fin53 {a b : Tbl} (ha : GoodT a) (hb : GoodT b) (s : Src3) : Wp ((m_Result___init__ (tD a)).bind fun r151 => (m_Result___init__ (tD b)).bind fun r159 => (m_canonical (tD a)).bind fun r178 => (m_canonical (tD b)).bind fun r186 =>
  (eqD (tblL r178) (tblL r186)).bind fun b194 => some (r151, r159, b194)) (fun z => z = (tD (canon a), tD (canon b), decide (canon a = canon b))) := by
  refine Wp.go (result_eq ha) (Wp.go (result_eq hb) (Wp.go (law_canonical_eq ha) (Wp.go (law_canonical_eq hb) (Wp.go (tbl_eqD (canon_good ha ha.pos) (canon_good hb hb.pos)) (Wp.some rfl)))))
theorem law_pure : ∀ s : Src3, s.ok 0 → m_law s = some true := by
  intro s ok
  refine Wp.eq ?_
  unfold m_law
  refine (wp_draw ok (by decide) (by decide) (by decide)).bind fun r hr => ?_
  obtain ⟨r0, r1, ok1⟩ := hr
  refine (raw_rows_wp ok1 (by omega) (by decide) (by decide)).bind fun u hu => ?_
  obtain ⟨a, ea, ha, _, ok2⟩ := hu
  rw [ea]
  refine (doubled_wp ok2 (by omega) ha).bind fun v hv => ?_
  obtain ⟨b, eb, hb, ok3⟩ := hv
  rw [eb]
  refine (turned_wp ok3 (by omega) hb).bind fun w hw => ?_
  obtain ⟨o, ho, ew, ok4⟩ := hw
  have hc := turn_good hb ho
  rw [ew]
  generalize turnT o b = c at hc
  have hc40 := hc.few
  have hcp := hc.pos
  refine Wp.bind (P := fun j => ∃ d : Tbl, j.1 = tD d ∧ GoodT d ∧ j.2.ok 20000) ?_ fun j hj => ?_
  · refine Wp.ite (fun q => ?_) (fun q => Wp.some ⟨c, rfl, hc, ok4.le (by omega)⟩)
    rw [tD_len]
    refine (wp_draw ok4 (by omega) (by omega) (by omega)).bind fun p hp => ?_
    obtain ⟨p0, p1, ok5⟩ := hp
    obtain ⟨k, hk⟩ := Int.eq_ofNat_of_zero_le p0
    have hkl : k < c.length := by omega
    rw [hk]
    obtain ⟨row, hrow⟩ : ∃ r, c[k]? = some r := ⟨c[k], by simp [hkl]⟩
    have hm := List.mem_of_getElem? hrow
    rw [atI_get (tD_get hrow)]
    refine (item_wp (ws := [Str.ofString "a", Str.ofString "b"]) ok5 (by omega) (by omega) (by omega) (by
      intro w hw
      simp only [List.mem_cons, List.not_mem_nil, or_false] at hw
      rcases hw with rfl | rfl <;> exact ⟨by decide +kernel, by decide +kernel, by decide +kernel⟩) (by decide) (by decide)).bind fun y hy => ?_
    obtain ⟨x, hx, hxg, ok6⟩ := hy
    rw [hx]
    have ecut : cutL (rD row) none (some (11 : Int)) = rD (row.take 11) := by
      unfold cutL rD
      have h1 : HT.sIx (row.map Item.d).length 0 none = 0 := rfl
      have h2 : HT.sIx (row.map Item.d).length (row.map Item.d).length (some (11 : Int)) = min 11 (row.map Item.d).length := by
        unfold HT.sIx
        simp
      rw [h1, h2, List.drop_zero, List.map_take]
      refine List.take_eq_take_iff.mpr ?_
      omega
    rw [ecut]
    have h12 := hc.short row hm
    refine Wp.go (a := rD (row.take 11 ++ [x])) ?_ ?_
    · rw [rD_push]
      exact catM_eq (by rw [rD_len, List.length_take]; simp; omega)
    refine Wp.go (a := tD (c.set k (row.take 11 ++ [x]))) ?_ ?_
    · unfold setM ixN
      rw [tD_len, if_pos (by omega), if_pos (by omega)]
      unfold tD
      rw [List.map_set]
      rfl
    refine Wp.some ⟨_, rfl, ?_, ok6.le (by omega)⟩
    refine ⟨by rw [List.length_set]; omega, by rw [List.length_set]; omega, fun z hz => ?_, fun z hz y hy => ?_⟩
    · rcases List.mem_or_eq_of_mem_set hz with q | q
      · exact hc.short z q
      · rw [q, List.length_append, List.length_take]; simp; omega
    · rw [List.length_set]
      rcases List.mem_or_eq_of_mem_set hz with q | q
      · exact hc.item z q y hy
      · rw [q] at hy
        rcases List.mem_append.mp hy with q | q
        · exact hc.item row hm y (List.mem_of_mem_take q)
        · rw [List.mem_singleton.mp q]; exact hxg
  obtain ⟨d, ed, hd, ok5⟩ := hj
  refine Wp.bind (P := fun j => ∃ e : Tbl, j.1 = tD e ∧ GoodT e) ?_ fun j2 hj2 => ?_
  · refine Wp.ite (fun q => ?_) (fun q => Wp.some ⟨d, ed, hd⟩)
    refine (raw_rows_wp ok5 (by omega) (by decide) (by decide)).bind fun u hu => ?_
    obtain ⟨e, ee, he, _, _⟩ := hu
    exact Wp.some ⟨e, ee, he⟩
  obtain ⟨e, ee, he⟩ := hj2
  rw [ee]
  have ca := canon_good ha ha.pos
  have ce := canon_good he he.pos
  refine Wp.go (result_eq ha) (Wp.go (result_eq he) (Wp.go (law_canonical_eq ha) (Wp.go (law_canonical_eq he) (Wp.go (tbl_eqD ca ce) ?_))))
  have e1 := result_eq_eq ca ce
  have e2 := result_eq_eq ce ca
  have e3 := result_eq_eq ca ca
  have esym : decide (canon e = canon a) = decide (canon a = canon e) := decide_eq_decide.mpr ⟨Eq.symm, Eq.symm⟩
  rw [esym] at e2
  rw [decide_eq_true rfl] at e3
  simp only
  refine Wp.go e1 (Wp.go e2 (Wp.go e1 (Wp.go e2 (Wp.go (bools_eq rfl) (Wp.no rfl ?_)))))
  refine Wp.go e3 (Wp.go (result_eq ha) (Wp.go e3 (Wp.go e3 (Wp.go (bools_eq rfl) (Wp.no rfl ?_)))))
  obtain ⟨r0, hr0⟩ : ∃ r, a[0]? = some r := ⟨a[0]'ha.pos, by simp [ha.pos]⟩
  have h12 := ha.short r0 (List.mem_of_getElem? hr0)
  refine Wp.go (rows_eq _) (Wp.go (result_text_eq ha) (Wp.go (result_len_eq ha hr0) (Wp.go (natM_eq (by omega)) ?_)))
  refine Wp.bind (P := fun c => c = true) ?_ fun c hc => Wp.some hc
  refine Wp.go (lcM_mapE (fun _ => false) fun x _ => by rw [eqa_no]; rfl) (Wp.yes rfl ?_)
  exact Wp.go (lcM_mapE (fun _ => true) fun x _ => by rw [eqa_no]; rfl) (Wp.some rfl)
end Mm
namespace Mm
open PySem L2 Mf
theorem all_mk {l : PySem.W.OpenLaw} {w : World} {K : PySem.W.Frag} {h : Heap} {mg : Str → Option Value} {fa : Addr} (X : K.In h) (G : h.Ns mainGlobals mg) (hfa : mg "law" = some (.ref fa))
    {t_BEYOND : Tok}
    {t_LETTERS : Tok}
    {t_MOST_ITEMS : Tok}
    {t_MOST_ROWS : Tok}
    {C_Result : Addr}
    {f_source : Addr} {od_source an_source : Option Addr} {sl_source : Array (Option Value)} {oc_source kV_source dc_source pm_source cd_source ct_source : Value}
    {f_draw : Addr} {od_draw an_draw : Option Addr} {sl_draw : Array (Option Value)} {oc_draw kV_draw dc_draw pm_draw cd_draw ct_draw : Value}
    {f_name : Addr} {od_name an_name : Option Addr} {sl_name : Array (Option Value)} {oc_name kV_name dc_name pm_name cd_name ct_name : Value}
    {f_names : Addr} {od_names an_names : Option Addr} {sl_names : Array (Option Value)} {oc_names kV_names dc_names pm_names cd_names ct_names : Value}
    {f_is_number : Addr} {od_is_number an_is_number : Option Addr} {sl_is_number : Array (Option Value)} {oc_is_number kV_is_number dc_is_number pm_is_number cd_is_number ct_is_number : Value}
    {f_is_name : Addr} {od_is_name an_is_name : Option Addr} {sl_is_name : Array (Option Value)} {oc_is_name kV_is_name dc_is_name pm_is_name cd_is_name ct_is_name : Value}
    {f_is_item : Addr} {od_is_item an_is_item : Option Addr} {sl_is_item : Array (Option Value)} {oc_is_item kV_is_item dc_is_item pm_is_item cd_is_item ct_is_item : Value}
    {f_check_rows : Addr} {od_check_rows an_check_rows : Option Addr} {sl_check_rows : Array (Option Value)} {oc_check_rows kV_check_rows dc_check_rows pm_check_rows cd_check_rows ct_check_rows : Value}
    {f_row_shape : Addr} {od_row_shape an_row_shape : Option Addr} {sl_row_shape : Array (Option Value)} {oc_row_shape kV_row_shape dc_row_shape pm_row_shape cd_row_shape ct_row_shape : Value}
    {f_classes_of : Addr} {od_classes_of an_classes_of : Option Addr} {sl_classes_of : Array (Option Value)} {oc_classes_of kV_classes_of dc_classes_of pm_classes_of cd_classes_of ct_classes_of : Value}
    {f_canonical_rows : Addr} {od_canonical_rows an_canonical_rows : Option Addr} {sl_canonical_rows : Array (Option Value)} {oc_canonical_rows kV_canonical_rows dc_canonical_rows pm_canonical_rows cd_canonical_rows ct_canonical_rows : Value}
    {f_Result___init__ : Addr} {od_Result___init__ an_Result___init__ : Option Addr} {sl_Result___init__ : Array (Option Value)} {oc_Result___init__ kV_Result___init__ dc_Result___init__ pm_Result___init__ cd_Result___init__ ct_Result___init__ : Value}
    {f_Result_rows : Addr} {od_Result_rows an_Result_rows : Option Addr} {sl_Result_rows : Array (Option Value)} {oc_Result_rows kV_Result_rows dc_Result_rows pm_Result_rows cd_Result_rows ct_Result_rows : Value}
    {f_Result___eq__ : Addr} {od_Result___eq__ an_Result___eq__ : Option Addr} {sl_Result___eq__ : Array (Option Value)} {oc_Result___eq__ kV_Result___eq__ dc_Result___eq__ pm_Result___eq__ cd_Result___eq__ ct_Result___eq__ : Value}
    {f_Result___len__ : Addr} {od_Result___len__ an_Result___len__ : Option Addr} {sl_Result___len__ : Array (Option Value)} {oc_Result___len__ kV_Result___len__ dc_Result___len__ pm_Result___len__ cd_Result___len__ ct_Result___len__ : Value}
    {f_item_text : Addr} {od_item_text an_item_text : Option Addr} {sl_item_text : Array (Option Value)} {oc_item_text kV_item_text dc_item_text pm_item_text cd_item_text ct_item_text : Value}
    {f_Result_text : Addr} {od_Result_text an_Result_text : Option Addr} {sl_Result_text : Array (Option Value)} {oc_Result_text kV_Result_text dc_Result_text pm_Result_text cd_Result_text ct_Result_text : Value}
    {f_classes : Addr} {od_classes an_classes : Option Addr} {sl_classes : Array (Option Value)} {oc_classes kV_classes dc_classes pm_classes cd_classes ct_classes : Value}
    {f_canonical : Addr} {od_canonical an_canonical : Option Addr} {sl_canonical : Array (Option Value)} {oc_canonical kV_canonical dc_canonical pm_canonical cd_canonical ct_canonical : Value}
    {f_number : Addr} {od_number an_number : Option Addr} {sl_number : Array (Option Value)} {oc_number kV_number dc_number pm_number cd_number ct_number : Value}
    {f_item : Addr} {od_item an_item : Option Addr} {sl_item : Array (Option Value)} {oc_item kV_item dc_item pm_item cd_item ct_item : Value}
    {f_raw_rows : Addr} {od_raw_rows an_raw_rows : Option Addr} {sl_raw_rows : Array (Option Value)} {oc_raw_rows kV_raw_rows dc_raw_rows pm_raw_rows cd_raw_rows ct_raw_rows : Value}
    {f_twin : Addr} {od_twin an_twin : Option Addr} {sl_twin : Array (Option Value)} {oc_twin kV_twin dc_twin pm_twin cd_twin ct_twin : Value}
    {f_doubled : Addr} {od_doubled an_doubled : Option Addr} {sl_doubled : Array (Option Value)} {oc_doubled kV_doubled dc_doubled pm_doubled cd_doubled ct_doubled : Value}
    {f_turned : Addr} {od_turned an_turned : Option Addr} {sl_turned : Array (Option Value)} {oc_turned kV_turned dc_turned pm_turned cd_turned ct_turned : Value}
    {f_law : Addr} {od_law an_law : Option Addr} {sl_law : Array (Option Value)} {oc_law kV_law dc_law pm_law cd_law ct_law : Value}
    (z_all : PySem.W.nsIn K mainGlobals "all" = some none)
    (z_any : PySem.W.nsIn K mainGlobals "any" = some none)
    (z_bool : PySem.W.nsIn K mainGlobals "bool" = some none)
    (z_enumerate : PySem.W.nsIn K mainGlobals "enumerate" = some none)
    (z_int : PySem.W.nsIn K mainGlobals "int" = some none)
    (z_isinstance : PySem.W.nsIn K mainGlobals "isinstance" = some none)
    (z_len : PySem.W.nsIn K mainGlobals "len" = some none)
    (z_list : PySem.W.nsIn K mainGlobals "list" = some none)
    (z_range : PySem.W.nsIn K mainGlobals "range" = some none)
    (z_str : PySem.W.nsIn K mainGlobals "str" = some none)
    (z_tuple : PySem.W.nsIn K mainGlobals "tuple" = some none)
    (ga_BEYOND : PySem.W.nsIn K mainGlobals "BEYOND" = some (some (.int 1000000000000000000000000000000000000000000000000000000000000 t_BEYOND)))
    (ga_LETTERS : PySem.W.nsIn K mainGlobals "LETTERS" = some (some (.str "abcdefghijklmnopqrstuvwxyz" t_LETTERS)))
    (ga_MOST_ITEMS : PySem.W.nsIn K mainGlobals "MOST_ITEMS" = some (some (.int 12 t_MOST_ITEMS)))
    (ga_MOST_ROWS : PySem.W.nsIn K mainGlobals "MOST_ROWS" = some (some (.int 40 t_MOST_ROWS)))
    (cA_Result : PySem.W.nsIn K mainGlobals "Result" = some (some (.ref C_Result)))
    (pg_Result : PySem.W.plainGet K C_Result Str.empty = true)
    (hd_Result : PySem.W.hasDictIn K C_Result = true)
    (po_Result : PySem.W.plainOver K C_Result = true)
    (sa_Result : PySem.W.findIn K (.ref C_Result) "__setattr__" = some (some (.builtin "object.__setattr__")))
    (ha_Result : PySem.W.findIn K (.ref C_Result) "__class__" = some (some (.builtin "object.__class__")))
    (hn_Result : PySem.W.specialIn K (.builtin "object.__class__") "__get__" = some (some (.builtin "getset_descriptor.__get__")))
    (ht_Result : PySem.W.takesIn K (.builtin "object.__class__") = some true)
    (hm_Result : PySem.W.mroIn K C_Result (.type "object") = some true)
    (sf_Result : PySem.W.selfFirst K C_Result = true)
    (ne_Result : PySem.W.findIn K (.ref C_Result) "__ne__" = some (some (.builtin "object.__ne__")))
    (nA_Result_table : PySem.W.findIn K (.ref C_Result) "table" = some none)
    (ci_Result : PySem.W.isClsIn K C_Result = true)
    (ty_Result : PySem.W.typeIn K (.ref C_Result) = some (.type "type"))
    (nf_NoneType_Result : PySem.W.notFirst K C_Result (.type "NoneType") = true)
    (nf_bool_Result : PySem.W.notFirst K C_Result (.type "bool") = true)
    (nf_int_Result : PySem.W.notFirst K C_Result (.type "int") = true)
    (nf_list_Result : PySem.W.notFirst K C_Result (.type "list") = true)
    (nf_str_Result : PySem.W.notFirst K C_Result (.type "str") = true)
    (nf_tuple_Result : PySem.W.notFirst K C_Result (.type "tuple") = true)
    (a_source : PySem.W.nsIn K mainGlobals "_law_source" = some (some (.ref f_source)))
    (l_source : K.lookup f_source = some ⟨oc_source, od_source, .func (PySem.W.fnOf "_law_source" "_law_source" (defArgs s_source) (defBody s_source) (defScope s_source) .none kV_source dc_source pm_source an_source cd_source ct_source), sl_source⟩)
    (c_source : PySem.W.codeIn K cd_source "_law_source" = true)
    (k_source : PySem.W.keepIn K (.ref f_source) = true)
    (a_draw : PySem.W.nsIn K mainGlobals "_law_draw" = some (some (.ref f_draw)))
    (l_draw : K.lookup f_draw = some ⟨oc_draw, od_draw, .func (PySem.W.fnOf "_law_draw" "_law_draw" (defArgs s_draw) (defBody s_draw) (defScope s_draw) .none kV_draw dc_draw pm_draw an_draw cd_draw ct_draw), sl_draw⟩)
    (c_draw : PySem.W.codeIn K cd_draw "_law_draw" = true)
    (k_draw : PySem.W.keepIn K (.ref f_draw) = true)
    (a_name : PySem.W.nsIn K mainGlobals "_law_name" = some (some (.ref f_name)))
    (l_name : K.lookup f_name = some ⟨oc_name, od_name, .func (PySem.W.fnOf "_law_name" "_law_name" (defArgs s_name) (defBody s_name) (defScope s_name) .none kV_name dc_name pm_name an_name cd_name ct_name), sl_name⟩)
    (c_name : PySem.W.codeIn K cd_name "_law_name" = true)
    (k_name : PySem.W.keepIn K (.ref f_name) = true)
    (a_names : PySem.W.nsIn K mainGlobals "_law_names" = some (some (.ref f_names)))
    (l_names : K.lookup f_names = some ⟨oc_names, od_names, .func (PySem.W.fnOf "_law_names" "_law_names" (defArgs s_names) (defBody s_names) (defScope s_names) .none kV_names dc_names pm_names an_names cd_names ct_names), sl_names⟩)
    (c_names : PySem.W.codeIn K cd_names "_law_names" = true)
    (k_names : PySem.W.keepIn K (.ref f_names) = true)
    (a_is_number : PySem.W.nsIn K mainGlobals "is_number" = some (some (.ref f_is_number)))
    (l_is_number : K.lookup f_is_number = some ⟨oc_is_number, od_is_number, .func (PySem.W.fnOf "is_number" "is_number" (defArgs s_is_number) (defBody s_is_number) (defScope s_is_number) .none kV_is_number dc_is_number pm_is_number an_is_number cd_is_number ct_is_number), sl_is_number⟩)
    (c_is_number : PySem.W.codeIn K cd_is_number "is_number" = true)
    (k_is_number : PySem.W.keepIn K (.ref f_is_number) = true)
    (a_is_name : PySem.W.nsIn K mainGlobals "is_name" = some (some (.ref f_is_name)))
    (l_is_name : K.lookup f_is_name = some ⟨oc_is_name, od_is_name, .func (PySem.W.fnOf "is_name" "is_name" (defArgs s_is_name) (defBody s_is_name) (defScope s_is_name) .none kV_is_name dc_is_name pm_is_name an_is_name cd_is_name ct_is_name), sl_is_name⟩)
    (c_is_name : PySem.W.codeIn K cd_is_name "is_name" = true)
    (k_is_name : PySem.W.keepIn K (.ref f_is_name) = true)
    (a_is_item : PySem.W.nsIn K mainGlobals "is_item" = some (some (.ref f_is_item)))
    (l_is_item : K.lookup f_is_item = some ⟨oc_is_item, od_is_item, .func (PySem.W.fnOf "is_item" "is_item" (defArgs s_is_item) (defBody s_is_item) (defScope s_is_item) .none kV_is_item dc_is_item pm_is_item an_is_item cd_is_item ct_is_item), sl_is_item⟩)
    (c_is_item : PySem.W.codeIn K cd_is_item "is_item" = true)
    (k_is_item : PySem.W.keepIn K (.ref f_is_item) = true)
    (a_check_rows : PySem.W.nsIn K mainGlobals "check_rows" = some (some (.ref f_check_rows)))
    (l_check_rows : K.lookup f_check_rows = some ⟨oc_check_rows, od_check_rows, .func (PySem.W.fnOf "check_rows" "check_rows" (defArgs s_check_rows) (defBody s_check_rows) (defScope s_check_rows) .none kV_check_rows dc_check_rows pm_check_rows an_check_rows cd_check_rows ct_check_rows), sl_check_rows⟩)
    (c_check_rows : PySem.W.codeIn K cd_check_rows "check_rows" = true)
    (k_check_rows : PySem.W.keepIn K (.ref f_check_rows) = true)
    (a_row_shape : PySem.W.nsIn K mainGlobals "row_shape" = some (some (.ref f_row_shape)))
    (l_row_shape : K.lookup f_row_shape = some ⟨oc_row_shape, od_row_shape, .func (PySem.W.fnOf "row_shape" "row_shape" (defArgs s_row_shape) (defBody s_row_shape) (defScope s_row_shape) .none kV_row_shape dc_row_shape pm_row_shape an_row_shape cd_row_shape ct_row_shape), sl_row_shape⟩)
    (c_row_shape : PySem.W.codeIn K cd_row_shape "row_shape" = true)
    (k_row_shape : PySem.W.keepIn K (.ref f_row_shape) = true)
    (a_classes_of : PySem.W.nsIn K mainGlobals "classes_of" = some (some (.ref f_classes_of)))
    (l_classes_of : K.lookup f_classes_of = some ⟨oc_classes_of, od_classes_of, .func (PySem.W.fnOf "classes_of" "classes_of" (defArgs s_classes_of) (defBody s_classes_of) (defScope s_classes_of) .none kV_classes_of dc_classes_of pm_classes_of an_classes_of cd_classes_of ct_classes_of), sl_classes_of⟩)
    (c_classes_of : PySem.W.codeIn K cd_classes_of "classes_of" = true)
    (k_classes_of : PySem.W.keepIn K (.ref f_classes_of) = true)
    (a_canonical_rows : PySem.W.nsIn K mainGlobals "canonical_rows" = some (some (.ref f_canonical_rows)))
    (l_canonical_rows : K.lookup f_canonical_rows = some ⟨oc_canonical_rows, od_canonical_rows, .func (PySem.W.fnOf "canonical_rows" "canonical_rows" (defArgs s_canonical_rows) (defBody s_canonical_rows) (defScope s_canonical_rows) .none kV_canonical_rows dc_canonical_rows pm_canonical_rows an_canonical_rows cd_canonical_rows ct_canonical_rows), sl_canonical_rows⟩)
    (c_canonical_rows : PySem.W.codeIn K cd_canonical_rows "canonical_rows" = true)
    (k_canonical_rows : PySem.W.keepIn K (.ref f_canonical_rows) = true)
    (a_Result___init__ : PySem.W.findIn K (.ref C_Result) "__init__" = some (some (.ref f_Result___init__)))
    (i_Result___init__ : PySem.W.isFn K (.ref f_Result___init__) = true)
    (l_Result___init__ : K.lookup f_Result___init__ = some ⟨oc_Result___init__, od_Result___init__, .func (PySem.W.fnOf "__init__" "Result.__init__" (defArgs s_Result___init__) (defBody s_Result___init__) (defScope s_Result___init__) .none kV_Result___init__ dc_Result___init__ pm_Result___init__ an_Result___init__ cd_Result___init__ ct_Result___init__), sl_Result___init__⟩)
    (c_Result___init__ : PySem.W.codeIn K cd_Result___init__ "Result.__init__" = true)
    (k_Result___init__ : PySem.W.keepIn K (.ref f_Result___init__) = true)
    (mk_Result___init__ : PySem.W.makesIn K C_Result = true)
    (kc_Result___init__ : PySem.W.keepIn K (.ref C_Result) = true)
    (a_Result_rows : PySem.W.findIn K (.ref C_Result) "rows" = some (some (.ref f_Result_rows)))
    (i_Result_rows : PySem.W.isFn K (.ref f_Result_rows) = true)
    (l_Result_rows : K.lookup f_Result_rows = some ⟨oc_Result_rows, od_Result_rows, .func (PySem.W.fnOf "rows" "Result.rows" (defArgs s_Result_rows) (defBody s_Result_rows) (defScope s_Result_rows) .none kV_Result_rows dc_Result_rows pm_Result_rows an_Result_rows cd_Result_rows ct_Result_rows), sl_Result_rows⟩)
    (c_Result_rows : PySem.W.codeIn K cd_Result_rows "Result.rows" = true)
    (k_Result_rows : PySem.W.keepIn K (.ref f_Result_rows) = true)
    (a_Result___eq__ : PySem.W.findIn K (.ref C_Result) "__eq__" = some (some (.ref f_Result___eq__)))
    (i_Result___eq__ : PySem.W.isFn K (.ref f_Result___eq__) = true)
    (l_Result___eq__ : K.lookup f_Result___eq__ = some ⟨oc_Result___eq__, od_Result___eq__, .func (PySem.W.fnOf "__eq__" "Result.__eq__" (defArgs s_Result___eq__) (defBody s_Result___eq__) (defScope s_Result___eq__) .none kV_Result___eq__ dc_Result___eq__ pm_Result___eq__ an_Result___eq__ cd_Result___eq__ ct_Result___eq__), sl_Result___eq__⟩)
    (c_Result___eq__ : PySem.W.codeIn K cd_Result___eq__ "Result.__eq__" = true)
    (k_Result___eq__ : PySem.W.keepIn K (.ref f_Result___eq__) = true)
    (a_Result___len__ : PySem.W.findIn K (.ref C_Result) "__len__" = some (some (.ref f_Result___len__)))
    (i_Result___len__ : PySem.W.isFn K (.ref f_Result___len__) = true)
    (l_Result___len__ : K.lookup f_Result___len__ = some ⟨oc_Result___len__, od_Result___len__, .func (PySem.W.fnOf "__len__" "Result.__len__" (defArgs s_Result___len__) (defBody s_Result___len__) (defScope s_Result___len__) .none kV_Result___len__ dc_Result___len__ pm_Result___len__ an_Result___len__ cd_Result___len__ ct_Result___len__), sl_Result___len__⟩)
    (c_Result___len__ : PySem.W.codeIn K cd_Result___len__ "Result.__len__" = true)
    (k_Result___len__ : PySem.W.keepIn K (.ref f_Result___len__) = true)
    (a_item_text : PySem.W.nsIn K mainGlobals "item_text" = some (some (.ref f_item_text)))
    (l_item_text : K.lookup f_item_text = some ⟨oc_item_text, od_item_text, .func (PySem.W.fnOf "item_text" "item_text" (defArgs s_item_text) (defBody s_item_text) (defScope s_item_text) .none kV_item_text dc_item_text pm_item_text an_item_text cd_item_text ct_item_text), sl_item_text⟩)
    (c_item_text : PySem.W.codeIn K cd_item_text "item_text" = true)
    (k_item_text : PySem.W.keepIn K (.ref f_item_text) = true)
    (a_Result_text : PySem.W.findIn K (.ref C_Result) "text" = some (some (.ref f_Result_text)))
    (i_Result_text : PySem.W.isFn K (.ref f_Result_text) = true)
    (l_Result_text : K.lookup f_Result_text = some ⟨oc_Result_text, od_Result_text, .func (PySem.W.fnOf "text" "Result.text" (defArgs s_Result_text) (defBody s_Result_text) (defScope s_Result_text) .none kV_Result_text dc_Result_text pm_Result_text an_Result_text cd_Result_text ct_Result_text), sl_Result_text⟩)
    (c_Result_text : PySem.W.codeIn K cd_Result_text "Result.text" = true)
    (k_Result_text : PySem.W.keepIn K (.ref f_Result_text) = true)
    (a_classes : PySem.W.nsIn K mainGlobals "_law_classes" = some (some (.ref f_classes)))
    (l_classes : K.lookup f_classes = some ⟨oc_classes, od_classes, .func (PySem.W.fnOf "_law_classes" "_law_classes" (defArgs s_classes) (defBody s_classes) (defScope s_classes) .none kV_classes dc_classes pm_classes an_classes cd_classes ct_classes), sl_classes⟩)
    (c_classes : PySem.W.codeIn K cd_classes "_law_classes" = true)
    (k_classes : PySem.W.keepIn K (.ref f_classes) = true)
    (a_canonical : PySem.W.nsIn K mainGlobals "_law_canonical" = some (some (.ref f_canonical)))
    (l_canonical : K.lookup f_canonical = some ⟨oc_canonical, od_canonical, .func (PySem.W.fnOf "_law_canonical" "_law_canonical" (defArgs s_canonical) (defBody s_canonical) (defScope s_canonical) .none kV_canonical dc_canonical pm_canonical an_canonical cd_canonical ct_canonical), sl_canonical⟩)
    (c_canonical : PySem.W.codeIn K cd_canonical "_law_canonical" = true)
    (k_canonical : PySem.W.keepIn K (.ref f_canonical) = true)
    (a_number : PySem.W.nsIn K mainGlobals "_law_number" = some (some (.ref f_number)))
    (l_number : K.lookup f_number = some ⟨oc_number, od_number, .func (PySem.W.fnOf "_law_number" "_law_number" (defArgs s_number) (defBody s_number) (defScope s_number) .none kV_number dc_number pm_number an_number cd_number ct_number), sl_number⟩)
    (c_number : PySem.W.codeIn K cd_number "_law_number" = true)
    (k_number : PySem.W.keepIn K (.ref f_number) = true)
    (a_item : PySem.W.nsIn K mainGlobals "_law_item" = some (some (.ref f_item)))
    (l_item : K.lookup f_item = some ⟨oc_item, od_item, .func (PySem.W.fnOf "_law_item" "_law_item" (defArgs s_item) (defBody s_item) (defScope s_item) .none kV_item dc_item pm_item an_item cd_item ct_item), sl_item⟩)
    (c_item : PySem.W.codeIn K cd_item "_law_item" = true)
    (k_item : PySem.W.keepIn K (.ref f_item) = true)
    (a_raw_rows : PySem.W.nsIn K mainGlobals "_law_raw_rows" = some (some (.ref f_raw_rows)))
    (l_raw_rows : K.lookup f_raw_rows = some ⟨oc_raw_rows, od_raw_rows, .func (PySem.W.fnOf "_law_raw_rows" "_law_raw_rows" (defArgs s_raw_rows) (defBody s_raw_rows) (defScope s_raw_rows) .none kV_raw_rows dc_raw_rows pm_raw_rows an_raw_rows cd_raw_rows ct_raw_rows), sl_raw_rows⟩)
    (c_raw_rows : PySem.W.codeIn K cd_raw_rows "_law_raw_rows" = true)
    (k_raw_rows : PySem.W.keepIn K (.ref f_raw_rows) = true)
    (a_twin : PySem.W.nsIn K mainGlobals "_law_twin" = some (some (.ref f_twin)))
    (l_twin : K.lookup f_twin = some ⟨oc_twin, od_twin, .func (PySem.W.fnOf "_law_twin" "_law_twin" (defArgs s_twin) (defBody s_twin) (defScope s_twin) .none kV_twin dc_twin pm_twin an_twin cd_twin ct_twin), sl_twin⟩)
    (c_twin : PySem.W.codeIn K cd_twin "_law_twin" = true)
    (k_twin : PySem.W.keepIn K (.ref f_twin) = true)
    (a_doubled : PySem.W.nsIn K mainGlobals "_law_doubled" = some (some (.ref f_doubled)))
    (l_doubled : K.lookup f_doubled = some ⟨oc_doubled, od_doubled, .func (PySem.W.fnOf "_law_doubled" "_law_doubled" (defArgs s_doubled) (defBody s_doubled) (defScope s_doubled) .none kV_doubled dc_doubled pm_doubled an_doubled cd_doubled ct_doubled), sl_doubled⟩)
    (c_doubled : PySem.W.codeIn K cd_doubled "_law_doubled" = true)
    (k_doubled : PySem.W.keepIn K (.ref f_doubled) = true)
    (a_turned : PySem.W.nsIn K mainGlobals "_law_turned" = some (some (.ref f_turned)))
    (l_turned : K.lookup f_turned = some ⟨oc_turned, od_turned, .func (PySem.W.fnOf "_law_turned" "_law_turned" (defArgs s_turned) (defBody s_turned) (defScope s_turned) .none kV_turned dc_turned pm_turned an_turned cd_turned ct_turned), sl_turned⟩)
    (c_turned : PySem.W.codeIn K cd_turned "_law_turned" = true)
    (k_turned : PySem.W.keepIn K (.ref f_turned) = true)
    (a_law : PySem.W.nsIn K mainGlobals "law" = some (some (.ref f_law)))
    (l_law : K.lookup f_law = some ⟨oc_law, od_law, .func (PySem.W.fnOf "law" "law" (defArgs s_law) (defBody s_law) (defScope s_law) .none kV_law dc_law pm_law an_law cd_law ct_law), sl_law⟩)
    (c_law : PySem.W.codeIn K cd_law "law" = true)
    (k_law : PySem.W.keepIn K (.ref f_law) = true)
    : ∃ fd : FuncData, (∀ (s : Shared) (u : Value), BindsTo s fd ⟨[u], []⟩ [("_law_script", u)]) ∧ ∀ base : Heap, K.In base → base.Ns mainGlobals mg → FnOk l.prog w K mg base CX0 6 fa fd ["_law_script"] (sp_law K) := by
  have b_all := PySem.W.mg_none_of X G z_all
  have b_any := PySem.W.mg_none_of X G z_any
  have b_bool := PySem.W.mg_none_of X G z_bool
  have b_enumerate := PySem.W.mg_none_of X G z_enumerate
  have b_int := PySem.W.mg_none_of X G z_int
  have b_isinstance := PySem.W.mg_none_of X G z_isinstance
  have b_len := PySem.W.mg_none_of X G z_len
  have b_list := PySem.W.mg_none_of X G z_list
  have b_range := PySem.W.mg_none_of X G z_range
  have b_str := PySem.W.mg_none_of X G z_str
  have b_tuple := PySem.W.mg_none_of X G z_tuple
  have e_BEYOND := (⟨t_BEYOND, PySem.W.mg_of X G ga_BEYOND⟩ : ∃ t, mg "BEYOND" = some (.int 1000000000000000000000000000000000000000000000000000000000000 t))
  have e_LETTERS := (⟨t_LETTERS, PySem.W.mg_of X G ga_LETTERS⟩ : ∃ t, mg "LETTERS" = some (.str "abcdefghijklmnopqrstuvwxyz" t))
  have e_MOST_ITEMS := (⟨t_MOST_ITEMS, PySem.W.mg_of X G ga_MOST_ITEMS⟩ : ∃ t, mg "MOST_ITEMS" = some (.int 12 t))
  have e_MOST_ROWS := (⟨t_MOST_ROWS, PySem.W.mg_of X G ga_MOST_ROWS⟩ : ∃ t, mg "MOST_ROWS" = some (.int 40 t))
  have T_Result : ClsF K mg "Result" C_Result := clsF_mk X G cA_Result pg_Result hd_Result po_Result sa_Result ha_Result hn_Result ht_Result hm_Result sf_Result ne_Result
  have kit_NoneType_Result := kit_no ci_Result ty_Result nf_NoneType_Result
  have kit_bool_Result := kit_no ci_Result ty_Result nf_bool_Result
  have kit_int_Result := kit_no ci_Result ty_Result nf_int_Result
  have kit_list_Result := kit_no ci_Result ty_Result nf_list_Result
  have kit_str_Result := kit_no ci_Result ty_Result nf_str_Result
  have kit_tuple_Result := kit_no ci_Result ty_Result nf_tuple_Result
  have A_source : DefAt K mg "_law_source" s_source ["_law_script"] := defAt_mk X G a_source l_source c_source k_source (fun _ _ _ _ _ _ us hl => match us, hl with | [_], _ => rfl)
  have A_draw : DefAt K mg "_law_draw" s_draw ["_law_source_here", "_law_many"] := defAt_mk X G a_draw l_draw c_draw k_draw (fun _ _ _ _ _ _ us hl => match us, hl with | [_, _], _ => rfl)
  have A_name : DefAt K mg "_law_name" s_name ["_law_source_here", "_law_taken"] := defAt_mk X G a_name l_name c_name k_name (fun _ _ _ _ _ _ us hl => match us, hl with | [_, _], _ => rfl)
  have A_names : DefAt K mg "_law_names" s_names ["_law_source_here", "_law_many"] := defAt_mk X G a_names l_names c_names k_names (fun _ _ _ _ _ _ us hl => match us, hl with | [_, _], _ => rfl)
  have A_is_number : DefAt K mg "is_number" s_is_number ["value"] := defAt_mk X G a_is_number l_is_number c_is_number k_is_number (fun _ _ _ _ _ _ us hl => match us, hl with | [_], _ => rfl)
  have A_is_name : DefAt K mg "is_name" s_is_name ["value"] := defAt_mk X G a_is_name l_is_name c_is_name k_is_name (fun _ _ _ _ _ _ us hl => match us, hl with | [_], _ => rfl)
  have A_is_item : DefAt K mg "is_item" s_is_item ["item", "many"] := defAt_mk X G a_is_item l_is_item c_is_item k_is_item (fun _ _ _ _ _ _ us hl => match us, hl with | [_, _], _ => rfl)
  have A_check_rows : DefAt K mg "check_rows" s_check_rows ["rows"] := defAt_mk X G a_check_rows l_check_rows c_check_rows k_check_rows (fun _ _ _ _ _ _ us hl => match us, hl with | [_], _ => rfl)
  have A_row_shape : DefAt K mg "row_shape" s_row_shape ["row", "classes"] := defAt_mk X G a_row_shape l_row_shape c_row_shape k_row_shape (fun _ _ _ _ _ _ us hl => match us, hl with | [_, _], _ => rfl)
  have A_classes_of : DefAt K mg "classes_of" s_classes_of ["table"] := defAt_mk X G a_classes_of l_classes_of c_classes_of k_classes_of (fun _ _ _ _ _ _ us hl => match us, hl with | [_], _ => rfl)
  have A_canonical_rows : DefAt K mg "canonical_rows" s_canonical_rows ["table", "start"] := defAt_mk X G a_canonical_rows l_canonical_rows c_canonical_rows k_canonical_rows (fun _ _ _ _ _ _ us hl => match us, hl with | [_, _], _ => rfl)
  have A_Result___init__ : MkAt K C_Result "Result.__init__" s_Result___init__ ["self", "rows"] := mkAt_mk a_Result___init__ i_Result___init__ l_Result___init__ c_Result___init__ k_Result___init__ mk_Result___init__ kc_Result___init__ (fun _ _ _ _ _ _ us hl => match us, hl with | [_, _], _ => rfl)
  have A_Result_rows : MethAt K C_Result "rows" "Result.rows" s_Result_rows ["self"] := methAt_mk a_Result_rows i_Result_rows l_Result_rows c_Result_rows k_Result_rows (fun _ _ _ _ _ _ us hl => match us, hl with | [_], _ => rfl)
  have A_Result___eq__ : MethAt K C_Result "__eq__" "Result.__eq__" s_Result___eq__ ["self", "other"] := methAt_mk a_Result___eq__ i_Result___eq__ l_Result___eq__ c_Result___eq__ k_Result___eq__ (fun _ _ _ _ _ _ us hl => match us, hl with | [_, _], _ => rfl)
  have A_Result___len__ : MethAt K C_Result "__len__" "Result.__len__" s_Result___len__ ["self"] := methAt_mk a_Result___len__ i_Result___len__ l_Result___len__ c_Result___len__ k_Result___len__ (fun _ _ _ _ _ _ us hl => match us, hl with | [_], _ => rfl)
  have A_item_text : DefAt K mg "item_text" s_item_text ["item"] := defAt_mk X G a_item_text l_item_text c_item_text k_item_text (fun _ _ _ _ _ _ us hl => match us, hl with | [_], _ => rfl)
  have A_Result_text : MethAt K C_Result "text" "Result.text" s_Result_text ["self"] := methAt_mk a_Result_text i_Result_text l_Result_text c_Result_text k_Result_text (fun _ _ _ _ _ _ us hl => match us, hl with | [_], _ => rfl)
  have A_classes : DefAt K mg "_law_classes" s_classes ["_law_rows"] := defAt_mk X G a_classes l_classes c_classes k_classes (fun _ _ _ _ _ _ us hl => match us, hl with | [_], _ => rfl)
  have A_canonical : DefAt K mg "_law_canonical" s_canonical ["_law_rows"] := defAt_mk X G a_canonical l_canonical c_canonical k_canonical (fun _ _ _ _ _ _ us hl => match us, hl with | [_], _ => rfl)
  have A_number : DefAt K mg "_law_number" s_number ["_law_source_here"] := defAt_mk X G a_number l_number c_number k_number (fun _ _ _ _ _ _ us hl => match us, hl with | [_], _ => rfl)
  have A_item : DefAt K mg "_law_item" s_item ["_law_source_here", "_law_many", "_law_words"] := defAt_mk X G a_item l_item c_item k_item (fun _ _ _ _ _ _ us hl => match us, hl with | [_, _, _], _ => rfl)
  have A_raw_rows : DefAt K mg "_law_raw_rows" s_raw_rows ["_law_source_here", "_law_most"] := defAt_mk X G a_raw_rows l_raw_rows c_raw_rows k_raw_rows (fun _ _ _ _ _ _ us hl => match us, hl with | [_, _], _ => rfl)
  have A_twin : DefAt K mg "_law_twin" s_twin ["_law_source_here", "_law_item_here", "_law_twins"] := defAt_mk X G a_twin l_twin c_twin k_twin (fun _ _ _ _ _ _ us hl => match us, hl with | [_, _, _], _ => rfl)
  have A_doubled : DefAt K mg "_law_doubled" s_doubled ["_law_source_here", "_law_rows"] := defAt_mk X G a_doubled l_doubled c_doubled k_doubled (fun _ _ _ _ _ _ us hl => match us, hl with | [_, _], _ => rfl)
  have A_turned : DefAt K mg "_law_turned" s_turned ["_law_source_here", "_law_rows"] := defAt_mk X G a_turned l_turned c_turned k_turned (fun _ _ _ _ _ _ us hl => match us, hl with | [_, _], _ => rfl)
  have F_law := fun_mk (st := s_law) l_law c_law k_law
  have efa := hfa.symm.trans (PySem.W.mg_of X G a_law)
  cases efa
  refine ⟨_, law_binds (p := "_law_script") F_law (fun _ _ _ _ _ _ _ => rfl), fun base _ _ => ?_⟩
  have D_source := ok_source (P := l.prog) (w := w) (base := base) A_source b_enumerate b_int 
  have D_draw := ok_draw (P := l.prog) (w := w) (base := base) A_draw b_int 
  have D_name := ok_name (P := l.prog) (w := w) (base := base) A_name b_range D_draw 
  have D_names := ok_names (P := l.prog) (w := w) (base := base) A_names b_list b_range D_name 
  have D_is_number_a := ok_is_number_a (P := l.prog) (w := w) (base := base) A_is_number b_bool b_int b_isinstance e_BEYOND 
  have D_is_name_a := ok_is_name_a (P := l.prog) (w := w) (base := base) A_is_name b_all b_isinstance b_len b_str e_LETTERS 
  have D_is_item := ok_is_item (P := l.prog) (w := w) (base := base) A_is_item b_isinstance b_len b_tuple D_is_number_a D_is_name_a 
  have D_check_rows := ok_check_rows (P := l.prog) (w := w) (base := base) A_check_rows b_all b_enumerate b_len e_MOST_ITEMS e_MOST_ROWS D_is_item 
  have D_row_shape := ok_row_shape (P := l.prog) (w := w) (base := base) A_row_shape b_tuple 
  have D_classes_of := ok_classes_of (P := l.prog) (w := w) (base := base) A_classes_of b_len D_row_shape 
  have D_canonical_rows := ok_canonical_rows (P := l.prog) (w := w) (base := base) A_canonical_rows b_len D_classes_of 
  have D_Result___init__ := ok_Result___init__ (P := l.prog) (w := w) (base := base) A_Result___init__ T_Result b_list nA_Result_table D_check_rows D_canonical_rows 
  have D_Result_rows := ok_Result_rows (P := l.prog) (w := w) (base := base) A_Result_rows T_Result b_list nA_Result_table 
  have D_Result___eq__ := ok_Result___eq__ (P := l.prog) (w := w) (base := base) A_Result___eq__ T_Result b_isinstance nA_Result_table 
  have D_Result___eq___a := ok_Result___eq___a (P := l.prog) (w := w) (base := base) A_Result___eq__ T_Result b_isinstance nA_Result_table kit_NoneType_Result kit_bool_Result kit_int_Result kit_list_Result kit_str_Result kit_tuple_Result 
  have D_Result___len__ := ok_Result___len__ (P := l.prog) (w := w) (base := base) A_Result___len__ T_Result b_len nA_Result_table 
  have D_item_text := ok_item_text (P := l.prog) (w := w) (base := base) A_item_text b_str 
  have D_Result_text := ok_Result_text (P := l.prog) (w := w) (base := base) A_Result_text T_Result b_enumerate nA_Result_table D_item_text 
  have D_classes := ok_classes (P := l.prog) (w := w) (base := base) A_classes 
  have D_canonical := ok_canonical (P := l.prog) (w := w) (base := base) A_canonical b_len D_classes 
  have D_number := ok_number (P := l.prog) (w := w) (base := base) A_number D_draw 
  have D_item := ok_item (P := l.prog) (w := w) (base := base) A_item b_len D_draw D_number 
  have D_raw_rows := ok_raw_rows (P := l.prog) (w := w) (base := base) A_raw_rows b_range D_draw D_names D_item 
  have D_twin := ok_twin (P := l.prog) (w := w) (base := base) A_twin D_draw 
  have D_doubled := ok_doubled (P := l.prog) (w := w) (base := base) A_doubled b_len b_list b_range D_draw D_twin 
  have D_turned := ok_turned (P := l.prog) (w := w) (base := base) A_turned b_len b_range D_draw 
  exact ok_law (P := l.prog) (w := w) (base := base) F_law T_Result b_all b_any b_len nf_NoneType_Result nf_bool_Result nf_int_Result nf_list_Result nf_str_Result nf_tuple_Result D_Result___init__ D_Result___eq__ D_Result_rows D_Result_text D_Result___len__ D_Result___eq___a D_source D_draw D_raw_rows D_turned D_doubled D_item D_canonical law_pure
end Mm
open PySem PySem.W PyProof.Rows
set_option maxRecDepth 100000 in
set_option maxHeartbeats 0 in
theorem PySem.Challenge.cw_midfall_k53_results_equal_holds : PySem.Challenge.rw_midfall_k53_results_equal.Holds := by
  w_on; o_law; k_head; (case hw => w_witness2)
  k_fill
  refine Mf.walkL (l := PySem.Challenge.rw_midfall_k53_results_equal) (lv := 6) (x := "_law_script") rfl rfl ⟨rfl, by decide, by decide⟩ (fun w h Y => PySem.W.kIn_of Y) ?F
  case F =>
    intro w mg fa h KX G hmg
    refine' Mm.all_mk KX G hmg ?z_all ?z_any ?z_bool ?z_enumerate ?z_int ?z_isinstance ?z_len ?z_list ?z_range ?z_str ?z_tuple ?ga_BEYOND ?ga_LETTERS ?ga_MOST_ITEMS ?ga_MOST_ROWS ?cA_Result ?pg_Result ?hd_Result ?po_Result ?sa_Result ?ha_Result ?hn_Result ?ht_Result ?hm_Result ?sf_Result ?ne_Result ?nA_Result_table ?ci_Result ?ty_Result ?nf_NoneType_Result ?nf_bool_Result ?nf_int_Result ?nf_list_Result ?nf_str_Result ?nf_tuple_Result ?a_source ?l_source ?c_source ?k_source ?a_draw ?l_draw ?c_draw ?k_draw ?a_name ?l_name ?c_name ?k_name ?a_names ?l_names ?c_names ?k_names ?a_is_number ?l_is_number ?c_is_number ?k_is_number ?a_is_name ?l_is_name ?c_is_name ?k_is_name ?a_is_item ?l_is_item ?c_is_item ?k_is_item ?a_check_rows ?l_check_rows ?c_check_rows ?k_check_rows ?a_row_shape ?l_row_shape ?c_row_shape ?k_row_shape ?a_classes_of ?l_classes_of ?c_classes_of ?k_classes_of ?a_canonical_rows ?l_canonical_rows ?c_canonical_rows ?k_canonical_rows ?a_Result___init__ ?i_Result___init__ ?l_Result___init__ ?c_Result___init__ ?k_Result___init__ ?mk_Result___init__ ?kc_Result___init__ ?a_Result_rows ?i_Result_rows ?l_Result_rows ?c_Result_rows ?k_Result_rows ?a_Result___eq__ ?i_Result___eq__ ?l_Result___eq__ ?c_Result___eq__ ?k_Result___eq__ ?a_Result___len__ ?i_Result___len__ ?l_Result___len__ ?c_Result___len__ ?k_Result___len__ ?a_item_text ?l_item_text ?c_item_text ?k_item_text ?a_Result_text ?i_Result_text ?l_Result_text ?c_Result_text ?k_Result_text ?a_classes ?l_classes ?c_classes ?k_classes ?a_canonical ?l_canonical ?c_canonical ?k_canonical ?a_number ?l_number ?c_number ?k_number ?a_item ?l_item ?c_item ?k_item ?a_raw_rows ?l_raw_rows ?c_raw_rows ?k_raw_rows ?a_twin ?l_twin ?c_twin ?k_twin ?a_doubled ?l_doubled ?c_doubled ?k_doubled ?a_turned ?l_turned ?c_turned ?k_turned ?a_law ?l_law ?c_law ?k_law
    (case z_all => k_is)
    (case z_any => k_is)
    (case z_bool => k_is)
    (case z_enumerate => k_is)
    (case z_int => k_is)
    (case z_isinstance => k_is)
    (case z_len => k_is)
    (case z_list => k_is)
    (case z_range => k_is)
    (case z_str => k_is)
    (case z_tuple => k_is)
    (case ga_BEYOND => k_is)
    (case ga_LETTERS => k_is)
    (case ga_MOST_ITEMS => k_is)
    (case ga_MOST_ROWS => k_is)
    (case cA_Result => k_is)
    (case pg_Result => k_is)
    (case hd_Result => k_is)
    (case po_Result => k_is)
    (case sa_Result => k_is)
    (case ha_Result => k_is)
    (case hn_Result => k_is)
    (case ht_Result => k_is)
    (case hm_Result => k_is)
    (case sf_Result => k_is)
    (case ne_Result => k_is)
    (case nA_Result_table => k_is)
    (case ci_Result => k_is)
    (case ty_Result => k_is)
    (case nf_NoneType_Result => k_is)
    (case nf_bool_Result => k_is)
    (case nf_int_Result => k_is)
    (case nf_list_Result => k_is)
    (case nf_str_Result => k_is)
    (case nf_tuple_Result => k_is)
    (case a_source => k_is)
    (case l_source => k_is)
    (case c_source => k_is)
    (case k_source => k_is)
    (case a_draw => k_is)
    (case l_draw => k_is)
    (case c_draw => k_is)
    (case k_draw => k_is)
    (case a_name => k_is)
    (case l_name => k_is)
    (case c_name => k_is)
    (case k_name => k_is)
    (case a_names => k_is)
    (case l_names => k_is)
    (case c_names => k_is)
    (case k_names => k_is)
    (case a_is_number => k_is)
    (case l_is_number => k_is)
    (case c_is_number => k_is)
    (case k_is_number => k_is)
    (case a_is_name => k_is)
    (case l_is_name => k_is)
    (case c_is_name => k_is)
    (case k_is_name => k_is)
    (case a_is_item => k_is)
    (case l_is_item => k_is)
    (case c_is_item => k_is)
    (case k_is_item => k_is)
    (case a_check_rows => k_is)
    (case l_check_rows => k_is)
    (case c_check_rows => k_is)
    (case k_check_rows => k_is)
    (case a_row_shape => k_is)
    (case l_row_shape => k_is)
    (case c_row_shape => k_is)
    (case k_row_shape => k_is)
    (case a_classes_of => k_is)
    (case l_classes_of => k_is)
    (case c_classes_of => k_is)
    (case k_classes_of => k_is)
    (case a_canonical_rows => k_is)
    (case l_canonical_rows => k_is)
    (case c_canonical_rows => k_is)
    (case k_canonical_rows => k_is)
    (case a_Result___init__ => k_is)
    (case i_Result___init__ => k_is)
    (case l_Result___init__ => k_is)
    (case c_Result___init__ => k_is)
    (case k_Result___init__ => k_is)
    (case mk_Result___init__ => k_is)
    (case kc_Result___init__ => k_is)
    (case a_Result_rows => k_is)
    (case i_Result_rows => k_is)
    (case l_Result_rows => k_is)
    (case c_Result_rows => k_is)
    (case k_Result_rows => k_is)
    (case a_Result___eq__ => k_is)
    (case i_Result___eq__ => k_is)
    (case l_Result___eq__ => k_is)
    (case c_Result___eq__ => k_is)
    (case k_Result___eq__ => k_is)
    (case a_Result___len__ => k_is)
    (case i_Result___len__ => k_is)
    (case l_Result___len__ => k_is)
    (case c_Result___len__ => k_is)
    (case k_Result___len__ => k_is)
    (case a_item_text => k_is)
    (case l_item_text => k_is)
    (case c_item_text => k_is)
    (case k_item_text => k_is)
    (case a_Result_text => k_is)
    (case i_Result_text => k_is)
    (case l_Result_text => k_is)
    (case c_Result_text => k_is)
    (case k_Result_text => k_is)
    (case a_classes => k_is)
    (case l_classes => k_is)
    (case c_classes => k_is)
    (case k_classes => k_is)
    (case a_canonical => k_is)
    (case l_canonical => k_is)
    (case c_canonical => k_is)
    (case k_canonical => k_is)
    (case a_number => k_is)
    (case l_number => k_is)
    (case c_number => k_is)
    (case k_number => k_is)
    (case a_item => k_is)
    (case l_item => k_is)
    (case c_item => k_is)
    (case k_item => k_is)
    (case a_raw_rows => k_is)
    (case l_raw_rows => k_is)
    (case c_raw_rows => k_is)
    (case k_raw_rows => k_is)
    (case a_twin => k_is)
    (case l_twin => k_is)
    (case c_twin => k_is)
    (case k_twin => k_is)
    (case a_doubled => k_is)
    (case l_doubled => k_is)
    (case c_doubled => k_is)
    (case k_doubled => k_is)
    (case a_turned => k_is)
    (case l_turned => k_is)
    (case c_turned => k_is)
    (case k_turned => k_is)
    (case a_law => k_is)
    (case l_law => k_is)
    (case c_law => k_is)
    (case k_law => k_is)
#print axioms PySem.Challenge.cw_midfall_k53_results_equal_holds
