import PyProof.Rows.All
import Wide.All
import OpenK.AllK
import Wide.FinOn
import HandS.ForMost
import HandS.Wide
import HandS.Walk
import HandS.IsInst
import HandS.More
import HandS.RaiseMore
import HandS.Codes
import HandS.Star
import HandS.Deep
import HandS.SetBool
import HandS.SlotsOwn
import HandS.Defaults
import KE.GoesEnumKw
import KE.GoesMore
import HandS.DictComp
import HandS.FStr
import HandS.MakeKwOnly
import HandS.Zip
import HandS.Nested
import HandS.ExcInit
import HandS.ClsMeth
import KE.KExcSuper
import HandS.ExcOwn
import HandS.ExcField
import HandS.CallSlots
import HandS.TupAny
import HandS.EndBits
import KE.RegKSuper
import PySem.Challenge.RW_midfall_k14_cycles_never_fail
set_option Elab.async false
set_option linter.all false
set_option maxRecDepth 100000
set_option maxHeartbeats 4000000
namespace Mf
open PySem L2

/-! ### heaps: all but one object stands -/
def Kp (p : Addr) (H H' : Hp) : Prop := ∀ b o, b ≠ p → H b = some o → H' b = some o
theorem Kp.refl (p : Addr) (H : Hp) : Kp p H H := fun _ _ _ h => h
theorem Kp.trans {p : Addr} {H H1 H2 : Hp} (a : Kp p H H1) (b : Kp p H1 H2) : Kp p H H2 := fun x o n h => b x o n (a x o n h)
theorem Kp.of {p : Addr} {H H' : Hp} (e : Same H H') : Kp p H H' := fun b o _ h => e b o h
theorem Kp.new {p q : Addr} {H : Hp} {o : HO} (h : H q = none) : Kp p H (upd H q o) := fun b u _ e => by
  rw [upd_ne (ne_of_none e h)]; exact e
theorem Kp.upd {p : Addr} {H : Hp} {o : HO} : Kp p H (L2.upd H p o) := fun b u n e => by
  rw [upd_ne n]; exact e
theorem Same.new {q : Addr} {H : Hp} {o : HO} (h : H q = none) : Same H (upd H q o) := fun b u e => by
  rw [upd_ne (ne_of_none e h)]; exact e
/-- a local object may change -/
theorem Same.mut {H H' : Hp} {p : Addr} {o : HO} (e : Same H H') (h : H p = none) : Same H (upd H' p o) := fun a u ha => by
  rw [upd_ne (ne_of_none ha h)]; exact e a u ha
theorem Kp.mut {H H' : Hp} {q p : Addr} {o : HO} (e : Kp q H H') (h : H p = none) : Kp q H (L2.upd H' p o) := fun a u n ha => by
  rw [upd_ne (ne_of_none ha h)]; exact e a u n ha
theorem _root_.L2.Same.tr {H H1 H2 : Hp} (a : Same H H1) (b : Same H1 H2) : Same H H2 := fun x o h => b x o (a x o h)
theorem _root_.L2.Same.rf (H : Hp) : Same H H := fun _ _ h => h
def hid (p : Addr) (H : Hp) : Hp := fun b => if b = p then none else H b
theorem hid_ne {p b : Addr} {H : Hp} (h : b ≠ p) : hid p H b = H b := by unfold hid; rw [if_neg h]
theorem hid_some {p b : Addr} {H : Hp} {o : HO} (h : hid p H b = some o) : b ≠ p ∧ H b = some o := by
  unfold hid at h
  by_cases e : b = p
  · rw [if_pos e] at h; cases h
  · rw [if_neg e] at h; exact ⟨e, h⟩
theorem hid_same {p : Addr} {H : Hp} : Same (hid p H) H := fun _ _ h => (hid_some h).2
theorem Kp.hid {p : Addr} {H H' : Hp} (e : Kp p H H') : Same (hid p H) (hid p H') := fun b o h => by
  obtain ⟨n, q⟩ := hid_some h
  rw [hid_ne n]; exact e b o n q

/-! ### defs as they stand, and what they do -/
def DefAt (K : PySem.W.Frag) (mg : Str → Option Value) (x : Str) (st : Stmt) (ps : List Str) : Prop := ∃ f fd, Fun K x x st f fd ∧ mg x = some (.ref f) ∧ Binds K fd ps []
def Does (P : Program) (w : World) (K : PySem.W.Frag) (mg : Str → Option Value) (base : Heap) (CX : CXT) (lv : Nat) (x : Str) (ps : List Str) (sp : Sp) : Prop :=
  ∃ f fd, FnOk P w K mg base CX lv f fd ps sp ∧ mg x = some (.ref f) ∧ PySem.W.keepIn K (.ref f) = true ∧ Binds K fd ps []
theorem defAt_mk {K : PySem.W.Frag} {h : Heap} {mg : Str → Option Value} {x : Str} {st : Stmt} {ps : List Str} {f : Addr} {oc : Value} {od an : Option Addr} {osl : Array (Option Value)} {kV doc pm cdv ct : Value} (X : K.In h) (G : h.Ns mainGlobals mg)
    (a : PySem.W.nsIn K mainGlobals x = some (some (.ref f))) (l : K.lookup f = some ⟨oc, od, .func (PySem.W.fnOf x x (defArgs st) (defBody st) (defScope st) .none kV doc pm an cdv ct), osl⟩)
    (c : PySem.W.codeIn K cdv x = true) (k : PySem.W.keepIn K (.ref f) = true)
    (hb : ∀ (kV doc pm : Value) (an : Option Addr) (cdv ct : Value) (us : List Value), us.length = ps.length → bindArgs (PySem.W.fnOf x x (defArgs st) (defBody st) (defScope st) .none kV doc pm an cdv ct) ⟨us, []⟩ = pure (ps.zip us)) : DefAt K mg x st ps :=
  ⟨f, _, fun_mk l c k, PySem.W.mg_of X G a, (fun_mk l c k).binds hb⟩
/-! ### the law's own source of draws -/
/-- at p: the great number, the seed, the count -/
def Src (H : Hp) (p : Addr) (c : Nat) : Prop := ∃ g s : Int, H p = some (.lst [.int g, .int s, .int (c : Int)]) ∧ 0 ≤ s ∧ s < 2147483647
theorem Src.same {H H' : Hp} {p : Addr} {c : Nat} (h : Src H p c) (e : Same H H') : Src H' p c := by
  obtain ⟨g, s, h1, h2⟩ := h
  exact ⟨g, s, e _ _ h1, h2⟩
def LIM : Nat := 1000000000

def sp_source (K : PySem.W.Frag) : Sp := fun vs H Q _ => ∃ (a : Addr) (ns : List Int), vs = [.ref a] ∧ SqL K H a (ns.map V.int) ∧ ns.length ≤ 63 ∧
  ∀ p H', Same H H' → H p = none → Src H' p 0 → Q (.ref p) H'
def sp_draw : Sp := fun vs H Q _ => ∃ (p : Addr) (c : Nat) (m : Int), vs = [.ref p, .int m] ∧ Src H p c ∧ c < LIM ∧ 0 < m ∧ m < 2 ^ 1000 ∧
  ∀ (v : Int) (c' : Nat) (o : HO), 0 ≤ v → v < m → c' ≤ c + 1 → Src (upd H p o) p c' → Q (.int v) (upd H p o)
def sp_law (K : PySem.W.Frag) : Sp := fun vs H Q _ => ∃ (a : Addr) (ns : List Int), vs = [.ref a] ∧ SqL K H a (ns.map V.int) ∧ ns.length ≤ 63 ∧ ∀ H', Q (.bl true) H'
theorem use_source {K : PySem.W.Frag} {a : Addr} {ns : List Int} {H : Hp} {Q : VK} {E : XK} (h : SqL K H a (ns.map V.int)) (hl : ns.length ≤ 63) (g : ∀ p H', Same H H' → H p = none → Src H' p 0 → Q (.ref p) H') : sp_source K ([.ref a] ++ []) H Q E := ⟨a, ns, rfl, h, hl, g⟩
end Mf

namespace Mf
open PySem L2 PyProof.Rows
/-! ### a reading, step by step, from what is known -/
section
variable {K : PySem.W.Frag} {σ : L2.St} {H : Hp} {Q : VK} {QT : Bool → Hp → Prop} {QA : List V → Hp → Prop} {D : Ends} {ta tb tc te : TE} {tt tu : TT} {tr tA : TA} {t1 t2 : TS} {i j : Int} {v x y : V} {b : Bool} {r r' : R2} {n m : Nat} {p q a : Addr} {xs ys : List V}
theorem w_var {k : Nat} (h : σ[k]? = some (some v)) (g : Q v H) : tVar k σ H Q := ⟨v, h, g⟩
theorem w_c (g : Q v H) : tC v σ H Q := g
theorem w_op (g : ta σ H fun x H1 => tb σ H1 fun y H2 => r x y H2 Q) : tOp r ta tb σ H Q := g
theorem w_un {r : V → Hp → VK → Prop} (g : ta σ H fun x H1 => r x H1 Q) : tUn r ta σ H Q := g
theorem w_I0 {f : Int → Int → V} (g : Q (f i j) H) : rI0 f (.int i) (.int j) H Q := ⟨i, j, rfl, rfl, g⟩
theorem w_I {C : Int → Int → Prop} {f : Int → Int → V} (h : C i j) (g : Q (f i j) H) : rI C f (.int i) (.int j) H Q := ⟨i, j, rfl, rfl, h, g⟩
theorem w_U {f : Int → V} (g : Q (f i) H) : rU f (.int i) H Q := ⟨i, rfl, g⟩
theorem w_eq (h : scal x y = true) (g : Q (.bl (decide (x = y))) H) : rEq x y H Q := ⟨h, g⟩
theorem w_ne (h : scal x y = true) (g : Q (.bl (!decide (x = y))) H) : rNe x y H Q := ⟨h, g⟩
theorem w_test (g : te σ H fun x H1 => ∃ k, x = .bl k ∧ QT k H1) : tTest te σ H QT := g
theorem w_tb (g : te σ H fun x H1 => ∃ k, x = .bl k ∧ QT k H1) : tB te σ H QT := g
theorem w_bl {R : Bool → Prop} (g : R b) : ∃ k, V.bl b = .bl k ∧ R k := ⟨b, rfl, g⟩
theorem w_and (g : tt σ H fun c H1 => if c = true then tu σ H1 QT else QT false H1) : tAnd tt tu σ H QT := g
theorem w_or (g : tt σ H fun c H1 => if c = true then QT true H1 else tu σ H1 QT) : tOr tt tu σ H QT := g
theorem w_not (g : tt σ H fun c H1 => QT (!c) H1) : tNot tt σ H QT := g
theorem w_yes (g : QT true H) : tYes σ H QT := g
theorem w_andV (g : ta σ H fun x H1 => ∃ c, x = .bl c ∧ if c = true then tb σ H1 Q else Q (.bl false) H1) : tAndV ta tb σ H Q := g
theorem w_orV (g : ta σ H fun x H1 => ∃ c, x = .bl c ∧ if c = true then Q (.bl true) H1 else tb σ H1 Q) : tOrV ta tb σ H Q := g
theorem w_notV (g : ta σ H fun x H1 => ∃ c, x = .bl c ∧ Q (.bl (!c)) H1) : tNotV ta σ H Q := g
theorem w_ifE (g : tt σ H fun c H1 => if c = true then ta σ H1 Q else tb σ H1 Q) : tIf tt ta tb σ H Q := g
theorem w_chain (g : ta σ H fun x H1 => tb σ H1 fun y H2 => r x y H2 fun z H3 => ∃ k, z = .bl k ∧ (if k = true then tc σ H3 fun w' H4 => r' y w' H4 Q else Q (.bl false) H3)) : tChain r r' ta tb tc σ H Q := g

variable {nx bk ct : L2.St → Hp → Prop} {rt : VK}
theorem w_next (g : nx σ H) : tNext ⟨nx, rt, bk, ct⟩ σ H := g
theorem w_seq (g : t1 ⟨t2 ⟨nx, rt, bk, ct⟩, rt, bk, ct⟩ σ H) : tSeq t1 t2 ⟨nx, rt, bk, ct⟩ σ H := g
theorem w_cut (Mid : L2.St → Hp → Prop) (h : t1 ⟨Mid, rt, bk, ct⟩ σ H) (g : ∀ σ' H', Mid σ' H' → t2 ⟨nx, rt, bk, ct⟩ σ' H') : C8.tCut t1 t2 ⟨nx, rt, bk, ct⟩ σ H := ⟨Mid, h, g⟩
theorem w_drop (g : te σ H fun _ H1 => nx σ H1) : tDrop te ⟨nx, rt, bk, ct⟩ σ H := g
theorem w_ret (g : te σ H rt) : tRet te ⟨nx, rt, bk, ct⟩ σ H := g
theorem w_retN (g : rt .non H) : tRetN ⟨nx, rt, bk, ct⟩ σ H := g
theorem w_cont (g : ct σ H) : tCont ⟨nx, rt, bk, ct⟩ σ H := g
theorem w_brk (g : bk σ H) : tBreak ⟨nx, rt, bk, ct⟩ σ H := g
theorem w_ifS (g : tt σ H fun b H1 => if b = true then t1 D σ H1 else t2 D σ H1) : tIfS tt t1 t2 D σ H := g
theorem w_asg {gg : TG} (g : te σ H fun x H1 => gg x σ H1 nx) : tAsg te gg ⟨nx, rt, bk, ct⟩ σ H := g
theorem w_fix (g : t1 ⟨nx, rt, bk, ct⟩ σ H) (e : D = ⟨nx, rt, bk, ct⟩) : t1 D σ H := by rw [e]; exact g
theorem w_if {c A B : Prop} [Decidable c] (h1 : c → A) (h2 : ¬ c → B) : if (decide c) = true then A else B := by
  by_cases h : c
  · rw [decide_eq_true h]; exact iteT (h1 h)
  · rw [decide_eq_false h]; exact iteF (h2 h)
theorem w_ifn {c A B : Prop} [Decidable c] (h1 : ¬ c → A) (h2 : c → B) : if (!decide c) = true then A else B := by
  by_cases h : c
  · rw [decide_eq_true h]; exact iteF (h2 h)
  · rw [decide_eq_false h]; exact iteT (h1 h)
theorem w_ifb {c : Bool} {A B : Prop} (h1 : c = true → A) (h2 : c = false → B) : if c = true then A else B := by
  cases c
  · exact iteF (h2 rfl)
  · exact iteT (h1 rfl)
theorem w_aug {k : Nat} {ti : TIp} (h : σ[k]? = some (some v)) (g : te σ H fun y H1 => ti v y H1 fun z H2 => nx (σ.set k (some z)) H2) : tAug k te ti ⟨nx, rt, bk, ct⟩ σ H := ⟨v, h, g⟩
theorem w_ipI {f : Int → Int → Int} (g : Q (.int (f i j)) H) : ipI f (.int i) (.int j) H Q := ⟨i, j, rfl, rfl, g⟩
theorem w_par {k l : Nat} (g : tA σ H fun vs H1 => ∃ v w, vs = [v, w] ∧ nx ((σ.set k (some v)).set l (some w)) H1) : tPar k l tA ⟨nx, rt, bk, ct⟩ σ H := g
theorem w_fld {f : Str} (g : ta σ H fun x H1 => ∃ a C dx fs v, x = .ref a ∧ H1 a = some (.ins C dx fs) ∧ Cls K C ∧ NoAttr K C f ∧ fs.lookup f = some v ∧ Q v H1) : tFld K ta f σ H Q := g
theorem w_gname {k : Nat} {R : L2.St → Hp → Prop} (g : R (σ.set k (some v)) H) : gName k v σ H R := g
theorem w_gnil {R : L2.St → Hp → Prop} (g : R σ H) : gNil [] σ H R := ⟨rfl, g⟩
theorem w_gcons {t : TG} {u : TGs} {R : L2.St → Hp → Prop} (g : t v σ H fun σ' H' => u xs σ' H' R) : gCons t u (v :: xs) σ H R := ⟨v, xs, rfl, g⟩
theorem w_gtup {t : TGs} {R : L2.St → Hp → Prop} (h : SqT K H a xs) (hn : xs.length = n) (g : t xs σ H R) : gTup K n t (.ref a) σ H R := ⟨a, xs, rfl, h, hn, g⟩
theorem w_gsub {to ti : TE} {t : TSet} {R : L2.St → Hp → Prop} (g : to σ H fun o H1 => ti σ H1 fun i H2 => t o i v H2 fun H3 => R σ H3) : gSub to ti t v σ H R := g
theorem w_setL {k : Int} {R : Hp → Prop} (h : H p = some (.lst xs)) (hk : ixN xs.length k = some n) (g : R (upd H p (.lst (xs.set n v)))) : rSetL (.ref p) (.int k) v H R := ⟨p, xs, k, n, rfl, rfl, h, hk, g⟩
theorem w_two {R : V → V → Prop} (g : R x y) : ∃ v w, [x, y] = [v, w] ∧ R v w := ⟨x, y, rfl, g⟩
theorem w_nil (g : QA [] H) : tNil σ H QA := g
theorem w_cons (g : ta σ H fun x H1 => tr σ H1 fun xs H2 => QA (x :: xs) H2) : tCons ta tr σ H QA := g
theorem w_tup (g : tA σ H fun xs H1 => xs.length ≤ sizeLine ∧ ∀ p, H1 p = none → Q (.ref p) (upd H1 p (.tup xs))) : tTup tA σ H Q := g
theorem w_lst (g : tA σ H fun xs H1 => xs.length ≤ sizeLine ∧ ∀ p, H1 p = none → Q (.ref p) (upd H1 p (.lst xs))) : tLst tA σ H Q := g
theorem w_call {sp : Sp} {dvs : List V} {E : XK} (g : tA σ H fun vs H1 => sp (vs ++ dvs) H1 Q E) : tCall sp dvs E tA σ H Q := g
theorem w_cb {r : List V → Hp → VK → Prop} (g : tA σ H fun vs H1 => r vs H1 Q) : tCB r tA σ H Q := g
theorem w_bm {T : String} {r : V → List V → Hp → VK → Prop} (g : ta σ H fun x H1 => tyV K T x H1 ∧ tA σ H1 fun xs H2 => r x xs H2 Q) : tBM K T r ta tA σ H Q := g
theorem w_bm0 {T : String} {r : V → List V → Hp → VK → Prop} (g : ta σ H fun x H1 => tyV K T x H1 ∧ r x [] H1 Q) : tBM0 K T r ta σ H Q := g
theorem w_m1 {r : V → List V → Hp → VK → Prop} (g : ta σ H fun x H1 => (∃ a, x = .str a) ∧ tb σ H1 fun y H2 => r x [y] H2 Q) : tM1 r ta tb σ H Q := g
theorem w_ixL (h : SqL K H p xs) (ha : atI xs i = some v) (g : Q v H) : rIxL K (.ref p) (.int i) H Q := ⟨p, xs, i, v, rfl, rfl, h, ha, g⟩
theorem w_ixT (h : SqT K H p xs) (ha : atI xs i = some v) (g : Q v H) : rIxT K (.ref p) (.int i) H Q := ⟨p, xs, i, v, rfl, rfl, h, ha, g⟩
theorem w_append (h : H p = some (.lst xs)) (hl : xs.length < sizeLine) (g : Q .non (upd H p (.lst (xs ++ [v])))) : rAppend (.ref p) [v] H Q := ⟨p, xs, v, rfl, rfl, h, hl, g⟩
end

/-! ### rules by a name of ours -/
section
variable {X : Cx}
def rInt1 : List V → Hp → VK → Prop := fun xs H Q => ∃ i, xs = [.int i] ∧ Q (.int i) H
theorem c_int1 : CallR X (.type "int") rInt1 := fun pins s σ H xs us Q I r ⟨i, e, q⟩ => call_int1 pins s σ H xs us Q I r (.inl ⟨i, e, q⟩)
def rStrI : List V → Hp → VK → Prop := fun xs H Q => ∃ i, xs = [.int i] ∧ i.natAbs.log2 < 1920 ∧ Q (.str (toString i)) H
theorem c_strI : CallR X (.type "str") rStrI := call_str_int
def rStrS : List V → Hp → VK → Prop := fun xs H Q => ∃ a, xs = [.str a] ∧ Q (.str a) H
theorem c_strS : CallR X (.type "str") rStrS := SkE.call_str_str
def rLenQ (K : PySem.W.Frag) : List V → Hp → VK → Prop := fun xs H Q => ∃ p ys, xs = [.ref p] ∧ (SqL K H p ys ∨ SqT K H p ys) ∧ Q (.int ys.length) H
theorem c_len : CallR X (.builtin "len") (rLenQ X.K) := call_len_seq
def rLenS : List V → Hp → VK → Prop := fun xs H Q => ∃ z, xs = [.str z] ∧ z.length ≤ sizeLine ∧ Q (.int z.length) H
theorem c_lenS : CallR X (.builtin "len") rLenS := call_len_str
def rLenD : List V → Hp → VK → Prop := fun xs H Q => ∃ a kvs, xs = [V.ref a] ∧ H a = some (.dK kvs) ∧ Q (.int kvs.length) H
theorem c_lenD : CallR X (.builtin "len") rLenD := call_lenD
def rListQ (K : PySem.W.Frag) : List V → Hp → VK → Prop := fun xs H Q => ∃ p ys, xs = [.ref p] ∧ (SqL K H p ys ∨ SqT K H p ys) ∧ ∀ l, H l = none → Q (.ref l) (upd H l (.lst ys))
theorem c_list : CallR X (.type "list") (rListQ X.K) := call_list_of
def rTupL (K : PySem.W.Frag) : List V → Hp → VK → Prop := fun xs H Q => ∃ p ys, xs = [.ref p] ∧ SqL K H p ys ∧ ∀ l, H l = none → Q (.ref l) (upd H l (.tup ys))
theorem c_tupL : CallR X (.type "tuple") (rTupL X.K) := fun pins s σ H xs us Q I r ⟨p, ys, e, h, q⟩ => call_tuple_of pins s σ H xs us Q I r ⟨p, ys, e, .inl ⟨h, q⟩⟩
def rTupT (K : PySem.W.Frag) : List V → Hp → VK → Prop := fun xs H Q => ∃ p ys, xs = [.ref p] ∧ SqT K H p ys ∧ Q (.ref p) H
theorem c_tupT : CallR X (.type "tuple") (rTupT X.K) := fun pins s σ H xs us Q I r ⟨p, ys, e, h, q⟩ => call_tuple_of pins s σ H xs us Q I r ⟨p, ys, e, .inr ⟨h, q⟩⟩
def rAddS : R2 := fun x y H Q => ∃ i j, x = .str i ∧ y = .str j ∧ i.length + j.length ≤ sizeLine ∧ Q (.str (i ++ j)) H
theorem o_addS : OpR X (binaryOp .Add) rAddS := op_add_str
def rInC (neg : Bool) : R2 := fun x y H Q => ∃ (c : Nat) (z : Str), x = .str ⟨#[c]⟩ ∧ y = .str z ∧ Q (.bl (if neg then !decide (c ∈ z.cps.toList) else decide (c ∈ z.cps.toList))) H
theorem o_inC : OpR X (compareOp .In) (rInC false) := op_in_sign
theorem o_niC : OpR X (compareOp .NotIn) (rInC true) := op_notIn_sign
def rIsN : R2 := fun x y H Q => y = .non ∧ Q (.bl (decide (x = .non))) H
def rNotN : R2 := fun x y H Q => y = .non ∧ Q (.bl (!decide (x = .non))) H
theorem o_isN : OpR X (compareOp .Is) rIsN := op_isN
theorem o_notN : OpR X (compareOp .IsNot) rNotN := op_notN
def rMax2 : List V → Hp → VK → Prop := fun xs H Q => ∃ i j, xs = [.int i, .int j] ∧ Q (.int (if j > i then j else i)) H
theorem c_max2 (hc : X.calm = true) : CallR X (.builtin "max") rMax2 := call_max2 hc
def rInsert : V → List V → Hp → VK → Prop := fun x vs H Q => ∃ (l : Addr) (xs : List V) (i : Int) (y : V), x = .ref l ∧ vs = [.int i, y] ∧ H l = some (.lst xs) ∧ xs.length < sizeLine ∧ 0 ≤ i ∧ i < 2 ^ 63 ∧ Q .non (upd H l (.lst (xs.take i.toNat ++ [y] ++ xs.drop i.toNat)))
theorem m_insert : MtR X "list.insert" rInsert := mt_insert
def rJoin (K : PySem.W.Frag) : V → List V → Hp → VK → Prop := fun x xs H Q => ∃ a p, ∃ ys : List Str, x = .str a ∧ xs = [.ref p] ∧ (SqL K H p (ys.map V.str) ∨ SqT K H p (ys.map V.str)) ∧ (ys.map (·.length)).sum + ys.length * a.length ≤ 16777216 ∧ Q (.str (Txt.join a ys)) H
theorem e_join {o e : Expr} {to te : TE} {apos pos : Pos} (ho : PE X o to) (he : PE X e te) (hs : starEach [e] X.env = [(false, eval e X.env)] := by rfl) (hbase : attributeBase o "join" X.env (eval o X.env) = eval o X.env := by rfl) (hline : (apos.endLine == pos.line) = true := by rfl) :
    PE X (.Call (.Attribute o "join" apos) [e] [] pos) (tM1 (rJoin X.K) to te) := pe_join ho he hs hbase hline
end
section
variable {K : PySem.W.Frag} {σ : L2.St} {H : Hp} {Q : VK} {i j : Int} {p q : Addr} {xs ys : List V} {v x y : V} {z z' : Str} {b : Bool}
theorem w_int1 (g : Q (.int i) H) : rInt1 [.int i] H Q := ⟨i, rfl, g⟩
theorem w_strI (h : i.natAbs.log2 < 1920) (g : Q (.str (toString i)) H) : rStrI [.int i] H Q := ⟨i, rfl, h, g⟩
theorem w_strS (g : Q (.str z) H) : rStrS [.str z] H Q := ⟨z, rfl, g⟩
theorem w_lenL (h : SqL K H p ys) (g : Q (.int ys.length) H) : rLenQ K [.ref p] H Q := ⟨p, ys, rfl, .inl h, g⟩
theorem w_lenT (h : SqT K H p ys) (g : Q (.int ys.length) H) : rLenQ K [.ref p] H Q := ⟨p, ys, rfl, .inr h, g⟩
theorem w_lenS (h : z.length ≤ sizeLine) (g : Q (.int z.length) H) : rLenS [.str z] H Q := ⟨z, rfl, h, g⟩
theorem w_lenD {kvs : List (Key × V)} (h : H p = some (.dK kvs)) (g : Q (.int kvs.length) H) : rLenD [.ref p] H Q := ⟨p, kvs, rfl, h, g⟩
theorem w_listL (h : SqL K H p ys) (g : ∀ l, H l = none → Q (.ref l) (upd H l (.lst ys))) : rListQ K [.ref p] H Q := ⟨p, ys, rfl, .inl h, g⟩
theorem w_listT (h : SqT K H p ys) (g : ∀ l, H l = none → Q (.ref l) (upd H l (.lst ys))) : rListQ K [.ref p] H Q := ⟨p, ys, rfl, .inr h, g⟩
theorem w_tupL (h : SqL K H p ys) (g : ∀ l, H l = none → Q (.ref l) (upd H l (.tup ys))) : rTupL K [.ref p] H Q := ⟨p, ys, rfl, h, g⟩
theorem w_tupT (h : SqT K H p ys) (g : Q (.ref p) H) : rTupT K [.ref p] H Q := ⟨p, ys, rfl, h, g⟩
theorem w_addS (h : z.length + z'.length ≤ sizeLine) (g : Q (.str (z ++ z')) H) : rAddS (.str z) (.str z') H Q := ⟨z, z', rfl, rfl, h, g⟩
theorem w_inC {c : Nat} (g : Q (.bl (decide (c ∈ z.cps.toList))) H) : rInC false (.str ⟨#[c]⟩) (.str z) H Q := ⟨c, z, rfl, rfl, g⟩
theorem w_niC {c : Nat} (g : Q (.bl (!decide (c ∈ z.cps.toList))) H) : rInC true (.str ⟨#[c]⟩) (.str z) H Q := ⟨c, z, rfl, rfl, g⟩
theorem w_isN (g : Q (.bl (decide (x = .non))) H) : rIsN x .non H Q := ⟨rfl, g⟩
theorem w_notN (g : Q (.bl (!decide (x = .non))) H) : rNotN x .non H Q := ⟨rfl, g⟩
theorem w_max2 (g : Q (.int (if j > i then j else i)) H) : rMax2 [.int i, .int j] H Q := ⟨i, j, rfl, g⟩
theorem w_insert (h : H p = some (.lst xs)) (hl : xs.length < sizeLine) (h0 : 0 ≤ i) (h1 : i < 2 ^ 63) (g : Q .non (upd H p (.lst (xs.take i.toNat ++ [y] ++ xs.drop i.toNat)))) : rInsert (.ref p) [.int i, y] H Q := ⟨p, xs, i, y, rfl, rfl, h, hl, h0, h1, g⟩
theorem w_clear (h : H p = some (.lst xs)) (g : Q .non (upd H p (.lst []))) : rClear (.ref p) [] H Q := ⟨p, xs, rfl, rfl, h, g⟩
theorem w_ixS {c : Nat} (h : z.length ≤ sizeLine) (ha : atI z.cps.toList i = some c) (g : Q (.str ⟨#[c]⟩) H) : rIxS (.str z) (.int i) H Q := ⟨z, i, c, rfl, rfl, h, ha, g⟩
theorem w_inL (h : SqL K H p ys) (fx : flatV x = true) (fy : ys.all flatV = true) (g : Q (.bl (inV x ys)) H) : rIn K false x (.ref p) H Q := ⟨p, ys, rfl, .inl h, fx, fy, g⟩
theorem w_inT (h : SqT K H p ys) (fx : flatV x = true) (fy : ys.all flatV = true) (g : Q (.bl (inV x ys)) H) : rIn K false x (.ref p) H Q := ⟨p, ys, rfl, .inr h, fx, fy, g⟩
theorem w_niL (h : SqL K H p ys) (fx : flatV x = true) (fy : ys.all flatV = true) (g : Q (.bl (!inV x ys)) H) : rIn K true x (.ref p) H Q := ⟨p, ys, rfl, .inl h, fx, fy, g⟩
theorem w_niT (h : SqT K H p ys) (fx : flatV x = true) (fy : ys.all flatV = true) (g : Q (.bl (!inV x ys)) H) : rIn K true x (.ref p) H Q := ⟨p, ys, rfl, .inr h, fx, fy, g⟩
theorem w_all {bs : List Bool} (h : SqL K H p (bs.map V.bl)) (g : Q (.bl (bs.all id)) H) : rAll K [.ref p] H Q := ⟨p, bs, rfl, h, g⟩
theorem w_any {bs : List Bool} (h : SqL K H p (bs.map V.bl)) (g : Q (.bl (bs.any id)) H) : rAny K [.ref p] H Q := ⟨p, bs, rfl, h, g⟩
theorem w_sort {zs : List Str} (h : SqL K H p (zs.map V.str)) (hl : zs.length < 64) (g : ∀ (ys : List Str) (p : Addr), ys.Perm zs → PyProof.Rows.sortedS ys = true → H p = none → Q (.ref p) (upd H p (.lst (ys.map V.str)))) : rSortedS K [.ref p] H Q := ⟨p, zs, rfl, h, hl, g⟩
theorem w_cat (h : H p = some (.lst xs)) (h' : H q = some (.lst ys)) (hl : xs.length + ys.length ≤ sizeLine) (g : ∀ l, H l = none → Q (.ref l) (upd H l (.lst (xs ++ ys)))) : rCat (.ref p) (.ref q) H Q := ⟨p, q, xs, ys, rfl, rfl, h, h', hl, g⟩
theorem w_isi {t u : Value} (hc : ClsV y u) (ht : TyX K H x t) (hk : PySem.W.kitOne K t u = some b) (g : Q (.bl b) H) : rIsi K [x, y] H Q := ⟨x, y, t, u, b, rfl, hc, ht, hk, g⟩
theorem w_join {zs : List Str} (h : SqL K H p (zs.map V.str)) (hl : (zs.map (·.length)).sum + zs.length * z.length ≤ 16777216) (g : Q (.str (Txt.join z zs)) H) : rJoin K (.str z) [.ref p] H Q := ⟨z, p, zs, rfl, rfl, .inl h, hl, g⟩
theorem w_slS {lo hi : Option Int} (h : z.length ≤ sizeLine) (g : Q (.str (cutS z lo hi)) H) : rSlS (.str z) lo hi H Q := ⟨z, rfl, h, g⟩
theorem w_slL {lo hi : Option Int} (h : SqL K H p xs) (g : ∀ l, H l = none → Q (.ref l) (upd H l (.lst (cutV xs lo hi)))) : rSlL K (.ref p) lo hi H Q := ⟨p, xs, rfl, h, g⟩
theorem w_sl {r : V → Option Int → Option Int → Hp → VK → Prop} {te : TE} {tl th : TO} (g : te σ H fun x H1 => tl σ H1 fun l H2 => th σ H2 fun u H3 => r x l u H3 Q) : tSl r te tl th σ H Q := g
theorem w_noP {QO : Option Int → Hp → Prop} (g : QO none H) : tNoPart σ H QO := g
theorem w_part {te : TE} {QO : Option Int → Hp → Prop} (g : te σ H fun x H1 => ∃ i, x = .int i ∧ QO (some i) H1) : tPart te σ H QO := g
theorem w_exI {R : Int → Prop} (g : R i) : ∃ k, V.int i = .int k ∧ R k := ⟨i, rfl, g⟩
theorem w_exS {R : Prop} (g : R) : (∃ a, V.str z = .str a) ∧ R := ⟨⟨z, rfl⟩, g⟩
theorem w_tyL {R : Prop} (h : SqL K H p xs) (g : R) : tyV K "list" (.ref p) H ∧ R := ⟨.inl ⟨rfl, xs, h⟩, g⟩
theorem w_size {R : Prop} {n : Nat} (h : n ≤ sizeLine) (g : R) : n ≤ sizeLine ∧ R := ⟨h, g⟩
theorem w_star {te : TE} {t : TA} {QA : List V → Hp → Prop} (g : te σ H fun x H1 => ∃ p xs, x = V.ref p ∧ (SqT K H1 p xs ∨ SqL K H1 p xs) ∧ t σ H1 fun ys H2 => QA (xs ++ ys) H2) : StX.tStar K te t σ H QA := g
theorem w_stT {R : List V → Prop} (h : SqT K H p xs) (g : R xs) : ∃ p' xs, V.ref p = V.ref p' ∧ (SqT K H p' xs ∨ SqL K H p' xs) ∧ R xs := ⟨p, xs, rfl, .inl h, g⟩
theorem w_iL {tl : TE} {R : It → Hp → Prop} (g : tl σ H fun x H1 => ∃ a, x = .ref a ∧ (∃ xs, SqL K H1 a xs) ∧ R (Itl K a) H1) : iList K tl σ H R := g
theorem w_iT {tl : TE} {R : It → Hp → Prop} (g : tl σ H fun x H1 => ∃ a, x = .ref a ∧ (∃ xs, SqT K H1 a xs) ∧ R (Itt K a) H1) : iTup K tl σ H R := g
theorem w_iLx {R : Addr → Prop} (h : SqL K H p xs) (g : R p) : ∃ a, V.ref p = .ref a ∧ (∃ xs, SqL K H a xs) ∧ R a := ⟨p, rfl, ⟨xs, h⟩, g⟩
theorem w_iTx {R : Addr → Prop} (h : SqT K H p xs) (g : R p) : ∃ a, V.ref p = .ref a ∧ (∃ xs, SqT K H a xs) ∧ R a := ⟨p, rfl, ⟨xs, h⟩, g⟩
end

/-! ### comprehensions and loops, apart from what they walk -/
section
variable {K : PySem.W.Frag} {σ : L2.St} {H : Hp} {Q : VK} {g : TG} {tt : TT} {te : TE} {vs : List Nat} {wi : TI} {J : It} {n : Nat} {G : Hp → Prop} {Y : Nat → Hp → V → Hp → Prop}
/-- one turn of a comprehension: the target, the test, the element; R: what is kept, or none -/
def Turn1 (g : TG) (tt : TT) (te : TE) (vs : List Nat) (σ : L2.St) (x : V) (H : Hp) (R : Option V → Hp → Prop) : Prop :=
  g x (wipe σ vs) H fun σ2 H2 => wipe σ2 vs = wipe σ vs ∧ tt σ2 H2 fun b H3 => if b = true then te σ2 H3 fun y H4 => R (some y) H4 else R none H3
def LcB (J : It) (g : TG) (tt : TT) (te : TE) (vs : List Nat) (σ : L2.St) (Q : VK) (H1 : Hp) : Prop :=
  ∀ D, H1 D = none → ∃ W : Nat → Nat → Hp → Prop, (∃ m, W 0 m (upd H1 D (.lst []))) ∧ ∀ i m H, W i m H →
    (J.stop i H ∧ Q (.ref D) H) ∨ (J.go i H ∧ ∃ Nx : Hp → Prop, (∀ H', Nx H' → ∃ m', m' < m ∧ W (i + 1) m' H') ∧ ∀ x H', J.yld i H x H' → g x (wipe σ vs) H' fun σ2 H2 => wipe σ2 vs = wipe σ vs ∧ tt σ2 H2 fun b H3 =>
      if b = true then te σ2 H3 fun y H4 => ∃ acc, H4 D = some (.lst acc) ∧ acc.length < sizeLine ∧ Nx (upd H4 D (.lst (acc ++ [y]))) else Nx H3)
theorem w_lc (h : wi σ H fun J H1 => LcB J g tt te vs σ Q H1) : tLc wi g tt te vs σ H Q := h
/-- what a turn must leave: the list so far stands at D, and the word holds of the longer one (or of the same, where nothing is kept) -/
def LcR (D : Addr) (P : List V → Hp → Prop) : Option V → Hp → Prop
  | some y, H => ∃ acc, H D = some (.lst acc) ∧ acc.length < sizeLine ∧ ∃ acc', P acc' (upd H D (.lst (acc ++ [y])))
  | none, H => ∃ acc', P acc' H
theorem lcr_some {D : Addr} {P : List V → Hp → Prop} {y : V} {acc : List V} (h : H D = some (.lst acc)) (hl : acc.length < sizeLine) (hp : P (acc ++ [y]) (upd H D (.lst (acc ++ [y])))) : LcR D P (some y) H := ⟨acc, h, hl, _, hp⟩
theorem lcr_none {D : Addr} {P : List V → Hp → Prop} {acc : List V} (hp : P acc H) : LcR D P none H := ⟨acc, hp⟩
/-- an invariant by the turn, the list so far and the heap -/
theorem lcb (w : Walk J n G Y) (Pv : Addr → Nat → List V → Hp → Prop) (h0 : ∀ D, H D = none → Pv D 0 [] (upd H D (.lst [])))
    (hG : ∀ D i acc H', H D = none → i ≤ n → Pv D i acc H' → G H')
    (hs : ∀ D i x acc H1 H2, H D = none → i < n → Pv D i acc H1 → Y i H1 x H2 → Turn1 g tt te vs σ x H2 (LcR D (Pv D (i + 1))))
    (hd : ∀ D acc H', H D = none → Pv D n acc H' → Q (.ref D) H') : LcB J g tt te vs σ Q H := by
  intro D nD
  refine ⟨fun i m H' => m = n - i ∧ i ≤ n ∧ ∃ acc, Pv D i acc H', ⟨n, by simp, Nat.zero_le _, [], h0 D nD⟩, ?_⟩
  rintro i m H' ⟨rfl, hi, acc, p⟩
  have q := hG D i acc H' nD hi p
  by_cases e : i = n
  · subst e
    exact .inl ⟨w.stops H' q, hd D acc H' nD p⟩
  · have hlt : i < n := by omega
    refine .inr ⟨w.goes i H' hlt q, fun H'' => ∃ acc, Pv D (i + 1) acc H'', fun H'' ⟨acc', p'⟩ => ⟨n - (i + 1), by omega, rfl, by omega, acc', p'⟩, fun x H2 y => ?_⟩
    exact hs D i x acc H' H2 nD hlt p (w.yields i H' x H2 hlt q y)
/-- a comprehension whose turn makes nothing: a filter and a map; the items by ea, what is kept by eb -/
theorem lcb_pure {α β : Type} (ea : α → V) (eb : β → V) {xs : List α} {G : Hp → Prop} (w : Walk J (xs.map ea).length G (YAt (xs.map ea))) (hG : ∀ H', Same H H' → G H') (hl : xs.length < sizeLine) (f : α → Option β)
    (hs : ∀ x H', x ∈ xs → Same H H' → ∀ R : Option V → Hp → Prop, R ((f x).map eb) H' → Turn1 g tt te vs σ (ea x) H' R)
    (hd : ∀ D, H D = none → Q (.ref D) (upd H D (.lst ((xs.filterMap f).map eb)))) : LcB J g tt te vs σ Q H := by
  refine lcb w (fun D i acc H' => H' = upd H D (.lst acc) ∧ acc = ((xs.take i).filterMap f).map eb) (fun D nD => ⟨rfl, rfl⟩) (fun D i acc H' nD _ p => ?_) (fun D i x acc H1 H2 nD hi p y => ?_) (fun D acc H' nD p => ?_)
  · obtain ⟨rfl, rfl⟩ := p
    exact hG _ (Same.new nD)
  · obtain ⟨rfl, rfl⟩ := p
    obtain ⟨rfl, hx⟩ := y
    rw [List.getElem?_map] at hx
    cases hq : xs[i]? with
    | none => rw [hq] at hx; cases hx
    | some z =>
      rw [hq] at hx
      cases hx
      refine hs z _ (List.mem_of_getElem? hq) (Same.new nD) _ ?_
      have e : xs.take (i + 1) = xs.take i ++ [z] := by
        rw [List.take_succ, hq] <;> rfl
      cases hf : f z with
      | none =>
        refine lcr_none (acc := ((xs.take (i + 1)).filterMap f).map eb) ⟨?_, rfl⟩
        rw [e, List.filterMap_append]
        simp [hf]
      | some v =>
        refine lcr_some upd_same ?_ ⟨by rw [upd_upd], ?_⟩
        · rw [List.length_map]
          refine Nat.lt_of_le_of_lt (List.length_filterMap_le _ _) ?_
          rw [List.length_take]; omega
        · rw [e, List.filterMap_append]
          simp [hf]
  · obtain ⟨rfl, rfl⟩ := p
    rw [List.length_map, List.take_length]
    exact hd D nD
theorem w_turn {x : V} {R : Option V → Hp → Prop} (h : g x (wipe σ vs) H fun σ2 H2 => wipe σ2 vs = wipe σ vs ∧ tt σ2 H2 fun b H3 => if b = true then te σ2 H3 fun y H4 => R (some y) H4 else R none H3) : Turn1 g tt te vs σ x H R := h
theorem w_wipe {σ2 : L2.St} {A : Prop} (h : wipe σ2 vs = wipe σ vs) (g : A) : wipe σ2 vs = wipe σ vs ∧ A := ⟨h, g⟩
theorem w_iR1 {ta : TA} {R : It → Hp → Prop} (g : ta σ H fun vs H1 => ∃ j : Int, vs = [.int j] ∧ -(2 ^ 62) ≤ j ∧ j < 2 ^ 62 ∧ R (Itr 0 j.toNat) H1) : iRng1 ta σ H R := g
theorem w_iR1x {R : Int → Prop} {i : Int} (h0 : -(2 ^ 62) ≤ i) (h1 : i < 2 ^ 62) (g : R i) : ∃ j : Int, [V.int i] = [.int j] ∧ -(2 ^ 62) ≤ j ∧ j < 2 ^ 62 ∧ R j := ⟨i, rfl, h0, h1, g⟩
theorem w_iR2 {ta : TA} {R : It → Hp → Prop} (g : ta σ H fun vs H1 => ∃ i j : Int, vs = [.int i, .int j] ∧ (-(2 ^ 62) ≤ i ∧ i < 2 ^ 62 ∧ -(2 ^ 62) ≤ j ∧ j < 2 ^ 62) ∧ R (Itr i (j - i).toNat) H1) : iRng2 ta σ H R := g
theorem w_iE {ta : TA} {R : It → Hp → Prop} (g : ta σ H fun vs H1 => ∃ a xs, vs = [.ref a] ∧ SqL K H1 a xs ∧ R (Ite K a) H1) : iEnum K ta σ H R := g
theorem w_iEx {R : Addr → Prop} {p : Addr} {xs : List V} (h : SqL K H p xs) (g : R p) : ∃ a xs, [V.ref p] = [.ref a] ∧ SqL K H a xs ∧ R a := ⟨p, xs, rfl, h, g⟩
theorem w_iS {R : It → Hp → Prop} (g : te σ H fun v H1 => ∃ x, v = .str x ∧ R (Its x) H1) : iStr te σ H R := g
theorem w_iSx {R : Str → Prop} {z : Str} (g : R z) : ∃ x, V.str z = .str x ∧ R x := ⟨z, rfl, g⟩
def ForB (J : It) (g : TG) (tb : TS) (D : Ends) (σ : L2.St) (H1 : Hp) : Prop := ∃ W : Nat → Nat → L2.St → Hp → Prop, (∃ m, W 0 m σ H1) ∧ ∀ i m σ H, W i m σ H →
  (J.stop i H ∧ D.nx σ H) ∨ (J.go i H ∧ ∃ N : L2.St → Hp → Prop, (∀ σ' H', N σ' H' → ∃ m', m' < m ∧ W (i + 1) m' σ' H') ∧ ∀ x H', J.yld i H x H' → g x σ H' fun σ2 H2 => tb { D with nx := N, ct := N, bk := D.nx } σ2 H2)
theorem w_for {tb : TS} {D : Ends} (h : wi σ H fun J H1 => ForB J g tb D σ H1) : tFor wi g tb D σ H := h
theorem forb {tb : TS} {nx bk ct : L2.St → Hp → Prop} {rt : VK} (w : Walk J n G Y) (Pv : Nat → L2.St → Hp → Prop) (h0 : Pv 0 σ H) (hG : ∀ i σ H, i ≤ n → Pv i σ H → G H)
    (hs : ∀ i x σ H H', i < n → Pv i σ H → Y i H x H' → g x σ H' fun σ2 H2 => tb ⟨Pv (i + 1), rt, nx, Pv (i + 1)⟩ σ2 H2) (hd : ∀ σ H, Pv n σ H → nx σ H) : ForB J g tb ⟨nx, rt, bk, ct⟩ σ H :=
  for_it w Pv h0 hG hs hd
end

/-! ### rules with the written part named -/
section
variable {X : Cx}
theorem k_ixL (K : PySem.W.Frag) (h : X.K = K := by rfl) : IxR X (rIxL K) := by subst h; exact ix_list
theorem k_ixT (K : PySem.W.Frag) (h : X.K = K := by rfl) : IxR X (rIxT K) := by subst h; exact ix_tup
theorem k_slL (K : PySem.W.Frag) (h : X.K = K := by rfl) : SlR X (rSlL K) := by subst h; exact sl_list
theorem k_slT (K : PySem.W.Frag) (h : X.K = K := by rfl) : SlR X (rSlT K) := by subst h; exact sl_tup
theorem k_in (K : PySem.W.Frag) (h : X.K = K := by rfl) : OpR X (compareOp .In) (rIn K false) := by subst h; exact op_in_seq
theorem k_ni (K : PySem.W.Frag) (h : X.K = K := by rfl) : OpR X (compareOp .NotIn) (rIn K true) := by subst h; exact op_notIn_seq
theorem k_eqD (K : PySem.W.Frag) (hu : X.A.units + 64 < cLine) (h : X.K = K := by rfl) : OpR X (compareOp .Eq) (rEqD K) := by subst h; exact op_eqD hu
theorem k_neD (K : PySem.W.Frag) (hu : X.A.units + 64 < cLine) (h : X.K = K := by rfl) : OpR X (compareOp .NotEq) (rNeD K) := by subst h; exact op_neD hu
theorem k_inD (K : PySem.W.Frag) (hu : X.A.units + 65 < cLine) (h : X.K = K := by rfl) : OpR X (compareOp .In) (rInD K) := by subst h; exact op_inD hu
theorem k_niD (K : PySem.W.Frag) (hu : X.A.units + 65 < cLine) (h : X.K = K := by rfl) : OpR X (compareOp .NotIn) (rNotInD K) := by subst h; exact op_notInD hu
theorem k_len (K : PySem.W.Frag) (h : X.K = K := by rfl) : CallR X (.builtin "len") (rLenQ K) := by subst h; exact c_len
theorem k_list (K : PySem.W.Frag) (h : X.K = K := by rfl) : CallR X (.type "list") (rListQ K) := by subst h; exact c_list
theorem k_tupL (K : PySem.W.Frag) (h : X.K = K := by rfl) : CallR X (.type "tuple") (rTupL K) := by subst h; exact c_tupL
theorem k_tupT (K : PySem.W.Frag) (h : X.K = K := by rfl) : CallR X (.type "tuple") (rTupT K) := by subst h; exact c_tupT
theorem k_all (K : PySem.W.Frag) (hc : X.calm = true) (h : X.K = K := by rfl) : CallR X (.builtin "all") (rAll K) := by subst h; exact cr_all hc
theorem k_any (K : PySem.W.Frag) (hc : X.calm = true) (h : X.K = K := by rfl) : CallR X (.builtin "any") (rAny K) := by subst h; exact cr_any hc
theorem k_sortS (K : PySem.W.Frag) (h : X.K = K := by rfl) : CallR X (.builtin "sorted") (rSortedS K) := by subst h; exact cr_sortedS
theorem k_isi (K : PySem.W.Frag) (h : X.K = K := by rfl) : CallR X (.builtin "isinstance") (rIsi K) := by subst h; exact call_isi
theorem k_index (K : PySem.W.Frag) (h : X.K = K := by rfl) : MtR X "list.index" (rIndex K) := by subst h; exact mt_index
theorem k_indexD (K : PySem.W.Frag) (hu : X.A.units + 65 < cLine) (h : X.K = K := by rfl) : MtR X "list.index" (rIndexD K) := by subst h; exact mt_indexD hu
variable {o e tg l : Expr} {es : List Expr} {te to tl ta : TE} {t : TA} {f name : Str} {pos apos cpos p tpos : Pos}
theorem k_fld (K : PySem.W.Frag) (he : PE X e ta) (hb : attributeBase e f X.env (eval e X.env) = eval e X.env) (h : X.K = K := by rfl) : PE X (.Attribute e f pos) (tFld K ta f) := by subst h; exact pe_fld he hb
theorem k_sfld (K : PySem.W.Frag) {value : Expr} {tv : TE} {pos' : Pos} (ha : PE X o ta) (hv : PE X value tv) (hs : swapsWith value (some (.Attribute o f pos')) pos.line X.env = pure false) (h : X.K = K := by rfl) : PS X (.Assign [.Attribute o f pos'] value pos) (sFld K ta tv f) := by subst h; exact ps_fld ha hv hs
theorem k_iL (K : PySem.W.Frag) (hl : PE X l tl) (h : X.K = K := by rfl) : PI X tg l (iList K tl) := by subst h; exact pi_list hl
theorem k_iT (K : PySem.W.Frag) (hl : PE X l tl) (h : X.K = K := by rfl) : PI X tg l (iTup K tl) := by subst h; exact pi_tup hl
theorem k_iE (K : PySem.W.Frag) {tA : TA} {elts : List Expr} {kk : Nat} (hg : Gl X "enumerate") (hm : X.mg "enumerate" = none) (ha : PA X [e] tA) (hs : starEach [e] X.env = [(false, eval e X.env)] := by rfl) (h : X.K = K := by rfl) :
    PI X (.Tuple elts kk tpos) (.Call (.Name "enumerate" p) [e] [] pos) (iEnum K tA) := by subst h; exact pi_enum hg hm ha hs
theorem k_gT (K : PySem.W.Frag) {k n : Nat} {tG : TGs} (hc : X.calm = true) (hp : PGs X es tG) (hn : (assignEach es X.env).length = n := by rfl) (hst : (assignEach es X.env).findIdx? (·.1) = none := by rfl) (h : X.K = K := by rfl) : PG X (.Tuple es k pos) (gTup K n tG) := by subst h; exact pg_tup hc hp hn hst
theorem k_star (K : PySem.W.Frag) (he : PE X e te) (hr : PA X es t) (hs : starEach (.Starred e p :: es) X.env = (true, eval e X.env) :: starEach es X.env := by rfl) (h : X.K = K := by rfl) : PA X (.Starred e p :: es) (StX.tStar K te t) := by subst h; exact StX.pa_star he hr hs
theorem k_join (K : PySem.W.Frag) (ho : PE X o to) (he : PE X e te) (hs : starEach [e] X.env = [(false, eval e X.env)] := by rfl) (hbase : attributeBase o "join" X.env (eval o X.env) = eval o X.env := by rfl) (hline : (apos.endLine == pos.line) = true := by rfl) (h : X.K = K := by rfl) :
    PE X (.Call (.Attribute o "join" apos) [e] [] pos) (tM1 (rJoin K) to te) := by subst h; exact pe_join ho he hs hbase hline
theorem k_bm (K : PySem.W.Frag) {T id : String} {r : V → List V → Hp → VK → Prop} (pa : PlainAttrs T) (slot : Slot T name id) (hty : typeOf (.builtin id) = pure (.type "method_descriptor")) (hm : MtR X id r) (ho : PE X o to) (ha : PA X (e :: es) t)
    (hbase : attributeBase o name X.env (eval o X.env) = eval o X.env := by rfl)
    (hfew : ((backTo cpos (starEach (e :: es) X.env)).all (fun x => !x.1) && (backToKw cpos (keywordEach [] X.env)).all (fun x => x.1.isSome)
      && decide ((e :: es).length + ([] : List Keyword).length + (if ([] : List Keyword).isEmpty then 0 else 1) < 30)) = true := by rfl)
    (hline : (apos.endLine == cpos.line) = true := by rfl) (hs : starEach (e :: es) X.env = (false, eval e X.env) :: starEach es X.env := by rfl) (hplain : (backTo cpos (starEach es X.env)).any (·.1) = false := by rfl) (h : X.K = K := by rfl) :
    PE X (.Call (.Attribute o name apos) (e :: es) [] cpos) (tBM K T r to t) := by subst h; exact pe_bm pa slot hty hm ho ha hbase hfew hline hs hplain
theorem k_bm0 (K : PySem.W.Frag) {T id : String} {r : V → List V → Hp → VK → Prop} (pa : PlainAttrs T) (slot : Slot T name id) (hty : typeOf (.builtin id) = pure (.type "method_descriptor")) (hm : MtR X id r) (ho : PE X o to)
    (hbase : attributeBase o name X.env (eval o X.env) = eval o X.env := by rfl) (hline : (apos.endLine == cpos.line) = true := by rfl) (h : X.K = K := by rfl) : PE X (.Call (.Attribute o name apos) [] [] cpos) (tBM0 K T r to) := by subst h; exact pe_bm0 pa slot hty hm ho hbase hline
end
/-! ### what may be a list or a tuple -/
def iSeq (K : PySem.W.Frag) (tl : TE) : TI := fun σ H R => tl σ H fun x H1 => ∃ a, x = .ref a ∧ (((∃ xs, SqL K H1 a xs) ∧ R (Itl K a) H1) ∨ ((∃ xs, SqT K H1 a xs) ∧ R (Itt K a) H1))
theorem k_iQ {X : Cx} {tg l : Expr} {tl : TE} (K : PySem.W.Frag) (hl : PE X l tl) (hK : X.K = K := by rfl) : PI X tg l (iSeq K tl) := by
  subst hK
  refine ⟨fun pins s σ H R I h => thn (hl.run pins s σ H _ I h) fun v s1 ⟨x, H1, I1, r1, a, e, q1⟩ => ?_⟩
  subst e
  cases r1
  have fin : ∀ b, b ∈ [s1.heap.objs.size] → FpOk X pins H1 b := fun b hb => by
    rw [List.mem_singleton.mp hb]
    exact I1.fpOk (Nat.le_refl _) (I1.hok.fresh (Nat.le_refl _))
  rcases q1 with ⟨⟨xs, hq⟩, q⟩ | ⟨⟨xs, hq⟩, q⟩
  · obtain ⟨its, rv, p, hz⟩ := I1.list hq
    exact wpAny_pyIter_list p.isList ⟨s1.heap.objs.size, [s1.heap.objs.size], _, _, H1, rfl, I1.kept (t' := s1.toks) fun b o e => Heap.get?_push_of_some _ e, turn_list a _, ⟨_, Heap.get?_push_size _ rfl, rfl, rfl⟩, fin, q⟩
  · obtain ⟨its, rv, p, hz⟩ := I1.tuple hq
    exact wpAny_pyIter_tuple (show s1.heap.IsTuple a its.toArray from p) ⟨s1.heap.objs.size, [s1.heap.objs.size], _, _, H1, rfl, I1.kept (t' := s1.toks) fun b o e => Heap.get?_push_of_some _ e, turn_tuple a _, ⟨_, Heap.get?_push_size _ rfl, rfl, rfl⟩, fin, q⟩
section
variable {K : PySem.W.Frag} {σ : L2.St} {H : Hp} {p : Addr} {xs : List V}
theorem w_iQ {tl : TE} {R : It → Hp → Prop} (g : tl σ H fun x H1 => ∃ a, x = .ref a ∧ (((∃ xs, SqL K H1 a xs) ∧ R (Itl K a) H1) ∨ ((∃ xs, SqT K H1 a xs) ∧ R (Itt K a) H1))) : iSeq K tl σ H R := g
theorem w_iQl {A B : Addr → Prop} (h : SqL K H p xs) (g : A p) : ∃ a, V.ref p = .ref a ∧ (((∃ xs, SqL K H a xs) ∧ A a) ∨ ((∃ xs, SqT K H a xs) ∧ B a)) := ⟨p, rfl, .inl ⟨⟨xs, h⟩, g⟩⟩
theorem w_iQt {A B : Addr → Prop} (h : SqT K H p xs) (g : B p) : ∃ a, V.ref p = .ref a ∧ (((∃ xs, SqL K H a xs) ∧ A a) ∨ ((∃ xs, SqT K H a xs) ∧ B a)) := ⟨p, rfl, .inr ⟨⟨xs, h⟩, g⟩⟩
end
theorem ite_nt {A B : Prop} (h : B) : if (!true) = true then A else B := by simpa using h
theorem ite_nf {A B : Prop} (h : A) : if (!false) = true then A else B := by simpa using h
end Mf

namespace Mf
open PySem L2 TL
/-! ### names -/
def IsName (x : Str) : Prop := 1 ≤ x.length ∧ x.length ≤ 8 ∧ ∀ c ∈ x.cps.toList, 97 ≤ c ∧ c ≤ 122
instance (x : Str) : Decidable (IsName x) := inferInstanceAs (Decidable (_ ∧ _ ∧ _))
theorem len_list (x : Str) : x.length = x.cps.toList.length := by
  show x.cps.size = _; rw [Array.length_toList]
theorem str_ext {x y : Str} (h : x.cps.toList = y.cps.toList) : x = y := by
  cases x; cases y
  congr
  exact Array.toList_inj.mp h
theorem app_list (x y : Str) : (x ++ y).cps.toList = x.cps.toList ++ y.cps.toList := by
  show (x.cps ++ y.cps).toList = _
  exact Array.toList_append
theorem eqV_str (x y : Str) : eqV (.str y) (.str x) = decide (y = x) := by
  show (y == x) = decide (y = x)
  by_cases h : y = x
  · rw [decide_eq_true h, h]; exact beq_self_eq_true x
  · rw [decide_eq_false h]; exact beq_eq_false_iff_ne.mpr h
theorem inV_strs (x : Str) : ∀ xs : List Str, inV (.str x) (xs.map V.str) = decide (x ∈ xs)
  | [] => by simp [inV]
  | y :: ys => by
    have ih := inV_strs x ys
    unfold inV at ih ⊢
    rw [List.map_cons, List.any_cons, ih, eqV_str]
    by_cases h : y = x
    · subst h; simp
    · have h' : ¬ x = y := fun e => h e.symm
      simp [h, h']
theorem flat_strsM (xs : List Str) : (xs.map V.str).all flatV = true := by
  rw [List.all_eq_true]
  intro v hv
  obtain ⟨x, _, rfl⟩ := List.mem_map.mp hv
  rfl
theorem atI_all {α : Type} {xs : List α} (P : α → Prop) (h : ∀ x ∈ xs, P x) {v : Int} (h0 : 0 ≤ v) (h1 : v < xs.length) : ∃ x, atI xs v = some x ∧ P x := by
  have hj : v.toNat < xs.length := by omega
  refine ⟨xs[v.toNat], ?_, h _ (List.getElem_mem hj)⟩
  have e : ((v.toNat : Nat) : Int) = v := by omega
  exact (congrArg (atI xs) e).symm.trans (atI_nat (List.getElem?_eq_getElem hj))
/-- more than the others have: one is new -/
theorem pigeon {α : Type} [DecidableEq α] : ∀ (ks xs : List α), ks.Nodup → xs.length < ks.length → ∃ k ∈ ks, k ∉ xs
  | [], xs, _, h => by simp at h
  | k :: ks, xs, nd, h => by
    obtain ⟨h1, h2⟩ := List.nodup_cons.mp nd
    by_cases hk : k ∈ xs
    · have hl : (xs.erase k).length < ks.length := by
        rw [List.length_erase_of_mem hk]
        have : 0 < xs.length := List.length_pos_of_mem hk
        simp at h
        omega
      obtain ⟨j, hj, hn⟩ := pigeon ks (xs.erase k) h2 hl
      refine ⟨j, List.mem_cons_of_mem _ hj, fun hm => hn ?_⟩
      exact (List.mem_erase_of_ne (fun (e : j = k) => h1 (by rw [← e]; exact hj))).mpr hm
    · exact ⟨k, List.mem_cons_self, hk⟩
def sign (c : Nat) : Str := ⟨#[c]⟩
theorem joinL_signs : ∀ cs : List Nat, joinL [] (cs.map fun c => [c]) = cs
  | [] => rfl
  | [c] => rfl
  | c :: d :: r => by
    have ih := joinL_signs (d :: r)
    show [c] ++ ([] ++ joinL [] ((d :: r).map fun c => [c])) = _
    rw [ih]; rfl
theorem join_signs (cs : List Nat) : Txt.join "" (cs.map sign) = ⟨cs.toArray⟩ := by
  apply str_ext
  rw [join_eq]
  have e := tl_join "" (cs.map sign)
  have e1 : tl "" = [] := by decide +kernel
  rw [e1, List.map_map] at e
  refine Eq.trans (show (Str.join "" (cs.map sign)).cps.toList = tl (Str.join "" (cs.map sign)) from rfl) (e.trans ?_)
  exact joinL_signs cs
theorem cut1 (z : Str) : (cutS z (some 1) none).cps.toList = z.cps.toList.drop 1 := by
  have e : HT.sIx z.length 0 (some 1) = min 1 z.length := by
    unfold HT.sIx
    simp
  have e2 : HT.sIx z.length z.length none = z.length := rfl
  show (((z.cps.toList.drop (HT.sIx z.length 0 (some 1))).take (HT.sIx z.length z.length none - HT.sIx z.length 0 (some 1))).toArray).toList = _
  rw [e, e2, List.toList_toArray, len_list]
  cases h : z.cps.toList with
  | nil => simp
  | cons a r => simp [List.take_of_length_le]
theorem isName_q {x : Str} (h : IsName x) (hl : 3 < x.length) : IsName ("q" ++ cutS x (some 1) none) := by
  have e : ("q" ++ cutS x (some 1) none : Str).cps.toList = 113 :: x.cps.toList.drop 1 := by
    rw [app_list, cut1]
    rfl
  refine ⟨?_, ?_, fun c hc => ?_⟩
  · rw [len_list, e]; simp
  · rw [len_list, e, List.length_cons, List.length_drop, ← len_list]
    have := h.2.1; omega
  · rw [e] at hc
    rcases List.mem_cons.mp hc with rfl | hc
    · omega
    · exact h.2.2 c (List.mem_of_mem_drop hc)
theorem signs_size (cs : List Nat) (h : cs.length ≤ 1000) : ((cs.map sign).map (·.length)).sum + (cs.map sign).length * (Str.ofString "").length ≤ 16777216 := by
  have e : (Str.ofString "").length = 0 := by decide +kernel
  have e2 : ∀ l : List Nat, ((l.map sign).map (·.length)).sum = l.length := by
    intro l
    induction l with
    | nil => rfl
    | cons a r ih => rw [List.map_cons, List.map_cons, List.sum_cons, ih, List.length_cons, show (sign a).length = 1 from rfl]; omega
  rw [e, e2]; omega
theorem walk_signs (z : Str) : Walk (Its z) (z.cps.toList.map fun c => V.str (sign c)).length (fun _ => True) (YAt (z.cps.toList.map fun c => V.str (sign c))) := by
  have e : (z.cps.toList.map fun c => V.str (sign c)).length = z.cps.size := by rw [List.length_map, Array.length_toList]
  rw [e]
  refine walk_str.mono (fun _ h => h) fun i H x H' hi _ ⟨h1, c, h2, h3⟩ => ⟨h1, ?_⟩
  rw [List.getElem?_map, Array.getElem?_toList, h2, h3]
  rfl
end Mf

namespace Mf
open PySem L2
/-! ### the law's helpers: what they promise, and how a promise is used -/
def But (p : Addr) (H H' : Hp) : Prop := ∀ b, b ≠ p → H' b = H b
theorem But.kp {p : Addr} {H H' : Hp} (h : But p H H') : Kp p H H' := fun b o n e => by rw [h b n]; exact e
theorem use_draw {p : Addr} {c : Nat} {m : Int} {H : Hp} {Q : VK} {E : XK} (h : Src H p c) (hc : c < LIM) (h0 : 0 < m) (h1 : m < 2 ^ 1000)
    (g : ∀ (v : Int) (c' : Nat) (H' : Hp), 0 ≤ v → v < m → c' ≤ c + 1 → Src H' p c' → But p H H' → Q (.int v) H') : sp_draw ([.ref p, .int m] ++ []) H Q E :=
  ⟨p, c, m, rfl, h, hc, h0, h1, fun v c' o a b d e => g v c' _ a b d e fun b n => upd_ne n⟩
theorem Src.ne {H : Hp} {p q : Addr} {c : Nat} (h : Src H p c) (n : H q = none) : q ≠ p := by
  obtain ⟨g, s, h1, _⟩ := h
  exact (ne_of_none h1 n).symm
theorem Src.tracked {H : Hp} {p q : Addr} {c : Nat} (h : Src H p c) (n : H q = none) : p ≠ q := (h.ne n).symm
theorem Src.new {H : Hp} {p q : Addr} {c : Nat} {o : HO} (h : Src H p c) (n : H q = none) : Src (upd H q o) p c := h.same (Same.new n)
theorem Src.mut {H : Hp} {p q : Addr} {c : Nat} {o : HO} (h : Src H p c) (n : p ≠ q) : Src (upd H q o) p c := by
  obtain ⟨g, s, h1, h2⟩ := h
  exact ⟨g, s, by rw [upd_ne n]; exact h1, h2⟩
def sp_name (K : PySem.W.Frag) : Sp := fun vs H Q _ => ∃ (p a : Addr) (c : Nat) (xs : List Str), vs = [.ref p, .ref a] ∧ Src H p c ∧ c + 10 < LIM ∧ SqL K (hid p H) a (xs.map V.str) ∧ xs.length ≤ 16 ∧
  ∀ (x : Str) (c' : Nat) (H' : Hp), Kp p H H' → Src H' p c' → c' ≤ c + 10 → x ∉ xs → IsName x → Q (.str x) H'
theorem letters_at {v : Int} (h0 : 0 ≤ v) (h1 : v < 26) : ∃ c, atI (Str.ofString "abcdefghijklmnopqrstuvwxyz").cps.toList v = some c ∧ 97 ≤ c ∧ c ≤ 122 := by
  have e : (Str.ofString "abcdefghijklmnopqrstuvwxyz").cps.toList = [97, 98, 99, 100, 101, 102, 103, 104, 105, 106, 107, 108, 109, 110, 111, 112, 113, 114, 115, 116, 117, 118, 119, 120, 121, 122] := by decide +kernel
  rw [e]
  exact atI_all (fun c => 97 ≤ c ∧ c ≤ 122) (by decide) h0 h1
theorem letters_len : (Str.ofString "abcdefghijklmnopqrstuvwxyz").length = 26 := by decide +kernel
def zNames : List Str := (Str.ofString "abcdefghijklmnopq").cps.toList.map fun c => Str.ofString "z" ++ sign c
theorem zNames_nodup : zNames.Nodup := by decide +kernel
theorem zNames_len : zNames.length = 17 := by decide +kernel
theorem zNames_isName : ∀ x ∈ zNames, IsName x := by decide +kernel
theorem use_name {K : PySem.W.Frag} {p a : Addr} {c : Nat} {xs : List Str} {H : Hp} {Q : VK} {E : XK} (h : Src H p c) (hc : c + 10 < LIM) (hS : SqL K (hid p H) a (xs.map V.str)) (hl : xs.length ≤ 16)
    (g : ∀ (x : Str) (c' : Nat) (H' : Hp), Kp p H H' → Src H' p c' → c' ≤ c + 10 → x ∉ xs → IsName x → Q (.str x) H') : sp_name K ([.ref p, .ref a] ++ []) H Q E :=
  ⟨p, a, c, xs, rfl, h, hc, hS, hl, g⟩
/-- names, each once -/
def Names (xs : List Str) : Prop := xs.Nodup ∧ ∀ x ∈ xs, IsName x
def sp_names : Sp := fun vs H Q _ => ∃ (p : Addr) (c n : Nat), vs = [.ref p, .int n] ∧ Src H p c ∧ c + 10 * n + 10 < LIM ∧ n ≤ 16 ∧
  ∀ (xs : List Str) (a : Addr) (c' : Nat) (H' : Hp), Kp p H H' → Src H' p c' → c' ≤ c + 10 * n → H a = none → H' a = some (.lst (xs.map V.str)) → xs.length = n → Names xs → Q (.ref a) H'
theorem use_names {p : Addr} {c n : Nat} {H : Hp} {Q : VK} {E : XK} (h : Src H p c) (hc : c + 10 * n + 10 < LIM) (hn : n ≤ 16)
    (g : ∀ (xs : List Str) (a : Addr) (c' : Nat) (H' : Hp), Kp p H H' → Src H' p c' → c' ≤ c + 10 * n → H a = none → H' a = some (.lst (xs.map V.str)) → xs.length = n → Names xs → Q (.ref a) H') : sp_names ([.ref p, .int (n : Int)] ++ []) H Q E :=
  ⟨p, c, n, rfl, h, hc, hn, g⟩
/-- some of a list, by draws -/
def sp_subset (K : PySem.W.Frag) : Sp := fun vs H Q _ => ∃ (p a : Addr) (c : Nat) (xs : List Str), vs = [.ref p, .ref a] ∧ Src H p c ∧ c + xs.length < LIM ∧ SqL K (hid p H) a (xs.map V.str) ∧ xs.length ≤ 1000 ∧
  ∀ (ys : List Str) (b : Addr) (c' : Nat) (H' : Hp), Kp p H H' → Src H' p c' → c' ≤ c + xs.length → H b = none → H' b = some (.lst (ys.map V.str)) → ys.Sublist xs → Q (.ref b) H'
theorem use_subset {K : PySem.W.Frag} {p a : Addr} {c : Nat} {xs : List Str} {H : Hp} {Q : VK} {E : XK} (h : Src H p c) (hc : c + xs.length < LIM) (hS : SqL K (hid p H) a (xs.map V.str)) (hl : xs.length ≤ 1000)
    (g : ∀ (ys : List Str) (b : Addr) (c' : Nat) (H' : Hp), Kp p H H' → Src H' p c' → c' ≤ c + xs.length → H b = none → H' b = some (.lst (ys.map V.str)) → ys.Sublist xs → Q (.ref b) H') : sp_subset K ([.ref p, .ref a] ++ []) H Q E :=
  ⟨p, a, c, xs, rfl, h, hc, hS, hl, g⟩
theorem Kp.free {p q : Addr} {H H' : Hp} (e : Kp p H H') (n : q ≠ p) (h : H' q = none) : H q = none := by
  cases z : H q with
  | none => rfl
  | some o => rw [e q o n z] at h; cases h
theorem sq_hid {K : PySem.W.Frag} {H : Hp} {p a : Addr} {xs : List V} (n : a ≠ p) (h : H a = some (.lst xs)) : SqL K (hid p H) a xs := SqL.of (by rw [hid_ne n]; exact h)
end Mf

namespace Mf
open PySem PySem.Spec PyProof.Rows L2
/-! ### sets of texts: made by a comprehension, sorted. The road is that of HandS.Set and HandS.SetBool, for texts. -/
def txt (e : Int × Value) : Str := match e.2 with | .str x _ => x | _ => Str.empty
def TxtE (w : World) (e : Int × Value) : Prop := ∃ x t, e.2 = Value.str x t ∧ e.1 = hashStr w x
/-- the set at a holds the texts xs, each once -/
def TxtSet (w : World) (h : Heap) (a : Addr) (xs : List Str) : Prop :=
  ∃ o es ep t, h.get? a = some o ∧ o.ExactSet ∧ o.data = .set es ep t ∧ (∀ e ∈ es.toList, TxtE w e) ∧ (es.toList.map txt).Perm xs ∧ xs.Nodup ∧
    es.size < scanBound ∧ t.fits es.size = true ∧ Ris t.place.toList ∧ (w.params.followText "set-order" = true ∨ t.led = true)
section
variable {P : Program} {w : World} {h h' : Heap} {a : Addr} {xs : List Str}
theorem TxtSet.at (R : TxtSet w h a xs) (k : ∀ o, h.get? a = some o → h'.get? a = some o) : TxtSet w h' a xs := by
  obtain ⟨o, es, ep, t, ho, rest⟩ := R
  exact ⟨o, es, ep, t, k o ho, rest⟩
theorem txt_kind {e : Int × Value} (g : TxtE w e) (x : Str) : (PySem.strKind P w).is x e.2 = true ↔ txt e = x := by
  obtain ⟨y, t, e1, _⟩ := g
  unfold txt
  rw [e1]
  show Value.isStrOf x (.str y t) = true ↔ y = x
  simp [Value.isStrOf]
theorem txt_elems {l : List (Int × Value)} (g : ∀ e ∈ l, TxtE w e) : ElemsOf (PySem.strKind P w) l := fun e he => by
  obtain ⟨y, t, e1, e2⟩ := g e he
  refine ⟨⟨y, ?_, e2⟩, ?_⟩
  · rw [e1]; exact strKind_is P w y t
  · rw [e1]; rfl
theorem txt_mem {l : List (Int × Value)} (g : ∀ e ∈ l, TxtE w e) (x : Str) : x ∈ l.map txt ↔ ∃ e ∈ l, (PySem.strKind P w).is x e.2 = true := by
  constructor
  · intro hx
    obtain ⟨e, he, q⟩ := List.mem_map.mp hx
    exact ⟨e, he, (txt_kind (g e he) x).2 q⟩
  · rintro ⟨e, he, q⟩
    exact List.mem_map.mpr ⟨e, he, (txt_kind (g e he) x).1 q⟩
theorem txt_stored {o : Obj} {es es' : Array (Int × Value)} {ep : Nat} {t t' : SetTable} (ho : h.get? a = some o) (hd : o.data = .set es ep t) : (h.update a (Obj.putSet es' t')).get? a = some { o with data := .set es' (ep + 1) t' } := by
  have e := putSet_of es' t' hd
  have q := Heap.get?_update_self (Obj.putSet es' t') ho (by rw [e]; rfl)
  rwa [e] at q
end
/-- the members behind one more -/
def addT (xs : List Str) (x : Str) : List Str := if x ∈ xs then xs else x :: xs
section
variable {P : Program} {w : World} {A : Around} {E : Value → Shared → Prop} {s : Shared} {a : Addr} {xs : List Str}
theorem txt_settle {g : Bool → Sem Unit} (hg : ∀ (b : Bool) (s₁ : Shared) (Q' : Unit → Shared → Prop), Q' () s₁ → wpAny (model P w) A (g b) Q' E s₁)
    {o : Obj} {es : Array (Int × Value)} {ep : Nat} {t : SetTable} (ho : s.heap.get? a = some o) (hex : o.ExactSet) (hd : o.data = .set es ep t) {es1 : Array (Int × Value)} {t2 : SetTable} {ys : List Str}
    (g1 : ∀ e ∈ es1.toList, TxtE w e) (pm1 : (es1.toList.map txt).Perm ys) (nd1 : ys.Nodup) (hb1 : es1.size < scanBound) (hf2 : t2.fits es1.size = true) (hr : Ris t2.place.toList) (hl : w.params.followText "set-order" = true ∨ t2.led = true)
    {wasDummy : Bool} {R : Option Bool → Shared → Prop} (hR : ∀ h', Heap.SameBut a s.heap h' → TxtSet w h' a ys → R (some true) { s with heap := h' }) :
    wpAny (model P w) A (do
        storeSet a es1 t2
        if (!wasDummy && t2.tooFull) = true then do
            g (relayAll t2 es1 (SetTable.grown es1.size)).2.2
            storeSet a (relayAll t2 es1 (SetTable.grown es1.size)).1 (relayAll t2 es1 (SetTable.grown es1.size)).2.1
            pure (some true)
          else pure (some true)) R E s := by
  have ho1 := txt_stored (es' := es1) (t' := t2) ho hd
  have same1 := Heap.SameBut.update s.heap a (Obj.putSet es1 t2)
  refine wpAny_bind (wpAny_storeSet_of ho hd ?_ (fits_of_scanBound hb1))
  split
  · have pm := relayAll_perm t2 es1 (SetTable.grown es1.size)
    have hf3 := relayAll_fits t2 es1 (SetTable.grown es1.size)
    have hr3 := relayAll_ris t2 es1 (SetTable.grown es1.size)
    have hl3 := relayAll_led t2 es1 (SetTable.grown es1.size)
    generalize relayAll t2 es1 (SetTable.grown es1.size) = Z at pm hf3 hr3 hl3 ⊢
    obtain ⟨es2, t3, gave⟩ := Z
    dsimp only at pm hf3 hr3 hl3 ⊢
    have hsz : es2.size = es1.size := by
      have := pm.length_eq
      rwa [Array.length_toList, Array.length_toList] at this
    have hb2 : es2.size < scanBound := hsz ▸ hb1
    have ho2 := txt_stored (es' := es2) (t' := t3) ho1 rfl
    refine wpAny_bind (hg _ _ _ ?_)
    refine wpAny_bind (wpAny_storeSet_of ho1 rfl ?_ (fits_of_scanBound hb2))
    refine wpAny_pure (hR _ (same1.trans (Heap.SameBut.update _ a _)) ?_)
    refine ⟨_, es2, _, t3, ho2, hex, rfl, fun e he => g1 e (pm.mem_iff.mp he), (pm.map txt).trans pm1, nd1, hb2, hf3, hr3, hl.imp id fun z => ?_⟩
    rw [hl3]; exact z
  · exact wpAny_pure (hR _ same1 ⟨_, es1, _, t2, ho1, hex, rfl, g1, pm1, nd1, hb1, hf2, hr, hl⟩)
theorem txt_add_hashed {x : Str} {tk : Tok} {Q : Bool → Shared → Prop} (R : TxtSet w s.heap a xs) (room : xs.length + 1 < scanBound)
    (hQ : ∀ b h', Heap.SameBut a s.heap h' → TxtSet w h' a (addT xs x) → Q b { s with heap := h' }) :
    wpAny (model P w) A (setAddHashed a (.str x tk) ((PySem.strKind P w).hash x)) Q E s := by
  obtain ⟨o, es, ep, t, ho, hex, hd, g, pm0, nd, hb, hf, hr, hl⟩ := R
  have hkey : (PySem.strKind P w).is x (.str x tk) = true := strKind_is P w x tk
  have hsc : (Value.str x tk).scannable = true := rfl
  have hel : ElemsOf (PySem.strKind P w) es.toList := txt_elems g
  have hsz0 : es.size = xs.length := by
    have := pm0.length_eq
    rwa [List.length_map, Array.length_toList] at this
  unfold setAddHashed setAddHashedIn
  refine wpAny_holding (wpAny_bind (wpAny_setState_of ho hd hf ?_))
  dsimp only
  rw [byScan_of hsc hb hel]
  simp only [↓reduceIte]
  unfold setAddByScan
  refine wpAny_bind (wpAny_bind (wpAny_rule (wpAny_bind (wpAny_setScan_of hkey ho hd hf hel ?_))))
  cases hfi : List.findIdx? (fun e => (PySem.strKind P w).is x e.2) es.toList with
  | some j =>
    dsimp only
    obtain ⟨hj, pj, _⟩ := List.findIdx?_eq_some_iff_getElem.mp hfi
    have hx : x ∈ xs := pm0.mem_iff.mp ((txt_mem (P := P) g x).2 ⟨es.toList[j], List.getElem_mem hj, pj⟩)
    have e : addT xs x = xs := if_pos hx
    refine wpAny_pure (wpAny_pure ?_)
    exact hQ _ s.heap (Heap.SameBut.refl a s.heap) (by rw [e]; exact ⟨o, es, ep, t, ho, hex, hd, g, pm0, nd, hb, hf, hr, hl⟩)
  | none =>
    dsimp only
    have hx : x ∉ xs := fun hm => by
      obtain ⟨e, he, q⟩ := (txt_mem (P := P) g x).1 (pm0.mem_iff.mpr hm)
      have c := List.findIdx?_eq_none_iff.mp hfi e he
      rw [q] at c; cases c
    have ea : addT xs x = x :: xs := if_neg hx
    rw [ea] at hQ
    have hgw : ∀ (b : Bool) {s₁ : Shared} {Q' : Unit → Shared → Prop}, Q' () s₁ → wpAny (model P w) A (match b with | true => rule "set.scan.the-table-gave-way" | false => pure ()) Q' E s₁ :=
      fun b s₁ Q' q => by cases b <;> first | exact wpAny_pure q | exact wpAny_rule q
    have pm := layNew_perm t es ((PySem.strKind P w).hash x) (.str x tk)
    have hf1 := layNew_fits t es ((PySem.strKind P w).hash x) (.str x tk)
    have hr1 := layNew_ris t es ((PySem.strKind P w).hash x) (.str x tk) hr
    have hl1 := layNew_led t es ((PySem.strKind P w).hash x) (.str x tk)
    generalize layNew t es ((PySem.strKind P w).hash x) (.str x tk) = Z at pm hf1 hr1 hl1 ⊢
    obtain ⟨es1, t1, wasDummy, gave⟩ := Z
    dsimp only at pm hf1 hr1 hl1 ⊢
    rw [Array.toList_push] at pm
    have pc : es1.toList.Perm (((PySem.strKind P w).hash x, Value.str x tk) :: es.toList) := pm.trans (List.perm_append_singleton _ _)
    have pk : (es1.toList.map txt).Perm (x :: xs) := (pc.map txt).trans (pm0.cons x)
    have g1 : ∀ e ∈ es1.toList, TxtE w e := fun e he => by
      rcases List.mem_cons.mp (pc.mem_iff.mp he) with z | z
      · subst z; exact ⟨x, tk, rfl, rfl⟩
      · exact g e z
    have nd1 : (x :: xs).Nodup := List.nodup_cons.mpr ⟨hx, nd⟩
    have hsz : es1.size = xs.length + 1 := by
      have := pk.length_eq
      rwa [List.length_map, Array.length_toList] at this
    have hb1 : es1.size < scanBound := hsz ▸ room
    have hled : w.params.followText "set-order" = true ∨ t1.led = true := hl.imp id fun z => by rw [hl1]; exact z
    refine wpAny_bind (hgw _ ?_)
    split
    · refine wpAny_bind ?_
      rw [hashByValue_scannable 8 hsc]
      refine wpAny_pure ?_
      refine txt_settle ?_ ho hex hd g1 pk nd1 hb1 ?_ ?_ ?_ ?_
      · intro b s₁ Q' q; cases b <;> first | exact wpAny_pure q | exact wpAny_rule q
      · first | (split <;> first | exact hf1 | exact SetTable.fits_plain_off hf1) | exact hf1
      · first | (split <;> exact hr1) | exact hr1
      · first | (split <;> exact hled) | exact hled
      · intro h' sb r; dsimp only; exact wpAny_pure (hQ _ h' sb r)
    · refine wpAny_bind (wpAny_pure ?_)
      simp only [↓reduceIte]
      refine txt_settle ?_ ho hex hd g1 pk nd1 hb1 hf1 hr1 hled ?_
      · intro b s₁ Q' q; cases b <;> first | exact wpAny_pure q | exact wpAny_rule q
      · intro h' sb r; dsimp only; exact wpAny_pure (hQ _ h' sb r)
theorem txt_typeIs (R : TxtSet w s.heap a xs) : s.TypeIs (.ref a) "set" := by
  obtain ⟨o, es, ep, t, ho, hex, _⟩ := R
  exact ⟨o, ho, hex.1⟩
theorem txt_add {x : Str} {tk : Tok} {Q : Value → Shared → Prop} (R : TxtSet w s.heap a xs) (room : xs.length + 1 < scanBound)
    (hQ : ∀ h', Heap.SameBut a s.heap h' → TxtSet w h' a (addT xs x) → Q .none { s with heap := h', toks := s.toks + 1 }) : wpAny (model P w) A (call (.builtin "set.add") [.ref a, .str x tk]) Q E s := by
  refine wpAny_call_entry F.slot_set_add (txt_typeIs R) F.entry_set_add ?_ (F.args_set_add_2 _ _)
  unfold Builtin.«set.add» Builtin.Frozenset.oneOther
  simp only [List.isEmpty_nil, bind_assoc]
  unfold Builtin.Frozenset.addrOf setAdd
  refine wpAny_bind (wpAny_pure ?_)
  try dsimp only
  refine wpAny_bind (wpAny_pure ?_)
  try dsimp only
  refine wpAny_bind (wpAny_holding (wpAny_bind ((PySem.strKind P w).pyHash (strKind_is P w x tk) ?_)))
  refine txt_add_hashed (s := { s with toks := s.toks + 1 }) R room fun b h' sb r => ?_
  show wpAny _ _ (ret Value.none) _ _ _
  exact wpAny_pure ⟨_, rfl, hQ h' sb r⟩
theorem txt_fresh {h : Heap} (w : World) : TxtSet w (h.push { cls := .type "set", dict := none, data := .set #[] 0 (.fresh 0 0 (!w.params.followText "set-order")) }) h.objs.size [] := by
  refine ⟨_, #[], 0, _, Heap.get?_push_size _ rfl, ⟨rfl, rfl, rfl⟩, rfl, (by simp), (by simp), List.nodup_nil, (by decide), (by rfl), List.Pairwise.nil, ?_⟩
  show _ ∨ (!w.params.followText "set-order") = true
  cases w.params.followText "set-order"
  · exact .inr rfl
  · exact .inl rfl
/-- sorted(s): the members in order -/
theorem txt_sorted {Q : Value → Shared → Prop} (R : TxtSet w s.heap a xs) (hh : A.handled = none) (h64 : xs.length < 64)
    (hQ : ∀ s' p (out : Array Value) (c : Nat) (ys : List Str), (∀ b o, s.heap.get? b = some o → s'.heap.get? b = some o) → s'.gens = s.gens → s'.os = s.os → s.heap.objs.size ≤ p →
      s'.heap.get? p = some (seqObj "list" out c) → StrsAre out.toList ys → ys.Perm xs → sortedS ys = true → Q (.ref p) s') : wpAny (model P w) A (call (.builtin "sorted") [.ref a]) Q E s := by
  obtain ⟨o, es, ep, t, ho, hex, hd, g, pm0, nd, hb, hf, hr, hl⟩ := R
  refine Calls.call_function_entry kind_sorted plain_sorted entry_sorted (args_sorted1 _) ?_
  unfold Builtin.«sorted»
  refine wpAny_bind (m := checkCount "sorted" 1 1 _) (wpAny_pure ?_)
  refine wpAny_bind (collect_set (A := A.in1) hh ⟨o, ho, hex.1, hd⟩ hf hb hr hl fun s1 vs k1 hz g1 o1 pm => ?_)
  have hvl : vs.length = xs.length := by
    rw [pm.length_eq, List.length_map, ← pm0.length_eq, List.length_map]
  have hall : ∀ v ∈ vs, ∃ x t, v = Value.str x t := fun v hv => by
    obtain ⟨e, he, q⟩ := List.mem_map.mp (pm.mem_iff.mp hv)
    obtain ⟨x, t, e1, _⟩ := g e he
    exact ⟨x, t, by rw [← q]; exact e1⟩
  have hS : StrsAre vs (vs.map strOf) := strsAre_map vs hall
  have pk : (vs.map strOf).Perm xs := by
    refine (pm.map strOf).trans ?_
    rw [List.map_map]
    have e : es.toList.map (strOf ∘ fun x => x.2) = es.toList.map txt := List.map_congr_left fun e he => by
      obtain ⟨x, t, e1, _⟩ := g e he
      show strOf e.2 = txt e
      unfold txt
      rw [e1] <;> rfl
    rw [e]
    exact pm0
  refine wpAny_bind (wpAny_newList ?_ (by rw [hvl, sizeLine_eq]; omega))
  have hoL : (s1.heap.push (seqObj "list" vs.toArray 0)).get? s1.heap.objs.size = some (seqObj "list" vs.toArray 0) := Heap.get?_push_size _ rfl
  refine wpAny_bind (wpAny_holding (wpAny_call_entry slot_list_sort ⟨_, hoL, rfl⟩ entry_list_sort
    (list_sort_treeK strKind_oneLt hoL hS.keysOf (fun v₁ v₂ rest e => keyKind_strs (by rw [← e]; exact hS)) (by rw [hvl]; exact h64) fun st' hp hs => ⟨_, rfl, ?_⟩) (args_list_sort _)))
  obtain ⟨ys, b1, b2, b3⟩ := sorted_out_str hS hp hs
  obtain ⟨c, hc⟩ := sortedHeap_at (vs := vs) (out := (arrOf st').map (·.2)) hoL
  refine wpAny_pure ⟨_, rfl, hQ _ s1.heap.objs.size _ c ys (fun b u e => ?_) g1 o1 hz hc b1 (b2.trans pk) b3⟩
  have q := k1 b u e
  have hlt := Heap.lt_size q
  show (sortedHeap (s1.heap.push (seqObj "list" vs.toArray 0)) s1.heap.objs.size vs ((arrOf st').map (·.2))).get? b = some u
  rw [sortedHeap_old (Nat.ne_of_lt hlt) (by rw [size_push']; exact Nat.lt_succ_of_lt hlt)]
  exact Heap.get?_push_of_some _ q
end
/-! ### as tracked things -/
def TxtO (w : World) (a : Addr) (xs : List Str) : HO := .ext fun h => TxtSet w h a xs
theorem txtO_ok {w : World} {P : Program} {H : Hp} {h : Heap} {a : Addr} {xs : List Str} (R : TxtSet w h a xs) : ObjOk P w H h a (TxtO w a xs) :=
  ⟨R, (let ⟨o, _, _, _, ho, _⟩ := R; ⟨o, ho⟩), fun _ _ p k => TxtSet.at p k⟩
section
variable {X : Cx} {pins : List (Addr × Obj)} {σ : L2.St} {H : Hp} {s : Shared}
theorem txtO_get {a : Addr} {xs : List Str} (I : Inv X pins σ H s) (ha : H a = some (TxtO X.w a xs)) : TxtSet X.w s.heap a xs := (I.hok a _ ha).1
theorem txtO_add {E : Value → Shared → Prop} {D : Addr} {xs : List Str} {x : Str} {t : Tok} {Q : Value → Shared → Prop} (I : Inv X pins σ H s) (hD : H D = some (TxtO X.w D xs)) (room : xs.length + 1 < scanBound)
    (h : ∀ s', Inv X pins σ (upd H D (TxtO X.w D (addT xs x))) s' → Q .none s') : wpAny (model X.prog X.w) X.A (call (.builtin "set.add") [.ref D, .str x t]) Q E s := by
  refine txt_add (txtO_get I hD) room fun h' sb new => h _ ?_
  have he : ∃ u, h'.get? D = some u := let ⟨o, _, _, _, ho, _⟩ := new; ⟨o, ho⟩
  exact I.write (e := D) (t' := s.toks + 1) (by rw [hD]; trivial) (.inl rfl) (fun b u hb hu => (sb.2 b hb).trans hu) he (txtO_ok new)
/-- sorted(set of texts) -/
def rSortT (w : World) : List V → Hp → VK → Prop := fun vs H Q => ∃ (a : Addr) (xs : List Str), vs = [V.ref a] ∧ H a = some (TxtO w a xs) ∧ xs.length < 64 ∧
  ∀ (ys : List Str) (p : Addr), ys.Perm xs → sortedS ys = true → H p = none → Q (.ref p) (upd H p (.lst (ys.map V.str)))
theorem c_sortT (w : World) (hc : X.calm = true) (hw : X.w = w := by rfl) : CallR X (.builtin "sorted") (rSortT w) := by
  subst hw
  intro pins s σ H vs us Q I r ⟨a, xs, e, ha, h64, q⟩
  subst e
  rw [Vals.ref1 r]
  refine txt_sorted (txtO_get I ha) (I.ok.hd hc) h64 fun s' p out c ys k hg ho hp hob hS pm so => ?_
  have nP : H p = none := I.hok.fresh hp
  have hlen : (ys.map V.str).length ≤ sizeLine := by rw [List.length_map, pm.length_eq]; exact small64 h64
  have I1 : Inv X pins σ (upd H p (.lst (ys.map V.str))) s' :=
    I.call' (ch := []) ho (Un.laid k hp nP) (I.hok.laid k hp ⟨hlen, out.toList, c, vals_of_strs hS, hob⟩) (by rw [hg]; exact I.bare) (fun _ z => nomatch z)
  exact ⟨.ref p, _, I1, rfl, q ys p pm so nP⟩
end

/-! ### {elt for target in iter if ..}, the elements texts -/
/-- what is walked for each item: D the new set -/
def ScB (w : World) (J : It) (g : TG) (tt : TT) (te : TE) (vs : List Nat) (σ : L2.St) (Q : VK) (H1 : Hp) : Prop :=
  ∀ D, H1 D = none → ∃ W : Nat → Nat → Hp → Prop, (∃ m, W 0 m (upd H1 D (TxtO w D []))) ∧ ∀ i m H, W i m H →
    (J.stop i H ∧ Q (.ref D) H) ∨ (J.go i H ∧ ∃ Nx : Hp → Prop, (∀ H', Nx H' → ∃ m', m' < m ∧ W (i + 1) m' H') ∧ ∀ x H', J.yld i H x H' → g x (wipe σ vs) H' fun σ2 H2 => wipe σ2 vs = wipe σ vs ∧ tt σ2 H2 fun b H3 =>
      if b = true then te σ2 H3 fun y H4 => ∃ (z : Str) (xs : List Str), y = .str z ∧ H4 D = some (TxtO w D xs) ∧ xs.length + 1 < scanBound ∧ Nx (upd H4 D (TxtO w D (addT xs z))) else Nx H3)
def tScT (w : World) (wi : TI) (g : TG) (tt : TT) (te : TE) (vs : List Nat) : TE := fun σ H Q => wi σ H fun J H1 => ScB w J g tt te vs σ Q H1
section
variable {X : Cx}
theorem e_scT (w : World) {elt tg iter : Expr} {ifs : List Expr} {scope : Scope} {own : List (PySem.Str × Nat)} {pos : Pos} {wi : TI} {g : TG} {tt : TT} {te : TE} (hc : X.calm = true) (hN : X.N.Nodup) (hi : PI X tg iter wi) (ok : BlkOk X.N X.env.scope scope own)
    (hg : ∀ (s : Shared) (H : Hp) (C : Addr) (cl : List (PySem.Str × Addr)) (fp : List Addr), PG (X.blk s H scope (compEnvC scope cl C X.env) fp) tg g) (ht : ∀ (s : Shared) (H : Hp) (C : Addr) (cl : List (PySem.Str × Addr)) (fp : List Addr), PTs (X.blk s H scope (compEnvC scope cl C X.env) fp) ifs tt)
    (he : ∀ (s : Shared) (H : Hp) (C : Addr) (cl : List (PySem.Str × Addr)) (fp : List Addr), PE (X.blk s H scope (compEnvC scope cl C X.env) fp) elt te) (hs : ∀ x, foldedSetIterable iter X.env x = pure x := by intro _; rfl) (hw : X.w = w := by rfl) :
    PE X (.SetComp elt [⟨tg, iter, ifs, 0⟩] scope pos) (tScT w wi g tt te (own.map (·.2))) := by
  subst hw
  refine ⟨fun pins s σ H Q I h => ?_⟩
  rw [PpSet.eval_SetComp]
  have hfree : ∀ y ∈ scope.names, y.2 = .free → ∃ c, X.env.cells.lookup y.1 = some c := fun y hy e => I.ok.has _ (ok.free y hy e)
  refine wpAny_comprehension_free (use := none) rfl hs (closure_ok hfree) ok.kind (fun y hy e => by rw [ok.uniq y hy, e]) (thn (hi.run pins s σ H _ I h) fun xv s1 hx => thn hx fun itv s2 h2 => ?_)
  obtain ⟨it, fp, tn, J, H2, e, I2, T, st2, f2, q⟩ := h2
  subst e
  refine PpSet.newSet_ok (newEnv_comp ?_)
  generalize hD : s2.heap.objs.size = D
  have hDn : H2 D = none := I2.hok.fresh (Nat.le_of_eq hD)
  obtain ⟨W, ⟨m0, w0⟩, turn⟩ := q D hDn
  generalize hs3 : ({ s2 with heap := s2.heap.push { cls := .type "set", dict := none, data := .set #[] 0 (.fresh 0 0 (!X.w.params.followText "set-order")) } } : Shared) = s3
  have h3 : s3.heap = s2.heap.push { cls := .type "set", dict := none, data := .set #[] 0 (.fresh 0 0 (!X.w.params.followText "set-order")) } := by rw [← hs3]
  generalize hH3 : upd H2 D (TxtO X.w D []) = H3 at w0
  have I3 : Inv X pins σ H3 s3 := by
    rw [← hs3, ← hH3]
    refine I2.laid (t' := s2.toks) (fun b o e => Heap.get?_push_of_some _ e) (Nat.le_of_eq hD) ?_
    rw [← hD]
    exact txtO_ok (txt_fresh X.w)
  have sz : ∀ b ∈ fp, b < s2.heap.objs.size := fun b hb => let ⟨o, e, _⟩ := T.obj _ _ st2 b hb; Heap.lt_size e
  have f3 : ∀ b ∈ fp, FpOk X pins H3 b ∧ b < s3.heap.objs.size := fun b hb => by
    have hlt := sz b hb
    refine ⟨⟨?_, (f2 b hb).2⟩, by rw [h3, Heap.size_push]; exact Nat.lt_succ_of_lt hlt⟩
    rw [← hH3, upd_ne (by rw [← hD]; exact Nat.ne_of_lt hlt)]
    exact (f2 b hb).1
  have nfp : ∀ b ∈ fp, H3 b = none := fun b hb => (f3 b hb).1.1
  have st3 : tn 0 s3.heap := T.keep _ _ _ st2 fun b _ o e => by rw [h3]; exact Heap.get?_push_of_some _ e
  have I4 := block_start I3 ok hN f3
  have pg := hg s3 H3 s3.heap.objs.size (cellsFrom (s3.heap.objs.size + 1) scope.names (cloFrom X.env.cells scope.names [])) fp
  have pt := ht s3 H3 s3.heap.objs.size (cellsFrom (s3.heap.objs.size + 1) scope.names (cloFrom X.env.cells scope.names [])) fp
  have pe := he s3 H3 s3.heap.objs.size (cellsFrom (s3.heap.objs.size + 1) scope.names (cloFrom X.env.cells scope.names [])) fp
  show codeAny _ _ (.compStart (.SetComp elt [⟨tg, iter, ifs, 0⟩] scope pos) 0 (.ref it) (.ref D) (compEnvC scope (cellsFrom (s3.heap.objs.size + 1) scope.names (cloFrom X.env.cells scope.names [])) s3.heap.objs.size X.env)) (compPost (model X.prog X.w) X.A X.xe none _ (.ref D) s3.heap.objs.size) { s3 with heap := pushCells (s3.heap.push { cls := .type "dict", data := .dict #[] }) scope.names }
  generalize hce : compEnvC scope (cellsFrom (s3.heap.objs.size + 1) scope.names (cloFrom X.env.cells scope.names [])) s3.heap.objs.size X.env = ce at I4 pg pt pe ⊢
  have cL : ce.locals = s3.heap.objs.size := by subst hce; rfl
  generalize hs4 : ({ s3 with heap := pushCells (s3.heap.push { cls := .type "dict", data := .dict #[] }) scope.names } : Shared) = s4 at I4 ⊢
  have st4 : tn 0 s4.heap := T.keep _ _ _ st3 fun b _ o e => by rw [← hs4]; exact pushCells_keeps _ _ _ _ (Heap.get?_push_of_some _ e)
  have stat : ∀ {σ' : L2.St} {H' : Hp} {s' : Shared}, Inv (X.blk s3 H3 scope ce fp) [] σ' H' s' → (∀ b ∈ fp, H' b = none) → ∀ b ∈ fp, FpOk (X.blk s3 H3 scope ce fp) [] H' b := fun {σ' H' s'} I' hn b hb =>
    ⟨hn b hb, (I'.ok.exf b hb).1, I'.ok.exfs b hb, .inl hb, fun x c e => (I'.ok.exf b hb).2 x c e, fun p hp => absurd (show p ∈ ([] : List (Addr × Obj)) ++ [] from hp) (by simp)⟩
  have loop : codeAny (model X.prog X.w) X.A (.compLoop (.SetComp elt [⟨tg, iter, ifs, 0⟩] scope pos) 0 (.ref it) (.ref D) ce) (compPost (model X.prog X.w) X.A X.xe none (EP X pins σ Q) (.ref D) s3.heap.objs.size) s4 := by
    refine PpSet.compLoopS_any (fun n s' => ∃ i H', Inv (X.blk s3 H3 scope ce fp) [] (wipe σ (own.map (·.2))) H' s' ∧ tn i s'.heap ∧ (∀ b ∈ fp, H' b = none) ∧ W i n H') ?_ m0 ⟨0, H3, I4, st4, nfp, w0⟩
    rintro n s5 ⟨i, H5, I5, st5, n5, w5⟩
    rcases turn i n H5 w5 with ⟨stop, qq⟩ | ⟨go, Nx, hNx, step⟩
    · refine thnF (T.done (X.blk s3 H3 scope ce fp) rfl rfl rfl hc i [] s5 _ H5 (fun _ _ => False) I5 (stat I5 n5) st5 stop) fun r s6 ⟨hr, I6⟩ => ?_
      subst hr
      have I7 : Inv X pins σ H5 s6 := I3.call' (ch := fp) I6.os I6.base I6.hok I6.bare fun b hb => ⟨(f3 b hb).1.2.2.2.1, (f3 b hb).1.2.1, (f3 b hb).1.2.2.2.2.1, (f3 b hb).1.2.2.2.2.2⟩
      have nC : H5 s3.heap.objs.size = none := cL ▸ I6.free
      obtain ⟨m, hn, _⟩ := I6.loc
      have hn : s6.heap.Ns ce.locals m := hn
      rw [cL] at hn
      refine ⟨m, hn, fun h'' sb => ?_⟩
      obtain ⟨f0, f1, f2, f3, f4, f5⟩ := I3.fpOk (Nat.le_refl _) nC
      exact ⟨.ref D, H5, I7.turned (t' := s6.toks) (fun b o hb e => (sb.2 b hb).trans e) f0 f1 f3 f4 f5, rfl, qq⟩
    · refine thnF (T.item (X.blk s3 H3 scope ce fp) rfl rfl rfl hc i [] s5 _ H5 (fun _ _ => False) I5 (stat I5 n5) st5 go) fun r s6 ⟨u, hr, h6⟩ => ?_
      subst hr
      refine thnF h6 fun _ s7 ⟨x, H7, I7, r7, y7, st7, n7⟩ => ?_
      refine thnF (pg.run _ s7 _ H7 x u _ (I7.pinned (stat I7 n7) (T.obj _ _ st7)) r7 (step x H7 y7)) fun _ s8 ⟨σ8, H8, I8, hw8, q8⟩ => ?_
      refine thnF (pt.run _ s8 σ8 H8 _ I8 q8) fun b s9 ⟨H9, I9, q9⟩ => ?_
      have fin : ∀ {s' : Shared} {H' : Hp}, Inv (X.blk s3 H3 scope ce fp) ([] ++ pinsAt fp s7.heap) σ8 H' s' → Nx H' → ∃ m, m < n ∧ ∃ i H', Inv (X.blk s3 H3 scope ce fp) [] (wipe σ (own.map (·.2))) H' s' ∧ tn i s'.heap ∧ (∀ b ∈ fp, H' b = none) ∧ W i m H' := fun {s' H'} I' nx => by
        obtain ⟨m', hm, w'⟩ := hNx H' nx
        have pin' : ∀ b ∈ fp, ∀ o, s7.heap.get? b = some o → s'.heap.get? b = some o ∧ H' b = none := fun b hb o e =>
          let z := I'.pin (b, o) (List.mem_append_right _ (List.mem_append_right _ (mem_pinsAt hb e)))
          ⟨z.1, z.2.1⟩
        refine ⟨m', hm, i + 1, H', (I'.unpinned (pins := [])).weak (by rw [← hw8, wipe_length]) (fun j v e => ?_), T.keep _ _ _ st7 fun b hb o e => (pin' b hb o e).1, fun b hb => ?_, w'⟩
        · rw [← hw8] at e
          exact (wipe_some e).1
        · obtain ⟨o, e, _⟩ := T.obj _ _ st7 b hb
          exact (pin' b hb o e).2
      cases b with
      | false =>
        simp only [Bool.false_eq_true, if_false] at q9 ⊢
        exact fin I9 q9
      | true =>
        simp only [if_true] at q9 ⊢
        refine thnF (pe.run _ s9 σ8 H9 _ I9 q9) fun z s10 ⟨yv, H10, I10, r10, zt, xs0, ey, hD10, hz10, nx⟩ => ?_
        subst ey
        obtain ⟨tz, rfl⟩ := r10
        exact txtO_add (X := X.blk s3 H3 scope ce fp) I10 hD10 hz10 fun s11 I11 => fin I11 nx
  exact PpSet.codeAny_compStart_set loop (T.self X.A 0 _ _ _ st4 loop)
end
section
variable {K : PySem.W.Frag} {w : World} {σ : L2.St} {H : Hp} {Q : VK} {g : TG} {tt : TT} {te : TE} {vs : List Nat} {wi : TI} {J : It} {n : Nat} {G : Hp → Prop} {Y : Nat → Hp → V → Hp → Prop}
theorem w_sc (h : wi σ H fun J H1 => ScB w J g tt te vs σ Q H1) : tScT w wi g tt te vs σ H Q := h
def addAll (xs : List Str) : List Str := xs.foldl addT []
theorem addT_nodup {xs : List Str} {x : Str} (h : xs.Nodup) : (addT xs x).Nodup := by
  unfold addT; split
  · exact h
  · exact List.nodup_cons.mpr ⟨by assumption, h⟩
theorem mem_addT {xs : List Str} {x y : Str} : y ∈ addT xs x ↔ y ∈ xs ∨ y = x := by
  unfold addT; split
  · constructor
    · exact .inl
    · rintro (h | rfl)
      · exact h
      · assumption
  · rw [List.mem_cons]; exact Or.comm
theorem foldl_addT : ∀ (xs acc : List Str), acc.Nodup → (xs.foldl addT acc).Nodup ∧ ∀ y, y ∈ xs.foldl addT acc ↔ y ∈ acc ∨ y ∈ xs
  | [], acc, h => ⟨h, by simp⟩
  | x :: r, acc, h => by
    obtain ⟨h1, h2⟩ := foldl_addT r (addT acc x) (addT_nodup h)
    refine ⟨h1, fun y => ?_⟩
    show y ∈ r.foldl addT (addT acc x) ↔ _
    rw [h2 y, mem_addT, List.mem_cons]
    constructor
    · rintro ((h | h) | h)
      · exact .inl h
      · exact .inr (.inl h)
      · exact .inr (.inr h)
    · rintro (h | h | h)
      · exact .inl (.inl h)
      · exact .inl (.inr h)
      · exact .inr h
theorem addT_len (xs : List Str) (x : Str) : (addT xs x).length ≤ xs.length + 1 := by
  unfold addT; split
  · omega
  · rw [List.length_cons]; exact Nat.le_refl _
theorem foldl_len : ∀ (xs acc : List Str), (xs.foldl addT acc).length ≤ acc.length + xs.length
  | [], acc => by simp
  | x :: r, acc => by
    have h1 := foldl_len r (addT acc x)
    have h2 := addT_len acc x
    simp only [List.foldl_cons, List.length_cons]
    omega
/-- a set comprehension over a list or tuple of texts, the element a text, nothing else made -/
theorem scb_pure {α : Type} (ea : α → V) {xs : List α} {G : Hp → Prop} (wk : Walk J (xs.map ea).length G (YAt (xs.map ea))) (hG : ∀ H', Same H H' → G H') (hl : xs.length + 1 < scanBound) (f : α → Str)
    (hs : ∀ x H', x ∈ xs → Same H H' → ∀ R : Option V → Hp → Prop, R (some (.str (f x))) H' → Turn1 g tt te vs σ (ea x) H' R)
    (hd : ∀ D, H D = none → Q (.ref D) (upd H D (TxtO w D (addAll (xs.map f))))) : ScB w J g tt te vs σ Q H := by
  intro D nD
  refine ⟨fun i m H' => m = xs.length - i ∧ i ≤ xs.length ∧ H' = upd H D (TxtO w D (addAll ((xs.take i).map f))), ⟨xs.length, by simp, Nat.zero_le _, rfl⟩, ?_⟩
  rintro i m H' ⟨rfl, hi, rfl⟩
  have q := hG _ (Same.new (o := TxtO w D (addAll ((xs.take i).map f))) nD)
  have eln : (xs.map ea).length = xs.length := List.length_map _
  by_cases e : i = xs.length
  · subst e
    refine .inl ⟨?_, ?_⟩
    · have := wk.stops _ q
      rwa [eln] at this
    · rw [List.take_length]; exact hd D nD
  · have hlt : i < xs.length := by omega
    refine .inr ⟨wk.goes i _ (by rw [eln]; exact hlt) q, fun H'' => H'' = upd H D (TxtO w D (addAll ((xs.take (i + 1)).map f))), fun H'' e => ⟨xs.length - (i + 1), by omega, rfl, by omega, e⟩, fun x H2 y => ?_⟩
    obtain ⟨rfl, hx⟩ := wk.yields i _ x H2 (by rw [eln]; exact hlt) q y
    rw [List.getElem?_map, List.getElem?_eq_getElem hlt] at hx
    cases hx
    have et : xs.take (i + 1) = xs.take i ++ [xs[i]] := by rw [List.take_succ, List.getElem?_eq_getElem hlt] <;> rfl
    have t := hs xs[i] _ (List.getElem_mem hlt) (Same.new (o := TxtO w D (addAll ((xs.take i).map f))) nD) (fun r H4 => match r with
      | some y => ∃ (z : Str) (xs0 : List Str), y = V.str z ∧ H4 D = some (TxtO w D xs0) ∧ xs0.length + 1 < scanBound ∧ upd H4 D (TxtO w D (addT xs0 z)) = upd H D (TxtO w D (addAll ((xs.take (i + 1)).map f)))
      | none => H4 = upd H D (TxtO w D (addAll ((xs.take (i + 1)).map f)))) ⟨f xs[i], _, rfl, upd_same, ?_, ?_⟩
    · exact t
    · have := foldl_len ((xs.take i).map f) []
      rw [List.length_map, List.length_take] at this
      simp only [List.length_nil] at this
      unfold addAll
      omega
    · rw [upd_upd, et, List.map_append]
      unfold addAll
      rw [List.foldl_append]
      rfl
end
end Mf

namespace Mf
open PySem PySem.Spec PyProof.Rows L2
section
variable {M : Model} {A : Around} {E : Value → Shared → Prop} {s : Shared} {K : PySem.W.Frag} {x C : Addr} {ox : Obj} {od : Option Obj}
theorem ifBound_objNe {args : List Value} {Q : Option Value → Shared → Prop} (X : K.In s.heap) (I : PySem.W.InstAt s.heap x ox C od) (hs : PySem.W.findIn K (.ref C) "__ne__" = some (some (.builtin "object.__ne__")))
    (h : wpAny M A (call (.builtin "object.__ne__") (.ref x :: args)) (fun v => Q (some v)) E s) : wpAny M A (callSpecialIfBound? (.ref x) "__ne__" args) Q E s := by
  have go : wpAny M A (call (.builtin "object.__ne__") ([.ref x] ++ args) >>= fun v => pure (some v)) Q E s := wpAny_bind (wpAny_mono h (fun v s' z => wpAny_pure z) fun _ _ z => z)
  simp only [callSpecialIfBound?, bindSpecialIfBound?]
  refine wpAny_holding (wpAny_bind (wpAny_bind (wpAny_bind (I.type.here ((PySem.W.looks_findIn X hs).here (wpAny_bind (wpAny_askSetting (wpAny_ite ?_))))))))
  split
  · exact wpAny_bind (wpAny_of_eq (PySem.F.cmp_object.ne.bind _) (wpAny_pure (by exact go)))
  · exact wpAny_tryCatch (wpAny_bind (wpAny_of_eq (PySem.F.cmp_object.ne.bind _) (wpAny_pure (by exact go))))
end
/-! ### operators by the defs of an own class: in, ==, !=, <=, <, |, &, -, +, len, [] -/
section
variable {X : Cx} {CX : CXT} {pins : List (Addr × Obj)} {σ : L2.St} {H : Hp} {s : Shared} {C f : Addr} {fd : FuncData} {k : Nat} {ps : List Str} {sp : Sp} {E : XK}
theorem inst_of {a dx : Addr} {fs : List (Str × V)} (I : Inv X pins σ H s) (e : H a = some (.ins C dx fs)) : ∃ od, PySem.W.InstAt s.heap a (PySem.W.instObj C dx) C (some od) := by
  obtain ⟨mA, O, _⟩ := ins_get I.hok e
  obtain ⟨od, J, _⟩ := O.look
  exact ⟨od, J⟩
/-- a def called one frame of C deeper -/
theorem run_in1 {Q : VK} {us : List Value} {vs : List V} (F : FnOk X.prog X.w X.K X.mg X.base CX k f fd ps sp) (hr : Room (k + 1) X.A) (hb : Binds X.K fd ps []) (hx : Passes CX X E) (I : Inv X pins σ H s) (r : Vals vs us) (h : sp vs H Q E) :
    wpAny (model X.prog X.w) X.A.in1 (call (.ref f) us) (EP X pins σ Q) X.xe s := by
  have hl : us.length = ps.length := by rw [← r.length]; exact F.len _ _ _ _ h
  have b := hb s us I.kIn (by rw [List.append_nil]; exact hl)
  rw [List.append_nil] at b
  refine wpAny_call (codeAny_mono (F.run X.A.in1 X.stack s H ⟨us, []⟩ us vs Q E hr.in1 I.env0.in1 b r h) fun r s' hq => ?_)
  cases r with
  | error e => exact hx pins σ H s e s' I hq
  | ok fl =>
    cases fl with
    | ret u => exact I.after hq
    | next => exact False.elim hq
    | brk => exact False.elim hq
    | cont => exact False.elim hq
theorem run_0 {Q : VK} {us : List Value} {vs : List V} (F : FnOk X.prog X.w X.K X.mg X.base CX k f fd ps sp) (hr : Room k X.A) (hb : Binds X.K fd ps []) (hx : Passes CX X E) (I : Inv X pins σ H s) (r : Vals vs us) (h : sp vs H Q E) :
    wpAny (model X.prog X.w) X.A (call (.ref f) us) (EP X pins σ Q) X.xe s := run_fn F hr hb .nil hx I r (by rw [List.append_nil]; exact h)
/-- what comes back is a truth value -/
abbrev Truth (Q : VK) : VK := fun v H' => ∃ b, v = .bl b ∧ Q (.bl b) H'
/-- x op y by a def of x's class -/
def rCmpO (K : PySem.W.Frag) (C : Addr) (sp : Sp) (E : XK) : R2 := fun x y H Q => ∃ a dx fs t, x = .ref a ∧ H a = some (.ins C dx fs) ∧ TyX K H y t ∧ PySem.W.notFirst K C t = true ∧ sp [x, y] H Q E
theorem o_cmpO (K : PySem.W.Frag) {op : CmpOp} (hop : ∀ a b, compareOp op a b = richCompare op a b) (hm : Meth X.K C (cmpInfo op).2.1 f) (F : FnOk X.prog X.w X.K X.mg X.base CX k f fd ps sp) (hr : Room k X.A) (hb : Binds X.K fd ps []) (hx : Passes CX X E) (hK : X.K = K := by rfl) :
    OpR X (compareOp op) (rCmpO K C sp E) := by
  subst hK
  intro pins s σ H x y v u Q I rx ry ⟨a, dx, fs, t, ex, ha, ht, hn, q⟩
  subst ex
  cases (show v = Value.ref a from rx)
  obtain ⟨od, J⟩ := inst_of I ha
  obtain ⟨Pp, kx, hp, _⟩ := kit_of I ry ht
  obtain ⟨m, hF⟩ := I.fr
  rw [hop]
  refine PySem.W.cmp_K (op := op) (tb := t) hr.units0 hF I.ok.mod.kin J (kx.ty _ _ I.kIn hp) hn hm.at_ hm.fn ?_
  refine wpAny_mono (run_0 (us := [.ref a, u]) (vs := [.ref a, y]) F hr hb hx I (.cons rfl (.cons ry .nil)) q) (fun w s' ⟨z, H', I', rz, qz⟩ => SlX.cmpback rz ⟨z, H', I', rz, qz⟩) fun _ _ x => x
/-- x in y, y an instance with a def __contains__ -/
def rInO (C : Addr) (sp : Sp) (E : XK) (neg : Bool) : R2 := fun x y H Q => ∃ a dx fs, y = .ref a ∧ H a = some (.ins C dx fs) ∧ sp [y, x] H (fun v H' => ∃ b, v = .bl b ∧ Q (.bl (if neg then !b else b)) H') E
theorem o_inO (hm : Meth X.K C "__contains__" f) (F : FnOk X.prog X.w X.K X.mg X.base CX k f fd ps sp) (hr : Room k X.A) (hb : Binds X.K fd ps []) (hx : Passes CX X E) : OpR X (compareOp .In) (rInO C sp E false) := by
  intro pins s σ H x y v u Q I rx ry ⟨a, dx, fs, ey, ha, q⟩
  subst ey
  cases (show u = Value.ref a from ry)
  obtain ⟨od, J⟩ := inst_of I ha
  obtain ⟨m, hF⟩ := I.fr
  refine PySem.W.in_K hF I.ok.mod.kin J hm.at_ hm.fn (wpAny_mono (run_0 (us := [.ref a, v]) (vs := [.ref a, x]) F hr hb hx I (.cons rfl (.cons rx .nil)) q) (fun w s' ⟨z, H', I', rz, b, ez, qz⟩ => ?_) fun _ _ x => x)
  subst ez
  cases (show w = Value.bool b from rz)
  exact wpAny_truthy_bool ⟨.bl b, H', I', rfl, qz⟩
theorem o_niO (hm : Meth X.K C "__contains__" f) (F : FnOk X.prog X.w X.K X.mg X.base CX k f fd ps sp) (hr : Room k X.A) (hb : Binds X.K fd ps []) (hx : Passes CX X E) : OpR X (compareOp .NotIn) (rInO C sp E true) := by
  intro pins s σ H x y v u Q I rx ry ⟨a, dx, fs, ey, ha, q⟩
  subst ey
  cases (show u = Value.ref a from ry)
  obtain ⟨od, J⟩ := inst_of I ha
  obtain ⟨m, hF⟩ := I.fr
  refine PySem.W.notIn_K hF I.ok.mod.kin J hm.at_ hm.fn (wpAny_mono (run_0 (us := [.ref a, v]) (vs := [.ref a, x]) F hr hb hx I (.cons rfl (.cons rx .nil)) q) (fun w s' ⟨z, H', I', rz, b, ez, qz⟩ => ?_) fun _ _ x => x)
  subst ez
  cases (show w = Value.bool b from rz)
  exact wpAny_truthy_bool ⟨.bl (!b), H', I', rfl, qz⟩
/-- x | y and its like, both of the one class -/
def rBinO (C : Addr) (sp : Sp) (E : XK) : R2 := fun x y H Q => ∃ a dx fs b dy gs, x = .ref a ∧ y = .ref b ∧ H a = some (.ins C dx fs) ∧ H b = some (.ins C dy gs) ∧ sp [x, y] H Q E
theorem o_binO {op : Operator} (hc : PySem.W.selfFirst X.K C = true) (hm : Meth X.K C (PySem.dunder op.info.2) f) (F : FnOk X.prog X.w X.K X.mg X.base CX k f fd ps sp) (hr : Room k X.A) (hb : Binds X.K fd ps []) (hx : Passes CX X E) : OpR X (binaryOp op) (rBinO C sp E) := by
  intro pins s σ H x y v u Q I rx ry ⟨a, dx, fs, b, dy, gs, ex, ey, ha, hb', q⟩
  subst ex; subst ey
  cases (show v = Value.ref a from rx)
  cases (show u = Value.ref b from ry)
  obtain ⟨od, J⟩ := inst_of I ha
  obtain ⟨od', J'⟩ := inst_of I hb'
  obtain ⟨m, hF⟩ := I.fr
  refine PySem.W.binop_K hF I.ok.mod.kin J J'.type hc hm.at_ hm.fn ?_
  refine wpAny_mono (run_0 (us := [.ref a, .ref b]) (vs := [.ref a, .ref b]) F hr hb hx I (.cons rfl (.cons rfl .nil)) q) (fun w s' ⟨z, H', I', rz, qz⟩ => SlX.cmpback rz ⟨z, H', I', rz, qz⟩) fun _ _ x => x
/-- len(x) by a def __len__ -/
def rLenO (C : Addr) (sp : Sp) (E : XK) : List V → Hp → VK → Prop := fun xs H Q => ∃ a dx fs, xs = [.ref a] ∧ H a = some (.ins C dx fs) ∧ sp [.ref a] H (fun v H' => ∃ n : Nat, v = .int n ∧ n ≤ sizeLine ∧ Q (.int n) H') E
theorem c_lenO (hm : Meth X.K C "__len__" f) (F : FnOk X.prog X.w X.K X.mg X.base CX k f fd ps sp) (hr : Room (k + 1) X.A) (hb : Binds X.K fd ps []) (hx : Passes CX X E) : CallR X (.builtin "len") (rLenO C sp E) := by
  intro pins s σ H xs us Q I r ⟨a, dx, fs, ex, ha, q⟩
  subst ex
  rw [Vals.ref1 r]
  obtain ⟨od, J⟩ := inst_of I ha
  obtain ⟨m, hF⟩ := I.fr
  refine PySem.W.len_K hF I.ok.mod.kin J hm.at_ hm.fn (wpAny_mono (run_in1 (us := [.ref a]) (vs := [.ref a]) F hr hb hx I (.cons rfl .nil) q) (fun w s' ⟨z, H', I', rz, n, ez, hn, qz⟩ => ?_) fun _ _ x => x)
  subst ez
  obtain ⟨t, rfl⟩ := rz
  rw [sizeLine_eq] at hn
  exact ⟨⟨by omega, by omega⟩, .int n, H', I'.tok _, ⟨_, rfl⟩, qz⟩
/-- x[i] by a def __getitem__ -/
def rGetO (C : Addr) (sp : Sp) (E : XK) : R2 := fun x y H Q => ∃ a dx fs, x = .ref a ∧ H a = some (.ins C dx fs) ∧ sp [x, y] H Q E
/-- x != y where the class has a def __eq__ alone -/
def rNeO (K : PySem.W.Frag) (C : Addr) (sp : Sp) (E : XK) : R2 := fun x y H Q => ∃ a dx fs t, x = .ref a ∧ H a = some (.ins C dx fs) ∧ TyX K H y t ∧ PySem.W.notFirst K C t = true ∧ sp [x, y] H (fun v H' => ∃ b, v = .bl b ∧ Q (.bl (!b)) H') E
theorem o_neO (K : PySem.W.Frag) (hne : PySem.W.findIn X.K (.ref C) "__ne__" = some (some (.builtin "object.__ne__"))) (hob : PySem.W.mroIn X.K C (.type "object") = some true) (hm : Meth X.K C "__eq__" f)
    (F : FnOk X.prog X.w X.K X.mg X.base CX k f fd ps sp) (hr : Room (k + 1) X.A) (hb : Binds X.K fd ps []) (hx : Passes CX X E) (hK : X.K = K := by rfl) : OpR X (compareOp .NotEq) (rNeO K C sp E) := by
  subst hK
  intro pins s σ H x y v u Q I rx ry ⟨a, dx, fs, t, ex, ha, ht, hn, q⟩
  subst ex
  cases (show v = Value.ref a from rx)
  obtain ⟨od, J⟩ := inst_of I ha
  obtain ⟨Pp, kx, hp, _⟩ := kit_of I ry ht
  have hu : X.A.units + 1 < cLine := hu_of hr
  have one : wpAny (model X.prog X.w) X.A (tryCompare (.ref a) "__ne__" u) (fun r s' => ∃ b H', r = some (.bool (!b)) ∧ Inv X pins σ H' s' ∧ Q (.bl (!b)) H') X.xe s := by
    have body : wpAny (model X.prog X.w) X.A.in1 (Builtin.«object.__ne__» ⟨[.ref a, u], []⟩) (fun r s' => ∃ b H', r = .done (.ret (.bool (!b))) ∧ Inv X pins σ H' s' ∧ Q (.bl (!b)) H') X.xe s := by
      unfold Builtin.«object.__ne__»
      refine wpAny_bind (wpAny_pure ?_)
      dsimp only
      refine wpAny_bind (wpAny_cRoomFor (show X.A.in1.units < cLine from hu) ?_)
      refine wpAny_bind (PySem.W.ifBound_K I.kIn J hm.at_ hm.fn (wpAny_mono (run_in1 (us := [.ref a, u]) (vs := [.ref a, y]) F hr hb hx I (.cons rfl (.cons ry .nil)) q) (fun w s' ⟨z, H', I', rz, b, ez, qz⟩ => ?_) fun _ _ x => x))
      subst ez
      cases (show w = Value.bool b from rz)
      dsimp only
      exact wpAny_bind (wpAny_truthy_bool (wpAny_pure ⟨b, H', rfl, I', qz⟩))
    unfold tryCompare
    refine wpAny_bind (ifBound_objNe I.kIn J hne (wpAny_call (codeAny_call_builtin PySem.F.cmp_object.ne.plain PySem.F.cmpEntry_ne (PySem.W.check_slot PySem.F.cmpKind_ne PySem.F.cmpSplit_ne (J.type.andThen (PySem.W.looks_mroIn I.kIn hob)) (PySem.F.cmpArgs_ne _ _)
      (wpAny_mono body (fun r s' ⟨b, H', er, I', qz⟩ => ?_) fun _ _ x => x)))))
    subst er
    exact wpAny_pure ⟨b, H', rfl, I', qz⟩
  show wpAny _ _ (richCompare .NotEq (.ref a) u) _ _ _
  unfold richCompare
  simp only [oneThing_ref]
  refine wpAny_holding (wpAny_bind (wpAny_cRoomFor (Nat.lt_of_succ_lt hu) ?_))
  refine wpAny_bind (J.type.here (wpAny_bind ((kx.ty _ _ I.kIn hp).here ?_)))
  split
  · rename_i ne
    have e : PySem.W.subIn X.K t (.ref C) = some false := by
      rcases Bool.or_eq_true_iff.mp hn with e | e
      · rw [beq_iff_eq.mp e] at ne; simp at ne
      · exact beq_iff_eq.mp e
    refine wpAny_bind ((PySem.W.looks_subIn I.kIn e).here ?_)
    simp only [Bool.false_eq_true, if_false]
    refine wpAny_bind (wpAny_mono one (fun r s' ⟨b, H', er, I', qz⟩ => ?_) fun _ _ e => e)
    subst er
    exact wpAny_pure ⟨.bl (!b), H', I', rfl, qz⟩
  · refine wpAny_bind (wpAny_pure ?_)
    simp only [Bool.false_eq_true, if_false]
    refine wpAny_bind (wpAny_mono one (fun r s' ⟨b, H', er, I', qz⟩ => ?_) fun _ _ e => e)
    subst er
    exact wpAny_pure ⟨.bl (!b), H', I', rfl, qz⟩
end
end Mf

namespace Mf
open PySem L2
/-! ### texts in order -/
def sle (a b : Str) : Bool := decide (a.cps.toList ≤ b.cps.toList)
theorem sle_trans (a b c : Str) (h1 : sle a b = true) (h2 : sle b c = true) : sle a c = true := by
  unfold sle at *
  rw [decide_eq_true_eq] at *
  exact List.le_trans h1 h2
theorem sle_total (a b : Str) : (sle a b || sle b a) = true := by
  unfold sle
  rw [Bool.or_eq_true, decide_eq_true_eq, decide_eq_true_eq]
  exact List.le_total _ _
theorem sle_anti {a b : Str} (h1 : sle a b = true) (h2 : sle b a = true) : a = b := by
  unfold sle at *
  rw [decide_eq_true_eq] at *
  exact str_ext (List.le_antisymm h1 h2)
theorem rising_pw : ∀ (p : Str) (l : List Str), PyProof.Rows.risingS p l = true → (p :: l).Pairwise (fun a b => sle a b = true)
  | p, [], _ => by simp
  | p, x :: r, h => by
    have h' : (!PySem.Spec.ltCps x.cps.toList p.cps.toList && PyProof.Rows.risingS x r) = true := h
    rw [Bool.and_eq_true] at h'
    have ih := rising_pw x r h'.2
    have h1 : sle p x = true := by
      have := h'.1
      rw [PyProof.Rows.ltCps_eq] at this
      unfold sle
      rw [decide_eq_true_eq]
      simpa using this
    refine List.pairwise_cons.mpr ⟨fun y hy => ?_, ih⟩
    rcases List.mem_cons.mp hy with rfl | hy
    · exact h1
    · exact sle_trans _ _ _ h1 ((List.pairwise_cons.mp ih).1 y hy)
theorem sortedS_pw : ∀ l : List Str, PyProof.Rows.sortedS l = true → l.Pairwise (fun a b => sle a b = true)
  | [], _ => List.Pairwise.nil
  | x :: r, h => rising_pw x r h
def srt (xs : List Str) : List Str := xs.mergeSort sle
theorem srt_perm (xs : List Str) : (srt xs).Perm xs := List.mergeSort_perm _ _
theorem srt_pw (xs : List Str) : (srt xs).Pairwise (fun a b => sle a b = true) := List.pairwise_mergeSort sle_trans sle_total xs
theorem srt_uniq {xs ys : List Str} (h : ys.Perm xs) (hs : ys.Pairwise (fun a b => sle a b = true)) : ys = srt xs :=
  List.Perm.eq_of_pairwise (fun _ _ _ _ h1 h2 => sle_anti h1 h2) hs (srt_pw xs) (h.trans (srt_perm xs).symm)
theorem sorted_is {xs ys : List Str} (h : ys.Perm xs) (hs : PyProof.Rows.sortedS ys = true) : ys = srt xs := srt_uniq h (sortedS_pw ys hs)
theorem srt_congr {xs ys : List Str} (h : xs.Perm ys) : srt xs = srt ys := srt_uniq ((srt_perm xs).trans h) (srt_pw xs)
theorem srt_len (xs : List Str) : (srt xs).length = xs.length := (srt_perm xs).length_eq
/-! ### sets of names: in order, each once -/
def nset (xs : List Str) : List Str := srt (addAll xs)
theorem addAll_nodup (xs : List Str) : (addAll xs).Nodup := (foldl_addT xs [] List.nodup_nil).1
theorem mem_addAll {xs : List Str} {z : Str} : z ∈ addAll xs ↔ z ∈ xs := by
  rw [show addAll xs = xs.foldl addT [] from rfl, (foldl_addT xs [] List.nodup_nil).2 z]; simp
theorem addAll_len (xs : List Str) : (addAll xs).length ≤ xs.length := by
  have := foldl_len xs []
  unfold addAll
  simpa using this
theorem nset_nodup (xs : List Str) : (nset xs).Nodup := (srt_perm _).nodup_iff.mpr (addAll_nodup xs)
theorem mem_nset {xs : List Str} {z : Str} : z ∈ nset xs ↔ z ∈ xs := by
  unfold nset; rw [(srt_perm _).mem_iff, mem_addAll]
theorem nset_len (xs : List Str) : (nset xs).length ≤ xs.length := by unfold nset; rw [srt_len]; exact addAll_len xs
theorem perm_of_mem {xs ys : List Str} (h1 : xs.Nodup) (h2 : ys.Nodup) (h : ∀ z, z ∈ xs ↔ z ∈ ys) : xs.Perm ys := (List.perm_ext_iff_of_nodup h1 h2).mpr h
theorem nset_congr {xs ys : List Str} (h : ∀ z, z ∈ xs ↔ z ∈ ys) : nset xs = nset ys :=
  srt_congr (perm_of_mem (addAll_nodup xs) (addAll_nodup ys) fun z => by rw [mem_addAll, mem_addAll]; exact h z)
theorem srt_nset {xs : List Str} (h : xs.Nodup) : srt xs = nset xs := srt_congr (perm_of_mem h (addAll_nodup xs) fun z => mem_addAll.symm)
theorem nset_nset (xs : List Str) : nset (nset xs) = nset xs := nset_congr fun z => mem_nset
theorem nset_len_nodup {xs : List Str} (h : xs.Nodup) : (nset xs).length = xs.length := by rw [← srt_nset h, srt_len]
theorem nset_inj {xs ys : List Str} (h : nset xs = nset ys) (z : Str) : z ∈ xs ↔ z ∈ ys := by
  rw [← mem_nset (xs := xs), h, mem_nset]
theorem nset_nil : nset [] = [] := by unfold nset srt addAll; simp
theorem nset_filter (p : Str → Bool) (xs : List Str) : nset ((nset xs).filter p) = nset (xs.filter p) := nset_congr fun z => by
  rw [List.mem_filter, List.mem_filter, mem_nset]
/-! ### classes and methods as they stand, and what methods do -/
structure ClsF (K : PySem.W.Frag) (mg : Str → Option Value) (x : Str) (C : Addr) : Prop where
  g : mg x = some (.ref C)
  ic : C8.InsC K C
  sf : PySem.W.selfFirst K C = true
  ne : PySem.W.findIn K (.ref C) "__ne__" = some (some (.builtin "object.__ne__"))
def MethAt (K : PySem.W.Frag) (C : Addr) (m q : Str) (st : Stmt) (ps : List Str) : Prop := ∃ f fd, Fun K m q st f fd ∧ Meth K C m f ∧ Binds K fd ps []
def MDoes (P : Program) (w : World) (K : PySem.W.Frag) (mg : Str → Option Value) (base : Heap) (CX : CXT) (lv : Nat) (C : Addr) (m : Str) (ps : List Str) (sp : Sp) : Prop :=
  ∃ f fd, FnOk P w K mg base CX lv f fd ps sp ∧ Meth K C m f ∧ Binds K fd ps [] ∧ PySem.W.fnIn K f = true
theorem _root_.L2.Fun.isIn {K : PySem.W.Frag} {x q : Str} {st : Stmt} {f : Addr} {fd : FuncData} (F : Fun K x q st f fd) : PySem.W.fnIn K f = true := by
  obtain ⟨oc, od, kV, doc, pm, an, cdv, ct, osl, rfl, h, _⟩ := F.ex
  unfold PySem.W.fnIn
  rw [h]
theorem filterMap_if {α : Type} (p : α → Prop) [DecidablePred p] : ∀ xs : List α, (xs.filterMap fun z => if p z then some z else none) = xs.filter fun z => decide (p z)
  | [] => rfl
  | q :: r => by
    have ih := filterMap_if p r
    rw [List.filterMap_cons, List.filter_cons]
    by_cases h : p q
    · simp only [h, if_true, decide_true]; rw [ih]
    · simp only [h, if_false, decide_false]; rw [ih]; rfl
/-! ### texts as data -/
def Oks (xs : List Str) : Prop := ∀ x ∈ xs, PyData.strOk x = true
theorem Oks.nset {xs : List Str} (h : Oks xs) : Oks (nset xs) := fun x hx => h x (mem_nset.mp hx)
theorem Oks.filter {xs : List Str} (h : Oks xs) (p : Str → Bool) : Oks (xs.filter p) := fun x hx => h x (List.mem_filter.mp hx).1
theorem Oks.append {xs ys : List Str} (h : Oks xs) (h' : Oks ys) : Oks (xs ++ ys) := fun x hx => (List.mem_append.mp hx).elim (h x) (h' x)
theorem IsName.ok {x : Str} (h : IsName x) : PyData.strOk x = true := by
  unfold PyData.strOk
  rw [Array.all_eq_true']
  intro c hc
  have := h.2.2 c (Array.mem_toList_iff.mpr hc)
  simp
  omega
theorem Names.oks {xs : List Str} (h : Names xs) : Oks xs := fun x hx => (h.2 x hx).ok
theorem dpAll_strs (K : PySem.W.Frag) (H : Hp) : ∀ xs : List Str, DpAll K H (xs.map V.str) (xs.map PyData.str)
  | [] => .nil
  | x :: r => .cons (.str x) (dpAll_strs K H r)
theorem dp_strsT {K : PySem.W.Frag} {H : Hp} {a : Addr} {xs : List Str} (h : SqT K H a (xs.map V.str)) : Dp K H (.ref a) (.tuple (xs.map PyData.str)) := .tup h (dpAll_strs K H xs)
theorem dp_strsL {K : PySem.W.Frag} {H : Hp} {a : Addr} {xs : List Str} (h : SqL K H a (xs.map V.str)) : Dp K H (.ref a) (.list (xs.map PyData.str)) := .lst h (dpAll_strs K H xs)
theorem lay_strs : ∀ {xs : List Str}, Oks xs → PyData.canLayAll0 (xs.map PyData.str) = true
  | [], _ => by simp [PyData.canLayAll0]
  | x :: r, h => by
    have h1 := h x List.mem_cons_self
    have h2 := lay_strs (xs := r) fun y hy => h y (List.mem_cons_of_mem _ hy)
    simp only [List.map_cons, PyData.canLayAll0, PyData.canLay0, h1, h2, Bool.and_self]
theorem depth_strs : ∀ xs : List Str, PyData.depthAll (xs.map PyData.str) = 0
  | [] => by simp [PyData.depthAll]
  | x :: r => by simp only [List.map_cons, PyData.depthAll, PyData.depth, depth_strs r, Nat.max_self]
theorem shaped_strsT {xs : List Str} (h : Oks xs) : SeqAt.shaped (.tuple (xs.map PyData.str)) = true := by
  unfold SeqAt.shaped
  simp only [PyData.canLay0, PyData.depth, depth_strs, lay_strs h]
  rfl
theorem shaped_strsL {xs : List Str} (h : Oks xs) : SeqAt.shaped (.list (xs.map PyData.str)) = true := by
  unfold SeqAt.shaped
  simp only [PyData.canLay0, PyData.depth, depth_strs, lay_strs h]
  rfl
theorem eqvAll_strs : ∀ xs ys : List Str, PyData.eqvAll (xs.map PyData.str) (ys.map PyData.str) = decide (xs = ys)
  | [], [] => by simp [PyData.eqvAll]
  | [], y :: ys => by simp [PyData.eqvAll]
  | x :: xs, [] => by simp [PyData.eqvAll]
  | x :: xs, y :: ys => by
    simp only [List.map_cons, PyData.eqvAll, PyData.eqv, eqvAll_strs xs ys]
    by_cases h1 : x = y
    · by_cases h2 : xs = ys <;> simp [h1, h2]
    · simp [h1]
theorem eqv_strsT (xs ys : List Str) : PyData.eqv (.tuple (xs.map PyData.str)) (.tuple (ys.map PyData.str)) = decide (xs = ys) := by
  simp only [PyData.eqv]; exact eqvAll_strs xs ys
theorem eqv_strsL (xs ys : List Str) : PyData.eqv (.list (xs.map PyData.str)) (.list (ys.map PyData.str)) = decide (xs = ys) := by
  simp only [PyData.eqv]; exact eqvAll_strs xs ys
section
variable {K : PySem.W.Frag} {H : Hp} {Q : VK} {a b : Addr} {xs ys : List Str}
theorem w_eqT (ha : SqT K H a (xs.map V.str)) (hb : SqT K H b (ys.map V.str)) (h1 : Oks xs) (h2 : Oks ys) (g : Q (.bl (decide (xs = ys))) H) : rEqD K (.ref a) (.ref b) H Q :=
  ⟨_, _, dp_strsT ha, dp_strsT hb, shaped_strsT h1, shaped_strsT h2, by rw [eqv_strsT]; exact g⟩
theorem w_eqL (ha : SqL K H a (xs.map V.str)) (hb : SqL K H b (ys.map V.str)) (h1 : Oks xs) (h2 : Oks ys) (g : Q (.bl (decide (xs = ys))) H) : rEqD K (.ref a) (.ref b) H Q :=
  ⟨_, _, dp_strsL ha, dp_strsL hb, shaped_strsL h1, shaped_strsL h2, by rw [eqv_strsL]; exact g⟩
theorem w_neL (ha : SqL K H a (xs.map V.str)) (hb : SqL K H b (ys.map V.str)) (h1 : Oks xs) (h2 : Oks ys) (g : Q (.bl (!decide (xs = ys))) H) : rNeD K (.ref a) (.ref b) H Q :=
  ⟨_, _, dp_strsL ha, dp_strsL hb, shaped_strsL h1, shaped_strsL h2, by rw [eqv_strsL]; exact g⟩
theorem w_neT (ha : SqT K H a (xs.map V.str)) (hb : SqT K H b (ys.map V.str)) (h1 : Oks xs) (h2 : Oks ys) (g : Q (.bl (!decide (xs = ys))) H) : rNeD K (.ref a) (.ref b) H Q :=
  ⟨_, _, dp_strsT ha, dp_strsT hb, shaped_strsT h1, shaped_strsT h2, by rw [eqv_strsT]; exact g⟩
end
/-! ### NameSet -/
def fldM (t : Addr) : List (Str × V) := [("members", .ref t)]
/-- at a: a NameSet of the names xs -/
def NsAt (K : PySem.W.Frag) (C : Addr) (H : Hp) (a : Addr) (xs : List Str) : Prop := ∃ dx t, H a = some (.ins C dx (fldM t)) ∧ SqT K H t (xs.map V.str) ∧ Oks xs
theorem Same.sqt {K : PySem.W.Frag} {H H' : Hp} {a : Addr} {xs : List V} (e : Same H H') (h : SqT K H a xs) : SqT K H' a xs := by
  rcases h with (h | ⟨o, h⟩) | h
  · exact .inl (.inl (e _ _ h))
  · exact .inl (.inr ⟨o, e _ _ h⟩)
  · exact .inr h
theorem NsAt.same {K : PySem.W.Frag} {C : Addr} {H H' : Hp} {a : Addr} {xs : List Str} (h : NsAt K C H a xs) (e : Same H H') : NsAt K C H' a xs := by
  obtain ⟨dx, t, h1, h2, h3⟩ := h
  exact ⟨dx, t, e _ _ h1, Same.sqt e h2, h3⟩
def sp_nsContains (K : PySem.W.Frag) (C : Addr) : Sp := fun vs H Q _ => ∃ (a : Addr) (xs : List Str) (z : Str), vs = [.ref a, .str z] ∧ NsAt K C H a xs ∧ Q (.bl (decide (z ∈ xs))) H
def sp_nsLen (K : PySem.W.Frag) (C : Addr) : Sp := fun vs H Q _ => ∃ (a : Addr) (xs : List Str), vs = [.ref a] ∧ NsAt K C H a xs ∧ Q (.int xs.length) H
/-- two sets -/
def sp_nsCmp (K : PySem.W.Frag) (C : Addr) (f : List Str → List Str → Bool) : Sp := fun vs H Q _ => ∃ (a b : Addr) (xs ys : List Str), vs = [.ref a, .ref b] ∧ NsAt K C H a xs ∧ NsAt K C H b ys ∧ xs.length ≤ 1000 ∧ ∀ H', Same H H' → Q (.bl (f xs ys)) H'
/-- a set and anything that is of another type -/
def sp_nsEq (K : PySem.W.Frag) (C : Addr) : Sp := fun vs H Q _ => ∃ (a : Addr) (y : V) (xs : List Str), vs = [.ref a, y] ∧ NsAt K C H a xs ∧
  ((∃ b ys, y = .ref b ∧ NsAt K C H b ys ∧ Q (.bl (decide (xs = ys))) H) ∨ (∃ t, TyX K H y t ∧ PySem.W.kitOne K t (.ref C) = some false ∧ Q (.bl false) H))
def sp_nsBin (K : PySem.W.Frag) (C : Addr) (f : List Str → List Str → List Str) : Sp := fun vs H Q _ => ∃ (a b : Addr) (xs ys : List Str), vs = [.ref a, .ref b] ∧ NsAt K C H a xs ∧ NsAt K C H b ys ∧ xs.length + ys.length < 64 ∧
  ∀ c H', Same H H' → H c = none → NsAt K C H' c (nset (f xs ys)) → Q (.ref c) H'
/-- __init__: a list or tuple of texts, or a set of names -/
def Coll (K : PySem.W.Frag) (C : Addr) (H : Hp) (v : V) (xs : List Str) : Prop := ∃ b, v = .ref b ∧ (SqL K H b (xs.map V.str) ∨ SqT K H b (xs.map V.str) ∨ (NsAt K C H b xs ∧ nset xs = xs))
def sp_nsInit (K : PySem.W.Frag) (C : Addr) : Sp := fun vs H Q _ => ∃ (x dx : Addr) (v : V) (xs : List Str), vs = [.ref x, v] ∧ H x = some (.ins C dx []) ∧ Coll K C H v xs ∧ Oks xs ∧ xs.length < 64 ∧
  ∀ H' t, (∀ b o, b ≠ x → H b = some o → H' b = some o) → H' x = some (.ins C dx (fldM t)) → SqT K H' t ((nset xs).map V.str) → Q .non H'
/-! ### making instances -/
def MkDoes (P : Program) (w : World) (K : PySem.W.Frag) (mg : Str → Option Value) (base : Heap) (CX : CXT) (lv : Nat) (x : Str) (C : Addr) (ps : List Str) (dvs : List V) (sp : Sp) : Prop :=
  ∃ f fd ds, Mk K C f ∧ FnOk P w K mg base CX lv f fd ps sp ∧ Binds K fd ps ds ∧ Vals dvs ds ∧ mg x = some (.ref C)
def MkAt (K : PySem.W.Frag) (C : Addr) (q : Str) (st : Stmt) (ps : List Str) : Prop := ∃ f fd, Fun K "__init__" q st f fd ∧ Mk K C f ∧ Binds K fd ps []
theorem tyx_l {K : PySem.W.Frag} {H : Hp} {a : Addr} {xs : List V} (h : SqL K H a xs) : TyX K H (.ref a) (.type "list") := by
  rcases h with (h | ⟨o, h⟩) | ⟨o, its, n, h, hc, _⟩
  · exact .base (.lst h)
  · exact .base (.frz h)
  · exact .kList h hc
theorem tyx_t {K : PySem.W.Frag} {H : Hp} {a : Addr} {xs : List V} (h : SqT K H a xs) : TyX K H (.ref a) (.type "tuple") := by
  rcases h with (h | ⟨o, h⟩) | ⟨o, its, n, h, hc, _⟩
  · exact .base (.tup h)
  · exact .fTuple h
  · exact .kTuple h hc
theorem tyx_i {K : PySem.W.Frag} {C : Addr} {H : Hp} {a dx : Addr} {fs : List (Str × V)} (c : C8.InsC K C) (h : H a = some (.ins C dx fs)) : TyX K H (.ref a) (.ref C) := .base (.ins h c.cl c.ha c.hn c.htk c.hm)
theorem look_hd {k : Str} {v : V} {r : List (Str × V)} : ((k, v) :: r).lookup k = some v := List.lookup_cons_self
section
variable {K : PySem.W.Frag} {σ : L2.St} {H : Hp} {Q : VK} {a C dx : Addr} {fs : List (Str × V)} {v : V} {f : Str}
theorem w_fldx {R : V → Prop} (h : H a = some (.ins C dx fs)) (hc : Cls K C) (hn : NoAttr K C f) (hl : fs.lookup f = some v) (g : R v) : ∃ a' C dx fs v, V.ref a = .ref a' ∧ H a' = some (.ins C dx fs) ∧ Cls K C ∧ NoAttr K C f ∧ fs.lookup f = some v ∧ R v :=
  ⟨a, C, dx, fs, v, rfl, h, hc, hn, hl, g⟩
theorem w_sfld {ta tv : TE} {nx bk ct : L2.St → Hp → Prop} {rt : VK} (g : tv σ H fun y H1 => ta σ H1 fun x H2 => ∃ a C dx fs, x = .ref a ∧ H2 a = some (.ins C dx fs) ∧ Cls K C ∧ NoAttr K C f ∧ fs.length < 1000 ∧ nx σ (upd H2 a (.ins C dx (putF f y fs)))) : sFld K ta tv f ⟨nx, rt, bk, ct⟩ σ H := g
theorem w_sfldx {y : V} {R : Hp → Prop} (h : H a = some (.ins C dx fs)) (hc : Cls K C) (hn : NoAttr K C f) (hl : fs.length < 1000) (g : R (upd H a (.ins C dx (putF f y fs)))) :
    ∃ a' C dx fs, V.ref a = .ref a' ∧ H a' = some (.ins C dx fs) ∧ Cls K C ∧ NoAttr K C f ∧ fs.length < 1000 ∧ R (upd H a' (.ins C dx (putF f y fs))) := ⟨a, C, dx, fs, rfl, h, hc, hn, hl, g⟩
/-- an instance is made, and its __init__ run -/
def MkB (C : Addr) (sp : Sp) (E : XK) (Q : VK) (vs : List V) (H1 : Hp) : Prop := ∀ x dx, H1 x = none → H1 dx = none → dx ≠ x → sp (.ref x :: vs) (upd (upd H1 dx (.own x)) x (.ins C dx [])) (fun v H2 => v = .non ∧ Q (.ref x) H2) E
theorem w_make {sp : Sp} {dvs : List V} {E : XK} {tA : TA} (g : tA σ H fun vs H1 => MkB C sp E Q (vs ++ dvs) H1) : tMake C sp dvs E tA σ H Q := g
end
theorem Coll.same {K : PySem.W.Frag} {C : Addr} {H H' : Hp} {v : V} {xs : List Str} (h : Coll K C H v xs) (e : Same H H') : Coll K C H' v xs := by
  obtain ⟨b, rfl, h | h | ⟨h, h'⟩⟩ := h
  · exact ⟨b, rfl, .inl (e.seq h)⟩
  · exact ⟨b, rfl, .inr (.inl (Same.sqt e h))⟩
  · exact ⟨b, rfl, .inr (.inr ⟨h.same e, h'⟩)⟩
theorem use_nsMake {K : PySem.W.Frag} {C : Addr} {H : Hp} {Q : VK} {E : XK} {v : V} {vs : List V} {xs : List Str} (hv : vs = [v]) (hC : Coll K C H v xs) (hO : Oks xs) (hl : xs.length < 64) (g : ∀ x H', Same H H' → H x = none → NsAt K C H' x (nset xs) → Q (.ref x) H') : MkB C (sp_nsInit K C) E Q vs H := by
  intro x dx nx nd ne
  subst hv
  have s0 : Same H (upd (upd H dx (.own x)) x (.ins C dx [])) := Same.mut (Same.new nd) nx
  refine ⟨x, dx, v, xs, rfl, upd_same, hC.same s0, hO, hl, fun H' t k hx hT => ⟨rfl, ?_⟩⟩
  exact g x H' (fun b o e => k b o (ne_of_none e nx) (s0 b o e)) nx ⟨dx, t, hx, hT, hO.nset⟩
def nsLe (xs ys : List Str) : Bool := xs.all fun z => decide (z ∈ ys)
def nsLt (xs ys : List Str) : Bool := decide (xs.length < ys.length) && nsLe xs ys
def nsOr (xs ys : List Str) : List Str := xs ++ ys
def nsAnd (xs ys : List Str) : List Str := xs.filter fun z => decide (z ∈ ys)
def nsSub (xs ys : List Str) : List Str := xs.filter fun z => decide (z ∉ ys)
theorem FunD.okN {P : Program} {w : World} {K : PySem.W.Frag} {mg : Str → Option Value} {base : Heap} {x qual : Str} {params : Arguments} {body : List Stmt} {scope : Scope} {dvs : List V} {kws : List (Str × V)} {f : Addr} {fd : FuncData} {N ps : List Str} {k : Nat} {sp : Sp}
    (F : FunD K x qual params body scope dvs kws f fd) (S : FnScope N ps scope) (len : ∀ vs H Q E, sp vs H Q E → vs.length = ps.length)
    (hbody : ∀ (cdv : Value) (A : Around) (outer : List Env) (s : Shared) (H : Hp) (vs : List V) (Q : VK) (E : XK), Room k (A.deeper (PyProof.Rows.envOfC qual scope s.heap.objs.size f cdv)) → sp vs H Q E →
      ∃ t, PSs (cxOf CX0 P w K mg base N qual scope f cdv A outer s H E).nox body t ∧ t { nx := fun _ H' => Q .non H', rt := Q } (start N vs) H) : FnOk P w K mg base CX0 (k + 1) f fd ps sp :=
  F.ok S len fun cdv A outer s H vs Q E hr h => let ⟨t, d, q⟩ := hbody cdv A outer s H vs Q E hr h; ⟨t, d.nox, q⟩
/-! ### the operators of sets, used -/
section
variable {K : PySem.W.Frag} {C : Addr} {H : Hp} {Q : VK} {E : XK} {a b : Addr} {xs ys : List Str}
theorem nf_self : PySem.W.notFirst K C (.ref C) = true := by unfold PySem.W.notFirst; simp
theorem u_nsCmp {f : List Str → List Str → Bool} (ic : C8.InsC K C) (h1 : NsAt K C H a xs) (h2 : NsAt K C H b ys) (hl : xs.length ≤ 1000) (g : ∀ H', Same H H' → Q (.bl (f xs ys)) H') : rCmpO K C (sp_nsCmp K C f) E (.ref a) (.ref b) H Q := by
  obtain ⟨dx, t, ha, _⟩ := id h1
  obtain ⟨dy, u, hb, _⟩ := id h2
  exact ⟨a, dx, _, _, rfl, ha, tyx_i ic hb, nf_self, a, b, xs, ys, rfl, h1, h2, hl, g⟩
theorem u_nsEq (ic : C8.InsC K C) (h1 : NsAt K C H a xs) (h2 : NsAt K C H b ys) (g : Q (.bl (decide (xs = ys))) H) : rCmpO K C (sp_nsEq K C) E (.ref a) (.ref b) H Q := by
  obtain ⟨dx, t, ha, _⟩ := id h1
  obtain ⟨dy, u, hb, _⟩ := id h2
  exact ⟨a, dx, _, _, rfl, ha, tyx_i ic hb, nf_self, a, .ref b, xs, rfl, h1, .inl ⟨b, ys, rfl, h2, g⟩⟩
theorem u_nsEqO {y : V} {t : Value} (h1 : NsAt K C H a xs) (ht : TyX K H y t) (hn : PySem.W.notFirst K C t = true) (hk : PySem.W.kitOne K t (.ref C) = some false) (g : Q (.bl false) H) : rCmpO K C (sp_nsEq K C) E (.ref a) y H Q := by
  obtain ⟨dx, t', ha, _⟩ := id h1
  exact ⟨a, dx, _, _, rfl, ha, ht, hn, a, y, xs, rfl, h1, .inr ⟨t, ht, hk, g⟩⟩
theorem u_nsNe (ic : C8.InsC K C) (h1 : NsAt K C H a xs) (h2 : NsAt K C H b ys) (g : Q (.bl (!decide (xs = ys))) H) : rNeO K C (sp_nsEq K C) E (.ref a) (.ref b) H Q := by
  obtain ⟨dx, t, ha, _⟩ := id h1
  obtain ⟨dy, u, hb, _⟩ := id h2
  exact ⟨a, dx, _, _, rfl, ha, tyx_i ic hb, nf_self, a, .ref b, xs, rfl, h1, .inl ⟨b, ys, rfl, h2, _, rfl, g⟩⟩
theorem u_nsBin {f : List Str → List Str → List Str} (h1 : NsAt K C H a xs) (h2 : NsAt K C H b ys) (hl : xs.length + ys.length < 64) (g : ∀ c H', Same H H' → H c = none → NsAt K C H' c (nset (f xs ys)) → Q (.ref c) H') : rBinO C (sp_nsBin K C f) E (.ref a) (.ref b) H Q := by
  obtain ⟨dx, t, ha, _⟩ := id h1
  obtain ⟨dy, u, hb, _⟩ := id h2
  exact ⟨a, dx, _, b, dy, _, rfl, rfl, ha, hb, a, b, xs, ys, rfl, h1, h2, hl, g⟩
theorem u_nsIn {z : Str} (h1 : NsAt K C H a xs) (g : Q (.bl (decide (z ∈ xs))) H) : rInO C (sp_nsContains K C) E false (.str z) (.ref a) H Q := by
  obtain ⟨dx, t, ha, _⟩ := id h1
  exact ⟨a, dx, _, rfl, ha, a, xs, z, rfl, h1, _, rfl, g⟩
theorem u_nsNi {z : Str} (h1 : NsAt K C H a xs) (g : Q (.bl (!decide (z ∈ xs))) H) : rInO C (sp_nsContains K C) E true (.str z) (.ref a) H Q := by
  obtain ⟨dx, t, ha, _⟩ := id h1
  exact ⟨a, dx, _, rfl, ha, a, xs, z, rfl, h1, _, rfl, g⟩
theorem u_nsLen (h1 : NsAt K C H a xs) (hl : xs.length ≤ 1000) (g : Q (.int xs.length) H) : rLenO C (sp_nsLen K C) E [.ref a] H Q := by
  obtain ⟨dx, t, ha, _⟩ := id h1
  exact ⟨a, dx, _, rfl, ha, a, xs, rfl, h1, xs.length, rfl, by rw [PySem.sizeLine_eq]; omega, g⟩
end
theorem nsLe_nset (xs ys : List Str) : nsLe (nset xs) (nset ys) = nsLe xs ys := by
  unfold nsLe
  rw [Bool.eq_iff_iff, List.all_eq_true, List.all_eq_true]
  constructor
  · intro h z hz
    have := h z (mem_nset.mpr hz)
    rw [decide_eq_true_eq, mem_nset] at this
    rw [decide_eq_true_eq]; exact this
  · intro h z hz
    have := h z (mem_nset.mp hz)
    rw [decide_eq_true_eq] at this ⊢
    rw [mem_nset]; exact this
theorem nset_and (xs ys : List Str) : nset (nsAnd (nset xs) (nset ys)) = nset (xs.filter fun z => decide (z ∈ ys)) := nset_congr fun z => by
  unfold nsAnd; simp only [List.mem_filter, mem_nset, decide_eq_true_eq]
theorem nset_sub (xs ys : List Str) : nset (nsSub (nset xs) (nset ys)) = nset (xs.filter fun z => decide (z ∉ ys)) := nset_congr fun z => by
  unfold nsSub; simp only [List.mem_filter, mem_nset, decide_eq_true_eq]
theorem nset_or (xs ys : List Str) : nset (nsOr (nset xs) (nset ys)) = nset (xs ++ ys) := nset_congr fun z => by
  unfold nsOr; simp only [List.mem_append, mem_nset]
theorem NsAt.mut {K : PySem.W.Frag} {C : Addr} {H : Hp} {a f : Addr} {xs : List Str} {us ws : List V} (h : NsAt K C H a xs) (hf : H f = some (.lst us)) : NsAt K C (upd H f (.lst ws)) a xs := by
  obtain ⟨dx, t, h1, h2, h3⟩ := h
  refine ⟨dx, t, by rw [upd_ne (ne_of h1 hf (by intro z; cases z))]; exact h1, ?_, h3⟩
  rcases h2 with (h | ⟨o, h⟩) | h
  · exact SqT.of (by rw [upd_ne (ne_of h hf (by intro z; cases z))]; exact h)
  · exact .inl (.inr ⟨o, by rw [upd_ne (ne_of h hf (by intro z; cases z))]; exact h⟩)
  · exact .inr h
theorem Coll.lst {K : PySem.W.Frag} {C : Addr} {H : Hp} {b : Addr} {xs : List Str} (h : H b = some (.lst (xs.map V.str))) : Coll K C H (.ref b) xs := ⟨b, rfl, .inl (SqL.of h)⟩
theorem Coll.tup {K : PySem.W.Frag} {C : Addr} {H : Hp} {b : Addr} {xs : List Str} (h : H b = some (.tup (xs.map V.str))) : Coll K C H (.ref b) xs := ⟨b, rfl, .inr (.inl (SqT.of h))⟩
theorem Coll.ns {K : PySem.W.Frag} {C : Addr} {H : Hp} {b : Addr} {xs : List Str} (h : NsAt K C H b (nset xs)) : Coll K C H (.ref b) (nset xs) := ⟨b, rfl, .inr (.inr ⟨h, nset_nset xs⟩)⟩
end Mf

namespace Mf
open PySem L2 PyProof.Rows
/-! ### what is never reached -/
def tDead : TS := fun _ _ _ => False
theorem ps_dead {X : Cx} {st : Stmt} : PS X st tDead := ⟨fun _ _ _ _ _ _ h => h.elim⟩
/-! ### f-strings -/
theorem empty_len : Str.empty.length = 0 := rfl
def tJoin (ts : List TE) : TE := fun σ H Q => tJs ts Str.empty σ H fun out H1 => Q (.str out) H1
theorem e_joined {X : Cx} {v1 v2 : Expr} {rest : List Expr} {ts : List TE} {pos : Pos} (h : PJ X (v1 :: v2 :: rest) ts) : PE X (.JoinedStr (v1 :: v2 :: rest) pos) (tJoin ts) := pe_joined h
section
variable {σ : L2.St} {H : Hp} {Q : VK} {QS : Str → Hp → Prop} {t te : TE} {ts : List TE} {acc z : Str}
theorem w_joined (h : tJs ts Str.empty σ H fun out H1 => Q (.str out) H1) : tJoin ts σ H Q := h
theorem w_js (h : t σ H fun x H1 => ∃ y : Str, x = .str y ∧ (acc ++ y).length ≤ sizeLine ∧ tJs ts (acc ++ y) σ H1 QS) : tJs (t :: ts) acc σ H QS := h
theorem w_js0 (h : QS acc H) : tJs [] acc σ H QS := h
theorem w_jx {R : Str → Prop} (hl : (acc ++ z).length ≤ sizeLine) (h : R z) : ∃ y : Str, V.str z = .str y ∧ (acc ++ y).length ≤ sizeLine ∧ R y := ⟨z, rfl, hl, h⟩
theorem w_fmt (h : te σ H fun x H1 => (∃ y : Str, x = .str y ∧ y.length ≤ sizeLine ∧ Q (.str y) H1) ∨ ∃ i : Int, x = .int i ∧ i.natAbs.log2 < 1920 ∧ Q (.str (toString i)) H1) : tFmt te σ H Q := h
theorem w_fmtS {B : Prop} {R : Str → Prop} (hl : z.length ≤ sizeLine) (h : R z) : (∃ y : Str, V.str z = .str y ∧ y.length ≤ sizeLine ∧ R y) ∨ B := .inl ⟨z, rfl, hl, h⟩
end
/-! ### enumerate(rows, start=k): a list or a tuple -/
def SqB (K : PySem.W.Frag) (b : Bool) (H : Hp) (a : Addr) (xs : List V) : Prop := if b = true then SqT K H a xs else SqL K H a xs
def IteS (K : PySem.W.Frag) (b : Bool) (a : Addr) (k : Int) : It :=
  ⟨fun i H => ∃ (xs : List V) (x : V), SqB K b H a xs ∧ xs[i]? = some x, fun i H v H' => ∃ T x, v = .ref T ∧ H T = none ∧ H' = upd H T (.tup [.int (k + (i : Nat)), x]) ∧ ∀ xs, SqB K b H a xs → xs[i]? = some x, fun i H => ∃ xs : List V, SqB K b H a xs ∧ xs.length = i⟩
def IsItB (b : Bool) (h : Heap) (it a : Addr) (i : Nat) : Prop := if b = true then h.IsTupleIter it a i else h.IsListIter it a i
/-- the walked thing as the heap has it, and what draws it -/
theorem drawsB {X : Cx} {pins : List (Addr × Obj)} {s : Shared} {σ : L2.St} {H : Hp} {b : Bool} {it e a : Addr} {i : Nat} {c : Int} {old : Value} {xs : List V} (hc : X.calm = true) (I : Inv X pins σ H s) (hq : SqB X.K b H a xs) (hit : IsItB b s.heap it a i) (he : IsEnum s.heap e it c old) :
    ∃ (its : List Value) (St : Nat → Heap → Prop), Vals xs its ∧ Draws X.prog X.w X.A.in1 it [it, a] its.toArray.size (fun i v => its.toArray[i]? = some v) St ∧ St i s.heap ∧ (∀ j h, St j h → IsItB b h it a j) ∧ e ∉ [it, a] ∧ (∀ ys, SqB X.K b H a ys → ys = xs) := by
  cases b with
  | false =>
    have hq' : SqL X.K H a xs := hq
    obtain ⟨its, rv, p, hz⟩ := I.list hq'
    obtain ⟨o, ho, hoc, hd⟩ := (show s.heap.IsListIter it a i from hit)
    obtain ⟨n', q, hqc, _⟩ := id p
    have na : a ≠ it := by
      rintro rfl
      obtain ⟨o', n2, ho', hc', _⟩ := id p
      rw [ho'] at ho; cases ho; rw [hc'] at hoc; injection hoc with z; exact absurd z (by decide)
    refine ⟨its, _, rv, Draws.list (show X.A.in1.handled = none from I.ok.hd hc) it a na its.toArray, ⟨hit, p.isList⟩, fun j h st => st.1, ?_, fun ys hy => I.list_inj hy hq'⟩
    intro hm
    rcases List.mem_cons.mp hm with z | z
    · subst z; rw [he] at ho; cases ho; injection hoc with z; exact absurd z (by decide)
    · rw [List.mem_singleton] at z; subst z
      obtain ⟨o', n2, ho', hc', _⟩ := id p
      rw [he] at ho'; cases ho'; injection hc' with z; exact absurd z (by decide)
  | true =>
    have hq' : SqT X.K H a xs := hq
    obtain ⟨its, rv, p, hz⟩ := I.tuple hq'
    obtain ⟨o, ho, hoc, hd⟩ := (show s.heap.IsTupleIter it a i from hit)
    have na : a ≠ it := by
      rintro rfl
      obtain ⟨o', ho', hc', _⟩ := id p
      rw [ho'] at ho; cases ho; rw [hc'] at hoc; injection hoc with z; exact absurd z (by decide)
    refine ⟨its, _, rv, Draws.tuple (show X.A.in1.handled = none from I.ok.hd hc) it a na its.toArray, ⟨hit, p⟩, fun j h st => st.1, ?_, fun ys hy => I.tuple_inj hy hq'⟩
    intro hm
    rcases List.mem_cons.mp hm with z | z
    · subst z; rw [he] at ho; cases ho; injection hoc with z; exact absurd z (by decide)
    · rw [List.mem_singleton] at z; subst z
      obtain ⟨o', ho', hc', _⟩ := id p
      rw [he] at ho'; cases ho'; injection hc' with z; exact absurd z (by decide)
theorem turn_enumS {P : Program} {w : World} {K : PySem.W.Frag} {elts : List Expr} {kk : Nat} {tpos : Pos} (b : Bool) (a e it : Addr) (k : Int) :
    Turn P w K (.Tuple elts kk tpos) (IteS K b a k) [e, it] e (fun i h => (∃ old, IsEnum h e it (k + ((i : Nat) : Int)) old) ∧ IsItB b h it a i ∧ e ≠ it) where
  mem := by simp
  obj := fun i h st c hb => by
    obtain ⟨⟨old, he⟩, hi, _⟩ := st
    have e' : c = e ∨ c = it := by simpa using hb
    rcases e' with z | z
    · rw [z]; exact ⟨_, he, fun v q => nomatch q⟩
    · rw [z]
      cases b with
      | false => obtain ⟨o, ho, hc, hd⟩ := hi; exact ⟨o, ho, fun v q => by rw [hd] at q; cases q⟩
      | true => obtain ⟨o, ho, hc, hd⟩ := hi; exact ⟨o, ho, fun v q => by rw [hd] at q; cases q⟩
  keep := fun i h h' st q => by
    obtain ⟨⟨old, he⟩, hi, hne⟩ := st
    refine ⟨⟨old, q e (by simp) _ he⟩, ?_, hne⟩
    cases b with
    | false => exact (show h.IsListIter it a i from hi).at fun o z => q it (by simp) o z
    | true => exact (show h.IsTupleIter it a i from hi).at fun o z => q it (by simp) o z
  item := by
    intro X hP hw hK hc i pins s σ H E I hf st hg
    subst hP hw hK
    obtain ⟨⟨old, he⟩, hit, hne⟩ := st
    obtain ⟨xs, x, hq, hx⟩ := hg
    obtain ⟨its, St, rv, D, hst, hback, hen, inj⟩ := drawsB hc I hq hit he
    have hel : e < s.heap.objs.size := Heap.lt_size he
    obtain ⟨oi, hoi⟩ := D.live _ _ hst
    have hil : it < s.heap.objs.size := Heap.lt_size hoi
    obtain ⟨u, hu, ru⟩ := rv.get hx
    have hlt : i < its.toArray.size := by
      rw [List.size_toArray]
      rcases Nat.lt_or_ge i its.length with z | z
      · exact z
      · rw [List.getElem?_eq_none z] at hu; cases hu
    refine wpAny_pyNext_enum_itemC D he hst hlt hne hen fun y h' tk hy ho hst' hT hsz hk => ?_
    have ey : y = u := by rw [List.getElem?_toArray, hu] at hy; cases hy; rfl
    subst ey
    refine ⟨_, rfl, wpAny_letOwnedTupleGo_enum (s := { s with heap := h', toks := tk + 1 }) ho fun h'' he' sb => ?_⟩
    have hT2 : h''.get? s.heap.objs.size = some { cls := .type "tuple", data := .seq #[.int (k + (i : Int)) tk, y] } := (sb.2 _ (Nat.ne_of_gt hel)).trans hT
    have new : ObjOk X.prog X.w (upd H s.heap.objs.size (.tup [.int (k + (i : Nat)), x])) h'' s.heap.objs.size (.tup [.int (k + (i : Nat)), x]) :=
      ⟨by show 2 ≤ sizeLine; decide, [.int (k + i) tk, y], .cons ⟨_, rfl⟩ (.cons ru .nil), ⟨_, hT2, rfl, _, rfl⟩⟩
    have I1 : Inv X pins σ (upd H s.heap.objs.size (.tup [.int (k + (i : Nat)), x])) { s with heap := h'', toks := tk + 1 } :=
      I.turnedNew (ch := [e, it]) (fun b ob hb q => (sb.2 b (fun z => hb (by simp [z]))).trans (hk b ob (fun z => hb (by simp [z])) (fun z => hb (by simp [z])) q)) hf (Nat.le_refl _) new
    refine ⟨.ref s.heap.objs.size, _, I1, rfl, ⟨_, x, rfl, I.hok.fresh (Nat.le_refl _), rfl, fun ys hy => by rw [inj ys hy]; exact hx⟩, ⟨⟨y, ?_⟩, ?_, hne⟩, fun b hb => ?_⟩
    · have e1 : k + ((i + 1 : Nat) : Int) = k + (i : Int) + 1 := by omega
      rw [e1]; exact he'
    · have z := hback _ _ hst'
      cases b with
      | false => exact (show h'.IsListIter it a (i + 1) from z).at fun o q => (sb.2 it (Ne.symm hne)).trans q
      | true => exact (show h'.IsTupleIter it a (i + 1) from z).at fun o q => (sb.2 it (Ne.symm hne)).trans q
    · have hb' : b < s.heap.objs.size := by
        have e' : b = e ∨ b = it := by simpa using hb
        rcases e' with z | z
        · rw [z]; exact hel
        · rw [z]; exact hil
      rw [upd_ne (Nat.ne_of_lt hb')]
      exact (hf b hb).1
  done := by
    intro X hP hw hK hc i pins s σ H E I hf st hg
    subst hP hw hK
    obtain ⟨⟨old, he⟩, hit, hne⟩ := st
    obtain ⟨xs, hq, hx⟩ := hg
    obtain ⟨f0, f1, f2, f3, f4, f5⟩ := hf it (by simp)
    obtain ⟨its, St, rv, D, hst, hback, hen, inj⟩ := drawsB hc I hq hit he
    have hn : i = its.toArray.size := by rw [List.size_toArray, ← rv.length]; exact hx.symm
    rw [hn] at hst
    exact wpAny_pyNext_enum_endD D he hst fun h' eb => ⟨rfl, I.turned (t' := s.toks) (fun b o hb q => eb b o hb q) f0 f1 f3 f4 f5⟩
  self := fun A i s Q E st h => let ⟨⟨_, he⟩, _⟩ := st; wpAny_pyIter_enum he h
theorem callWith_typeKw {M : Model} {A : Around} {E : Value → Shared → Prop} {s : Shared} {env : Env} {pos : Pos} {T : String} {e : Expr} {rest : List Expr} {kws : List Keyword} {Q : Value → Shared → Prop}
    (h : wpAny M A (spliced (backTo pos (starEach (e :: rest) env))) (fun vs s₁ => wpAny M A (evalAll ((backToKw pos (keywordEach kws env)).map (·.2)))
      (fun kvs s₂ => wpAny M A (call (.type T) vs (((backToKw pos (keywordEach kws env)).filterMap (·.1)).zip kvs)) Q E s₂) E s₁) E s)
    (he : backTo pos (starEach (e :: rest) env) = (false, eval e env) :: backTo pos (starEach rest env) := by rfl)
    (hplain : (backTo pos (starEach (e :: rest) env)).any (·.1) = false := by rfl)
    (hall : (backToKw pos (keywordEach kws env)).all (·.1.isSome) = true := by rfl)
    (hkw : (backToKw pos (keywordEach kws env)).any (·.1.isNone) = false := by rfl) :
    wpAny M A (callWith pos (.type T) [] (backTo pos (starEach (e :: rest) env)) (backToKw pos (keywordEach kws env))) Q E s := by
  have hev : wpAny M A (evalArgs (.type T) true (backTo pos (starEach (e :: rest) env)) (backToKw pos (keywordEach kws env))) (fun a s₁ => wpAny M A (call (.type T) ([] ++ a.pos) a.kw) Q E s₁) E s := by
    rw [he] at h ⊢
    exact evalArgs_kwB hall h
  unfold callWith
  refine wpAny_bind (wpAny_holding (wpAny_mono hev (fun a s₁ h₁ => wpAny_bind (wpAny_standAt ?_)) fun _ _ x => x))
  simp only [hplain, hkw, Bool.or_false]
  refine wpAny_bind (wpAny_pure ?_)
  exact wpAny_bind (wpAny_mono h₁ (fun r s₂ hr => wpAny_bind (wpAny_holding (wpAny_point (wpAny_pure hr)))) fun _ _ x => x)
def iEnumS (K : PySem.W.Frag) (ta tk : TA) : TI := fun σ H R => ta σ H fun vs H1 => tk σ H1 fun zs H2 => ∃ a xs b k, vs = [.ref a] ∧ zs = [.int k] ∧ (-(2 ^ 63) ≤ k ∧ k < 2 ^ 63) ∧ SqB K b H2 a xs ∧ R (IteS K b a k) H2
theorem k_iES {X : Cx} (K : PySem.W.Frag) {e : Expr} {ta tk : TA} {p pos tpos kp : Pos} {elts : List Expr} {kk : Nat} {v : Expr} (hg : Gl X "enumerate") (hm : X.mg "enumerate" = none) (ha : PA X [e] ta) (hk : PK X [⟨some "start", v, kp⟩] tk)
    (he : backTo pos (starEach [e] X.env) = (false, eval e X.env) :: backTo pos (starEach [] X.env) := by rfl) (hK : X.K = K := by rfl) :
    PI X (.Tuple elts kk tpos) (.Call (.Name "enumerate" p) [e] [⟨some "start", v, kp⟩] pos) (iEnumS K ta tk) := by
  subst hK
  refine ⟨fun pins s σ H R I h => ?_⟩
  refine wpAny_Call_Name_kw (ld_blt I hg hm boot_enumerate (callWith_typeKw (thn (ha.run pos pins s σ H _ I h) fun us s1 ⟨vs, H1, I1, r1, q1⟩ => thn (hk.run pos pins s1 σ H1 _ I1 q1) fun ws s2 ⟨zs, H2, I2, r2, q2⟩ => ?_) he (by rw [he]; rfl)))
  obtain ⟨a, xs, b, k, ex, ez, ⟨hk0, hk1⟩, hq, q⟩ := q2
  subst ex ez
  cases r1 with
  | cons r rr =>
    cases rr
    cases r
    cases r2 with
    | cons r' rr' =>
      cases rr'
      obtain ⟨t, rfl⟩ := r'
      show wpAny _ _ (call (.type "enumerate") [.ref a] [(Str.ofString "start", .int k t)]) _ _ s2
      have fin : ∀ h', IsEnum h' (s2.heap.objs.size + 1) s2.heap.objs.size k .none → IsItB b h' s2.heap.objs.size a 0 → (∀ b o, s2.heap.get? b = some o → h'.get? b = some o) →
          wpAny (model X.prog X.w) X.A (pyIter (.ref (s2.heap.objs.size + 1))) (PIE X pins σ (.Tuple elts kk tpos) R) X.xe { s2 with heap := h' } := fun h' hen hi hkp => by
        refine wpAny_pyIter_enum hen ?_
        have I3 : Inv X pins σ H2 { s2 with heap := h' } := I2.kept (t' := s2.toks) hkp
        refine ⟨s2.heap.objs.size + 1, [s2.heap.objs.size + 1, s2.heap.objs.size], _, _, H2, rfl, I3, turn_enumS b a (s2.heap.objs.size + 1) s2.heap.objs.size k, ⟨⟨.none, by simpa using hen⟩, hi, Nat.succ_ne_self _⟩, fun b hb => ?_, q⟩
        have e' : b = s2.heap.objs.size + 1 ∨ b = s2.heap.objs.size := by simpa using hb
        have hle : s2.heap.objs.size ≤ b := by
          rcases e' with z | z
          · rw [z]; exact Nat.le_add_right _ _
          · rw [z]; exact Nat.le_refl _
        exact I2.fpOk hle (I2.hok.fresh hle)
      cases b with
      | false =>
        obtain ⟨its, rv, p', hz⟩ := I2.list (show SqL X.K H2 a xs from hq)
        exact enum_begins_start (begins_list a its.toArray) p'.isList hk0 hk1 fun h' hen hit hsz hkp => fin h' hen ⟨_, hit, rfl, rfl⟩ hkp
      | true =>
        obtain ⟨its, rv, p', hz⟩ := I2.tuple (show SqT X.K H2 a xs from hq)
        exact enum_begins_start (begins_tuple a its.toArray) p' hk0 hk1 fun h' hen hit hsz hkp => fin h' hen ⟨_, hit, rfl, rfl⟩ hkp
end Mf

namespace Mf
open PySem L2 PyProof.Rows
/-! ### a comprehension within another -/
def relab (scope sc : Scope) : Scope := { scope with names := scope.names.map fun (n, k) => if (k == .free && sc.kind == .function && sc.names.lookup n == some .cell) then (n, .cell) else (n, k) }
theorem blkOk_nest {N : List Str} {lit sc scope : Scope} {env : Env} {own : List (Str × Nat)} (hs : env.scope = sc) (h : blkC N (relab lit sc) scope own = true) : BlkOk N (relabel lit env) scope own := by
  have e : relabel lit env = relab lit sc := by subst hs; rfl
  rw [e]
  exact blkOk_by h
section
variable {σ : L2.St} {H : Hp} {Q : VK} {td ty : TE} {a : Addr} {n : Str} {kvs : List (Key × V)} {v : V}
theorem w_dget (h : td σ H fun x H1 => ty σ H1 fun y H2 => ∃ a v, x = .ref a ∧ DGet H2 a y (some v) ∧ Q v H2) : tDGet td ty σ H Q := h
theorem w_din (h : ty σ H fun y H1 => td σ H1 fun x H2 => ∃ a o, x = .ref a ∧ DGet H2 a y o ∧ Q (.bl o.isSome) H2) : tDIn ty td σ H Q := h
theorem w_dni (h : ty σ H fun y H1 => td σ H1 fun x H2 => ∃ a o, x = .ref a ∧ DGet H2 a y o ∧ Q (.bl (!o.isSome)) H2) : tDNotIn ty td σ H Q := h
theorem w_dgetx {R : V → Prop} (h : H a = some (.dK kvs)) (hv : valV kvs (Sum.inr n) = some v) (g : R v) : ∃ a' v, V.ref a = .ref a' ∧ DGet H a' (.str n) (some v) ∧ R v := ⟨a, v, rfl, by rw [← hv]; exact DGet.k (k := Sum.inr n) h, g⟩
theorem w_dinx {R : Option V → Prop} (h : H a = some (.dK kvs)) (g : R (valV kvs (Sum.inr n))) : ∃ a' o, V.ref a = .ref a' ∧ DGet H a' (.str n) o ∧ R o := ⟨a, _, rfl, DGet.k (k := Sum.inr n) h, g⟩
end
/-! ### two rows, item by item -/
inductive Fa {α β : Type} (R : α → β → Prop) : List α → List β → Prop
  | nil : Fa R [] []
  | cons {a : α} {b : β} {as : List α} {bs : List β} : R a b → Fa R as bs → Fa R (a :: as) (b :: bs)
namespace Fa
variable {α β γ : Type} {R S : α → β → Prop} {as as' : List α} {bs bs' : List β}
theorem len (h : Fa R as bs) : as.length = bs.length := by induction h with | nil => rfl | cons _ _ ih => simp [ih]
theorem imp (f : ∀ a b, a ∈ as → R a b → S a b) (h : Fa R as bs) : Fa S as bs := by
  induction h with
  | nil => exact .nil
  | cons r _ ih => exact .cons (f _ _ List.mem_cons_self r) (ih fun a b ha => f a b (List.mem_cons_of_mem _ ha))
theorem get {b : β} {i : Nat} (h : Fa R as bs) (e : bs[i]? = some b) : ∃ a, as[i]? = some a ∧ R a b := by
  induction h generalizing i with
  | nil => cases e
  | cons r _ ih =>
    cases i with
    | zero => cases e; exact ⟨_, rfl, r⟩
    | succ i => exact ih e
theorem getL {a : α} {i : Nat} (h : Fa R as bs) (e : as[i]? = some a) : ∃ b, bs[i]? = some b ∧ R a b := by
  induction h generalizing i with
  | nil => cases e
  | cons r _ ih =>
    cases i with
    | zero => cases e; exact ⟨_, rfl, r⟩
    | succ i => exact ih e
theorem app (h : Fa R as bs) (h' : Fa R as' bs') : Fa R (as ++ as') (bs ++ bs') := by
  induction h with
  | nil => exact h'
  | cons r _ ih => exact .cons r ih
theorem one {a : α} {b : β} (r : R a b) : Fa R [a] [b] := .cons r .nil
theorem same (f : α → β) : ∀ as : List α, Fa (fun a b => b = f a) as (as.map f)
  | [] => .nil
  | _ :: r => .cons rfl (same f r)
theorem eq {f : α → β} (h : Fa (fun a b => b = f a) as bs) : bs = as.map f := by
  induction h with
  | nil => rfl
  | cons r _ ih => rw [List.map_cons, ← r, ← ih]
theorem mapL {f : γ → α} {cs : List γ} (h : Fa R (cs.map f) bs) : Fa (fun c b => R (f c) b) cs bs := by
  induction cs generalizing bs with
  | nil => cases h; exact .nil
  | cons c cs ih => cases h with | cons r t => exact .cons r (ih t)
theorem toMapL {f : γ → α} {cs : List γ} (h : Fa (fun c b => R (f c) b) cs bs) : Fa R (cs.map f) bs := by
  induction h with
  | nil => exact .nil
  | cons r _ ih => exact .cons r ih
theorem right {b : β} (h : Fa R as bs) (m : b ∈ bs) : ∃ a, a ∈ as ∧ R a b := by
  obtain ⟨i, hi⟩ := List.getElem?_of_mem m
  obtain ⟨a, ha, r⟩ := h.get hi
  exact ⟨a, List.mem_of_getElem? ha, r⟩
theorem left {a : α} (h : Fa R as bs) (m : a ∈ as) : ∃ b, b ∈ bs ∧ R a b := by
  obtain ⟨i, hi⟩ := List.getElem?_of_mem m
  obtain ⟨b, hb, r⟩ := h.getL hi
  exact ⟨b, List.mem_of_getElem? hb, r⟩
end Fa
theorem hid_upd {D : Addr} {H : Hp} {o : HO} : hid D (upd H D o) = hid D H := by
  funext b
  unfold hid
  by_cases e : b = D
  · rw [if_pos e, if_pos e]
  · rw [if_neg e, if_neg e, upd_ne e]
theorem hid_none {D : Addr} {H : Hp} (h : H D = none) : hid D H = H := by
  funext b
  unfold hid
  by_cases e : b = D
  · rw [if_pos e, e, h]
  · rw [if_neg e]
theorem hid_mono {p : Addr} {H H' : Hp} (e : Same H H') : Same (hid p H) (hid p H') := (Kp.of e).hid
def RelR {β : Type} (P : β → V → Hp → Prop) (o : Option β) (r : Option V) (H : Hp) : Prop := match o with
  | none => r = none
  | some b => ∃ y, r = some y ∧ P b y H
section
variable {K : PySem.W.Frag} {σ : L2.St} {H : Hp} {Q : VK} {g : TG} {tt : TT} {te : TE} {vs : List Nat} {wi : TI} {J : It} {n : Nat} {G : Hp → Prop}
theorem take_next {α : Type} {as : List α} {i : Nat} {a : α} (h : as[i]? = some a) : as.take (i + 1) = as.take i ++ [a] := by
  rw [List.take_succ, h] <;> rfl
/-- a list comprehension that changes nothing old: a filter and a map, what is kept told by P -/
theorem lcb_rel {α β : Type} {xs : List V} {as : List α} {Ra : α → V → Prop} (hR : Fa Ra as xs) (w : Walk J xs.length G (YAt xs)) (hG : ∀ H', Same H H' → G H') (hl : xs.length < sizeLine) (f : α → Option β) (P : β → V → Hp → Prop) (mono : ∀ b y H1 H2, Same H1 H2 → P b y H1 → P b y H2)
    (hs : ∀ D a x H1, H D = none → a ∈ as → Ra a x → Same H H1 → (∃ acc, H1 D = some (.lst acc)) → ∀ R : Option V → Hp → Prop, (∀ r H2, Same H1 H2 → RelR P (f a) r (hid D H2) → R r H2) → Turn1 g tt te vs σ x H1 R)
    (hd : ∀ D ys H', H D = none → Same H H' → H' D = some (.lst ys) → Fa (fun b y => P b y (hid D H')) (as.filterMap f) ys → Q (.ref D) H') : LcB J g tt te vs σ Q H := by
  have hlen := hR.len
  refine lcb w (fun D i acc H' => Same H H' ∧ H' D = some (.lst acc) ∧ acc.length ≤ i ∧ Fa (fun b y => P b y (hid D H')) ((as.take i).filterMap f) acc) (fun D nD => ⟨Same.new nD, upd_same, Nat.le_refl _, .nil⟩) (fun D i acc H' nD _ p => hG _ p.1) (fun D i x acc H1 H2 nD hi p y => ?_) (fun D acc H' nD p => ?_)
  · obtain ⟨s1, hD, hal, hF⟩ := p
    obtain ⟨rfl, hx⟩ := y
    obtain ⟨a, ha, r⟩ := hR.get hx
    refine hs D a x H2 nD (List.mem_of_getElem? ha) r s1 ⟨_, hD⟩ _ fun r H3 s2 hr => ?_
    have hD3 : H3 D = some (.lst acc) := s2 _ _ hD
    have hF3 : Fa (fun b y => P b y (hid D H3)) ((as.take i).filterMap f) acc := hF.imp fun b y _ z => mono b y _ _ (hid_mono s2) z
    unfold RelR at hr
    cases hf : f a with
    | none =>
      rw [hf] at hr
      subst hr
      refine lcr_none (acc := acc) ⟨fun b o z => s2 b o (s1 b o z), hD3, by omega, ?_⟩
      rw [take_next ha, List.filterMap_append]
      simp only [List.filterMap_cons, hf, List.filterMap_nil, List.append_nil]
      exact hF3
    | some b =>
      rw [hf] at hr
      obtain ⟨y, rfl, py⟩ := hr
      refine lcr_some hD3 (by omega) ⟨Same.mut (fun b o z => s2 b o (s1 b o z)) nD, upd_same, by rw [List.length_append]; simp; omega, ?_⟩
      rw [take_next ha, List.filterMap_append]
      simp only [hid_upd, List.filterMap_cons, hf, List.filterMap_nil]
      exact hF3.app (.one py)
  · obtain ⟨s1, hD, hal, hF⟩ := p
    rw [← hlen, List.take_length] at hF
    exact hd D acc H' nD s1 hD hF
/-- one turn of a dict comprehension -/
def TurnD (g : TG) (tt : TT) (tk tv : TE) (vs : List Nat) (σ : L2.St) (x : V) (H : Hp) (R : Option (V × V) → Hp → Prop) : Prop :=
  g x (wipe σ vs) H fun σ2 H2 => wipe σ2 vs = wipe σ vs ∧ tt σ2 H2 fun b H3 => if b = true then tk σ2 H3 fun y H4 => tv σ2 H4 fun z H5 => R (some (y, z)) H5 else R none H3
def DcB (J : It) (g : TG) (tt : TT) (tk tv : TE) (vs : List Nat) (σ : L2.St) (Q : VK) (H1 : Hp) : Prop := ∀ D, H1 D = none → ∃ W : Nat → Nat → Hp → Prop, (∃ m, W 0 m (upd H1 D (.dK []))) ∧ ∀ i m H, W i m H →
  (J.stop i H ∧ Q (.ref D) H) ∨ (J.go i H ∧ ∃ Nx : Hp → Prop, (∀ H', Nx H' → ∃ m', m' < m ∧ W (i + 1) m' H') ∧ ∀ x H', J.yld i H x H' → g x (wipe σ vs) H' fun σ2 H2 => wipe σ2 vs = wipe σ vs ∧ tt σ2 H2 fun b H3 =>
    if b = true then tk σ2 H3 fun y H4 => tv σ2 H4 fun z H5 => ∃ kvs k, y = kV k ∧ H5 D = some (.dK kvs) ∧ kvs.length < sizeLine ∧ Nx (upd H5 D (.dK (putK kvs k z))) else Nx H3)
theorem w_dc {tk tv : TE} (h : wi σ H fun J H1 => DcB J g tt tk tv vs σ Q H1) : tDc wi g tt tk tv vs σ H Q := h
theorem w_turnD {tk tv : TE} {x : V} {R : Option (V × V) → Hp → Prop} (h : g x (wipe σ vs) H fun σ2 H2 => wipe σ2 vs = wipe σ vs ∧ tt σ2 H2 fun b H3 => if b = true then tk σ2 H3 fun y H4 => tv σ2 H4 fun z H5 => R (some (y, z)) H5 else R none H3) : TurnD g tt tk tv vs σ x H R := h
theorem putK_new {kvs : List (Key × V)} {k : Key} {v : V} (h : ∀ p ∈ kvs, p.1 ≠ k) : putK kvs k v = kvs ++ [(k, v)] := by
  unfold putK
  rw [if_neg]
  intro z
  rw [List.any_eq_true] at z
  obtain ⟨p, hp, e⟩ := z
  exact h p hp (by simpa using e)
/-- a dict comprehension over texts, each key once, no test -/
theorem dcb_rel {α : Type} {tk tv : TE} {xs : List V} {as : List α} {Ra : α → V → Prop} (hR : Fa Ra as xs) (w : Walk J xs.length G (YAt xs)) (hG : ∀ H', Same H H' → G H') (hl : xs.length < sizeLine) (key : α → Key) (nd : (as.map key).Nodup) (P : α → V → Hp → Prop) (mono : ∀ b y H1 H2, Same H1 H2 → P b y H1 → P b y H2)
    (hs : ∀ D a x H1, H D = none → a ∈ as → Ra a x → Same H H1 → (∃ kvs, H1 D = some (.dK kvs)) → ∀ R : Option (V × V) → Hp → Prop, (∀ z H2, Same H1 H2 → P a z (hid D H2) → R (some (kV (key a), z)) H2) → TurnD g tt tk tv vs σ x H1 R)
    (hd : ∀ D kvs H', H D = none → Same H H' → H' D = some (.dK kvs) → Fa (fun a p => p.1 = key a ∧ P a p.2 (hid D H')) as kvs → Q (.ref D) H') : DcB J g tt tk tv vs σ Q H := by
  have hlen := hR.len
  intro D nD
  refine ⟨fun i m H' => m = xs.length - i ∧ i ≤ xs.length ∧ ∃ kvs, Same H H' ∧ H' D = some (.dK kvs) ∧ kvs.length = i ∧ Fa (fun a p => p.1 = key a ∧ P a p.2 (hid D H')) (as.take i) kvs, ⟨xs.length, by simp, Nat.zero_le _, [], Same.new nD, upd_same, rfl, .nil⟩, ?_⟩
  rintro i m H' ⟨rfl, hi, kvs, s1, hD, hal, hF⟩
  have q := hG _ s1
  by_cases e : i = xs.length
  · subst e
    refine .inl ⟨w.stops H' q, hd D kvs H' nD s1 hD ?_⟩
    rw [← hlen, List.take_length] at hF
    exact hF
  · have hlt : i < xs.length := by omega
    refine .inr ⟨w.goes i H' hlt q, fun H'' => ∃ kvs, Same H H'' ∧ H'' D = some (.dK kvs) ∧ kvs.length = i + 1 ∧ Fa (fun a p => p.1 = key a ∧ P a p.2 (hid D H'')) (as.take (i + 1)) kvs, fun H'' p' => ⟨xs.length - (i + 1), by omega, rfl, by omega, p'⟩, fun x H2 y => ?_⟩
    obtain ⟨rfl, hx⟩ := w.yields i H' x H2 hlt q y
    obtain ⟨a, ha, r⟩ := hR.get hx
    refine hs D a x H2 nD (List.mem_of_getElem? ha) r s1 ⟨_, hD⟩ (fun r H3 => match r with
      | some (y, z) => ∃ kvs k, y = kV k ∧ H3 D = some (.dK kvs) ∧ kvs.length < sizeLine ∧ ∃ kvs', Same H (upd H3 D (.dK (putK kvs k z))) ∧ (upd H3 D (.dK (putK kvs k z))) D = some (.dK kvs') ∧ kvs'.length = i + 1 ∧ Fa (fun a p => p.1 = key a ∧ P a p.2 (hid D (upd H3 D (.dK (putK kvs k z))))) (as.take (i + 1)) kvs'
      | none => ∃ kvs, Same H H3 ∧ H3 D = some (.dK kvs) ∧ kvs.length = i + 1 ∧ Fa (fun a p => p.1 = key a ∧ P a p.2 (hid D H3)) (as.take (i + 1)) kvs) fun z H3 s2 pz => ?_
    have hD3 : H3 D = some (.dK kvs) := s2 _ _ hD
    have hF3 : Fa (fun a p => p.1 = key a ∧ P a p.2 (hid D H3)) (as.take i) kvs := hF.imp fun b y _ z => ⟨z.1, mono b _ _ _ (hid_mono s2) z.2⟩
    have ek : putK kvs (key a) z = kvs ++ [(key a, z)] := putK_new fun p hp e => by
      obtain ⟨a', ha', e', _⟩ := hF3.right hp
      have h1 : key a' = key a := by rw [← e', e]
      have h2 : (as.take (i + 1)).map key = (as.take i).map key ++ [key a] := by rw [take_next ha, List.map_append]; rfl
      have h3 : ((as.take (i + 1)).map key).Nodup := by rw [List.map_take]; exact nd.sublist (List.take_sublist _ _)
      rw [h2] at h3
      exact (List.nodup_append.mp h3).2.2 _ (List.mem_map.mpr ⟨a', ha', rfl⟩) _ List.mem_cons_self h1
    refine ⟨kvs, key a, rfl, hD3, by omega, kvs ++ [(key a, z)], Same.mut (fun b o z => s2 b o (s1 b o z)) nD, by rw [upd_same, ek], by rw [List.length_append]; simp; omega, ?_⟩
    rw [take_next ha]
    simp only [hid_upd]
    exact hF3.app (.one ⟨rfl, pz⟩)
/-! ### two fors -/
def Turn2 (g1 : TG) (tt1 : TT) (te : TE) (vs1 : List Nat) (σ : L2.St) (x : V) (H : Hp) (R : Option V → Hp → Prop) : Prop :=
  g1 x (wipe σ vs1) H fun σ3 H5 => wipe σ3 vs1 = wipe σ vs1 ∧ tt1 σ3 H5 fun b H6 => if b = true then te σ3 H6 fun y H7 => R (some y) H7 else R none H6
def Lc2In (D : Addr) (J1 : It) (g1 : TG) (tt1 : TT) (te : TE) (vs1 : List Nat) (σ2 : L2.St) (Nx : Hp → Prop) (H4 : Hp) : Prop := ∃ W1 : Nat → Nat → Hp → Prop, (∃ m, W1 0 m H4) ∧ ∀ j k H, W1 j k H →
      (J1.stop j H ∧ Nx H) ∨ (J1.go j H ∧ ∃ Nx1 : Hp → Prop, (∀ H', Nx1 H' → ∃ k', k' < k ∧ W1 (j + 1) k' H') ∧ ∀ x H', J1.yld j H x H' → g1 x (wipe σ2 vs1) H' fun σ3 H5 => wipe σ3 vs1 = wipe σ2 vs1 ∧ tt1 σ3 H5 fun b H6 =>
        if b = true then te σ3 H6 fun y H7 => ∃ acc, H7 D = some (.lst acc) ∧ acc.length < sizeLine ∧ Nx1 (upd H7 D (.lst (acc ++ [y]))) else Nx1 H6)
def TurnO (g : TG) (tt : TT) (wi1 : TI) (vs : List Nat) (σ : L2.St) (x : V) (H : Hp) (B : L2.St → It → Hp → Prop) (R : Hp → Prop) : Prop :=
  g x (wipe σ vs) H fun σ2 H2 => wipe σ2 vs = wipe σ vs ∧ tt σ2 H2 fun b H3 => if b = true then wi1 σ2 H3 fun J1 H4 => B σ2 J1 H4 else R H3
def Lc2B (J : It) (g : TG) (tt : TT) (wi1 : TI) (g1 : TG) (tt1 : TT) (te : TE) (vs vs1 : List Nat) (σ : L2.St) (Q : VK) (H1 : Hp) : Prop := ∀ D, H1 D = none → ∃ W : Nat → Nat → Hp → Prop, (∃ m, W 0 m (upd H1 D (.lst []))) ∧ ∀ i m H, W i m H →
  (J.stop i H ∧ Q (.ref D) H) ∨ (J.go i H ∧ ∃ Nx : Hp → Prop, (∀ H', Nx H' → ∃ m', m' < m ∧ W (i + 1) m' H') ∧ ∀ x H', J.yld i H x H' → TurnO g tt wi1 vs σ x H' (fun σ2 J1 H4 => Lc2In D J1 g1 tt1 te vs1 σ2 Nx H4) Nx)
theorem w_lc2 {wi1 : TI} {g1 : TG} {tt1 : TT} {vs1 : List Nat} (h : wi σ H fun J H1 => Lc2B J g tt wi1 g1 tt1 te vs vs1 σ Q H1) : tLc2 wi g tt wi1 g1 tt1 te vs vs1 σ H Q := h
theorem w_turnO {wi1 : TI} {x : V} {B : L2.St → It → Hp → Prop} {R : Hp → Prop} (h : g x (wipe σ vs) H fun σ2 H2 => wipe σ2 vs = wipe σ vs ∧ tt σ2 H2 fun b H3 => if b = true then wi1 σ2 H3 fun J1 H4 => B σ2 J1 H4 else R H3) : TurnO g tt wi1 vs σ x H B R := h
theorem w_turn2 {x : V} {R : Option V → Hp → Prop} (h : g x (wipe σ vs) H fun σ3 H5 => wipe σ3 vs = wipe σ vs ∧ tt σ3 H5 fun b H6 => if b = true then te σ3 H6 fun y H7 => R (some y) H7 else R none H6) : Turn2 g tt te vs σ x H R := h
/-- the inner row, a filter and a map -/
theorem lc2In_rel {α β : Type} {D : Addr} {Nx : Hp → Prop} {acc0 : List V} {xs : List V} {as : List α} {Ra : α → V → Prop} (hR : Fa Ra as xs) (w : Walk J xs.length G (YAt xs)) (hG : ∀ H', Same (hid D H) (hid D H') → H' D ≠ none → G H') (hD0 : H D = some (.lst acc0)) (hl : acc0.length + xs.length < sizeLine) (f : α → Option β) (e : β → V)
    (hs : ∀ a x H1, a ∈ as → Ra a x → Same (hid D H) (hid D H1) → H1 D ≠ none → ∀ R : Option V → Hp → Prop, R ((f a).map e) H1 → Turn2 g tt te vs σ x H1 R)
    (hd : ∀ H', Same (hid D H) (hid D H') → H' D = some (.lst (acc0 ++ (as.filterMap f).map e)) → Nx H') : Lc2In D J g tt te vs σ Nx H := by
  have hlen := hR.len
  refine ⟨fun i m H' => m = xs.length - i ∧ i ≤ xs.length ∧ Same (hid D H) (hid D H') ∧ H' D = some (.lst (acc0 ++ ((as.take i).filterMap f).map e)), ⟨xs.length, by simp, Nat.zero_le _, fun _ _ z => z, by simpa using hD0⟩, ?_⟩
  rintro i m H' ⟨rfl, hi, s1, hD⟩
  have q := hG H' s1 (by rw [hD]; intro z; cases z)
  by_cases e' : i = xs.length
  · subst e'
    refine .inl ⟨w.stops H' q, hd H' s1 ?_⟩
    rw [← hlen, List.take_length] at hD
    exact hD
  · have hlt : i < xs.length := by omega
    refine .inr ⟨w.goes i H' hlt q, fun H'' => Same (hid D H) (hid D H'') ∧ H'' D = some (.lst (acc0 ++ ((as.take (i + 1)).filterMap f).map e)), fun H'' p' => ⟨xs.length - (i + 1), by omega, rfl, by omega, p'⟩, fun x H2 y => ?_⟩
    obtain ⟨rfl, hx⟩ := w.yields i H' x H2 hlt q y
    obtain ⟨a, ha, r⟩ := hR.get hx
    refine hs a x H2 (List.mem_of_getElem? ha) r s1 (by rw [hD]; intro z; cases z) (fun r H3 => match r with
      | some y => ∃ acc, H3 D = some (.lst acc) ∧ acc.length < sizeLine ∧ Same (hid D H) (hid D (upd H3 D (.lst (acc ++ [y])))) ∧ (upd H3 D (.lst (acc ++ [y]))) D = some (.lst (acc0 ++ ((as.take (i + 1)).filterMap f).map e))
      | none => Same (hid D H) (hid D H3) ∧ H3 D = some (.lst (acc0 ++ ((as.take (i + 1)).filterMap f).map e))) ?_
    rw [take_next ha, List.filterMap_append]
    cases hf : f a with
    | none =>
      simp only [Option.map_none, List.filterMap_cons, hf, List.filterMap_nil, List.append_nil]
      exact ⟨s1, hD⟩
    | some b =>
      simp only [Option.map_some, List.filterMap_cons, hf, List.filterMap_nil]
      refine ⟨_, hD, ?_, ?_, ?_⟩
      · rw [List.length_append, List.length_map]
        have := List.length_filterMap_le f (as.take i)
        rw [List.length_take] at this
        omega
      · rw [hid_upd]; exact s1
      · rw [upd_same, List.map_append, List.append_assoc]; rfl
theorem flat_len {α β : Type} {f : α → List β} {n : Nat} : ∀ (as : List α), (∀ a ∈ as, (f a).length ≤ n) → (as.flatMap f).length ≤ as.length * n
  | [], _ => by simp
  | a :: r, h => by
    have h1 := h a List.mem_cons_self
    have h2 := flat_len r fun x hx => h x (List.mem_cons_of_mem _ hx)
    rw [List.flatMap_cons, List.length_append, List.length_cons, Nat.add_mul]
    omega
/-- the whole: row by row -/
theorem lc2b_rel {α β : Type} {wi1 : TI} {g1 : TG} {tt1 : TT} {vs1 : List Nat} {xs : List V} {as : List α} {Ra : α → V → Prop} (hR : Fa Ra as xs) (w : Walk J xs.length G (YAt xs)) (hG : ∀ H', Same H H' → G H') (f : α → List β) (e : β → V) (N : Nat) (hN : N < 16777000) (hb : ∀ i, ((as.take i).flatMap f).length ≤ N)
    (hs : ∀ D a x H1 acc, acc.length ≤ N → H D = none → a ∈ as → Ra a x → Same H H1 → H1 D = some (.lst acc) → ∀ Nx : Hp → Prop, (∀ H2, Same (hid D H1) (hid D H2) → H2 D = some (.lst (acc ++ (f a).map e)) → Nx H2) → TurnO g tt wi1 vs σ x H1 (fun σ2 J1 H4 => Lc2In D J1 g1 tt1 te vs1 σ2 Nx H4) Nx)
    (hd : ∀ D H', H D = none → Same H H' → H' D = some (.lst ((as.flatMap f).map e)) → Q (.ref D) H') : Lc2B J g tt wi1 g1 tt1 te vs vs1 σ Q H := by
  have hlen := hR.len
  intro D nD
  refine ⟨fun i m H' => m = xs.length - i ∧ i ≤ xs.length ∧ Same H H' ∧ H' D = some (.lst (((as.take i).flatMap f).map e)), ⟨xs.length, by simp, Nat.zero_le _, Same.new nD, upd_same⟩, ?_⟩
  rintro i m H' ⟨rfl, hi, s1, hD⟩
  have q := hG H' s1
  by_cases e' : i = xs.length
  · subst e'
    refine .inl ⟨w.stops H' q, hd D H' nD s1 ?_⟩
    rw [← hlen, List.take_length] at hD
    exact hD
  · have hlt : i < xs.length := by omega
    refine .inr ⟨w.goes i H' hlt q, fun H'' => Same H H'' ∧ H'' D = some (.lst (((as.take (i + 1)).flatMap f).map e)), fun H'' p' => ⟨xs.length - (i + 1), by omega, rfl, by omega, p'⟩, fun x H2 y => ?_⟩
    obtain ⟨rfl, hx⟩ := w.yields i H' x H2 hlt q y
    obtain ⟨a, ha, r⟩ := hR.get hx
    refine hs D a x H2 _ (by rw [List.length_map]; exact hb i) nD (List.mem_of_getElem? ha) r s1 hD _ fun H3 s2 hD3 => ⟨fun b o z => ?_, ?_⟩
    · have nb := ne_of_none z nD
      have := s2 b o (by rw [hid_ne nb]; exact s1 b o z)
      rw [hid_ne nb] at this; exact this
    · rw [hD3, take_next ha, List.flatMap_append, List.map_append]
      simp
end
/-! ### rows apart from an object of another kind -/
def NoT (w : HO) : Prop := (∀ xs, w ≠ .tup xs) ∧ ∀ o u, w ≠ .frz o u
def NoR (w : HO) : Prop := NoT w ∧ ∀ xs, w ≠ .lst xs
theorem noT_lst {xs : List V} : NoT (.lst xs) := ⟨fun _ z => (by cases z), fun _ _ z => (by cases z)⟩
theorem noR_dK {kvs : List (Key × V)} : NoR (.dK kvs) := ⟨⟨fun _ z => (by cases z), fun _ _ z => (by cases z)⟩, fun _ z => (by cases z)⟩
theorem noR_ins {C dx : Addr} {fs : List (Str × V)} : NoR (.ins C dx fs) := ⟨⟨fun _ z => (by cases z), fun _ _ z => (by cases z)⟩, fun _ z => (by cases z)⟩
theorem Rd.hide {H : Hp} {D a : Addr} {w u : HO} (hD : H D = some w) (n : w ≠ u) (n' : ∀ o, w ≠ .frz o u) (h : Rd H a u) : Rd (hid D H) a u := by
  rcases h with h | ⟨o, h⟩
  · exact .inl (by rw [hid_ne (ne_of h hD (Ne.symm n))]; exact h)
  · exact .inr ⟨o, by rw [hid_ne (ne_of h hD (Ne.symm (n' o)))]; exact h⟩
theorem SqT.hide {K : PySem.W.Frag} {H : Hp} {D a : Addr} {w : HO} {xs : List V} (hD : H D = some w) (n : NoT w) (h : SqT K H a xs) : SqT K (hid D H) a xs := h.imp (Rd.hide hD (n.1 xs) fun o => n.2 o _) id
theorem SqL.hide {K : PySem.W.Frag} {H : Hp} {D a : Addr} {w : HO} {xs : List V} (hD : H D = some w) (n : NoR w) (h : SqL K H a xs) : SqL K (hid D H) a xs := h.imp (Rd.hide hD (n.2 xs) fun o => n.1.2 o _) id
theorem Sq2.hide {K : PySem.W.Frag} {H : Hp} {D a : Addr} {w : HO} {xs : List V} (hD : H D = some w) (n : NoR w) (h : SqL K H a xs ∨ SqT K H a xs) : SqL K (hid D H) a xs ∨ SqT K (hid D H) a xs := h.imp (SqL.hide hD n) (SqT.hide hD n.1)
theorem hid_put {x : Addr} {H H' : Hp} {o : HO} (e : Same (hid x H) H') : Same (hid x H) (upd H' x o) := fun b u z => by
  rw [upd_ne (hid_some z).1]; exact e b u z
theorem _root_.L2.Same.vac {H0 H1 : Hp} {D : Addr} (a : Same H0 H1) (n : H1 D = none) : H0 D = none := by
  cases z : H0 D with
  | none => rfl
  | some o => rw [a _ _ z] at n; cases n
theorem same_via {H0 H1 H2 : Hp} {D : Addr} (h : H0 D = none) (a : Same H0 H1) (e : Same (hid D H1) (hid D H2)) : Same H0 H2 := fun b o z => by
  have nb : b ≠ D := ne_of_none z h
  have := e b o (by rw [hid_ne nb]; exact a b o z)
  rw [hid_ne nb] at this
  exact this
/-! ### walking what may be a list or a tuple -/
section
variable {K : PySem.W.Frag} {σ : L2.St} {H : Hp} {p : Addr} {xs : List V}
def Sq2 (K : PySem.W.Frag) (H : Hp) (a : Addr) (xs : List V) : Prop := SqL K H a xs ∨ SqT K H a xs
theorem Sq2.same {H' : Hp} {a : Addr} (e : Same H H') (h : Sq2 K H a xs) : Sq2 K H' a xs := Or.imp e.seq (Same.sqt e) h
theorem w_iQ2 {R : It → Hp → Prop} {H0 : Hp} (h : Sq2 K H0 p xs) (hs : Same H0 H) (g : ∀ J G, Walk J xs.length G (YAt xs) → (∀ H', Same H0 H' → G H') → R J H) :
    ∃ a, V.ref p = .ref a ∧ (((∃ xs, SqL K H a xs) ∧ R (Itl K a) H) ∨ ((∃ xs, SqT K H a xs) ∧ R (Itt K a) H)) := by
  rcases h with h | h
  · exact ⟨p, rfl, .inl ⟨⟨xs, hs.seq h⟩, g _ _ walk_list fun H' a => a.seq h⟩⟩
  · exact ⟨p, rfl, .inr ⟨⟨xs, Same.sqt hs h⟩, g _ _ walk_tup fun H' a => Same.sqt a h⟩⟩
theorem w_lenQ {Q : VK} (h : Sq2 K H p xs) (g : Q (.int xs.length) H) : rLenQ K [.ref p] H Q := ⟨p, xs, rfl, h, g⟩
theorem w_iES {ta tk : TA} {R : It → Hp → Prop} (g : ta σ H fun vs H1 => tk σ H1 fun zs H2 => ∃ a xs b k, vs = [.ref a] ∧ zs = [.int k] ∧ (-(2 ^ 63) ≤ k ∧ k < 2 ^ 63) ∧ SqB K b H2 a xs ∧ R (IteS K b a k) H2) : iEnumS K ta tk σ H R := g
def YEn (xs : List V) (k : Int) : Nat → Hp → V → Hp → Prop := fun i H v H' => ∃ T x, v = .ref T ∧ H T = none ∧ H' = upd H T (.tup [.int (k + (i : Nat)), x]) ∧ xs[i]? = some x
theorem w_iESx {R : It → Hp → Prop} {k : Int} {H0 : Hp} (hk : -(2 ^ 63) ≤ k ∧ k < 2 ^ 63) (h : Sq2 K H0 p xs) (hs : Same H0 H) (g : ∀ J G, Walk J xs.length G (YEn xs k) → (∀ H', Same H0 H' → G H') → R J H) :
    ∃ a xs b k', [V.ref p] = [.ref a] ∧ [V.int k] = [.int k'] ∧ (-(2 ^ 63) ≤ k' ∧ k' < 2 ^ 63) ∧ SqB K b H a xs ∧ R (IteS K b a k') H := by
  have w : ∀ b, Walk (IteS K b p k) xs.length (fun H => SqB K b H p xs) (YEn xs k) := fun b =>
    ⟨fun i H hi q => ⟨xs, xs[i], q, by simp [hi]⟩, fun _ q => ⟨xs, q, rfl⟩, fun i H x H' hi q ⟨T, x', e, n, e', h⟩ => ⟨T, x', e, n, e', h xs q⟩⟩
  rcases h with h | h
  · exact ⟨p, xs, false, k, rfl, rfl, hk, hs.seq h, g _ _ (w false) fun H' a => a.seq h⟩
  · exact ⟨p, xs, true, k, rfl, rfl, hk, Same.sqt hs h, g _ _ (w true) fun H' a => Same.sqt a h⟩
end
/-! ### x[i] by a def __getitem__ -/
section
variable {X : Cx} {CX : CXT} {k : Nat} {C f : Addr} {fd : FuncData} {ps : List Str} {sp : Sp} {E : XK}
theorem e_getO {a b : Expr} {ta tb : TE} {pos : Pos} (hm : Meth X.K C "__getitem__" f) (hf : PySem.W.fnIn X.K f = true) (F : FnOk X.prog X.w X.K X.mg X.base CX k f fd ps sp) (hr : Room (k + 1) X.A) (hb : Binds X.K fd ps []) (hx : Passes CX X E) (ha : PE X a ta) (hb' : PE X b tb)
    (hsl : ∀ o i, subscripted b true o i = runValue (.builtin "lifetime.subscript" ⟨[o, i], []⟩) := by intro _ _; with_unfolding_all rfl) : PE X (.Subscript a b pos) (tOp (rGetO C sp E) ta tb) := by
  refine ⟨fun pins s σ H Q I h => ?_⟩
  refine Subscript_ (binT ha hb' I h fun v u s2 x y H2 I2 rx ry ⟨p, dx, fs, ex, hp, q⟩ => ?_)
  subst ex
  cases (show v = Value.ref p from rx)
  obtain ⟨od, Jn⟩ := inst_of I2 hp
  obtain ⟨m, hF⟩ := I2.fr
  exact PySem.W.sub_K hF I2.ok.mod.kin Jn hm.at_ hf hm.fn (run_in1 (us := [.ref p, u]) (vs := [.ref p, y]) F hr hb hx I2 (.cons rfl (.cons ry .nil)) q) (hsl _ _)
/-! ### dicts of data compared -/
inductive HitsV (K : PySem.W.Frag) (H : Hp) (ls : List (Key × V)) : List (Key × V) → Bool → Prop
  | nil : HitsV K H ls [] true
  | miss {k : Key} {v : V} {r : List (Key × V)} : valV ls k = none → HitsV K H ls ((k, v) :: r) false
  | hit {k : Key} {v y : V} {r : List (Key × V)} {d e : PyData} {b : Bool} : valV ls k = some y → Dp K H v d → Dp K H y e → SeqAt.shaped d = true → SeqAt.shaped e = true → HitsV K H ls r b → HitsV K H ls ((k, v) :: r) (PyData.eqv d e && b)
theorem HitsV.keq {pins : List (Addr × Obj)} {σ : L2.St} {H : Hp} {s : Shared} {ls : List (Key × V)} {vb : List (Key × Value)} (I : Inv X pins σ H s) (rb : KV ls vb) (hu : X.A.in1.units + 64 < cLine) {ks : List (Key × V)} {r : Bool} (h : HitsV X.K H ls ks r) :
    ∀ {va : List (Key × Value)}, KV ks va → PySem.W.KeqHits X.A.in1 s vb va r := by
  induction h with
  | nil => intro va hv; cases hv; exact .nil
  | @miss k v r hm =>
    intro va hv
    cases hv with
    | @cons _ q _ qs h t =>
      obtain ⟨k', v'⟩ := q
      obtain ⟨h1, h2⟩ := h
      have h1' : k = k' := h1
      subst h1'
      have rr := rb.val k
      rw [hm] at rr
      refine .miss ?_
      cases z : valueAt vb k with
      | none => rfl
      | some u => rw [z] at rr; exact rr.elim
  | @hit k v y r d e b hy hd he sd se hr ih =>
    intro va hv
    cases hv with
    | @cons _ q _ qs h t =>
      obtain ⟨k', v'⟩ := q
      obtain ⟨h1, h2⟩ := h
      have h1' : k = k' := h1
      subst h1'
      have rr := rb.val k
      rw [hy] at rr
      obtain ⟨u, hu', ru⟩ := rr.some_of
      obtain ⟨as, r1⟩ := Dp.reads I d v v' hd h2
      obtain ⟨bs, r2⟩ := Dp.reads I e y u he ru
      exact .hit hu' (PySem.W.keq_at r1 r2 sd se hu) (ih t)
theorem u65 {k : Nat} {A : Around} (r : Room k A) : A.in1.units + 64 < cLine := by
  have := r.un
  have e : A.in1.units ≤ A.units + 1 := by first | exact Nat.le_refl _ | exact Nat.le_succ _
  omega
def rEqDD (K : PySem.W.Frag) : R2 := fun x y H Q => ∃ a b ks ls r, x = .ref a ∧ y = .ref b ∧ H a = some (.dK ks) ∧ H b = some (.dK ls) ∧ (ks.length = ls.length → HitsV K H ls ks r) ∧ Q (.bl (ks.length == ls.length && r)) H
theorem k_eqDD (K : PySem.W.Frag) (hu : X.A.in1.units + 64 < cLine) (hK : X.K = K := by rfl) : OpR X (compareOp .Eq) (rEqDD K) := by
  subst hK
  intro pins s σ H x y v u Q I rx ry h
  obtain ⟨a, b, ks, ls, r, rfl, rfl, ea, eb, hh, q⟩ := h
  obtain rfl : v = Value.ref a := rx
  obtain rfl : u = Value.ref b := ry
  obtain ⟨_, ya, va, ra, da⟩ := (show ObjOk X.prog X.w H s.heap a (.dK ks) from I.hok a _ ea)
  obtain ⟨_, yb, vb, rb, db⟩ := (show ObjOk X.prog X.w H s.heap b (.dK ls) from I.hok b _ eb)
  have h1 := ra.length
  have h2 := rb.length
  have hl : (va.length == vb.length) = (ks.length == ls.length) := by rw [← h1, ← h2]
  have hin : X.A.units ≤ X.A.in1.units := by first | exact Nat.le_refl _ | exact Nat.le_succ _
  refine PySem.W.keq_eq (knd := mixKind X.prog X.w) (r := r) ya yb da db (Nat.lt_of_le_of_lt (Nat.le_trans hin (Nat.le_add_right _ 64)) hu) (fun e => HitsV.keq I rb hu (hh (by omega)) ra) ⟨.bl _, H, I, rfl, ?_⟩
  rw [hl]; exact q
end
end Mf

namespace Mf
open PySem L2 PyProof.Rows
/-! ### data stays -/
mutual
theorem Dp.same {K : PySem.W.Frag} {H H' : Hp} (e : Same H H') : ∀ {v : V} {d : PyData}, Dp K H v d → Dp K H' v d
  | _, _, .non => .non
  | _, _, .bl b => .bl b
  | _, _, .int i => .int i
  | _, _, .str x => .str x
  | _, _, .lst h a => .lst (e.seq h) (DpAll.same e a)
  | _, _, .tup h a => .tup (Same.sqt e h) (DpAll.same e a)
theorem DpAll.same {K : PySem.W.Frag} {H H' : Hp} (e : Same H H') : ∀ {vs : List V} {ds : List PyData}, DpAll K H vs ds → DpAll K H' vs ds
  | _, _, .nil => .nil
  | _, _, .cons h r => .cons (Dp.same e h) (DpAll.same e r)
end
theorem dpAll_fa {α : Type} {K : PySem.W.Frag} {H : Hp} {f : α → PyData} {as : List α} {vs : List V} (h : Fa (fun a v => Dp K H v (f a)) as vs) : DpAll K H vs (as.map f) := by
  induction h with
  | nil => exact .nil
  | cons r _ ih => exact .cons r ih
theorem fa_dpAll {α : Type} {K : PySem.W.Frag} {H : Hp} {f : α → PyData} : ∀ {as : List α} {vs : List V}, DpAll K H vs (as.map f) → Fa (fun a v => Dp K H v (f a)) as vs
  | [], _, h => by cases h; exact .nil
  | a :: as, _, h => by cases h with | cons r t => exact .cons r (fa_dpAll t)
theorem len_cps (x : Str) : x.cps.toList.length = x.length := by rw [Array.length_toList]; rfl
theorem letters_mem (z : Nat) : decide (z ∈ (Str.ofString "abcdefghijklmnopqrstuvwxyz").cps.toList) = decide (97 ≤ z ∧ z ≤ 122) := by
  have e : (Str.ofString "abcdefghijklmnopqrstuvwxyz").cps.toList = [97, 98, 99, 100, 101, 102, 103, 104, 105, 106, 107, 108, 109, 110, 111, 112, 113, 114, 115, 116, 117, 118, 119, 120, 121, 122] := by decide +kernel
  rw [e]
  refine decide_eq_decide.mpr ⟨fun h => ?_, fun h => ?_⟩
  · simp only [List.mem_cons, List.not_mem_nil, or_false] at h
    omega
  · simp only [List.mem_cons, List.not_mem_nil, or_false]
    omega
/-! ### steps, bodies, procedures -/
abbrev Stp := Str × Str
abbrev Prc := Str × List Stp
def dStp (s : Stp) : PyData := .tuple [.str s.1, .str s.2]
def dRowT (ss : List Stp) : PyData := .tuple (ss.map dStp)
def dRowL (ss : List Stp) : PyData := .list (ss.map dStp)
def dPrc (p : Prc) : PyData := .tuple [.str p.1, dRowL p.2]
def dPrg (ps : List Prc) : PyData := .list (ps.map dPrc)
def StV (K : PySem.W.Frag) (H : Hp) (s : Stp) (v : V) : Prop := ∃ t, v = .ref t ∧ SqT K H t [.str s.1, .str s.2]
def RowT (K : PySem.W.Frag) (H : Hp) (ss : List Stp) (v : V) : Prop := ∃ b vs, v = .ref b ∧ SqT K H b vs ∧ Fa (StV K H) ss vs
def RowL (K : PySem.W.Frag) (H : Hp) (ss : List Stp) (v : V) : Prop := ∃ b vs, v = .ref b ∧ SqL K H b vs ∧ Fa (StV K H) ss vs
def RowV (K : PySem.W.Frag) (H : Hp) (ss : List Stp) (v : V) : Prop := RowL K H ss v ∨ RowT K H ss v
def PrV (K : PySem.W.Frag) (H : Hp) (R : List Stp → V → Prop) (p : Prc) (v : V) : Prop := ∃ t b, v = .ref t ∧ SqT K H t [.str p.1, b] ∧ R p.2 b
/-- procedures as any rows -/
def PgV (K : PySem.W.Frag) (H : Hp) (ps : List Prc) (v : V) : Prop := ∃ a vs, v = .ref a ∧ (SqL K H a vs ∨ SqT K H a vs) ∧ Fa (PrV K H (RowV K H)) ps vs
/-- a list of (name, list of steps) -/
def PgL (K : PySem.W.Frag) (H : Hp) (ps : List Prc) (v : V) : Prop := ∃ a vs, v = .ref a ∧ SqL K H a vs ∧ Fa (PrV K H (RowL K H)) ps vs
section
variable {K : PySem.W.Frag} {H H' : Hp} {s : Stp} {ss : List Stp} {p : Prc} {ps : List Prc} {v : V}
theorem StV.same (e : Same H H') (h : StV K H s v) : StV K H' s v := let ⟨t, a, b⟩ := h; ⟨t, a, Same.sqt e b⟩
theorem RowT.same (e : Same H H') (h : RowT K H ss v) : RowT K H' ss v := let ⟨t, vs, a, b, c⟩ := h; ⟨t, vs, a, Same.sqt e b, c.imp fun _ _ _ => StV.same e⟩
theorem RowL.same (e : Same H H') (h : RowL K H ss v) : RowL K H' ss v := let ⟨t, vs, a, b, c⟩ := h; ⟨t, vs, a, e.seq b, c.imp fun _ _ _ => StV.same e⟩
theorem RowV.same (e : Same H H') (h : RowV K H ss v) : RowV K H' ss v := h.imp (RowL.same e) (RowT.same e)
theorem PrV.same {R R' : List Stp → V → Prop} (e : Same H H') (f : ∀ ss v, R ss v → R' ss v) (h : PrV K H R p v) : PrV K H' R' p v := let ⟨t, b, a, c, d⟩ := h; ⟨t, b, a, Same.sqt e c, f _ _ d⟩
theorem PgV.same (e : Same H H') (h : PgV K H ps v) : PgV K H' ps v := let ⟨a, vs, b, c, d⟩ := h; ⟨a, vs, b, c.imp e.seq (Same.sqt e), d.imp fun _ _ _ z => z.same e fun _ _ => RowV.same e⟩
theorem PgL.same (e : Same H H') (h : PgL K H ps v) : PgL K H' ps v := let ⟨a, vs, b, c, d⟩ := h; ⟨a, vs, b, e.seq c, d.imp fun _ _ _ z => z.same e fun _ _ => RowL.same e⟩
theorem PgL.any (h : PgL K H ps v) : PgV K H ps v := let ⟨a, vs, b, c, d⟩ := h; ⟨a, vs, b, .inl c, d.imp fun _ _ _ ⟨t, b, x, y, z⟩ => ⟨t, b, x, y, .inl z⟩⟩
theorem StV.dp (h : StV K H s v) : Dp K H v (dStp s) := by
  obtain ⟨t, rfl, h⟩ := h
  exact .tup h (.cons (.str _) (.cons (.str _) .nil))
theorem RowT.dp (h : RowT K H ss v) : Dp K H v (dRowT ss) := by
  obtain ⟨t, vs, rfl, h, f⟩ := h
  exact .tup h (dpAll_fa (f.imp fun _ _ _ z => z.dp))
theorem RowL.dp (h : RowL K H ss v) : Dp K H v (dRowL ss) := by
  obtain ⟨t, vs, rfl, h, f⟩ := h
  exact .lst h (dpAll_fa (f.imp fun _ _ _ z => z.dp))
theorem PrV.dp (h : PrV K H (RowL K H) p v) : Dp K H v (dPrc p) := by
  obtain ⟨t, b, rfl, h, f⟩ := h
  exact .tup h (.cons (.str _) (.cons f.dp .nil))
theorem PgL.dp (h : PgL K H ps v) : Dp K H v (dPrg ps) := by
  obtain ⟨t, vs, rfl, h, f⟩ := h
  exact .lst h (dpAll_fa (f.imp fun _ _ _ z => z.dp))
end
section
variable {K : PySem.W.Frag} {H : Hp} {D : Addr} {w : HO} {s : Stp} {ss : List Stp} {p : Prc} {ps : List Prc} {v : V}
theorem StV.hide (hD : H D = some w) (n : NoT w) (h : StV K H s v) : StV K (hid D H) s v := let ⟨t, a, b⟩ := h; ⟨t, a, SqT.hide hD n b⟩
theorem RowT.hide (hD : H D = some w) (n : NoT w) (h : RowT K H ss v) : RowT K (hid D H) ss v := let ⟨t, vs, a, b, c⟩ := h; ⟨t, vs, a, SqT.hide hD n b, c.imp fun _ _ _ => StV.hide hD n⟩
theorem RowL.hide (hD : H D = some w) (n : NoR w) (h : RowL K H ss v) : RowL K (hid D H) ss v := let ⟨t, vs, a, b, c⟩ := h; ⟨t, vs, a, SqL.hide hD n b, c.imp fun _ _ _ => StV.hide hD n.1⟩
theorem RowV.hide (hD : H D = some w) (n : NoR w) (h : RowV K H ss v) : RowV K (hid D H) ss v := h.imp (RowL.hide hD n) (RowT.hide hD n.1)
theorem PgV.hide (hD : H D = some w) (n : NoR w) (h : PgV K H ps v) : PgV K (hid D H) ps v := let ⟨a, vs, b, c, d⟩ := h; ⟨a, vs, b, Sq2.hide hD n c, d.imp fun _ _ _ ⟨t, b, x, y, z⟩ => ⟨t, b, x, SqT.hide hD n.1 y, z.hide hD n⟩⟩
theorem RowV.sq (h : RowV K H ss v) : ∃ b vs, v = .ref b ∧ Sq2 K H b vs ∧ Fa (StV K H) ss vs := by
  rcases h with ⟨b, vs, e, h, f⟩ | ⟨b, vs, e, h, f⟩
  · exact ⟨b, vs, e, .inl h, f⟩
  · exact ⟨b, vs, e, .inr h, f⟩
end
/-! ### programs that are valid -/
def kinds : List Str := ["read", "say", "call", "try"]
def calls : List Str := ["call", "try"]
def GoodStp (ns : List Str) (s : Stp) : Prop := s.1 ∈ kinds ∧ IsName s.2 ∧ (s.1 ∈ calls → s.2 ∈ ns)
def nms (ps : List Prc) : List Str := ps.map Prod.fst
def rdOf (s : Stp) : Option Str := if s.1 = "read" then some s.2 else none
def reads (ps : List Prc) : List Str := ps.flatMap fun p => p.2.filterMap rdOf
structure Good (ps : List Prc) : Prop where
  pos : 0 < ps.length
  few : ps.length ≤ 16
  nd : (nms ps).Nodup
  name : ∀ p ∈ ps, IsName p.1
  short : ∀ p ∈ ps, p.2.length ≤ 12
  step : ∀ p ∈ ps, ∀ s ∈ p.2, GoodStp (nms ps) s
  plc : (addAll (reads ps)).length < 64
def places (ps : List Prc) : List Str := nset (reads ps)
theorem kinds_ok {x : Str} (h : x ∈ kinds) : PyData.strOk x = true := by
  unfold kinds at h
  simp only [List.mem_cons, List.not_mem_nil, or_false] at h
  rcases h with rfl | rfl | rfl | rfl <;> decide +kernel
theorem kinds_len {x : Str} (h : x ∈ kinds) : x.length ≤ 4 := by
  unfold kinds at h
  simp only [List.mem_cons, List.not_mem_nil, or_false] at h
  rcases h with rfl | rfl | rfl | rfl <;> decide +kernel
theorem GoodStp.lay {ns : List Str} {s : Stp} (h : GoodStp ns s) : PyData.canLay0 (dStp s) = true := by
  unfold dStp
  simp only [PyData.canLay0, PyData.canLayAll0, kinds_ok h.1, h.2.1.ok, Bool.and_self]
theorem lay_all {α : Type} {f : α → PyData} : ∀ {as : List α}, (∀ a ∈ as, PyData.canLay0 (f a) = true) → PyData.canLayAll0 (as.map f) = true
  | [], _ => by simp [PyData.canLayAll0]
  | a :: as, h => by
    simp only [List.map_cons, PyData.canLayAll0, h a List.mem_cons_self, lay_all (as := as) fun x hx => h x (List.mem_cons_of_mem _ hx), Bool.and_self]
theorem depth_all {α : Type} {f : α → PyData} {n : Nat} : ∀ {as : List α}, (∀ a ∈ as, PyData.depth (f a) ≤ n) → PyData.depthAll (as.map f) ≤ n
  | [], _ => by simp [PyData.depthAll]
  | a :: as, h => by
    simp only [List.map_cons, PyData.depthAll]
    exact Nat.max_le.mpr ⟨h a List.mem_cons_self, depth_all (as := as) fun x hx => h x (List.mem_cons_of_mem _ hx)⟩
theorem depth_stp (s : Stp) : PyData.depth (dStp s) ≤ 1 := by
  unfold dStp
  simp [PyData.depth, PyData.depthAll]
theorem shaped_rowT {ns : List Str} {ss : List Stp} (h : ∀ s ∈ ss, GoodStp ns s) : SeqAt.shaped (dRowT ss) = true := by
  unfold SeqAt.shaped dRowT
  rw [Bool.and_eq_true]
  refine ⟨?_, decide_eq_true ?_⟩
  · simp only [PyData.canLay0]
    exact lay_all fun s hs => (h s hs).lay
  · simp only [PyData.depth]
    have := depth_all (f := dStp) (as := ss) (n := 1) fun s _ => depth_stp s
    omega
theorem eqv_stp (s t : Stp) : PyData.eqv (dStp s) (dStp t) = decide (s = t) := by
  obtain ⟨a, b⟩ := s
  obtain ⟨c, d⟩ := t
  unfold dStp
  simp only [PyData.eqv, PyData.eqvAll]
  by_cases h1 : a = c
  · by_cases h2 : b = d <;> simp [h1, h2]
  · simp [h1]
theorem eqvAll_map {α : Type} [DecidableEq α] {f : α → PyData} (hf : ∀ a b, PyData.eqv (f a) (f b) = decide (a = b)) : ∀ as bs : List α, PyData.eqvAll (as.map f) (bs.map f) = decide (as = bs)
  | [], [] => by simp [PyData.eqvAll]
  | [], y :: ys => by simp [PyData.eqvAll]
  | x :: xs, [] => by simp [PyData.eqvAll]
  | x :: xs, y :: ys => by
    simp only [List.map_cons, PyData.eqvAll, hf, eqvAll_map hf xs ys]
    by_cases h1 : x = y
    · by_cases h2 : xs = ys <;> simp [h1, h2]
    · simp [h1]
theorem eqv_rowT (ss ts : List Stp) : PyData.eqv (dRowT ss) (dRowT ts) = decide (ss = ts) := by
  unfold dRowT; simp only [PyData.eqv]; exact eqvAll_map eqv_stp ss ts
theorem eqv_rowL (ss ts : List Stp) : PyData.eqv (dRowL ss) (dRowL ts) = decide (ss = ts) := by
  unfold dRowL; simp only [PyData.eqv]; exact eqvAll_map eqv_stp ss ts
theorem eqv_prc (p q : Prc) : PyData.eqv (dPrc p) (dPrc q) = decide (p = q) := by
  obtain ⟨a, b⟩ := p
  obtain ⟨c, d⟩ := q
  unfold dPrc
  simp only [PyData.eqv, PyData.eqvAll, eqv_rowL]
  by_cases h1 : a = c
  · by_cases h2 : b = d <;> simp [h1, h2]
  · simp [h1]
theorem eqv_prg (ps qs : List Prc) : PyData.eqv (dPrg ps) (dPrg qs) = decide (ps = qs) := by
  unfold dPrg; simp only [PyData.eqv]; exact eqvAll_map eqv_prc ps qs
/-! ### Program -/
def pgF (tn db tp : Addr) : List (Str × V) := [("names", .ref tn), ("bodies", .ref db), ("places", .ref tp)]
structure PgAt (K : PySem.W.Frag) (C : Addr) (H : Hp) (a : Addr) (ps : List Prc) : Prop where
  ex : ∃ dx tn db tp kvs, H a = some (.ins C dx (pgF tn db tp)) ∧ SqT K H tn ((nms ps).map V.str) ∧ H db = some (.dK kvs) ∧ Fa (fun p q => q.1 = Sum.inr p.1 ∧ RowT K H p.2 q.2) ps kvs ∧ SqT K H tp ((places ps).map V.str)
  good : Good ps
theorem PgAt.same {K : PySem.W.Frag} {C : Addr} {H H' : Hp} {a : Addr} {ps : List Prc} (e : Same H H') (h : PgAt K C H a ps) : PgAt K C H' a ps := by
  obtain ⟨⟨dx, tn, db, tp, kvs, h1, h2, h3, h4, h5⟩, g⟩ := h
  exact ⟨⟨dx, tn, db, tp, kvs, e _ _ h1, Same.sqt e h2, e _ _ h3, h4.imp fun _ _ _ z => ⟨z.1, z.2.same e⟩, Same.sqt e h5⟩, g⟩
theorem val_of_mem {kvs : List (Key × V)} {k : Key} {v : V} (nd : (kvs.map (·.1)).Nodup) (h : (k, v) ∈ kvs) : valV kvs k = some v := val_nodup nd (k, v) h
theorem keys_of {K : PySem.W.Frag} {H : Hp} {ps : List Prc} {kvs : List (Key × V)} (h : Fa (fun p q => q.1 = Sum.inr p.1 ∧ RowT K H p.2 q.2) ps kvs) : kvs.map (·.1) = (nms ps).map Sum.inr := by
  induction h with
  | nil => rfl
  | cons r _ ih => unfold nms at *; simp only [List.map_cons]; rw [r.1, ih]
theorem Good.keys {K : PySem.W.Frag} {H : Hp} {ps : List Prc} {kvs : List (Key × V)} (hg : Good ps) (h : Fa (fun p q => q.1 = Sum.inr p.1 ∧ RowT K H p.2 q.2) ps kvs) : (kvs.map (·.1)).Nodup := by
  rw [keys_of h]
  exact List.pairwise_map.mpr (List.Pairwise.imp (fun h z => h (Sum.inr.inj z)) hg.nd)
theorem body_at {K : PySem.W.Frag} {H : Hp} {ps : List Prc} {kvs : List (Key × V)} {n : Str} {ss : List Stp} (hg : Good ps) (h : Fa (fun p q => q.1 = Sum.inr p.1 ∧ RowT K H p.2 q.2) ps kvs) (hm : (n, ss) ∈ ps) : ∃ v, valV kvs (Sum.inr n) = some v ∧ RowT K H ss v := by
  obtain ⟨⟨k, v⟩, hq, e, r⟩ := h.left hm
  have e' : k = Sum.inr n := e
  subst e'
  exact ⟨v, val_of_mem (hg.keys h) hq, r⟩
theorem Good.oks {ps : List Prc} (h : Good ps) : Oks (nms ps) := fun x hx => by
  obtain ⟨p, hp, rfl⟩ := List.mem_map.mp hx
  exact (h.name p hp).ok
theorem nms_inj {ps : List Prc} (nd : (nms ps).Nodup) {p q : Prc} (hp : p ∈ ps) (hq : q ∈ ps) (e : p.1 = q.1) : p = q := by
  induction ps with
  | nil => cases hp
  | cons r rs ih =>
    unfold nms at nd
    rw [List.map_cons, List.nodup_cons] at nd
    rcases List.mem_cons.mp hp with rfl | hp' <;> rcases List.mem_cons.mp hq with rfl | hq'
    · rfl
    · exact absurd (List.mem_map.mpr ⟨q, hq', e.symm⟩) nd.1
    · exact absurd (List.mem_map.mpr ⟨p, hp', e⟩) nd.1
    · exact ih nd.2 hp' hq'
theorem hits_aux {K : PySem.W.Frag} {H : Hp} {ps qs : List Prc} {kvs lvs : List (Key × V)} {ns : List Str} (hs : ∀ p ∈ ps, ∀ s ∈ p.2, GoodStp ns s) (hs' : ∀ p ∈ qs, ∀ s ∈ p.2, GoodStp ns s)
    (look : ∀ q ∈ qs, ∃ v, valV lvs (Sum.inr q.1) = some v ∧ RowT K H q.2 v) (hn : nms ps = nms qs) (hK : Fa (fun p q => q.1 = Sum.inr p.1 ∧ RowT K H p.2 q.2) ps kvs) : HitsV K H lvs kvs (decide (ps = qs)) := by
  induction hK generalizing qs with
  | nil =>
    cases qs with
    | nil => exact .nil
    | cons q qs => cases hn
  | @cons p kv ps' kvs' r t ih =>
    cases qs with
    | nil => cases hn
    | cons q qs' =>
      have hn' : p.1 = q.1 ∧ nms ps' = nms qs' := by
        unfold nms at hn ⊢
        rw [List.map_cons, List.map_cons] at hn
        injection hn with a b
        exact ⟨a, b⟩
      obtain ⟨k, v⟩ := kv
      obtain ⟨rk, rv⟩ := r
      have rk' : k = Sum.inr p.1 := rk
      subst rk'
      obtain ⟨v', hv', rv'⟩ := look q List.mem_cons_self
      rw [← hn'.1] at hv'
      have ih' := ih (qs := qs') (fun a ha => hs a (List.mem_cons_of_mem _ ha)) (fun a ha => hs' a (List.mem_cons_of_mem _ ha)) (fun a ha => look a (List.mem_cons_of_mem _ ha)) hn'.2
      have hit := HitsV.hit hv' rv.dp rv'.dp (shaped_rowT fun s hm => hs p List.mem_cons_self s hm) (shaped_rowT fun s hm => hs' q List.mem_cons_self s hm) ih'
      rw [eqv_rowT] at hit
      have e : (decide (p.2 = q.2) && decide (ps' = qs')) = decide (p :: ps' = q :: qs') := by
        obtain ⟨p1, p2⟩ := p
        obtain ⟨q1, q2⟩ := q
        have : p1 = q1 := hn'.1
        subst this
        by_cases h1 : p2 = q2 <;> by_cases h2 : ps' = qs' <;> simp [h1, h2]
      rw [e] at hit
      exact hit
theorem hits_pg {K : PySem.W.Frag} {H : Hp} {ps qs : List Prc} {kvs lvs : List (Key × V)} (hg : Good ps) (hg' : Good qs) (hn : nms ps = nms qs) (hK : Fa (fun p q => q.1 = Sum.inr p.1 ∧ RowT K H p.2 q.2) ps kvs) (hL : Fa (fun p q => q.1 = Sum.inr p.1 ∧ RowT K H p.2 q.2) qs lvs) : HitsV K H lvs kvs (decide (ps = qs)) :=
  hits_aux (ns := nms ps) hg.step (by rw [hn]; exact hg'.step) (fun q hq => body_at hg' hL hq) hn hK
def sp_isName : Sp := fun vs H Q _ => ∃ v, vs = [v] ∧ ((∃ x : Str, v = .str x ∧ x.length ≤ 1000 ∧ ∀ H', Same H H' → Q (.bl (decide (IsName x))) H') ∨ (∃ i : Int, v = .int i ∧ Q (.bl false) H))
theorem use_isName {x : Str} {H : Hp} {Q : VK} {E : XK} (hl : x.length ≤ 1000) (g : ∀ H', Same H H' → Q (.bl (decide (IsName x))) H') : sp_isName ([.str x] ++ []) H Q E := ⟨_, rfl, .inl ⟨x, rfl, hl, g⟩⟩
/-! ### procedures as they are handed in: names may be any texts or numbers -/
abbrev GStp := Str × V
abbrev GPrc := V × List GStp
def GSt (K : PySem.W.Frag) (H : Hp) (s : GStp) (v : V) : Prop := ∃ t, v = .ref t ∧ SqT K H t [.str s.1, s.2]
def GRow (K : PySem.W.Frag) (H : Hp) (ss : List GStp) (v : V) : Prop := ∃ b vs, v = .ref b ∧ Sq2 K H b vs ∧ Fa (GSt K H) ss vs
def GPr (K : PySem.W.Frag) (H : Hp) (p : GPrc) (v : V) : Prop := ∃ t b, v = .ref t ∧ SqT K H t [p.1, b] ∧ GRow K H p.2 b
def GPg (K : PySem.W.Frag) (H : Hp) (ps : List GPrc) (v : V) : Prop := ∃ a vs, v = .ref a ∧ Sq2 K H a vs ∧ Fa (GPr K H) ps vs
section
variable {K : PySem.W.Frag} {H H' : Hp} {v : V}
theorem GSt.same {s : GStp} (e : Same H H') (h : GSt K H s v) : GSt K H' s v := let ⟨t, a, b⟩ := h; ⟨t, a, Same.sqt e b⟩
theorem GRow.same {ss : List GStp} (e : Same H H') (h : GRow K H ss v) : GRow K H' ss v := let ⟨t, vs, a, b, c⟩ := h; ⟨t, vs, a, b.same e, c.imp fun _ _ _ => GSt.same e⟩
theorem GPr.same {p : GPrc} (e : Same H H') (h : GPr K H p v) : GPr K H' p v := let ⟨t, b, a, c, d⟩ := h; ⟨t, b, a, Same.sqt e c, d.same e⟩
theorem GPg.same {ps : List GPrc} (e : Same H H') (h : GPg K H ps v) : GPg K H' ps v := let ⟨a, vs, b, c, d⟩ := h; ⟨a, vs, b, c.same e, d.imp fun _ _ _ => GPr.same e⟩
end
def gS (s : Stp) : GStp := (s.1, .str s.2)
def gP (p : Prc) : GPrc := (.str p.1, p.2.map gS)
theorem faMap {α β γ : Type} {R : α → β → Prop} {S : γ → β → Prop} {f : α → γ} {as : List α} {bs : List β} (h : Fa R as bs) (i : ∀ a b, R a b → S (f a) b) : Fa S (as.map f) bs := Fa.toMapL (h.imp fun a b _ => i a b)
theorem RowV.g {K : PySem.W.Frag} {H : Hp} {ss : List Stp} {v : V} (h : RowV K H ss v) : GRow K H (ss.map gS) v := by
  rcases h with ⟨b, vs, e, h, f⟩ | ⟨b, vs, e, h, f⟩
  · exact ⟨b, vs, e, .inl h, faMap f fun s v ⟨t, a, b⟩ => ⟨t, a, b⟩⟩
  · exact ⟨b, vs, e, .inr h, faMap f fun s v ⟨t, a, b⟩ => ⟨t, a, b⟩⟩
theorem PgV.g {K : PySem.W.Frag} {H : Hp} {ps : List Prc} {v : V} (h : PgV K H ps v) : GPg K H (ps.map gP) v := by
  obtain ⟨a, vs, e, h, f⟩ := h
  exact ⟨a, vs, e, h, faMap f fun p v ⟨t, b, x, y, z⟩ => ⟨t, b, x, y, z.g⟩⟩
/-- a text or a number -/
def Wd (v : V) : Prop := (∃ x : Str, v = .str x ∧ x.length ≤ 1000) ∨ ∃ i : Int, v = .int i
theorem Wd.flat {v : V} (h : Wd v) : flatV v = true := by
  rcases h with ⟨x, rfl, _⟩ | ⟨i, rfl⟩ <;> rfl
def isNm : V → Bool
  | .str x => decide (IsName x)
  | _ => false
def isSt (s : GStp) : Bool := decide (s.1 ∈ kinds) && isNm s.2
def badA (i : Nat) (p : GPrc) (earlier : List V) : Bool := decide (16 < i + 1) || !isNm p.1 || inV p.1 earlier || decide (12 < p.2.length) || !p.2.all isSt
def scanA : Nat → List V → List GPrc → Option Nat
  | _, _, [] => none
  | i, ea, p :: r => if badA i p ea = true then some (i + 1) else scanA (i + 1) (ea ++ [p.1]) r
def badB (ns : List V) (p : GPrc) : Bool := p.2.any fun s => decide (s.1 ∈ calls) && !inV s.2 ns
def scanB (ns : List V) : Nat → List GPrc → Nat
  | _, [] => 0
  | i, p :: r => if badB ns p = true then i + 1 else scanB ns (i + 1) r
def invLine (ps : List GPrc) : Nat := if ps = [] then 1 else match scanA 0 [] ps with
  | some n => n
  | none => scanB (ps.map Prod.fst) 0 ps
def FlatG (ps : List GPrc) : Prop := ps.length ≤ 1000 ∧ ∀ p ∈ ps, Wd p.1 ∧ p.2.length ≤ 1000 ∧ ∀ s ∈ p.2, Wd s.2
theorem use_nm {v : V} {H : Hp} {Q : VK} {E : XK} (h : Wd v) (g : ∀ H', Same H H' → Q (.bl (isNm v)) H') : sp_isName ([v] ++ []) H Q E := by
  rcases h with ⟨x, rfl, hl⟩ | ⟨i, rfl⟩
  · exact ⟨_, rfl, .inl ⟨x, rfl, hl, g⟩⟩
  · exact ⟨_, rfl, .inr ⟨i, rfl, g _ fun _ _ z => z⟩⟩
def sp_isStep (K : PySem.W.Frag) : Sp := fun vs H Q _ => ∃ v s, vs = [v] ∧ GSt K H s v ∧ Wd s.2 ∧ ∀ H', Same H H' → Q (.bl (isSt s)) H'
theorem use_isStep {K : PySem.W.Frag} {v : V} {s : GStp} {H : Hp} {Q : VK} {E : XK} (h : GSt K H s v) (hl : Wd s.2) (g : ∀ H', Same H H' → Q (.bl (isSt s)) H') : sp_isStep K ([v] ++ []) H Q E := ⟨v, s, rfl, h, hl, g⟩
def sp_invLine (K : PySem.W.Frag) : Sp := fun vs H Q _ => ∃ v ps, vs = [v] ∧ GPg K H ps v ∧ FlatG ps ∧ ∀ H', Same H H' → Q (.int (invLine ps : Nat)) H'
theorem drop_at {α : Type} {ps : List α} {i : Nat} {p : α} (h : ps[i]? = some p) : ps.drop i = p :: ps.drop (i + 1) := by
  obtain ⟨hi, e⟩ := List.getElem?_eq_some_iff.mp h
  rw [List.drop_eq_getElem_cons hi, e]
theorem scanA_yes {ps : List GPrc} {i : Nat} {p : GPrc} {r : Option Nat} (h : ps[i]? = some p) (e : r = scanA i ((ps.take i).map Prod.fst) (ps.drop i)) (hb : badA i p ((ps.take i).map Prod.fst) = true) : r = some (i + 1) := by
  rw [e, drop_at h, scanA, if_pos hb]
theorem scanA_no {ps : List GPrc} {i : Nat} {p : GPrc} {r : Option Nat} (h : ps[i]? = some p) (e : r = scanA i ((ps.take i).map Prod.fst) (ps.drop i)) (hb : badA i p ((ps.take i).map Prod.fst) = false) : r = scanA (i + 1) ((ps.take (i + 1)).map Prod.fst) (ps.drop (i + 1)) := by
  rw [e, drop_at h, scanA, if_neg (by rw [hb]; exact Bool.false_ne_true), take_next h, List.map_append]; rfl
theorem scanB_yes {ns : List V} {ps : List GPrc} {i : Nat} {p : GPrc} {r : Nat} (h : ps[i]? = some p) (e : r = scanB ns i (ps.drop i)) (hb : badB ns p = true) : r = i + 1 := by
  rw [e, drop_at h, scanB, if_pos hb]
theorem scanB_no {ns : List V} {ps : List GPrc} {i : Nat} {p : GPrc} {r : Nat} (h : ps[i]? = some p) (e : r = scanB ns i (ps.drop i)) (hb : badB ns p = false) : r = scanB ns (i + 1) (ps.drop (i + 1)) := by
  rw [e, drop_at h, scanB, if_neg (by rw [hb]; exact Bool.false_ne_true)]
theorem inV_str {x : Str} {xs : List Str} : inV (.str x) (xs.map V.str) = decide (x ∈ xs) := inV_strs ..
theorem scanA_good : ∀ (qs : List Prc) (i : Nat) (es : List Str), i + qs.length ≤ 16 → (∀ p ∈ qs, IsName p.1 ∧ p.2.length ≤ 12 ∧ ∀ s ∈ p.2, s.1 ∈ kinds ∧ IsName s.2) → (es ++ nms qs).Nodup → scanA i (es.map V.str) (qs.map gP) = none
  | [], _, _, _, _, _ => rfl
  | q :: r, i, es, h16, hg, nd => by
    obtain ⟨h1, h2, h3⟩ := hg q List.mem_cons_self
    have hb : badA i (gP q) (es.map V.str) = false := by
      unfold badA gP
      simp only
      have hn : q.1 ∉ es := fun z => by
        rw [List.nodup_append] at nd
        exact nd.2.2 _ z _ (by unfold nms; simp) rfl
      have ha : (q.2.map gS).all isSt = true := by
        rw [List.all_map, List.all_eq_true]
        intro s hs
        obtain ⟨a, b⟩ := h3 s hs
        show (decide (s.1 ∈ kinds) && decide (IsName s.2)) = true
        rw [decide_eq_true a, decide_eq_true b]; rfl
      have hi : isNm (V.str q.1) = true := decide_eq_true h1
      rw [inV_str, decide_eq_false hn, ha, hi, List.length_map, decide_eq_false (show ¬ 12 < q.2.length by omega), decide_eq_false (show ¬ 16 < i + 1 by simp at h16; omega)]
      rfl
    rw [List.map_cons, scanA, if_neg (by rw [hb]; exact Bool.false_ne_true)]
    have e : es.map V.str ++ [(gP q).1] = (es ++ [q.1]).map V.str := by simp [gP]
    rw [e]
    refine scanA_good r (i + 1) (es ++ [q.1]) (by simp at h16; omega) (fun p hp => hg p (List.mem_cons_of_mem _ hp)) ?_
    have : es ++ [q.1] ++ nms r = es ++ nms (q :: r) := by unfold nms; simp
    rw [this]; exact nd
theorem scanB_good {ns : List Str} : ∀ (qs : List Prc) (i : Nat), (∀ p ∈ qs, ∀ s ∈ p.2, s.1 ∈ calls → s.2 ∈ ns) → scanB (ns.map V.str) i (qs.map gP) = 0
  | [], _, _ => rfl
  | q :: r, i, h => by
    have hb : badB (ns.map V.str) (gP q) = false := by
      unfold badB gP
      rw [List.any_eq_false]
      intro s hs
      obtain ⟨s', hs', rfl⟩ := List.mem_map.mp hs
      simp only [gS, inV_str]
      by_cases hc : s'.1 ∈ calls
      · simp [h q List.mem_cons_self s' hs' hc]
      · simp [hc]
    rw [List.map_cons, scanB, if_neg (by rw [hb]; exact Bool.false_ne_true)]
    exact scanB_good r (i + 1) fun p hp => h p (List.mem_cons_of_mem _ hp)
theorem Good.inv {ps : List Prc} (h : Good ps) : invLine (ps.map gP) = 0 := by
  have e1 : scanA 0 [] (ps.map gP) = none := scanA_good ps 0 [] (by have := h.few; omega) (fun p hp => ⟨h.name p hp, h.short p hp, fun s hs => ⟨(h.step p hp s hs).1, (h.step p hp s hs).2.1⟩⟩) (by simpa using h.nd)
  have e2 : (ps.map gP).map Prod.fst = (nms ps).map V.str := by unfold nms; simp [gP, Function.comp_def]
  have hne : ps.map gP ≠ [] := by
    intro z
    have := h.pos
    rw [List.map_eq_nil_iff.mp z] at this
    cases this
  unfold invLine
  rw [if_neg hne, e1, e2]
  exact scanB_good ps 0 fun p hp s hs => (h.step p hp s hs).2.2
theorem IsName.short {x : Str} (h : IsName x) : x.length ≤ 8 := h.2.1
theorem Good.flat {ps : List Prc} (h : Good ps) : FlatG (ps.map gP) := by
  refine ⟨by rw [List.length_map]; have := h.few; omega, fun p hp => ?_⟩
  obtain ⟨q, hq, rfl⟩ := List.mem_map.mp hp
  refine ⟨.inl ⟨q.1, rfl, by have := (h.name q hq).short; omega⟩, by unfold gP; rw [List.length_map]; have := h.short q hq; omega, fun s hs => ?_⟩
  obtain ⟨s', hs', rfl⟩ := List.mem_map.mp hs
  exact .inl ⟨s'.2, rfl, by have := (h.step q hq s' hs').2.1.short; omega⟩
theorem use_invLine {K : PySem.W.Frag} {v : V} {ps : List Prc} {H : Hp} {Q : VK} {E : XK} (h : PgV K H ps v) (hg : Good ps) (g : ∀ H', Same H H' → Q (.int 0) H') : sp_invLine K ([v] ++ []) H Q E :=
  ⟨v, ps.map gP, rfl, h.g, hg.flat, by rw [hg.inv]; exact g⟩
theorem sjoin_len (y : Str) (B : Nat) : ∀ ps : List Str, (∀ p ∈ ps, p.length ≤ B) → (Str.join y ps).length ≤ ps.length * (B + y.length)
  | [], _ => by show (0 : Nat) ≤ _; omega
  | [p], h => by
    have := h p List.mem_cons_self
    show p.length ≤ _
    simp; omega
  | p :: q :: r, h => by
    have h1 := h p List.mem_cons_self
    have h2 := sjoin_len y B (q :: r) fun x hx => h x (List.mem_cons_of_mem _ hx)
    show (p ++ y ++ Str.join y (q :: r)).length ≤ _
    rw [Str.length_append, Str.length_append, List.length_cons, Nat.add_mul]
    omega
theorem join_len {y : Str} {B : Nat} {ps : List Str} (h : ∀ p ∈ ps, p.length ≤ B) : (Txt.join y ps).length ≤ ps.length * (B + y.length) := by
  rw [TL.join_eq]; exact sjoin_len y B ps h
theorem sum_len {B : Nat} : ∀ {ps : List Str}, (∀ p ∈ ps, p.length ≤ B) → (ps.map (·.length)).sum ≤ ps.length * B
  | [], _ => by simp
  | p :: r, h => by
    have h1 := h p List.mem_cons_self
    have h2 := sum_len (ps := r) fun x hx => h x (List.mem_cons_of_mem _ hx)
    rw [List.map_cons, List.sum_cons, List.length_cons, Nat.add_mul]
    omega
def stpTxt (s : Stp) : Str := s.1 ++ Str.ofString " " ++ s.2
def lineOf (p : Prc) : Str := if p.2 = [] then p.1 ++ Str.ofString ":" else p.1 ++ Str.ofString ": " ++ Txt.join (Str.ofString ", ") (p.2.map stpTxt)
def textOf (ps : List Prc) : Str := Txt.join (Str.ofString "\n") (ps.map lineOf)
theorem stpTxt_len {ns : List Str} {s : Stp} (h : GoodStp ns s) : (stpTxt s).length ≤ 13 := by
  unfold stpTxt
  rw [Str.length_append, Str.length_append, show (Str.ofString " ").length = 1 from by decide +kernel]
  have h1 := kinds_len h.1
  have h2 := h.2.1.short
  omega
theorem lineOf_len {ns : List Str} {p : Prc} (hn : IsName p.1) (hl : p.2.length ≤ 12) (h : ∀ s ∈ p.2, GoodStp ns s) : (lineOf p).length ≤ 200 := by
  have e1 : (Str.ofString ":").length = 1 := by decide +kernel
  have e2 : (Str.ofString ": ").length = 2 := by decide +kernel
  have e4 : (Str.ofString ", ").length = 2 := by decide +kernel
  have h8 := hn.short
  unfold lineOf
  by_cases e : p.2 = []
  · rw [if_pos e, Str.length_append]; omega
  · rw [if_neg e, Str.length_append, Str.length_append]
    have := join_len (y := Str.ofString ", ") (B := 13) (ps := p.2.map stpTxt) fun q hq => by
      obtain ⟨s, hs, rfl⟩ := List.mem_map.mp hq
      exact stpTxt_len (h s hs)
    rw [List.length_map, e4] at this
    omega
theorem empty_app (z : Str) : Str.empty ++ z = z := by
  apply str_ext
  simp [Str.cps_append, Str.empty]
def sp_lineText (K : PySem.W.Frag) : Sp := fun vs H Q _ => ∃ (n : Str) (v : V) (ss : List Stp) (ns : List Str), vs = [.str n, v] ∧ RowT K H ss v ∧ IsName n ∧ ss.length ≤ 12 ∧ (∀ s ∈ ss, GoodStp ns s) ∧ ∀ H', Same H H' → Q (.str (lineOf (n, ss))) H'
theorem use_lineText {K : PySem.W.Frag} {n : Str} {v : V} {ss : List Stp} {ns : List Str} {H : Hp} {Q : VK} {E : XK} (h : RowT K H ss v) (hn : IsName n) (hl : ss.length ≤ 12) (hg : ∀ s ∈ ss, GoodStp ns s) (g : ∀ H', Same H H' → Q (.str (lineOf (n, ss))) H') : sp_lineText K ([.str n, v] ++ []) H Q E :=
  ⟨n, v, ss, ns, rfl, h, hn, hl, hg, g⟩
theorem fa_nms : ∀ ps : List Prc, Fa (fun p v => v = V.str p.1) ps ((nms ps).map V.str)
  | [] => .nil
  | _ :: r => .cons rfl (fa_nms r)
def sp_pgInit (K : PySem.W.Frag) (C : Addr) : Sp := fun vs H Q _ => ∃ (x dx : Addr) (v : V) (ps : List Prc), vs = [.ref x, v] ∧ H x = some (.ins C dx []) ∧ PgV K H ps v ∧ Good ps ∧
  ∀ H', (∀ b o, b ≠ x → H b = some o → H' b = some o) → PgAt K C H' x ps → Q .non H'
def sp_pgGet (K : PySem.W.Frag) (C : Addr) : Sp := fun vs H Q _ => ∃ (a : Addr) (n : Str) (ps : List Prc) (ss : List Stp), vs = [.ref a, .str n] ∧ PgAt K C H a ps ∧ (n, ss) ∈ ps ∧ ∀ v, RowT K H ss v → Q v H
theorem u_pgGet {K : PySem.W.Frag} {C : Addr} {a : Addr} {p : Prc} {ps : List Prc} {H : Hp} {Q : VK} {E : XK} (h : PgAt K C H a ps) (hm : p ∈ ps) (g : ∀ v, RowT K H p.2 v → Q v H) : rGetO C (sp_pgGet K C) E (.ref a) (.str p.1) H Q := by
  obtain ⟨⟨dx, tn, db, tp, kvs, ha, h2⟩, h3⟩ := id h
  exact ⟨a, dx, _, rfl, ha, a, p.1, ps, p.2, rfl, h, hm, g⟩
theorem use_pgMake {K : PySem.W.Frag} {C : Addr} {H : Hp} {Q : VK} {E : XK} {v : V} {vs : List V} {ps : List Prc} (hv : vs = [v]) (hC : PgV K H ps v) (hg : Good ps) (g : ∀ x H', Same H H' → H x = none → PgAt K C H' x ps → Q (.ref x) H') : MkB C (sp_pgInit K C) E Q vs H := by
  intro x dx nx nd ne
  subst hv
  have s0 : Same H (upd (upd H dx (.own x)) x (.ins C dx [])) := Same.mut (Same.new nd) nx
  refine ⟨x, dx, v, ps, rfl, upd_same, hC.same s0, hg, fun H' k hx => ⟨rfl, ?_⟩⟩
  exact g x H' (fun b o e => k b o (ne_of_none e nx) (s0 b o e)) nx hx
def sp_pgText (K : PySem.W.Frag) (C : Addr) : Sp := fun vs H Q _ => ∃ (a : Addr) (ps : List Prc), vs = [.ref a] ∧ PgAt K C H a ps ∧ ∀ H', Same H H' → Q (.str (textOf ps)) H'
def sp_pgEq (K : PySem.W.Frag) (C : Addr) : Sp := fun vs H Q _ => ∃ (a : Addr) (y : V) (ps : List Prc), vs = [.ref a, y] ∧ PgAt K C H a ps ∧
  ((∃ b qs, y = .ref b ∧ PgAt K C H b qs ∧ Q (.bl (decide (ps = qs))) H) ∨ (∃ t, TyX K H y t ∧ PySem.W.kitOne K t (.ref C) = some false ∧ Q (.bl false) H))
def isRd (s : Stp) : Bool := decide (s.1 = ("read" : Str))
def rf (p : Prc) : Prc := (p.1, p.2.filter isRd ++ p.2.filter fun s => !isRd s)
def sp_readsFirst (K : PySem.W.Frag) (C : Addr) : Sp := fun vs H Q _ => ∃ (a : Addr) (ps : List Prc), vs = [.ref a] ∧ PgAt K C H a ps ∧ ∀ x H', Same H H' → H x = none → PgAt K C H' x (ps.map rf) → Q (.ref x) H'
def keepIf (b : Stp → Bool) (s : Stp) : Option Stp := if b s = true then some s else none
theorem keepIf_all (b : Stp → Bool) (ss : List Stp) : ss.filterMap (keepIf b) = ss.filter b := by
  induction ss with
  | nil => rfl
  | cons s r ih =>
    rw [List.filterMap_cons, List.filter_cons]
    unfold keepIf at *
    by_cases h : b s = true
    · rw [if_pos h, if_pos h, ih]
    · rw [if_neg h, if_neg h, ih]
theorem rf_fst (ps : List Prc) : nms (ps.map rf) = nms ps := by unfold nms; rw [List.map_map]; rfl
theorem rf_mem {p : Prc} {s : Stp} : s ∈ (rf p).2 ↔ s ∈ p.2 := by
  unfold rf
  simp only [List.mem_append, List.mem_filter]
  constructor
  · rintro (⟨h, _⟩ | ⟨h, _⟩) <;> exact h
  · intro h
    by_cases e : isRd s = true
    · exact .inl ⟨h, e⟩
    · exact .inr ⟨h, by simpa using e⟩
theorem filter_split {α : Type} (b : α → Bool) : ∀ xs : List α, (xs.filter b).length + (xs.filter fun s => !b s).length = xs.length
  | [] => rfl
  | x :: r => by
    have ih := filter_split b r
    rw [List.filter_cons, List.filter_cons]
    cases h : b x <;> simp [h] <;> omega
theorem rf_len (p : Prc) : (rf p).2.length = p.2.length := by
  unfold rf
  rw [List.length_append]
  exact filter_split isRd p.2
theorem mem_reads {ps : List Prc} {x : Str} : x ∈ reads ps ↔ ∃ p ∈ ps, ∃ s ∈ p.2, rdOf s = some x := by
  unfold reads
  simp only [List.mem_flatMap, List.mem_filterMap]
theorem nodup_le {xs ys : List Str} (nd : xs.Nodup) (h : ∀ z ∈ xs, z ∈ ys) : xs.length ≤ ys.length := by
  refine Nat.le_of_not_lt fun z => ?_
  obtain ⟨k, hk, hn⟩ := pigeon xs ys nd z
  exact hn (h k hk)
theorem addAll_sub {xs ys : List Str} (h : ∀ z ∈ xs, z ∈ ys) : (addAll xs).length ≤ (addAll ys).length :=
  nodup_le (addAll_nodup xs) fun z hz => mem_addAll.mpr (h z (mem_addAll.mp hz))
theorem Good.rf {ps : List Prc} (h : Good ps) : Good (ps.map rf) := by
  refine ⟨by rw [List.length_map]; exact h.pos, by rw [List.length_map]; exact h.few, by rw [rf_fst]; exact h.nd, fun p hp => ?_, fun p hp => ?_, fun p hp s hs => ?_, ?_⟩
  · obtain ⟨q, hq, rfl⟩ := List.mem_map.mp hp
    exact h.name q hq
  · obtain ⟨q, hq, rfl⟩ := List.mem_map.mp hp
    rw [rf_len]; exact h.short q hq
  · obtain ⟨q, hq, rfl⟩ := List.mem_map.mp hp
    rw [rf_fst]
    exact h.step q hq s (rf_mem.mp hs)
  · refine Nat.lt_of_le_of_lt (addAll_sub fun z hz => ?_) h.plc
    obtain ⟨p, hp, s, hs, e⟩ := mem_reads.mp hz
    obtain ⟨q, hq, rfl⟩ := List.mem_map.mp hp
    exact mem_reads.mpr ⟨q, hq, s, rf_mem.mp hs, e⟩
end Mf

namespace Mf
open PySem L2 PyProof.Rows
/-! ### how a value stands for a thing -/
def BIG : Nat := 1048576
theorem big_size {n : Nat} (h : n ≤ BIG) : n ≤ sizeLine := by rw [PySem.sizeLine_eq]; unfold BIG at h; omega
theorem big_lt {n : Nat} (h : n ≤ BIG) : n < sizeLine := by rw [PySem.sizeLine_eq]; unfold BIG at h; omega
theorem big_add {n m : Nat} (h : n ≤ BIG) (h' : m ≤ BIG) : n + m ≤ sizeLine := by rw [PySem.sizeLine_eq]; unfold BIG at h h'; omega
structure Rl (α : Type) where
  rel : Hp → α → V → Prop
  mono : ∀ {H H' : Hp} {x : α} {v : V}, Same H H' → rel H x v → rel H' x v
def dInt : Rl Int := ⟨fun _ x v => v = .int x, fun _ h => h⟩
def dStr : Rl Str := ⟨fun _ x v => v = .str x, fun _ h => h⟩
def dBool : Rl Bool := ⟨fun _ x v => v = .bl x, fun _ h => h⟩
def dNone : Rl Unit := ⟨fun _ _ v => v = .non, fun _ h => h⟩
theorem fa_mono {α : Type} {R : Rl α} {H H' : Hp} {xs : List α} {vs : List V} (e : Same H H') (h : Fa (R.rel H) xs vs) : Fa (R.rel H') xs vs := h.imp fun _ _ _ => R.mono e
def dList {α : Type} (R : Rl α) : Rl (List α) := ⟨fun H xs v => ∃ p vs, v = .ref p ∧ H p = some (.lst vs) ∧ Fa (R.rel H) xs vs ∧ xs.length ≤ BIG, fun e ⟨p, vs, a, b, c, d⟩ => ⟨p, vs, a, e _ _ b, fa_mono e c, d⟩⟩
def dTup {α : Type} (K : PySem.W.Frag) (R : Rl α) : Rl (List α) := ⟨fun H xs v => ∃ p vs, v = .ref p ∧ SqT K H p vs ∧ Fa (R.rel H) xs vs ∧ xs.length ≤ BIG, fun e ⟨p, vs, a, b, c, d⟩ => ⟨p, vs, a, Same.sqt e b, fa_mono e c, d⟩⟩
def dSeq {α : Type} (K : PySem.W.Frag) (R : Rl α) : Rl (List α) := ⟨fun H xs v => ∃ p vs, v = .ref p ∧ Sq2 K H p vs ∧ Fa (R.rel H) xs vs ∧ xs.length ≤ BIG, fun e ⟨p, vs, a, b, c, d⟩ => ⟨p, vs, a, Sq2.same e b, fa_mono e c, d⟩⟩
def dOne {α : Type} (K : PySem.W.Frag) (R : Rl α) : Rl α := ⟨fun H x v => ∃ p a, v = .ref p ∧ SqT K H p [a] ∧ R.rel H x a, fun e ⟨p, a, h, s, r⟩ => ⟨p, a, h, Same.sqt e s, R.mono e r⟩⟩
def dPair {α β : Type} (K : PySem.W.Frag) (R : Rl α) (S : Rl β) : Rl (α × β) := ⟨fun H x v => ∃ p a b, v = .ref p ∧ SqT K H p [a, b] ∧ R.rel H x.1 a ∧ S.rel H x.2 b, fun e ⟨p, a, b, h, s, r, t⟩ => ⟨p, a, b, h, Same.sqt e s, R.mono e r, S.mono e t⟩⟩
def dTrip {α β γ : Type} (K : PySem.W.Frag) (R : Rl α) (S : Rl β) (T : Rl γ) : Rl (α × β × γ) := ⟨fun H x v => ∃ p a b c, v = .ref p ∧ SqT K H p [a, b, c] ∧ R.rel H x.1 a ∧ S.rel H x.2.1 b ∧ T.rel H x.2.2 c, fun e ⟨p, a, b, c, h, s, r, t, u⟩ => ⟨p, a, b, c, h, Same.sqt e s, R.mono e r, S.mono e t, T.mono e u⟩⟩
def dQuad {α β γ δ : Type} (K : PySem.W.Frag) (R : Rl α) (S : Rl β) (T : Rl γ) (U : Rl δ) : Rl (α × β × γ × δ) := ⟨fun H x v => ∃ p a b c d, v = .ref p ∧ SqT K H p [a, b, c, d] ∧ R.rel H x.1 a ∧ S.rel H x.2.1 b ∧ T.rel H x.2.2.1 c ∧ U.rel H x.2.2.2 d, fun e ⟨p, a, b, c, d, h, s, r, t, u, w⟩ => ⟨p, a, b, c, d, h, Same.sqt e s, R.mono e r, S.mono e t, T.mono e u, U.mono e w⟩⟩
def FaD {α : Type} (R : Rl α) (H : Hp) (xs : List (Str × α)) (kvs : List (Key × V)) : Prop := Fa (fun x (kv : Key × V) => kv.1 = .inr x.1 ∧ R.rel H x.2 kv.2) xs kvs
theorem faD_mono {α : Type} {R : Rl α} {H H' : Hp} {xs : List (Str × α)} {kvs : List (Key × V)} (e : Same H H') (h : FaD R H xs kvs) : FaD R H' xs kvs := h.imp fun _ _ _ z => ⟨z.1, R.mono e z.2⟩
def dDict {α : Type} (R : Rl α) : Rl (List (Str × α)) := ⟨fun H xs v => ∃ p kvs, v = .ref p ∧ H p = some (.dK kvs) ∧ FaD R H xs kvs ∧ xs.length ≤ BIG, fun e ⟨p, kvs, a, b, c, d⟩ => ⟨p, kvs, a, e _ _ b, faD_mono e c, d⟩⟩
mutual
theorem dp_same {K : PySem.W.Frag} {H H' : Hp} (e : Same H H') : ∀ {v : V} {d : PyData}, Dp K H v d → Dp K H' v d
  | _, _, .non => .non
  | _, _, .bl b => .bl b
  | _, _, .int i => .int i
  | _, _, .str x => .str x
  | _, _, .lst h a => .lst (e.seq h) (dpAll_same e a)
  | _, _, .tup h a => .tup (Same.sqt e h) (dpAll_same e a)
theorem dpAll_same {K : PySem.W.Frag} {H H' : Hp} (e : Same H H') : ∀ {vs : List V} {ds : List PyData}, DpAll K H vs ds → DpAll K H' vs ds
  | _, _, .nil => .nil
  | _, _, .cons h r => .cons (dp_same e h) (dpAll_same e r)
end
def dAny (K : PySem.W.Frag) : Rl PyData := ⟨fun H d v => Dp K H v d, fun e h => dp_same e h⟩
/-- None, or a thing that is not None -/
def dOpt {α : Type} (R : Rl α) : Rl (Option α) := ⟨fun H o v => match o with | none => v = .non | some x => R.rel H x v ∧ v ≠ .non, fun {H H' x v} e h => by cases x with | none => exact h | some x => exact ⟨R.mono e h.1, h.2⟩⟩
/-! ### what stands in an object of one's own that may change -/
structure Cl (α : Type) where
  rel : Hp → α → HO → Prop
  mono : ∀ {H H' : Hp} {x : α} {o : HO}, Same H H' → rel H x o → rel H' x o
def cList {α : Type} (R : Rl α) : Cl (List α) := ⟨fun B xs o => ∃ vs, o = .lst vs ∧ Fa (R.rel B) xs vs ∧ xs.length ≤ BIG, fun e ⟨vs, a, c, d⟩ => ⟨vs, a, fa_mono e c, d⟩⟩
def cDict {α : Type} (R : Rl α) : Cl (List (Str × α)) := ⟨fun B xs o => ∃ kvs, o = .dK kvs ∧ FaD R B xs kvs ∧ xs.length ≤ BIG, fun e ⟨vs, a, c, d⟩ => ⟨vs, a, faD_mono e c, d⟩⟩
/-! ### where one stands: B what stays for ever, cs what is one's own to change -/
structure Fr where
  B : Hp
  H : Hp
  ps : List Addr
structure Sit (Φ : Fr) (B H : Hp) (cs : List (Addr × HO)) : Prop where
  sub : Same B H
  grow : Same Φ.B B
  new : ∀ a, Φ.H a ≠ none → B a = Φ.B a
  keep : ∀ a o, a ∉ Φ.ps → Φ.H a = some o → H a = some o
  cell : ∀ c ∈ cs, H c.1 = some c.2 ∧ B c.1 = none ∧ (c.1 ∈ Φ.ps ∨ Φ.H c.1 = none)
  nd : (cs.map Prod.fst).Nodup
  par : ∀ a ∈ Φ.ps, H a ≠ none
namespace Sit
variable {Φ : Fr} {B H B' H' : Hp} {cs cq : List (Addr × HO)} {p : Addr} {o o' : HO}
theorem stay (S : Sit Φ B H cs) {a : Addr} (h : Φ.H a ≠ none) : H a ≠ none := by
  by_cases e : a ∈ Φ.ps
  · exact S.par a e
  · cases q : Φ.H a with
    | none => exact absurd q h
    | some u => rw [S.keep a u e q]; intro z; cases z
theorem fresh (S : Sit Φ B H cs) (h : H p = none) : Φ.H p = none := by
  cases q : Φ.H p with
  | none => rfl
  | some u => exact absurd h (S.stay (by rw [q]; intro z; cases z))
theorem bn (S : Sit Φ B H cs) (h : H p = none) : B p = none := by
  cases q : B p with
  | none => rfl
  | some u => rw [S.sub _ _ q] at h; cases h
theorem start (h : Same B H) (hc : ∀ c ∈ cs, H c.1 = some c.2 ∧ B c.1 = none) (nd : (cs.map Prod.fst).Nodup) : Sit ⟨B, H, cs.map Prod.fst⟩ B H cs where
  sub := h
  grow := Same.rf _
  new := fun _ _ => rfl
  keep := fun _ _ _ e => e
  cell := fun c m => ⟨(hc c m).1, (hc c m).2, .inl (List.mem_map.mpr ⟨c, m, rfl⟩)⟩
  nd := nd
  par := fun a m => by
    obtain ⟨c, hm, rfl⟩ := List.mem_map.mp m
    rw [(hc c hm).1]; intro z; cases z
theorem start0 (h : Same B H) : Sit ⟨B, H, []⟩ B H [] := start (cs := []) h (fun _ m => by cases m) List.nodup_nil
theorem start1 (h : Same B H) (hp : H p = some o) (hb : B p = none) : Sit ⟨B, H, [p]⟩ B H [(p, o)] := start (cs := [(p, o)]) h (fun c m => by cases List.mem_singleton.mp m; exact ⟨hp, hb⟩) (by simp)
theorem start2 {q : Addr} {u : HO} (h : Same B H) (hp : H p = some o) (hb : B p = none) (hq : H q = some u) (hbq : B q = none) (n : p ≠ q) : Sit ⟨B, H, [p, q]⟩ B H [(p, o), (q, u)] :=
  start (cs := [(p, o), (q, u)]) h (fun c m => by
    simp only [List.mem_cons, List.not_mem_nil, or_false] at m
    rcases m with rfl | rfl
    · exact ⟨hp, hb⟩
    · exact ⟨hq, hbq⟩) (by simp [n])
theorem updB (S : Sit Φ B H cs) (h : H p = none) : Same B (upd B p o) := Same.new (S.bn h)
theorem neC (S : Sit Φ B H cs) (h : H p = none) {c : Addr × HO} (m : c ∈ cs) : c.1 ≠ p := fun e => by
  have := (S.cell c m).1
  rw [e, h] at this; cases this
/-- a new object that stays as it is -/
theorem put (S : Sit Φ B H cs) (h : H p = none) : Sit Φ (upd B p o) (upd H p o) cs where
  sub := fun a u e => by
    by_cases q : a = p
    · subst q; rw [upd_same] at e ⊢; exact e
    · rw [upd_ne q] at e ⊢; exact S.sub a u e
  grow := S.grow.tr (Same.new (S.bn h))
  new := fun a ha => by
    have : a ≠ p := fun e => S.stay ha (e ▸ h)
    rw [upd_ne this]; exact S.new a ha
  keep := fun a u n e => by
    have q := S.keep a u n e
    rw [upd_ne (ne_of_none q h)]; exact q
  cell := fun c m => by
    have q := S.neC h m
    rw [upd_ne q, upd_ne q]; exact S.cell c m
  nd := S.nd
  par := fun a m => by
    by_cases q : a = p
    · subst q; rw [upd_same]; intro z; cases z
    · rw [upd_ne q]; exact S.par a m
/-- a new object that may change -/
theorem own (S : Sit Φ B H cs) (h : H p = none) : Sit Φ B (upd H p o) ((p, o) :: cs) where
  sub := fun a u e => by rw [upd_ne (ne_of_none (S.sub a u e) h)]; exact S.sub a u e
  grow := S.grow
  new := S.new
  keep := fun a u n e => by
    have q := S.keep a u n e
    rw [upd_ne (ne_of_none q h)]; exact q
  cell := fun c m => by
    rcases List.mem_cons.mp m with rfl | m
    · exact ⟨upd_same, S.bn h, .inr (S.fresh h)⟩
    · rw [upd_ne (S.neC h m)]; exact S.cell c m
  nd := by
    rw [List.map_cons, List.nodup_cons]
    refine ⟨fun m => ?_, S.nd⟩
    obtain ⟨c, hm, e⟩ := List.mem_map.mp m
    exact S.neC h hm e
  par := fun a m => by
    by_cases q : a = p
    · subst q; rw [upd_same]; intro z; cases z
    · rw [upd_ne q]; exact S.par a m
theorem at' {i : Nat} (S : Sit Φ B H cs) (h : cs[i]? = some (p, o)) : H p = some o := (S.cell (p, o) (List.mem_of_getElem? h)).1
theorem atB {i : Nat} (S : Sit Φ B H cs) (h : cs[i]? = some (p, o)) : B p = none := (S.cell (p, o) (List.mem_of_getElem? h)).2.1
theorem map_set {i : Nat} (h : cs[i]? = some (p, o)) : (cs.set i (p, o')).map Prod.fst = cs.map Prod.fst := by
  rw [List.map_set]
  refine List.ext_getElem? fun j => ?_
  rw [List.getElem?_set]
  by_cases e : i = j
  · subst e
    rw [if_pos rfl, List.getElem?_map, h]
    have := (List.getElem?_eq_some_iff.mp h).1
    rw [if_pos (by simpa using this)]
    rfl
  · rw [if_neg e]
theorem nodup_inj {α : Type} : ∀ {l : List α} {i j : Nat} {x : α}, l.Nodup → l[i]? = some x → l[j]? = some x → i = j
  | [], _, _, _, _, h, _ => by cases h
  | y :: l, i, j, x, nd, h, h' => by
    rw [List.nodup_cons] at nd
    cases i with
    | zero =>
      cases j with
      | zero => rfl
      | succ j => cases h; exact absurd (List.mem_of_getElem? (show l[j]? = some y from h')) nd.1
    | succ i =>
      cases j with
      | zero => cases h'; exact absurd (List.mem_of_getElem? (show l[i]? = some y from h)) nd.1
      | succ j => rw [nodup_inj nd.2 (show l[i]? = some x from h) (show l[j]? = some x from h')]
theorem inj {i j : Nat} {q : Addr} {u : HO} (nd : (cs.map Prod.fst).Nodup) (h : cs[i]? = some (p, o)) (h' : cs[j]? = some (q, u)) (e : p = q) : i = j := by
  have a : (cs.map Prod.fst)[i]? = some p := by rw [List.getElem?_map, h]; rfl
  have b : (cs.map Prod.fst)[j]? = some p := by rw [List.getElem?_map, h', e]; rfl
  exact nodup_inj nd a b
/-- an own object changes -/
theorem set {i : Nat} (S : Sit Φ B H cs) (h : cs[i]? = some (p, o)) : Sit Φ B (upd H p o') (cs.set i (p, o')) where
  sub := fun a u e => by
    have n : a ≠ p := fun z => by rw [z, S.atB h] at e; cases e
    rw [upd_ne n]; exact S.sub a u e
  grow := S.grow
  new := S.new
  keep := fun a u n e => by
    have q : a ≠ p := fun z => by
      rcases (S.cell (p, o) (List.mem_of_getElem? h)).2.2 with y | y
      · exact n (z ▸ y)
      · rw [z] at e; rw [show Φ.H p = none from y] at e; cases e
    rw [upd_ne q]; exact S.keep a u n e
  cell := fun c m => by
    obtain ⟨j, hj⟩ := List.getElem?_of_mem m
    rw [List.getElem?_set] at hj
    by_cases e : i = j
    · rw [if_pos e] at hj
      have hl := (List.getElem?_eq_some_iff.mp h).1
      rw [if_pos hl] at hj
      cases hj
      exact ⟨upd_same, S.atB h, (S.cell (p, o) (List.mem_of_getElem? h)).2.2⟩
    · rw [if_neg e] at hj
      have n : c.1 ≠ p := fun z => e (inj S.nd h (show cs[j]? = some (c.1, c.2) from hj) z.symm)
      rw [upd_ne n]; exact S.cell c (List.mem_of_getElem? hj)
  nd := by rw [map_set h]; exact S.nd
  par := fun a m => by
    by_cases q : a = p
    · subst q; rw [upd_same]; intro z; cases z
    · rw [upd_ne q]; exact S.par a m
/-- an own object stays from now on -/
theorem frz {i : Nat} (S : Sit Φ B H cs) (h : cs[i]? = some (p, o)) (n : Φ.H p = none) : Sit Φ (upd B p o) H (cs.eraseIdx i) where
  sub := fun a u e => by
    by_cases q : a = p
    · subst q; rw [upd_same] at e; rw [S.at' h]; exact e
    · rw [upd_ne q] at e; exact S.sub a u e
  grow := S.grow.tr (Same.new (S.atB h))
  new := fun a ha => by
    have : a ≠ p := fun e => ha (e ▸ n)
    rw [upd_ne this]; exact S.new a ha
  keep := S.keep
  cell := fun c m => by
    obtain ⟨j, hj, hc⟩ := List.mem_eraseIdx_iff_getElem?.mp m
    have ne : c.1 ≠ p := fun z => hj (inj S.nd (show cs[j]? = some (c.1, c.2) from hc) h z)
    rw [upd_ne ne]; exact S.cell c (List.mem_of_getElem? hc)
  nd := by
    refine S.nd.sublist ?_
    exact (List.eraseIdx_sublist cs i).map _
  par := S.par
theorem frzS {i : Nat} (S : Sit Φ B H cs) (h : cs[i]? = some (p, o)) : Same B (upd B p o) := Same.new (S.atB h)
theorem only (S : Sit Φ B H cs) (hs : cq.Sublist cs) : Sit Φ B H cq := ⟨S.sub, S.grow, S.new, S.keep, fun c m => S.cell c (hs.subset m), S.nd.sublist (hs.map _), S.par⟩
theorem tl {c : Addr × HO} (S : Sit Φ B H (c :: cs)) : Sit Φ B H cs := S.only (List.sublist_cons_self _ _)
theorem none (S : Sit Φ B H cs) : Sit Φ B H [] := S.only (List.nil_sublist _)
/-- a call that owns the cells qs -/
theorem call {cs' : List (Addr × HO)} {qs : List Addr} (S : Sit Φ B H cs) (S' : Sit ⟨B, H, qs⟩ B' H' cq) (hq : ∀ q ∈ qs, ∃ u, (q, u) ∈ cs) (hc : ∀ c ∈ cs', c ∈ cq ∨ (c ∈ cs ∧ c.1 ∉ qs)) (nd : (cs'.map Prod.fst).Nodup) : Sit Φ B' H' cs' where
  sub := S'.sub
  grow := S.grow.tr S'.grow
  new := fun a ha => by
    have : B' a = B a := S'.new a (S.stay ha)
    rw [this]; exact S.new a ha
  keep := fun a u n e => by
    refine S'.keep a u (fun m => ?_) (S.keep a u n e)
    obtain ⟨v, hv⟩ := hq a m
    rcases (S.cell _ hv).2.2 with y | y
    · exact n y
    · rw [show Φ.H a = Option.none from y] at e; cases e
  cell := fun c m => by
    rcases hc c m with m | ⟨m, n⟩
    · obtain ⟨h1, h2, h3⟩ := S'.cell c m
      refine ⟨h1, h2, ?_⟩
      rcases h3 with h3 | h3
      · obtain ⟨v, hv⟩ := hq c.1 h3
        exact (S.cell _ hv).2.2
      · exact .inr (S.fresh h3)
    · obtain ⟨h1, h2, h3⟩ := S.cell c m
      refine ⟨S'.keep _ _ n h1, ?_, h3⟩
      have : B' c.1 = B c.1 := S'.new c.1 (by show H c.1 ≠ Option.none; rw [h1]; intro z; cases z)
      rw [this]; exact h2
  nd := nd
  par := fun a m => S'.stay (show H a ≠ Option.none from S.par a m)
theorem call0 (S : Sit Φ B H cs) (S' : Sit ⟨B, H, []⟩ B' H' cq) : Sit Φ B' H' cs := S.call S' (fun _ m => by cases m) (fun c m => .inr ⟨m, fun z => by cases z⟩) S.nd
theorem call1 {i : Nat} (S : Sit Φ B H cs) (h : cs[i]? = some (p, o)) (S' : Sit ⟨B, H, [p]⟩ B' H' [(p, o')]) : Sit Φ B' H' (cs.set i (p, o')) :=
  S.call S' (fun q m => ⟨o, by rw [List.mem_singleton.mp m]; exact List.mem_of_getElem? h⟩) (fun c m => by
    obtain ⟨j, hj⟩ := List.getElem?_of_mem m
    rw [List.getElem?_set] at hj
    by_cases e : i = j
    · rw [if_pos e] at hj
      have hl := (List.getElem?_eq_some_iff.mp h).1
      rw [if_pos hl] at hj
      cases hj
      exact .inl List.mem_cons_self
    · rw [if_neg e] at hj
      refine .inr ⟨List.mem_of_getElem? hj, fun z => e (inj S.nd h (show cs[j]? = some (c.1, c.2) from hj) (List.mem_singleton.mp z).symm)⟩) (by rw [map_set h]; exact S.nd)
/-- a call that reads own objects as they are (base b), whose answer does not hang on the heap -/
theorem callR {b : Hp} (S : Sit Φ B H cs) (S' : Sit ⟨b, H, []⟩ B' H' cq) : Sit Φ B H' cs where
  sub := fun a u e => S'.keep a u (fun z => by cases z) (S.sub a u e)
  grow := S.grow
  new := S.new
  keep := fun a u n e => S'.keep a u (fun z => by cases z) (S.keep a u n e)
  cell := fun c m => ⟨S'.keep _ _ (fun z => by cases z) (S.cell c m).1, (S.cell c m).2⟩
  nd := S.nd
  par := fun a m => S'.stay (show H a ≠ Option.none from S.par a m)
/-- the base with an own object -/
theorem withC {i : Nat} (S : Sit Φ B H cs) (h : cs[i]? = some (p, o)) : Same (upd B p o) H := fun a u e => by
  by_cases q : a = p
  · subst q; rw [upd_same] at e; rw [S.at' h]; exact e
  · rw [upd_ne q] at e; exact S.sub a u e
end Sit
theorem start_call {Φ : Fr} {B H : Hp} {cs : List (Addr × HO)} (S : Sit Φ B H cs) : Sit Φ B H cs := S
section
variable {α : Type} {K : PySem.W.Frag} {R : Rl α} {B H : Hp} {xs : List α} {o : HO} {p : Addr} {kvs : List (Str × α)} {vs : List V}
theorem frzL (h : (cList R).rel B xs o) (n : B p = none) : (dList R).rel (upd B p o) xs (.ref p) := by
  obtain ⟨vs, rfl, f, l⟩ := h
  exact ⟨p, vs, rfl, upd_same, fa_mono (Same.new n) f, l⟩
theorem frzD {xs : List (Str × α)} (h : (cDict R).rel B xs o) (n : B p = none) : (dDict R).rel (upd B p o) xs (.ref p) := by
  obtain ⟨vs, rfl, f, l⟩ := h
  exact ⟨p, vs, rfl, upd_same, faD_mono (Same.new n) f, l⟩
theorem dList.seq {v : V} (h : (dList R).rel B xs v) : (dSeq K R).rel B xs v := let ⟨p, vs, a, b, c, d⟩ := h; ⟨p, vs, a, .inl (SqL.of b), c, d⟩
theorem dTup.seq {v : V} (h : (dTup K R).rel B xs v) : (dSeq K R).rel B xs v := let ⟨p, vs, a, b, c, d⟩ := h; ⟨p, vs, a, .inr b, c, d⟩
theorem fa_str {xs : List Str} {vs : List V} (h : Fa (dStr.rel H) xs vs) : vs = xs.map V.str := Fa.eq h
theorem fa_int {xs : List Int} {vs : List V} (h : Fa (dInt.rel H) xs vs) : vs = xs.map V.int := Fa.eq h
theorem fa_bool {xs : List Bool} {vs : List V} (h : Fa (dBool.rel H) xs vs) : vs = xs.map V.bl := Fa.eq h
theorem strs_fa {xs : List Str} : Fa (dStr.rel H) xs (xs.map V.str) := Fa.same V.str xs
theorem ints_fa {xs : List Int} : Fa (dInt.rel H) xs (xs.map V.int) := Fa.same V.int xs
theorem fa_at {i : Int} {x : α} (h : Fa (R.rel H) xs vs) (e : atI xs i = some x) : ∃ v, atI vs i = some v ∧ R.rel H x v := by
  unfold atI at e ⊢
  rw [← h.len]
  cases q : ixN xs.length i with
  | none => rw [q] at e; cases e
  | some j => rw [q] at e; exact h.getL e
end
/-! ### mirrors -/
theorem bs {α β : Type} {o : Option α} {f : α → Option β} {r : β} (h : o.bind f = some r) : ∃ a, o = some a ∧ f a = some r := by
  cases o with
  | none => cases h
  | some a => exact ⟨a, rfl, h⟩
inductive Ctl (S R : Type)
  | nx (s : S)
  | brk (s : S)
  | ret (r : R)
def Ctl.on {S R T : Type} (c : Ctl S R) (f : S → Option T) (g : R → Option T) : Option T := match c with
  | .nx s => f s
  | .ret r => g r
  | .brk _ => none
def forL {α S : Type} (f : α → S → Option S) : List α → S → Option S
  | [], s => some s
  | a :: as, s => (f a s).bind fun s' => forL f as s'
def forC {α S R : Type} (f : α → S → Option (Ctl S R)) : List α → S → Option (Ctl S R)
  | [], s => some (.nx s)
  | a :: as, s => (f a s).bind fun o => match o with
    | .nx s' => forC f as s'
    | .brk s' => some (.nx s')
    | .ret r => some (.ret r)
def whC {S R : Type} (f : S → Option (Ctl S R)) : Nat → S → Option (Ctl S R)
  | 0, _ => none
  | n + 1, s => (f s).bind fun o => match o with
    | .nx s' => whC f n s'
    | .brk s' => some (.nx s')
    | .ret r => some (.ret r)
def lcM {α β : Type} (f : α → Option (Option β)) : List α → Option (List β)
  | [] => some []
  | a :: as => (f a).bind fun o => (lcM f as).bind fun bs => some (match o with | some b => b :: bs | none => bs)
def lcS {α β S : Type} (f : α → S → Option (Option β × S)) : List α → S → Option (List β × S)
  | [], s => some ([], s)
  | a :: as, s => (f a s).bind fun o => (lcS f as o.2).bind fun t => some ((match o.1 with | some b => b :: t.1 | none => t.1), t.2)
def dcM {α β : Type} (f : α → Option (Option (Str × β))) : List α → List (Str × β) → Option (List (Str × β)) := fun as kvs => forL (fun a kvs => (f a).bind fun o => match o with
    | none => some kvs
    | some kv => some (if (kvs.any fun x => decide (x.1 = kv.1)) = true then kvs.map (fun x => if x.1 = kv.1 then (x.1, kv.2) else x) else kvs ++ [kv])) as kvs
def pushM {α : Type} (xs : List α) (x : α) : Option (List α) := if xs.length < BIG then some (xs ++ [x]) else none
def catM {α : Type} (xs ys : List α) : Option (List α) := if xs.length + ys.length ≤ BIG then some (xs ++ ys) else none
def rngM (i : Int) : Option (List Int) := if -(2 ^ 62) ≤ i ∧ i ≤ BIG then some ((List.range i.toNat).map fun k => ((k : Nat) : Int)) else none
def rng2M (i j : Int) : Option (List Int) := if (-(2 ^ 62) ≤ i ∧ i < 2 ^ 62 ∧ -(2 ^ 62) ≤ j ∧ j < 2 ^ 62) ∧ j - i ≤ BIG then some ((List.range (j - i).toNat).map fun k => i + ((k : Nat) : Int)) else none
def lenS (z : Str) : Option Int := if z.length ≤ sizeLine then some z.length else none
def ixS (z : Str) (i : Int) : Option Str := if z.length ≤ sizeLine then (atI z.cps.toList i).map fun c => ⟨#[c]⟩ else none
def addS (a b : Str) : Option Str := if a.length + b.length ≤ sizeLine then some (a ++ b) else none
def modM (i j : Int) : Option Int := if 0 < j then some (i % j) else none
def chars (z : Str) : List Str := z.cps.toList.map fun c => ⟨#[c]⟩
def enumM {α : Type} (k : Int) (xs : List α) : List (Int × α) := (List.range xs.length).zipWith (fun i x => (k + ((i : Nat) : Int), x)) xs
theorem lcM_total {α β : Type} (g : α → Option β) (as : List α) : lcM (fun a => some (g a)) as = some (as.filterMap g) := by
  induction as with
  | nil => rfl
  | cons a as ih =>
    unfold lcM
    rw [ih]
    cases h : g a with
    | none => simp [List.filterMap_cons, h]
    | some b => simp [List.filterMap_cons, h]
theorem lcM_map {α β : Type} (g : α → β) (as : List α) : lcM (fun a => some (some (g a))) as = some (as.map g) := by
  rw [lcM_total]; simp
/-! ### cuts: what follows is shown once -/
theorem cutT {tt : TT} {σ : L2.St} {H : Hp} {Q : Bool → Hp → Prop} (P : Bool → Hp → Prop) (h : (∀ b H', P b H' → Q b H') → tt σ H Q) (g : ∀ b H', P b H' → Q b H') : tt σ H Q := h g
theorem cutE {te : TE} {σ : L2.St} {H : Hp} {Q : VK} (P : V → Hp → Prop) (h : (∀ v H', P v H' → Q v H') → te σ H Q) (g : ∀ v H', P v H' → Q v H') : te σ H Q := h g
theorem w_sig {t : TS} {D : Ends} {σ σ' : L2.St} {H : Hp} (e : σ = σ') (g : t D σ' H) : t D σ H := e ▸ g
theorem w_nx {P : L2.St → Hp → Prop} {σ σ' : L2.St} {H : Hp} (e : σ = σ') (g : P σ' H) : P σ H := e ▸ g
end Mf

namespace Mf
open PySem L2 PyProof.Rows
/-! ### what is evaluated and changes nothing -/
def Ev (te : TE) (σ : L2.St) (H : Hp) (v : V) : Prop := ∀ Q : VK, Q v H → te σ H Q
def EvT (tt : TT) (σ : L2.St) (H : Hp) (b : Bool) : Prop := ∀ Q : Bool → Hp → Prop, Q b H → tt σ H Q
def EvA (ta : TA) (σ : L2.St) (H : Hp) (vs : List V) : Prop := ∀ Q : List V → Hp → Prop, Q vs H → ta σ H Q
def RV (r : R2) (x y : V) (H : Hp) (z : V) : Prop := ∀ Q : VK, Q z H → r x y H Q
section
variable {K : PySem.W.Frag} {σ : L2.St} {H : Hp} {ta tb tc te : TE} {tt tu : TT} {tA : TA} {v x y z w : V} {vs : List V} {a b : Bool} {r r' : R2} {i j : Int} {s t : Str}
theorem Ev.var {k : Nat} (h : σ[k]? = some (some v)) : Ev (tVar k) σ H v := fun _ q => ⟨v, h, q⟩
theorem Ev.c : Ev (tC v) σ H v := fun _ q => q
theorem Ev.op (ha : Ev ta σ H x) (hb : Ev tb σ H y) (hr : RV r x y H z) : Ev (tOp r ta tb) σ H z := fun Q q => ha _ (hb _ (hr Q q))
theorem Ev.un {r : V → Hp → VK → Prop} (ha : Ev ta σ H x) (hr : ∀ Q : VK, Q z H → r x H Q) : Ev (tUn r ta) σ H z := fun Q q => ha _ (hr Q q)
theorem EvA.nil : EvA tNil σ H [] := fun _ q => q
theorem EvA.cons (ha : Ev ta σ H x) (hr : EvA tA σ H vs) : EvA (tCons ta tA) σ H (x :: vs) := fun Q q => ha _ (hr _ q)
theorem Ev.cb {r : List V → Hp → VK → Prop} (ha : EvA tA σ H vs) (hr : ∀ Q : VK, Q z H → r vs H Q) : Ev (tCB r tA) σ H z := fun Q q => ha _ (hr Q q)
theorem EvT.test (h : Ev te σ H (.bl b)) : EvT (tTest te) σ H b := fun Q q => h _ ⟨b, rfl, q⟩
theorem EvT.tB (h : Ev te σ H (.bl b)) : EvT (tB te) σ H b := fun Q q => h _ ⟨b, rfl, q⟩
theorem EvT.and (ha : EvT tt σ H a) (hb : a = true → EvT tu σ H b) : EvT (tAnd tt tu) σ H (a && b) := fun Q q => ha _ (by
  cases a with
  | true => exact iteT (hb rfl _ q)
  | false => exact iteF q)
theorem EvT.or (ha : EvT tt σ H a) (hb : a = false → EvT tu σ H b) : EvT (tOr tt tu) σ H (a || b) := fun Q q => ha _ (by
  cases a with
  | true => exact iteT q
  | false => exact iteF (hb rfl _ q))
theorem EvT.not (ha : EvT tt σ H a) : EvT (tNot tt) σ H (!a) := fun Q q => ha _ q
theorem EvT.yes : EvT tYes σ H true := fun _ q => q
theorem Ev.and (ha : Ev ta σ H (.bl a)) (hb : a = true → Ev tb σ H (.bl b)) : Ev (tAndV ta tb) σ H (.bl (a && b)) := fun Q q => ha _ ⟨a, rfl, by
  cases a with
  | true => exact iteT (hb rfl _ q)
  | false => exact iteF q⟩
theorem Ev.or (ha : Ev ta σ H (.bl a)) (hb : a = false → Ev tb σ H (.bl b)) : Ev (tOrV ta tb) σ H (.bl (a || b)) := fun Q q => ha _ ⟨a, rfl, by
  cases a with
  | true => exact iteT q
  | false => exact iteF (hb rfl _ q)⟩
theorem Ev.not (ha : Ev ta σ H (.bl a)) : Ev (tNotV ta) σ H (.bl (!a)) := fun Q q => ha _ ⟨a, rfl, q⟩
theorem Ev.ite (ha : EvT tt σ H a) (h1 : a = true → Ev ta σ H z) (h2 : a = false → Ev tb σ H z) : Ev (tIf tt ta tb) σ H z := fun Q q => ha _ (by
  cases a with
  | true => exact iteT (h1 rfl _ q)
  | false => exact iteF (h2 rfl _ q))
theorem Ev.iteI (ha : EvT tt σ H a) (h1 : a = true → Ev ta σ H (.int i)) (h2 : a = false → Ev tb σ H (.int j)) : Ev (tIf tt ta tb) σ H (.int (if a = true then i else j)) := Ev.ite ha (fun e => by rw [if_pos e]; exact h1 e) (fun e => by rw [if_neg (by rw [e]; decide)]; exact h2 e)
theorem Ev.iteS (ha : EvT tt σ H a) (h1 : a = true → Ev ta σ H (.str s)) (h2 : a = false → Ev tb σ H (.str t)) : Ev (tIf tt ta tb) σ H (.str (if a = true then s else t)) := Ev.ite ha (fun e => by rw [if_pos e]; exact h1 e) (fun e => by rw [if_neg (by rw [e]; decide)]; exact h2 e)
theorem Ev.iteB {c d : Bool} (ha : EvT tt σ H a) (h1 : a = true → Ev ta σ H (.bl c)) (h2 : a = false → Ev tb σ H (.bl d)) : Ev (tIf tt ta tb) σ H (.bl (if a = true then c else d)) := Ev.ite ha (fun e => by rw [if_pos e]; exact h1 e) (fun e => by rw [if_neg (by rw [e]; decide)]; exact h2 e)
theorem Ev.chain (ha : Ev ta σ H x) (hb : Ev tb σ H y) (hc : Ev tc σ H w) (h1 : RV r x y H (.bl a)) (h2 : RV r' y w H (.bl b)) : Ev (tChain r r' ta tb tc) σ H (.bl (a && b)) := fun Q q => ha _ (hb _ (h1 _ ⟨a, rfl, by
  cases a with
  | true => exact iteT (hc _ (h2 _ q))
  | false => exact iteF q⟩))
theorem rv_I0 {f : Int → Int → V} : RV (rI0 f) (.int i) (.int j) H (f i j) := fun _ q => ⟨i, j, rfl, rfl, q⟩
theorem rv_I {C : Int → Int → Prop} {f : Int → Int → V} (h : C i j) : RV (rI C f) (.int i) (.int j) H (f i j) := fun _ q => ⟨i, j, rfl, rfl, h, q⟩
theorem rv_eqI : RV rEq (.int i) (.int j) H (.bl (decide (i = j))) := fun _ q => ⟨rfl, by rw [show decide (V.int i = V.int j) = decide (i = j) from decide_eq_decide.mpr ⟨fun e => by injection e, fun e => by rw [e]⟩]; exact q⟩
theorem rv_neI : RV rNe (.int i) (.int j) H (.bl (!decide (i = j))) := fun _ q => ⟨rfl, by rw [show decide (V.int i = V.int j) = decide (i = j) from decide_eq_decide.mpr ⟨fun e => by injection e, fun e => by rw [e]⟩]; exact q⟩
theorem rv_eqS : RV rEq (.str s) (.str t) H (.bl (decide (s = t))) := fun _ q => ⟨rfl, by rw [show decide (V.str s = V.str t) = decide (s = t) from decide_eq_decide.mpr ⟨fun e => by injection e, fun e => by rw [e]⟩]; exact q⟩
theorem rv_neS : RV rNe (.str s) (.str t) H (.bl (!decide (s = t))) := fun _ q => ⟨rfl, by rw [show decide (V.str s = V.str t) = decide (s = t) from decide_eq_decide.mpr ⟨fun e => by injection e, fun e => by rw [e]⟩]; exact q⟩
theorem rv_eqB : RV rEq (.bl a) (.bl b) H (.bl (decide (a = b))) := fun _ q => ⟨rfl, by rw [show decide (V.bl a = V.bl b) = decide (a = b) from decide_eq_decide.mpr ⟨fun e => by injection e, fun e => by rw [e]⟩]; exact q⟩
theorem rv_neB : RV rNe (.bl a) (.bl b) H (.bl (!decide (a = b))) := fun _ q => ⟨rfl, by rw [show decide (V.bl a = V.bl b) = decide (a = b) from decide_eq_decide.mpr ⟨fun e => by injection e, fun e => by rw [e]⟩]; exact q⟩
theorem inV_ints {zs : List Int} : inV (.int i) (zs.map V.int) = decide (i ∈ zs) := by
  unfold inV
  rw [List.any_map, Bool.eq_iff_iff, decide_eq_true_iff, List.any_eq_true]
  constructor
  · rintro ⟨u, hu, e⟩
    have : u = i := by simpa [eqV] using e
    exact this ▸ hu
  · exact fun h => ⟨i, h, by simp [eqV]⟩
theorem flat_strs {zs : List Str} : (zs.map V.str).all flatV = true := by simp [List.all_eq_true, flatV]
theorem flat_ints {zs : List Int} : (zs.map V.int).all flatV = true := by simp [List.all_eq_true, flatV]
variable {α β γ δ : Type} {R : Rl α} {S : Rl β} {T : Rl γ} {U : Rl δ} {B : Hp}
/-! `in` of texts -/
theorem inV_strs' {zs : List Str} : inV (.str s) (zs.map V.str) = decide (s ∈ zs) := by
  unfold inV
  rw [List.any_map, Bool.eq_iff_iff, decide_eq_true_iff, List.any_eq_true]
  constructor
  · rintro ⟨u, hu, e⟩
    have : u = s := by simpa [eqV] using e
    exact this ▸ hu
  · exact fun h => ⟨s, h, by simp [eqV]⟩
theorem rv_inQ {zs : List Str} (h : (dSeq K dStr).rel H zs v) : RV (rIn K false) (.str s) v H (.bl (decide (s ∈ zs))) := fun Q q => by
  obtain ⟨p, vs, rfl, h, f, _⟩ := h
  cases fa_str f
  exact ⟨p, _, rfl, h, rfl, flat_strs, by rw [← inV_strs'] at q; exact q⟩
theorem rv_niQ {zs : List Str} (h : (dSeq K dStr).rel H zs v) : RV (rIn K true) (.str s) v H (.bl (!decide (s ∈ zs))) := fun Q q => by
  obtain ⟨p, vs, rfl, h, f, _⟩ := h
  cases fa_str f
  exact ⟨p, _, rfl, h, rfl, flat_strs, by rw [← inV_strs'] at q; exact q⟩
theorem rv_inI {zs : List Int} (h : (dSeq K dInt).rel H zs v) : RV (rIn K false) (.int i) v H (.bl (decide (i ∈ zs))) := fun Q q => by
  obtain ⟨p, vs, rfl, h, f, _⟩ := h
  cases fa_int f
  exact ⟨p, _, rfl, h, rfl, flat_ints, by rw [← inV_ints] at q; exact q⟩
theorem rv_niI {zs : List Int} (h : (dSeq K dInt).rel H zs v) : RV (rIn K true) (.int i) v H (.bl (!decide (i ∈ zs))) := fun Q q => by
  obtain ⟨p, vs, rfl, h, f, _⟩ := h
  cases fa_int f
  exact ⟨p, _, rfl, h, rfl, flat_ints, by rw [← inV_ints] at q; exact q⟩
theorem rv_inC {c : Str} (h : c.length = 1) : RV (rInC false) (.str c) (.str t) H (.bl (decide (c ∈ chars t))) := fun Q q => by
  have e : ∃ n, c = ⟨#[n]⟩ := by
    obtain ⟨⟨l⟩⟩ := c
    match l, h with
    | [n], _ => exact ⟨n, rfl⟩
  obtain ⟨n, rfl⟩ := e
  refine ⟨n, t, rfl, rfl, ?_⟩
  have : decide (n ∈ t.cps.toList) = decide ((⟨#[n]⟩ : Str) ∈ chars t) := by
    refine decide_eq_decide.mpr ⟨fun z => List.mem_map.mpr ⟨n, z, rfl⟩, fun z => ?_⟩
    obtain ⟨m, hm, e⟩ := List.mem_map.mp z
    injection e with e
    have : m = n := by simpa using e
    exact this ▸ hm
  simp only [Bool.false_eq_true, if_false]
  rw [this]; exact q
/-! len -/
theorem len_seq (h : (dSeq K R).rel H xs v) : ∀ Q : VK, Q (.int (xs.length : Int)) H → rLenQ K [v] H Q := fun Q q => by
  obtain ⟨p, vs, rfl, h, f, _⟩ := h
  exact ⟨p, vs, rfl, h, by rw [← f.len]; exact q⟩
theorem len_str (h : lenS s = some i) : ∀ Q : VK, Q (.int i) H → rLenS [.str s] H Q := fun Q q => by
  unfold lenS at h
  by_cases e : s.length ≤ sizeLine
  · rw [if_pos e] at h; cases h; exact ⟨s, rfl, e, q⟩
  · rw [if_neg e] at h; cases h
theorem len_dict {xs : List (Str × α)} (h : (dDict R).rel H xs v) : ∀ Q : VK, Q (.int (xs.length : Int)) H → rLenD [v] H Q := fun Q q => by
  obtain ⟨p, kvs, rfl, h, f, _⟩ := h
  exact ⟨p, kvs, rfl, h, by rw [← f.len]; exact q⟩
/-! x[i] -/
theorem ix_L {xs : List α} {a : α} (h : (dList R).rel B xs v) (e : atI xs i = some a) : ∃ w, R.rel B a w ∧ ∀ H, Same B H → RV (rIxL K) v (.int i) H w := by
  obtain ⟨p, vs, rfl, h, f, _⟩ := h
  obtain ⟨w, hw, r⟩ := fa_at f e
  exact ⟨w, r, fun H s Q q => ⟨p, vs, i, w, rfl, rfl, SqL.of (s _ _ h), hw, q⟩⟩
theorem ix_T {xs : List α} {a : α} (h : (dTup K R).rel B xs v) (e : atI xs i = some a) : ∃ w, R.rel B a w ∧ ∀ H, Same B H → RV (rIxT K) v (.int i) H w := by
  obtain ⟨p, vs, rfl, h, f, _⟩ := h
  obtain ⟨w, hw, r⟩ := fa_at f e
  exact ⟨w, r, fun H s Q q => ⟨p, vs, i, w, rfl, rfl, Same.sqt s h, hw, q⟩⟩
theorem ix_C {xs : List α} {a : α} {o : HO} {p : Addr} (h : (cList R).rel B xs o) (e : atI xs i = some a) : ∃ w, R.rel B a w ∧ ∀ H, H p = some o → RV (rIxL K) (.ref p) (.int i) H w := by
  obtain ⟨vs, rfl, f, _⟩ := h
  obtain ⟨w, hw, r⟩ := fa_at f e
  exact ⟨w, r, fun H s Q q => ⟨p, vs, i, w, rfl, rfl, SqL.of s, hw, q⟩⟩
theorem ix_S {z c : Str} (h : ixS z i = some c) : RV rIxS (.str z) (.int i) H (.str c) := fun Q q => by
  unfold ixS at h
  by_cases e : z.length ≤ sizeLine
  · rw [if_pos e] at h
    cases g : atI z.cps.toList i with
    | none => rw [g] at h; cases h
    | some n => rw [g] at h; cases h; exact ⟨z, i, n, rfl, rfl, e, g, q⟩
  · rw [if_neg e] at h; cases h
theorem ix_p0 {x : α × β} (h : (dPair K R S).rel B x v) : ∃ w, R.rel B x.1 w ∧ ∀ H, Same B H → RV (rIxT K) v (.int 0) H w := by
  obtain ⟨p, a, b, rfl, h, r, s⟩ := h
  exact ⟨a, r, fun H e Q q => ⟨p, _, 0, a, rfl, rfl, Same.sqt e h, rfl, q⟩⟩
theorem ix_p1 {x : α × β} (h : (dPair K R S).rel B x v) : ∃ w, S.rel B x.2 w ∧ ∀ H, Same B H → RV (rIxT K) v (.int 1) H w := by
  obtain ⟨p, a, b, rfl, h, r, s⟩ := h
  exact ⟨b, s, fun H e Q q => ⟨p, _, 1, b, rfl, rfl, Same.sqt e h, rfl, q⟩⟩
theorem ix_t0 {x : α × β × γ} (h : (dTrip K R S T).rel B x v) : ∃ w, R.rel B x.1 w ∧ ∀ H, Same B H → RV (rIxT K) v (.int 0) H w := by
  obtain ⟨p, a, b, c, rfl, h, r, s, t⟩ := h
  exact ⟨a, r, fun H e Q q => ⟨p, _, 0, a, rfl, rfl, Same.sqt e h, rfl, q⟩⟩
theorem ix_t1 {x : α × β × γ} (h : (dTrip K R S T).rel B x v) : ∃ w, S.rel B x.2.1 w ∧ ∀ H, Same B H → RV (rIxT K) v (.int 1) H w := by
  obtain ⟨p, a, b, c, rfl, h, r, s, t⟩ := h
  exact ⟨b, s, fun H e Q q => ⟨p, _, 1, b, rfl, rfl, Same.sqt e h, rfl, q⟩⟩
theorem ix_t2 {x : α × β × γ} (h : (dTrip K R S T).rel B x v) : ∃ w, T.rel B x.2.2 w ∧ ∀ H, Same B H → RV (rIxT K) v (.int 2) H w := by
  obtain ⟨p, a, b, c, rfl, h, r, s, t⟩ := h
  exact ⟨c, t, fun H e Q q => ⟨p, _, 2, c, rfl, rfl, Same.sqt e h, rfl, q⟩⟩
/-! unpacking -/
theorem un_p {x : α × β} (h : (dPair K R S).rel B x v) : ∃ a b, R.rel B x.1 a ∧ S.rel B x.2 b ∧ ∀ H, Same B H → ∃ p, v = .ref p ∧ SqT K H p [a, b] := by
  obtain ⟨p, a, b, rfl, h, r, s⟩ := h
  exact ⟨a, b, r, s, fun H e => ⟨p, rfl, Same.sqt e h⟩⟩
theorem un_t {x : α × β × γ} (h : (dTrip K R S T).rel B x v) : ∃ a b c, R.rel B x.1 a ∧ S.rel B x.2.1 b ∧ T.rel B x.2.2 c ∧ ∀ H, Same B H → ∃ p, v = .ref p ∧ SqT K H p [a, b, c] := by
  obtain ⟨p, a, b, c, rfl, h, r, s, t⟩ := h
  exact ⟨a, b, c, r, s, t, fun H e => ⟨p, rfl, Same.sqt e h⟩⟩
theorem un_q {x : α × β × γ × δ} (h : (dQuad K R S T U).rel B x v) : ∃ a b c d, R.rel B x.1 a ∧ S.rel B x.2.1 b ∧ T.rel B x.2.2.1 c ∧ U.rel B x.2.2.2 d ∧ ∀ H, Same B H → ∃ p, v = .ref p ∧ SqT K H p [a, b, c, d] := by
  obtain ⟨p, a, b, c, d, rfl, h, r, s, t, u⟩ := h
  exact ⟨a, b, c, d, r, s, t, u, fun H e => ⟨p, rfl, Same.sqt e h⟩⟩
theorem w_gun {n : Nat} {t : TGs} {QQ : L2.St → Hp → Prop} (h : ∃ p, v = .ref p ∧ SqT K H p vs) (hn : vs.length = n) (g : t vs σ H QQ) : gTup K n t v σ H QQ := by
  obtain ⟨p, rfl, h⟩ := h
  exact ⟨p, vs, rfl, h, hn, g⟩
end
/-! ### what is walked -/
def ItOk {α : Type} (J : It) (Bi B : Hp) (as : List α) (R : Rl α) : Prop := ∃ (G : Hp → Prop) (Y : Nat → Hp → V → Hp → Prop), Walk J as.length G Y ∧ (∀ H, Same Bi H → G H) ∧
  ∀ i H x H', i < as.length → Y i H x H' → ∃ a, as[i]? = some a ∧ ∀ Φ b cs, Sit Φ b H cs → Same B b → ∃ b', Sit Φ b' H' cs ∧ Same b b' ∧ R.rel b' a x
section
variable {α β : Type} {K : PySem.W.Frag} {R : Rl α} {B : Hp} {as : List α} {p : Addr} {v : V}
theorem it_at {J : It} {Bi : Hp} {vs : List V} {G : Hp → Prop} (w : Walk J vs.length G (YAt vs)) (hG : ∀ H, Same Bi H → G H) (f : Fa (R.rel B) as vs) : ItOk J Bi B as R := by
  refine ⟨G, _, by rw [f.len]; exact w, hG, ?_⟩
  rintro i H x H' hi ⟨rfl, hx⟩
  obtain ⟨a, ha, r⟩ := f.get hx
  exact ⟨a, ha, fun Φ b cs S e => ⟨b, S, Same.rf _, R.mono e r⟩⟩
theorem it_pair {J : It} {Bi : Hp} {vs : List V} {k : Int} {G : Hp → Prop} (w : Walk J vs.length G (YEn vs k)) (hG : ∀ H, Same Bi H → G H) (f : Fa (R.rel B) as vs) : ItOk J Bi B (enumM k as) (dPair K dInt R) := by
  have e : (enumM k as).length = as.length := by unfold enumM; simp
  refine ⟨G, _, by rw [e, f.len]; exact w, hG, ?_⟩
  rintro i H x H' hi ⟨T, y, rfl, nT, rfl, hx⟩
  obtain ⟨a, ha, r⟩ := f.get hx
  have hi' := (List.getElem?_eq_some_iff.mp ha).1
  refine ⟨(k + (i : Nat), a), by unfold enumM; rw [List.getElem?_zipWith, ha, List.getElem?_range hi'], fun Φ b cs S e => ⟨upd b T (.tup [.int (k + (i : Nat)), y]), S.put nT, S.updB nT, T, _, _, rfl, SqT.of upd_same, rfl, R.mono (e.tr (S.updB nT)) r⟩⟩
def WL (K : PySem.W.Frag) (R' : It → Hp → Prop) (v : V) (H : Hp) : Prop := ∃ a, v = .ref a ∧ (∃ xs, SqL K H a xs) ∧ R' (Itl K a) H
def WT (K : PySem.W.Frag) (R' : It → Hp → Prop) (v : V) (H : Hp) : Prop := ∃ a, v = .ref a ∧ (∃ xs, SqT K H a xs) ∧ R' (Itt K a) H
def WQ (K : PySem.W.Frag) (R' : It → Hp → Prop) (v : V) (H : Hp) : Prop := ∃ a, v = .ref a ∧ (((∃ xs, SqL K H a xs) ∧ R' (Itl K a) H) ∨ ((∃ xs, SqT K H a xs) ∧ R' (Itt K a) H))
def WE (K : PySem.W.Frag) (R' : It → Hp → Prop) (vs : List V) (H : Hp) : Prop := ∃ a xs, vs = [.ref a] ∧ SqL K H a xs ∧ R' (Ite K a) H
def WES (K : PySem.W.Frag) (R' : It → Hp → Prop) (vs zs : List V) (H : Hp) : Prop := ∃ a xs b k, vs = [.ref a] ∧ zs = [.int k] ∧ (-(2 ^ 63) ≤ k ∧ k < 2 ^ 63) ∧ SqB K b H a xs ∧ R' (IteS K b a k) H
def WR1 (R' : It → Hp → Prop) (vs : List V) (H : Hp) : Prop := ∃ j : Int, vs = [.int j] ∧ -(2 ^ 62) ≤ j ∧ j < 2 ^ 62 ∧ R' (Itr 0 j.toNat) H
def WR2 (R' : It → Hp → Prop) (vs : List V) (H : Hp) : Prop := ∃ i j : Int, vs = [.int i, .int j] ∧ (-(2 ^ 62) ≤ i ∧ i < 2 ^ 62 ∧ -(2 ^ 62) ≤ j ∧ j < 2 ^ 62) ∧ R' (Itr i (j - i).toNat) H
def WS (R' : It → Hp → Prop) (v : V) (H : Hp) : Prop := ∃ x, v = .str x ∧ R' (Its x) H
section
variable {σ : L2.St} {H : Hp} {tl : TE} {ta tk : TA} {R' : It → Hp → Prop}
theorem x_iL (g : tl σ H fun x H1 => WL K R' x H1) : iList K tl σ H R' := g
theorem x_iT (g : tl σ H fun x H1 => WT K R' x H1) : iTup K tl σ H R' := g
theorem x_iQ (g : tl σ H fun x H1 => WQ K R' x H1) : iSeq K tl σ H R' := g
theorem x_iS (g : tl σ H fun x H1 => WS R' x H1) : iStr tl σ H R' := g
theorem x_iE (g : ta σ H fun vs H1 => WE K R' vs H1) : iEnum K ta σ H R' := g
theorem x_iES (g : ta σ H fun vs H1 => tk σ H1 fun zs H2 => WES K R' vs zs H2) : iEnumS K ta tk σ H R' := g
theorem x_iR1 (g : ta σ H fun vs H1 => WR1 R' vs H1) : iRng1 ta σ H R' := g
theorem x_iR2 (g : ta σ H fun vs H1 => WR2 R' vs H1) : iRng2 ta σ H R' := g
end
theorem w_itL {R' : It → Hp → Prop} {H : Hp} (h : (dList R).rel B as v) (s : Same B H) (g : ∀ J, ItOk J B B as R → R' J H) : WL K R' v H := by
  obtain ⟨p, vs, rfl, h, f, _⟩ := h
  exact ⟨p, rfl, ⟨vs, SqL.of (s _ _ h)⟩, g _ (it_at walk_list (fun H' e => SqL.of (e _ _ h)) f)⟩
theorem w_itT {R' : It → Hp → Prop} {H : Hp} (h : (dTup K R).rel B as v) (s : Same B H) (g : ∀ J, ItOk J B B as R → R' J H) : WT K R' v H := by
  obtain ⟨p, vs, rfl, h, f, _⟩ := h
  exact ⟨p, rfl, ⟨vs, Same.sqt s h⟩, g _ (it_at walk_tup (fun H' e => Same.sqt e h) f)⟩
theorem w_itC {R' : It → Hp → Prop} {H : Hp} {o : HO} (h : (cList R).rel B as o) (hp : H p = some o) (g : ∀ J, ItOk J (upd B p o) B as R → R' J H) : WL K R' (.ref p) H := by
  obtain ⟨vs, rfl, f, _⟩ := h
  exact ⟨p, rfl, ⟨vs, SqL.of hp⟩, g _ (it_at walk_list (fun H' e => SqL.of (e _ _ upd_same)) f)⟩
theorem w_itQ {R' : It → Hp → Prop} {H : Hp} (h : (dSeq K R).rel B as v) (s : Same B H) (g : ∀ J, ItOk J B B as R → R' J H) : WQ K R' v H := by
  obtain ⟨p, vs, rfl, h, f, _⟩ := h
  exact w_iQ2 h s fun J G w hG => g J (it_at w hG f)
theorem w_itE {R' : It → Hp → Prop} {H : Hp} (h : (dList R).rel B as v) (s : Same B H) (g : ∀ J, ItOk J B B (enumM 0 as) (dPair K dInt R) → R' J H) : WE K R' [v] H := by
  obtain ⟨p, vs, rfl, h, f, _⟩ := h
  refine ⟨p, vs, rfl, SqL.of (s _ _ h), g _ (it_pair (G := fun H => SqL K H p vs) ?_ (fun H' e => SqL.of (e _ _ h)) f)⟩
  refine (walk_enum (K := K) (a := p) (xs := vs)).mono (fun _ z => z) ?_
  rintro i H x H' hi _ ⟨T, a, b, rfl, n, rfl, ha, hb⟩
  cases ha
  exact ⟨T, b, rfl, n, by rw [Int.zero_add], hb⟩
theorem w_itES {R' : It → Hp → Prop} {H : Hp} {k : Int} (hk : -(2 ^ 63) ≤ k ∧ k < 2 ^ 63) (h : (dSeq K R).rel B as v) (s : Same B H) (g : ∀ J, ItOk J B B (enumM k as) (dPair K dInt R) → R' J H) : WES K R' [v] [.int k] H := by
  obtain ⟨p, vs, rfl, h, f, _⟩ := h
  exact w_iESx hk h s fun J G w hG => g J (it_pair w hG f)
theorem w_itR1 {R' : It → Hp → Prop} {H : Hp} {i : Int} {is : List Int} (h : rngM i = some is) (g : ∀ J, ItOk J B B is dInt → is.length ≤ BIG → R' J H) : WR1 R' [.int i] H := by
  unfold rngM at h
  by_cases e : -(2 ^ 62) ≤ i ∧ i ≤ BIG
  · rw [if_pos e] at h
    cases h
    unfold BIG at e
    have e0 : ((List.range i.toNat).map fun k => ((k : Nat) : Int)).length = i.toNat := by simp
    refine ⟨i, rfl, e.1, by omega, g _ ⟨_, _, by rw [e0]; exact walk_range, fun _ _ => trivial, ?_⟩ (by rw [e0]; unfold BIG; omega)⟩
    rintro k H x H' hk ⟨rfl, rfl⟩
    rw [e0] at hk
    exact ⟨(k : Int), by rw [List.getElem?_map, List.getElem?_range hk]; rfl, fun Φ b cs S e => ⟨b, S, Same.rf _, by show V.int _ = V.int _; rw [Int.zero_add]⟩⟩
  · rw [if_neg e] at h; cases h
theorem w_itR2 {R' : It → Hp → Prop} {H : Hp} {i j : Int} {is : List Int} (h : rng2M i j = some is) (g : ∀ J, ItOk J B B is dInt → is.length ≤ BIG → R' J H) : WR2 R' [.int i, .int j] H := by
  unfold rng2M at h
  by_cases e : (-(2 ^ 62) ≤ i ∧ i < 2 ^ 62 ∧ -(2 ^ 62) ≤ j ∧ j < 2 ^ 62) ∧ j - i ≤ BIG
  · rw [if_pos e] at h
    cases h
    unfold BIG at e
    have e0 : ((List.range (j - i).toNat).map fun k => i + ((k : Nat) : Int)).length = (j - i).toNat := by simp
    refine ⟨i, j, rfl, e.1, g _ ⟨_, _, by rw [e0]; exact walk_range, fun _ _ => trivial, ?_⟩ (by rw [e0]; unfold BIG; omega)⟩
    rintro k H x H' hk ⟨rfl, rfl⟩
    rw [e0] at hk
    exact ⟨i + (k : Int), by rw [List.getElem?_map, List.getElem?_range hk]; rfl, fun Φ b cs S e => ⟨b, S, Same.rf _, rfl⟩⟩
  · rw [if_neg e] at h; cases h
theorem w_itS {R' : It → Hp → Prop} {H : Hp} {z : Str} (g : ∀ J, ItOk J B B (chars z) dStr → R' J H) : WS R' (.str z) H := by
  refine ⟨z, rfl, g _ ?_⟩
  have e : (chars z).length = z.cps.size := by unfold chars; simp
  refine ⟨_, _, by rw [e]; exact walk_str, fun _ _ => trivial, ?_⟩
  rintro i H x H' hi ⟨rfl, c, hc, rfl⟩
  refine ⟨⟨#[c]⟩, by unfold chars; simp [hc], fun Φ b cs S e => ⟨b, S, Same.rf _, rfl⟩⟩
end
/-! ### loops -/
def Nxt {S : Type} (Φ : Fr) (B : Hp) (I : S → Hp → L2.St → List (Addr × HO) → Prop) (s : S) : L2.St → Hp → Prop := fun σ' H' => ∃ b' cs', Sit Φ b' H' cs' ∧ Same B b' ∧ I s b' σ' cs'
def NxC {S R : Type} (Φ : Fr) (B : Hp) (I : S → Hp → L2.St → List (Addr × HO) → Prop) (o : Ctl S R) : L2.St → Hp → Prop := fun σ' H' => ∃ s', o = .nx s' ∧ Nxt Φ B I s' σ' H'
section
variable {α S R' : Type} {Φ : Fr} {as : List α} {R : Rl α} {J : It} {Bi B H : Hp} {cs : List (Addr × HO)} {σ : L2.St} {g : TG} {tb : TS} {nx bk ct : L2.St → Hp → Prop} {rt : VK} {s0 s1 : S}
theorem forS (it : ItOk J Bi B as R) (S0 : Sit Φ B H cs) (I : S → Hp → L2.St → List (Addr × HO) → Prop) (h0 : I s0 B σ cs) {f : α → S → Option S} (hm : forL f as s0 = some s1)
    (hB : ∀ s b H σ cs, Sit Φ b H cs → Same B b → I s b σ cs → Same Bi H)
    (hs : ∀ a s s' x b0 b H σ cs, a ∈ as → Sit Φ b H cs → Same B b0 → Same b0 b → I s b0 σ cs → R.rel b a x → f a s = some s' → g x σ H fun σ2 H2 => tb ⟨Nxt Φ B I s', rt, nx, Nxt Φ B I s'⟩ σ2 H2)
    (hd : ∀ b H σ cs, Sit Φ b H cs → Same B b → I s1 b σ cs → nx σ H) : ForB J g tb ⟨nx, rt, bk, ct⟩ σ H := by
  obtain ⟨G, Y, w, hG, hY⟩ := it
  refine ⟨fun i m σ H => m = as.length - i ∧ i ≤ as.length ∧ ∃ s b cs, Sit Φ b H cs ∧ Same B b ∧ I s b σ cs ∧ forL f (as.drop i) s = some s1, ⟨_, rfl, Nat.zero_le _, s0, B, cs, S0, Same.rf _, h0, hm⟩, ?_⟩
  rintro i m σ H ⟨rfl, hi, s, b, cs, S, e, h, hf⟩
  have q := hG H (hB s b H σ cs S e h)
  by_cases hlt : i < as.length
  · refine .inr ⟨w.goes i H hlt q, ?_⟩
    have hd' : as.drop i = as[i] :: as.drop (i + 1) := List.drop_eq_getElem_cons hlt
    rw [hd'] at hf
    obtain ⟨s', hs', hf⟩ := bs hf
    refine ⟨Nxt Φ B I s', fun σ' H' ⟨b', cs', S', e', h'⟩ => ⟨_, by omega, rfl, by omega, s', b', cs', S', e', h', hf⟩, fun x H' y => ?_⟩
    obtain ⟨a, ha, q2⟩ := hY i H x H' hlt (w.yields i H x H' hlt q y)
    obtain ⟨b', S', e', r⟩ := q2 Φ b cs S e
    rw [List.getElem?_eq_getElem hlt] at ha
    cases ha
    exact hs _ s s' x b b' H' σ cs (List.getElem_mem hlt) S' e e' h r hs'
  · have ei : i = as.length := by omega
    subst ei
    rw [List.drop_length] at hf
    cases hf
    exact .inl ⟨w.stops H q, hd b H σ cs S e h⟩
/-- with return, break -/
theorem forK (it : ItOk J Bi B as R) (S0 : Sit Φ B H cs) (I : S → Hp → L2.St → List (Addr × HO) → Prop) (h0 : I s0 B σ cs) {f : α → S → Option (Ctl S R')} {c : Ctl S R'} (hm : forC f as s0 = some c)
    (hB : ∀ s b H σ cs, Sit Φ b H cs → Same B b → I s b σ cs → Same Bi H)
    (hs : ∀ a s o x b0 b H σ cs, a ∈ as → Sit Φ b H cs → Same B b0 → Same b0 b → I s b0 σ cs → R.rel b a x → f a s = some o → (∀ r, o = .ret r → c = .ret r) → (∀ s' σ' H', o = .brk s' → Nxt Φ B I s' σ' H' → nx σ' H') →
      g x σ H fun σ2 H2 => tb ⟨NxC Φ B I o, rt, nx, NxC Φ B I o⟩ σ2 H2)
    (hd : ∀ s1 b H σ cs, c = .nx s1 → Sit Φ b H cs → Same B b → I s1 b σ cs → nx σ H) : ForB J g tb ⟨nx, rt, bk, ct⟩ σ H := by
  obtain ⟨G, Y, w, hG, hY⟩ := it
  refine ⟨fun i m σ H => m = as.length - i ∧ i ≤ as.length ∧ ∃ s b cs, Sit Φ b H cs ∧ Same B b ∧ I s b σ cs ∧ forC f (as.drop i) s = some c, ⟨_, rfl, Nat.zero_le _, s0, B, cs, S0, Same.rf _, h0, hm⟩, ?_⟩
  rintro i m σ H ⟨rfl, hi, s, b, cs, S, e, h, hf⟩
  have q := hG H (hB s b H σ cs S e h)
  by_cases hlt : i < as.length
  · refine .inr ⟨w.goes i H hlt q, ?_⟩
    have hd' : as.drop i = as[i] :: as.drop (i + 1) := List.drop_eq_getElem_cons hlt
    rw [hd'] at hf
    obtain ⟨o, ho, hf⟩ := bs hf
    refine ⟨NxC Φ B I o, fun σ' H' ⟨s', es, b', cs', S', e', h'⟩ => ⟨_, by omega, rfl, by omega, s', b', cs', S', e', h', by subst es; exact hf⟩, fun x H' y => ?_⟩
    obtain ⟨a, ha, q2⟩ := hY i H x H' hlt (w.yields i H x H' hlt q y)
    obtain ⟨b', S', e', r⟩ := q2 Φ b cs S e
    rw [List.getElem?_eq_getElem hlt] at ha
    cases ha
    refine hs _ s o x b b' H' σ cs (List.getElem_mem hlt) S' e e' h r ho (fun r er => ?_) (fun s' σ' H'' es ⟨b2, cs2, S2, e2, h2⟩ => ?_)
    · subst er; cases hf; rfl
    · subst es; cases hf; exact hd _ _ _ _ _ rfl S2 e2 h2
  · have ei : i = as.length := by omega
    subst ei
    rw [List.drop_length] at hf
    cases hf
    exact .inl ⟨w.stops H q, hd s b H σ cs rfl S e h⟩
theorem wh_go {D : Ends} {o : Ctl S R'} {I : S → Hp → L2.St → List (Addr × HO) → Prop} {W : Nat → L2.St → Hp → Prop} {m : Nat} (hW : ∀ σ' H', NxC Φ B I o σ' H' → ∃ m', m' < m ∧ W m' σ' H') (h : tb ⟨NxC Φ B I o, rt, nx, NxC Φ B I o⟩ σ H) :
    ∃ N : L2.St → Hp → Prop, (∀ σ' H', N σ' H' → ∃ m', m' < m ∧ W m' σ' H') ∧ tb ⟨N, rt, nx, N⟩ σ H := ⟨_, hW, h⟩
theorem whK {c : TT} (S0 : Sit Φ B H cs) (I : S → Hp → L2.St → List (Addr × HO) → Prop) (h0 : I s0 B σ cs) {f : S → Option (Ctl S R')} {oc : Ctl S R'} {n : Nat} (hm : whC f n s0 = some oc)
    (hs : ∀ s o b H σ cs (W : Nat → L2.St → Hp → Prop) m, Sit Φ b H cs → Same B b → I s b σ cs → f s = some o → (∀ r, o = .ret r → oc = .ret r) → (∀ s' σ' H', o = .brk s' → Nxt Φ B I s' σ' H' → nx σ' H') →
      (∀ σ' H', NxC Φ B I o σ' H' → ∃ m', m' < m ∧ W m' σ' H') → c σ H fun q H1 => if q = true then ∃ N : L2.St → Hp → Prop, (∀ σ' H', N σ' H' → ∃ m', m' < m ∧ W m' σ' H') ∧ tb ⟨N, rt, nx, N⟩ σ H1 else nx σ H1)
    (hd : ∀ s1 b H σ cs, oc = .nx s1 → Sit Φ b H cs → Same B b → I s1 b σ cs → nx σ H) : tWhile c tb ⟨nx, rt, bk, ct⟩ σ H := by
  refine ⟨fun m σ H => ∃ s b cs, Sit Φ b H cs ∧ Same B b ∧ I s b σ cs ∧ whC f m s = some oc, ⟨n, s0, B, cs, S0, Same.rf _, h0, hm⟩, ?_⟩
  rintro m σ H ⟨s, b, cs, S, e, h, hf⟩
  cases m with
  | zero => cases hf
  | succ m =>
    obtain ⟨o, ho, hf⟩ := bs hf
    refine hs s o b H σ cs _ (m + 1) S e h ho (fun r er => ?_) (fun s' σ' H'' es ⟨b2, cs2, S2, e2, h2⟩ => ?_) (fun σ' H' ⟨s', es, b', cs', S', e', h'⟩ => ⟨m, Nat.lt_succ_self _, s', b', cs', S', e', h', by subst es; exact hf⟩)
    · subst er; cases hf; rfl
    · subst es; cases hf; exact hd _ _ _ _ _ rfl S2 e2 h2
end
/-! ### comprehensions -/
def Kept {β : Type} (P : Rl β) (o : Option β) (r : Option V) (B : Hp) : Prop := match o with
  | none => r = none
  | some y => ∃ v, r = some v ∧ P.rel B y v
section
variable {α β S : Type} {Φ : Fr} {as : List α} {R : Rl α} {P : Rl β} {J : It} {Bi B H : Hp} {cs : List (Addr × HO)} {σ : L2.St} {g : TG} {tt : TT} {te : TE} {vs : List Nat} {Q : VK} {ys : List β}
theorem lcR (it : ItOk J Bi B as R) (S0 : Sit Φ B H cs) (hl : as.length ≤ BIG) {f : α → Option (Option β)} (hm : lcM f as = some ys)
    (hB : ∀ b H' cs', Sit Φ b H' cs' → Same B b → cs <:+ cs' → Same Bi H')
    (hs : ∀ D acc a o x b0 b H', a ∈ as → Sit Φ b H' ((D, .lst acc) :: cs) → Same B b0 → Same b0 b → R.rel b a x → f a = some o → ∀ RR : Option V → Hp → Prop,
      (∀ r b2 H2, Sit Φ b2 H2 ((D, .lst acc) :: cs) → Same b b2 → Kept P o r b2 → RR r H2) → Turn1 g tt te vs σ x H' RR)
    (hd : ∀ D b H' o, Sit Φ b H' ((D, o) :: cs) → Same B b → Φ.H D = none → (cList P).rel b ys o → Q (.ref D) H') : LcB J g tt te vs σ Q H := by
  obtain ⟨G, Y, w, hG, hY⟩ := it
  refine lcb w (fun D i acc H' => Φ.H D = none ∧ ∃ b zs rest, Sit Φ b H' ((D, .lst acc) :: cs) ∧ Same B b ∧ Fa (P.rel b) zs acc ∧ zs.length ≤ i ∧ lcM f (as.drop i) = some rest ∧ ys = zs ++ rest) (fun D nD => ⟨S0.fresh nD, B, [], ys, S0.own nD, Same.rf _, .nil, Nat.le_refl _, hm, rfl⟩) (fun D i acc H' nD _ ⟨_, b, zs, rest, S, e, _⟩ => hG H' (hB b H' _ S e (List.suffix_cons _ _))) ?_ ?_
  · rintro D i x acc H1 H2 nD hi ⟨n0, b, zs, rest, S, e, hF, hz, hf, ey⟩ y
    obtain ⟨a, ha, q⟩ := hY i H1 x H2 hi y
    obtain ⟨b', S', e', r⟩ := q Φ b _ S e
    have hd' : as.drop i = a :: as.drop (i + 1) := by
      have hi' := (List.getElem?_eq_some_iff.mp ha)
      rw [List.drop_eq_getElem_cons hi'.1, hi'.2]
    rw [hd'] at hf
    obtain ⟨o, ho, hf⟩ := bs hf
    obtain ⟨rs, hrs, hf⟩ := bs hf
    refine hs D acc a o x b b' H2 (List.mem_of_getElem? ha) S' e e' r ho _ fun r b2 H3 S2 e2 hk => ?_
    have hF2 := fa_mono (e'.tr e2) hF
    unfold Kept at hk
    cases o with
    | none =>
      subst hk
      cases hf
      exact lcr_none (acc := acc) ⟨n0, b2, zs, _, S2, (e.tr e').tr e2, hF2, by omega, hrs, ey⟩
    | some y =>
      obtain ⟨v, rfl, hv⟩ := hk
      cases hf
      have la := hF.len
      refine lcr_some (S2.at' (i := 0) rfl) (by rw [← la]; exact big_lt (by omega)) ⟨n0, b2, zs ++ [y], rs, S2.set (i := 0) rfl, (e.tr e').tr e2, hF2.app (.one hv), by rw [List.length_append]; simp; omega, hrs, by rw [ey]; simp⟩
  · rintro D acc H' nD ⟨n0, b, zs, rest, S, e, hF, hz, hf, ey⟩
    rw [List.drop_length] at hf
    cases hf
    rw [List.append_nil] at ey
    subst ey
    exact hd D b H' _ S e n0 ⟨acc, rfl, hF, by omega⟩
/-- with a state (draws) -/
theorem lcRS (it : ItOk J Bi B as R) (S0 : Sit Φ B H cs) (hl : as.length ≤ BIG) (I : S → Hp → List (Addr × HO) → Prop) {s0 s1 : S} (h0 : I s0 B cs) {f : α → S → Option (Option β × S)} (hm : lcS f as s0 = some (ys, s1))
    (hB : ∀ s b H' c cs', Sit Φ b H' (c :: cs') → Same B b → I s b cs' → Same Bi H')
    (hs : ∀ D acc a s o x b0 b H' cs, a ∈ as → Sit Φ b H' ((D, .lst acc) :: cs) → Same B b0 → Same b0 b → I s b0 cs → R.rel b a x → f a s = some o → ∀ RR : Option V → Hp → Prop,
      (∀ r b2 H2 cs2, Sit Φ b2 H2 ((D, .lst acc) :: cs2) → Same b b2 → I o.2 b2 cs2 → Kept P o.1 r b2 → RR r H2) → Turn1 g tt te vs σ x H' RR)
    (hd : ∀ D b H' o cs, Sit Φ b H' ((D, o) :: cs) → Same B b → I s1 b cs → Φ.H D = none → (cList P).rel b ys o → Q (.ref D) H') : LcB J g tt te vs σ Q H := by
  obtain ⟨G, Y, w, hG, hY⟩ := it
  refine lcb w (fun D i acc H' => Φ.H D = none ∧ ∃ b zs rest s cs, Sit Φ b H' ((D, .lst acc) :: cs) ∧ Same B b ∧ I s b cs ∧ Fa (P.rel b) zs acc ∧ zs.length ≤ i ∧ lcS f (as.drop i) s = some (rest, s1) ∧ ys = zs ++ rest) (fun D nD => ⟨S0.fresh nD, B, [], ys, s0, cs, S0.own nD, Same.rf _, h0, .nil, Nat.le_refl _, hm, rfl⟩) (fun D i acc H' nD _ ⟨_, b, zs, rest, s, cs, S, e, hI, _⟩ => hG H' (hB s b H' _ cs S e hI)) ?_ ?_
  · rintro D i x acc H1 H2 nD hi ⟨n0, b, zs, rest, s, cs, S, e, hI, hF, hz, hf, ey⟩ y
    obtain ⟨a, ha, q⟩ := hY i H1 x H2 hi y
    obtain ⟨b', S', e', r⟩ := q Φ b _ S e
    have hd' : as.drop i = a :: as.drop (i + 1) := by
      have hi' := (List.getElem?_eq_some_iff.mp ha)
      rw [List.drop_eq_getElem_cons hi'.1, hi'.2]
    rw [hd'] at hf
    obtain ⟨o, ho, hf⟩ := bs hf
    obtain ⟨⟨rs, s2⟩, hrs, hf⟩ := bs hf
    refine hs D acc a s o x b b' H2 cs (List.mem_of_getElem? ha) S' e e' hI r ho _ fun r b2 H3 cs2 S2 e2 hI2 hk => ?_
    have hF2 := fa_mono (e'.tr e2) hF
    obtain ⟨o1, o2⟩ := o
    unfold Kept at hk
    cases o1 with
    | none =>
      subst hk
      cases hf
      exact lcr_none (acc := acc) ⟨n0, b2, zs, _, _, cs2, S2, (e.tr e').tr e2, hI2, hF2, by omega, hrs, ey⟩
    | some y =>
      obtain ⟨v, rfl, hv⟩ := hk
      cases hf
      have la := hF.len
      refine lcr_some (S2.at' (i := 0) rfl) (by rw [← la]; exact big_lt (by omega)) ⟨n0, b2, zs ++ [y], rs, _, cs2, S2.set (i := 0) rfl, (e.tr e').tr e2, hI2, hF2.app (.one hv), by rw [List.length_append]; simp; omega, hrs, by rw [ey]; simp⟩
  · rintro D acc H' nD ⟨n0, b, zs, rest, s, cs, S, e, hI, hF, hz, hf, ey⟩
    rw [List.drop_length] at hf
    cases hf
    rw [List.append_nil] at ey
    subst ey
    exact hd D b H' _ cs S e hI n0 ⟨acc, rfl, hF, by omega⟩
end
end Mf

namespace Mf
open PySem L2 PyProof.Rows
section
variable {K : PySem.W.Frag} {σ : L2.St} {H B : Hp} {Q : VK} {QT : Bool → Hp → Prop} {QA : List V → Hp → Prop} {ta tb te : TE} {tt : TT} {tA : TA} {v w x y : V} {vs : List V} {b : Bool} {Φ : Fr} {cs : List (Addr × HO)} {p : Addr} {o : HO} {α β γ δ : Type} {R : Rl α} {S : Rl β} {T : Rl γ} {U : Rl δ} {i j : Int} {s z : Str}
theorem w_ev (h : Ev te σ H v) (g : Q v H) : te σ H Q := h Q g
theorem w_evT (h : EvT tt σ H b) (g : QT b H) : tt σ H QT := h QT g
theorem w_evA (h : EvA tA σ H vs) (g : QA vs H) : tA σ H QA := h QA g
theorem w_rv {r : R2} (h : RV r x y H w) (g : Q w H) : r x y H Q := h Q g
theorem dList.le {xs : List α} (h : (dList R).rel H xs v) : xs.length ≤ BIG := let ⟨_, _, _, _, _, d⟩ := h; d
theorem dTup.le {xs : List α} (h : (dTup K R).rel H xs v) : xs.length ≤ BIG := let ⟨_, _, _, _, _, d⟩ := h; d
theorem dSeq.le {xs : List α} (h : (dSeq K R).rel H xs v) : xs.length ≤ BIG := let ⟨_, _, _, _, _, d⟩ := h; d
theorem cList.le {xs : List α} (h : (cList R).rel H xs o) : xs.length ≤ BIG := let ⟨_, _, _, d⟩ := h; d
theorem enum_le {k : Int} {xs : List α} (h : xs.length ≤ BIG) : (enumM k xs).length ≤ BIG := by unfold enumM; simpa using h
/-- a cell, as it may be read -/
theorem cList.seq {xs : List α} (h : (cList R).rel B xs o) (hp : H p = some o) (s : Same B H) : (dSeq K R).rel H xs (.ref p) := by
  obtain ⟨vs, rfl, f, l⟩ := h
  exact ⟨p, vs, rfl, .inl (SqL.of hp), fa_mono s f, l⟩
theorem cList.lst {xs : List α} (h : (cList R).rel B xs o) (n : B p = none) : (dList R).rel (upd B p o) xs (.ref p) := frzL h n
theorem cDict.dct {xs : List (Str × α)} (h : (cDict R).rel B xs o) (n : B p = none) : (dDict R).rel (upd B p o) xs (.ref p) := frzD h n
/-! new things -/
def TupQ (Q : VK) (vs : List V) (H : Hp) : Prop := vs.length ≤ sizeLine ∧ ∀ p, H p = none → Q (.ref p) (upd H p (.tup vs))
def LstQ (Q : VK) (vs : List V) (H : Hp) : Prop := vs.length ≤ sizeLine ∧ ∀ p, H p = none → Q (.ref p) (upd H p (.lst vs))
theorem x_tup (g : tA σ H fun vs H1 => TupQ Q vs H1) : tTup tA σ H Q := g
theorem x_lst (g : tA σ H fun vs H1 => LstQ Q vs H1) : tLst tA σ H Q := g
theorem mk1 {a : V} {x : α} (Z : Sit Φ B H cs) (h1 : R.rel B x a) (k : ∀ v B' H', Sit Φ B' H' cs → Same B B' → (dOne K R).rel B' x v → Q v H') : TupQ Q [a] H :=
  ⟨by show 1 ≤ sizeLine; decide, fun p n => k _ _ _ (Z.put n) (Z.updB n) ⟨p, a, rfl, SqT.of upd_same, R.mono (Z.updB n) h1⟩⟩
theorem mk2 {a b : V} {x : α} {y : β} (Z : Sit Φ B H cs) (h1 : R.rel B x a) (h2 : S.rel B y b) (k : ∀ v B' H', Sit Φ B' H' cs → Same B B' → (dPair K R S).rel B' (x, y) v → Q v H') : TupQ Q [a, b] H :=
  ⟨by show 2 ≤ sizeLine; decide, fun p n => k _ _ _ (Z.put n) (Z.updB n) ⟨p, a, b, rfl, SqT.of upd_same, R.mono (Z.updB n) h1, S.mono (Z.updB n) h2⟩⟩
theorem mk3 {a b c : V} {x : α} {y : β} {z : γ} (Z : Sit Φ B H cs) (h1 : R.rel B x a) (h2 : S.rel B y b) (h3 : T.rel B z c) (k : ∀ v B' H', Sit Φ B' H' cs → Same B B' → (dTrip K R S T).rel B' (x, y, z) v → Q v H') : TupQ Q [a, b, c] H :=
  ⟨by show 3 ≤ sizeLine; decide, fun p n => k _ _ _ (Z.put n) (Z.updB n) ⟨p, a, b, c, rfl, SqT.of upd_same, R.mono (Z.updB n) h1, S.mono (Z.updB n) h2, T.mono (Z.updB n) h3⟩⟩
theorem mk4 {a b c d : V} {x : α} {y : β} {z : γ} {w : δ} (Z : Sit Φ B H cs) (h1 : R.rel B x a) (h2 : S.rel B y b) (h3 : T.rel B z c) (h4 : U.rel B w d) (k : ∀ v B' H', Sit Φ B' H' cs → Same B B' → (dQuad K R S T U).rel B' (x, y, z, w) v → Q v H') : TupQ Q [a, b, c, d] H :=
  ⟨by show 4 ≤ sizeLine; decide, fun p n => k _ _ _ (Z.put n) (Z.updB n) ⟨p, a, b, c, d, rfl, SqT.of upd_same, R.mono (Z.updB n) h1, S.mono (Z.updB n) h2, T.mono (Z.updB n) h3, U.mono (Z.updB n) h4⟩⟩
/-- a tuple of like things -/
theorem mkT {vs : List V} {xs : List α} (Z : Sit Φ B H cs) (h : Fa (R.rel B) xs vs) (hl : xs.length ≤ BIG) (k : ∀ v B' H', Sit Φ B' H' cs → Same B B' → (dTup K R).rel B' xs v → Q v H') : TupQ Q vs H :=
  ⟨by rw [← h.len]; exact big_size hl, fun p n => k _ _ _ (Z.put n) (Z.updB n) ⟨p, vs, rfl, SqT.of upd_same, fa_mono (Z.updB n) h, hl⟩⟩
theorem mkL {vs : List V} {xs : List α} (Z : Sit Φ B H cs) (h : Fa (R.rel B) xs vs) (hl : xs.length ≤ BIG) (k : ∀ v B' H', Sit Φ B' H' cs → Same B B' → (dList R).rel B' xs v → Q v H') : LstQ Q vs H :=
  ⟨by rw [← h.len]; exact big_size hl, fun p n => k _ _ _ (Z.put n) (Z.updB n) ⟨p, vs, rfl, upd_same, fa_mono (Z.updB n) h, hl⟩⟩
/-- a list of one's own -/
theorem mkO {vs : List V} {xs : List α} (Z : Sit Φ B H cs) (h : Fa (R.rel B) xs vs) (hl : xs.length ≤ BIG) (k : ∀ p o H', Sit Φ B H' ((p, o) :: cs) → Φ.H p = none → (cList R).rel B xs o → Q (.ref p) H') : LstQ Q vs H :=
  ⟨by rw [← h.len]; exact big_size hl, fun p n => k _ _ _ (Z.own n) (Z.fresh n) ⟨vs, rfl, h, hl⟩⟩
/-- a list made by a builtin: list(x), x[a:b] .. -/
theorem nwL {vs : List V} {xs : List α} (Z : Sit Φ B H cs) (h : Fa (R.rel B) xs vs) (hl : xs.length ≤ BIG) (k : ∀ v B' H', Sit Φ B' H' cs → Same B B' → (dList R).rel B' xs v → Q v H') : ∀ p, H p = none → Q (.ref p) (upd H p (.lst vs)) := (mkL Z h hl k).2
theorem nwO {vs : List V} {xs : List α} (Z : Sit Φ B H cs) (h : Fa (R.rel B) xs vs) (hl : xs.length ≤ BIG) (k : ∀ p o H', Sit Φ B H' ((p, o) :: cs) → Φ.H p = none → (cList R).rel B xs o → Q (.ref p) H') : ∀ p, H p = none → Q (.ref p) (upd H p (.lst vs)) := (mkO Z h hl k).2
theorem nwT {vs : List V} {xs : List α} (Z : Sit Φ B H cs) (h : Fa (R.rel B) xs vs) (hl : xs.length ≤ BIG) (k : ∀ v B' H', Sit Φ B' H' cs → Same B B' → (dTup K R).rel B' xs v → Q v H') : ∀ p, H p = none → Q (.ref p) (upd H p (.tup vs)) := (mkT Z h hl k).2
/-! list(x), tuple(x) -/
theorem b_list {xs : List α} (h : (dSeq K R).rel H xs v) (hB : ∀ vs, Fa (R.rel H) xs vs → Fa (R.rel B) xs vs) (k : ∀ vs, Fa (R.rel B) xs vs → ∀ l, H l = none → Q (.ref l) (upd H l (.lst vs))) : rListQ K [v] H Q := by
  obtain ⟨p, vs, rfl, h, f, _⟩ := h
  exact ⟨p, vs, rfl, h, k vs (hB vs f)⟩
end
/-! what a sequence holds, told at the base -/
def Sq (K : PySem.W.Frag) {α : Type} (R : Rl α) (B H : Hp) (xs : List α) (v : V) : Prop := ∃ p vs, v = .ref p ∧ Sq2 K H p vs ∧ Fa (R.rel B) xs vs ∧ xs.length ≤ BIG
section
variable {K : PySem.W.Frag} {σ : L2.St} {H B : Hp} {Q : VK} {v : V} {Φ : Fr} {cs : List (Addr × HO)} {p : Addr} {o : HO} {α : Type} {R : Rl α} {xs ys : List α} {i : Int} {z : Str}
theorem sqL (h : (dList R).rel B xs v) (s : Same B H) : Sq K R B H xs v := let ⟨p, vs, a, b, c, d⟩ := h; ⟨p, vs, a, .inl (SqL.of (s _ _ b)), c, d⟩
theorem sqT (h : (dTup K R).rel B xs v) (s : Same B H) : Sq K R B H xs v := let ⟨p, vs, a, b, c, d⟩ := h; ⟨p, vs, a, .inr (Same.sqt s b), c, d⟩
theorem sqQ (h : (dSeq K R).rel B xs v) (s : Same B H) : Sq K R B H xs v := let ⟨p, vs, a, b, c, d⟩ := h; ⟨p, vs, a, Sq2.same s b, c, d⟩
theorem sqC (h : (cList R).rel B xs o) (hp : H p = some o) : Sq K R B H xs (.ref p) := by
  obtain ⟨vs, rfl, f, l⟩ := h
  exact ⟨p, vs, rfl, .inl (SqL.of hp), f, l⟩
theorem Sq.q (h : Sq K R B H xs v) (s : Same B H) : (dSeq K R).rel H xs v := let ⟨p, vs, a, b, c, d⟩ := h; ⟨p, vs, a, b, fa_mono s c, d⟩
theorem q_list (Z : Sit Φ B H cs) (h : Sq K R B H xs v) (k : ∀ v B' H', Sit Φ B' H' cs → Same B B' → (dList R).rel B' xs v → Q v H') : rListQ K [v] H Q := by
  obtain ⟨p, vs, rfl, h, f, l⟩ := h
  exact ⟨p, vs, rfl, h, nwL Z f l k⟩
theorem q_listO (Z : Sit Φ B H cs) (h : Sq K R B H xs v) (k : ∀ p o H', Sit Φ B H' ((p, o) :: cs) → Φ.H p = none → (cList R).rel B xs o → Q (.ref p) H') : rListQ K [v] H Q := by
  obtain ⟨p, vs, rfl, h, f, l⟩ := h
  exact ⟨p, vs, rfl, h, nwO Z f l k⟩
theorem q_tupL (Z : Sit Φ B H cs) (h : (dList R).rel B xs v) (k : ∀ v B' H', Sit Φ B' H' cs → Same B B' → (dTup K R).rel B' xs v → Q v H') : rTupL K [v] H Q := by
  obtain ⟨p, vs, rfl, h, f, l⟩ := h
  exact ⟨p, vs, rfl, SqL.of (Z.sub _ _ h), nwT Z f l k⟩
theorem q_tupC (Z : Sit Φ B H cs) (h : (cList R).rel B xs o) (hp : H p = some o) (k : ∀ v B' H', Sit Φ B' H' cs → Same B B' → (dTup K R).rel B' xs v → Q v H') : rTupL K [.ref p] H Q := by
  obtain ⟨vs, rfl, f, l⟩ := h
  exact ⟨p, vs, rfl, SqL.of hp, nwT Z f l k⟩
theorem q_len (h : Sq K R B H xs v) (g : Q (.int (xs.length : Int)) H) : rLenQ K [v] H Q := by
  obtain ⟨p, vs, rfl, h, f, _⟩ := h
  exact ⟨p, vs, rfl, h, by rw [← f.len]; exact g⟩
theorem rlen_q (h : Sq K R B H xs v) : ∀ Q : VK, Q (.int (xs.length : Int)) H → rLenQ K [v] H Q := fun _ g => q_len h g
theorem rin_s {zs : List Str} {s : Str} (h : Sq K dStr B H zs v) : RV (rIn K false) (.str s) v H (.bl (decide (s ∈ zs))) := by
  obtain ⟨p, vs, rfl, h, f, l⟩ := h
  exact rv_inQ ⟨p, vs, rfl, h, f, l⟩
theorem rni_s {zs : List Str} {s : Str} (h : Sq K dStr B H zs v) : RV (rIn K true) (.str s) v H (.bl (!decide (s ∈ zs))) := by
  obtain ⟨p, vs, rfl, h, f, l⟩ := h
  exact rv_niQ ⟨p, vs, rfl, h, f, l⟩
theorem rin_i {zs : List Int} (h : Sq K dInt B H zs v) : RV (rIn K false) (.int i) v H (.bl (decide (i ∈ zs))) := by
  obtain ⟨p, vs, rfl, h, f, l⟩ := h
  exact rv_inI ⟨p, vs, rfl, h, f, l⟩
theorem rni_i {zs : List Int} (h : Sq K dInt B H zs v) : RV (rIn K true) (.int i) v H (.bl (!decide (i ∈ zs))) := by
  obtain ⟨p, vs, rfl, h, f, l⟩ := h
  exact rv_niI ⟨p, vs, rfl, h, f, l⟩
theorem rall {bs : List Bool} (h : (dList dBool).rel H bs v) : ∀ Q : VK, Q (.bl (bs.all id)) H → rAll K [v] H Q := fun Q q => by
  obtain ⟨p, vs, rfl, h, f, _⟩ := h
  cases fa_bool f
  exact ⟨p, bs, rfl, SqL.of h, q⟩
theorem rany {bs : List Bool} (h : (dList dBool).rel H bs v) : ∀ Q : VK, Q (.bl (bs.any id)) H → rAny K [v] H Q := fun Q q => by
  obtain ⟨p, vs, rfl, h, f, _⟩ := h
  cases fa_bool f
  exact ⟨p, bs, rfl, SqL.of h, q⟩
/-! methods of lists -/
theorem pushM_some {x : α} {ys : List α} (h : pushM xs x = some ys) : xs.length < BIG ∧ ys = xs ++ [x] := by
  unfold pushM at h
  by_cases e : xs.length < BIG
  · rw [if_pos e] at h; cases h; exact ⟨e, rfl⟩
  · rw [if_neg e] at h; cases h
theorem catM_some {zs : List α} (h : catM xs ys = some zs) : xs.length + ys.length ≤ BIG ∧ zs = xs ++ ys := by
  unfold catM at h
  by_cases e : xs.length + ys.length ≤ BIG
  · rw [if_pos e] at h; cases h; exact ⟨e, rfl⟩
  · rw [if_neg e] at h; cases h
theorem w_tyC {P : Prop} (h : (cList R).rel B xs o) (hp : H p = some o) (g : P) : tyV K "list" (.ref p) H ∧ P := by
  obtain ⟨vs, rfl, f, _⟩ := h
  exact w_tyL (SqL.of hp) g
theorem q_append {k : Nat} {x : α} {w : V} (Z : Sit Φ B H cs) (hk : cs[k]? = some (p, o)) (h : (cList R).rel B xs o) (hx : R.rel B x w) (hm : pushM xs x = some ys) (g : ∀ o' H', Sit Φ B H' (cs.set k (p, o')) → (cList R).rel B ys o' → Q .non H') : rAppend (.ref p) [w] H Q := by
  obtain ⟨l, rfl⟩ := pushM_some hm
  obtain ⟨vs, rfl, f, _⟩ := h
  refine w_append (Z.at' hk) (by rw [← f.len]; exact big_lt (by omega)) (g _ _ (Z.set hk) ⟨_, rfl, f.app (.one hx), by rw [List.length_append]; simp; omega⟩)
theorem q_extend {k : Nat} {w : V} {zs : List α} (Z : Sit Φ B H cs) (hk : cs[k]? = some (p, o)) (h : (cList R).rel B xs o) (hx : (dList R).rel B ys w) (hm : catM xs ys = some zs) (g : ∀ o' H', Sit Φ B H' (cs.set k (p, o')) → (cList R).rel B zs o' → Q .non H') : rExtend (.ref p) [w] H Q := by
  obtain ⟨l, rfl⟩ := catM_some hm
  obtain ⟨vs, rfl, f, _⟩ := h
  obtain ⟨q, us, rfl, hq, f2, l2⟩ := hx
  refine ⟨p, q, vs, us, rfl, rfl, Z.at' hk, Z.sub _ _ hq, by rw [← f.len, ← f2.len]; exact big_size l, g _ _ (Z.set hk) ⟨_, rfl, f.app f2, by rw [List.length_append]; exact l⟩⟩
theorem fa_dropLast {R' : α → V → Prop} {xs : List α} {vs : List V} (h : Fa R' xs vs) : Fa R' xs.dropLast vs.dropLast := by
  induction h with
  | nil => exact .nil
  | cons r t ih =>
    cases t with
    | nil => exact .nil
    | cons r2 t2 => exact .cons r ih
theorem q_pop {k : Nat} {x : α} (Z : Sit Φ B H cs) (hk : cs[k]? = some (p, o)) (h : (cList R).rel B xs o) (hm : xs.getLast? = some x) (g : ∀ w o' H', Sit Φ B H' (cs.set k (p, o')) → (cList R).rel B xs.dropLast o' → R.rel B x w → Q w H') : rPop (.ref p) [] H Q := by
  obtain ⟨vs, rfl, f, l⟩ := h
  rw [List.getLast?_eq_getElem?] at hm
  obtain ⟨w, hw, r⟩ := f.getL hm
  rw [f.len] at hw
  exact ⟨p, vs, w, rfl, rfl, Z.at' hk, hw, g w _ _ (Z.set hk) ⟨_, rfl, fa_dropLast f, by rw [List.length_dropLast]; omega⟩ r⟩
theorem q_insert {k : Nat} {x : α} {w : V} (Z : Sit Φ B H cs) (hk : cs[k]? = some (p, o)) (h : (cList R).rel B xs o) (hx : R.rel B x w) (hm : (if 0 ≤ i ∧ i < 2 ^ 63 ∧ xs.length < BIG then some (xs.take i.toNat ++ [x] ++ xs.drop i.toNat) else none) = some ys) (g : ∀ o' H', Sit Φ B H' (cs.set k (p, o')) → (cList R).rel B ys o' → Q .non H') : rInsert (.ref p) [.int i, w] H Q := by
  by_cases e : 0 ≤ i ∧ i < 2 ^ 63 ∧ xs.length < BIG
  · rw [if_pos e] at hm
    cases hm
    obtain ⟨vs, rfl, f, l⟩ := h
    have ft : ∀ n, Fa (R.rel B) (xs.take n) (vs.take n) ∧ Fa (R.rel B) (xs.drop n) (vs.drop n) := fun n => by
      clear l e Z hk g
      induction f generalizing n with
      | nil => simp; exact .nil
      | cons r t ih =>
        cases n with
        | zero => exact ⟨.nil, .cons r t⟩
        | succ n => exact ⟨.cons r (ih n).1, (ih n).2⟩
    refine w_insert (Z.at' hk) (by rw [← f.len]; exact big_lt (by omega)) e.1 e.2.1 (g _ _ (Z.set hk) ⟨_, rfl, ((ft _).1.app (.one hx)).app (ft _).2, ?_⟩)
    simp only [List.length_append, List.length_take, List.length_drop, List.length_cons, List.length_nil]
    omega
  · rw [if_neg e] at hm; cases hm
theorem q_cat {w : V} {zs : List α} (Z : Sit Φ B H cs) (h : (dList R).rel B xs v) (hx : (dList R).rel B ys w) (hm : catM xs ys = some zs) (k : ∀ v B' H', Sit Φ B' H' cs → Same B B' → (dList R).rel B' zs v → Q v H') : rCat v w H Q := by
  obtain ⟨l, rfl⟩ := catM_some hm
  obtain ⟨p, vs, rfl, hp, f, _⟩ := h
  obtain ⟨q, us, rfl, hq, f2, l2⟩ := hx
  exact w_cat (Z.sub _ _ hp) (Z.sub _ _ hq) (by rw [← f.len, ← f2.len]; exact big_size l) (nwL Z (f.app f2) (by rw [List.length_append]; exact l) k)
theorem rv_addS {a b c : Str} (h : addS a b = some c) : RV rAddS (.str a) (.str b) H (.str c) := fun Q q => by
  unfold addS at h
  by_cases e : a.length + b.length ≤ sizeLine
  · rw [if_pos e] at h; cases h; exact ⟨a, b, rfl, rfl, e, q⟩
  · rw [if_neg e] at h; cases h
end
end Mf

namespace Mf
open PySem L2 PyProof.Rows
def MidD (M : L2.St → Hp → Prop) : L2.St → Hp → Prop := M
def FUEL : Nat := 1000000
theorem ifT {c : Bool} {α : Type} {x y : α} (h : c = true) : (if c = true then x else y) = x := if_pos h
theorem ifF {c : Bool} {α : Type} {x y : α} (h : c = false) : (if c = true then x else y) = y := if_neg (by rw [h]; decide)
/-! ### the source of draws -/
structure Src3 where
  g : Int
  s : Int
  c : Int
def Src3.ok (s : Src3) (n : Int) : Prop := 0 ≤ s.s ∧ s.s < 2147483647 ∧ 0 ≤ s.c ∧ s.c ≤ n
def cSrc : Cl Src3 := ⟨fun _ s o => o = .lst [.int s.g, .int s.s, .int s.c], fun _ h => h⟩
def m_draw (s : Src3) (m : Int) : Option (Int × Src3) :=
  if (0 ≤ s.s ∧ s.s < 2147483647 ∧ 0 ≤ s.c ∧ s.c < 1000000000) ∧ 0 < m ∧ m < 2 ^ 1000 then
    (if 1 < s.g then some (s.g % m, ⟨s.g / m, s.s, s.c⟩)
    else some ((((s.s + 7919 * (s.c + 1)) ^ 5 % 2147483647 + (s.c + 1)) * 40692 % 2147483629) % m, ⟨s.g, s.s, s.c + 1⟩)) else none
theorem draw_ok {s : Src3} {n m : Int} (h : s.ok n) (hn : n < 1000000000) (h0 : 0 < m) (h1 : m < 2 ^ 1000) : ∃ v s', m_draw s m = some (v, s') ∧ 0 ≤ v ∧ v < m ∧ s'.ok (n + 1) := by
  unfold m_draw
  obtain ⟨a, b, c, d⟩ := h
  rw [if_pos ⟨⟨a, b, c, by omega⟩, h0, h1⟩]
  by_cases e : 1 < s.g
  · rw [if_pos e]
    exact ⟨_, _, rfl, Int.emod_nonneg _ (by omega), Int.emod_lt_of_pos _ h0, a, b, c, by show s.c ≤ n + 1; omega⟩
  · rw [if_neg e]
    exact ⟨_, _, rfl, Int.emod_nonneg _ (by omega), Int.emod_lt_of_pos _ h0, a, b, by show 0 ≤ s.c + 1; omega, by show s.c + 1 ≤ n + 1; omega⟩
def sp_drawM : Sp := fun vs H Q _ => ∃ (B : Hp) (x_0 : Src3) (p_0 : Addr) (o_0 : HO) (x_1 : Int) (r : Int × Src3), vs = [.ref p_0, .int x_1] ∧ Same B H ∧ (H p_0 = some o_0 ∧ B p_0 = none ∧ cSrc.rel B x_0 o_0) ∧ m_draw x_0 x_1 = some r ∧
  ∀ (v : V) (B' H' : Hp) (op_0 : HO), Sit ⟨B, H, [p_0]⟩ B' H' [(p_0, op_0)] → dInt.rel B' r.1 v → cSrc.rel B' r.2 op_0 → Q v H'
/-! ### signs of a text -/
def dChr : Rl Str := ⟨fun _ x v => v = .str x ∧ x.length = 1, fun _ h => h⟩
def charsM (z : Str) : Option (List Str) := if z.length ≤ BIG then some (chars z) else none
theorem charsM_some {z : Str} {cs : List Str} (h : charsM z = some cs) : z.length ≤ BIG ∧ cs = chars z := by
  unfold charsM at h
  by_cases e : z.length ≤ BIG
  · rw [if_pos e] at h; cases h; exact ⟨e, rfl⟩
  · rw [if_neg e] at h; cases h
theorem chars_len (z : Str) : (chars z).length = z.length := by unfold chars; rw [List.length_map, len_list]
theorem charsM_le {z : Str} {cs : List Str} (h : charsM z = some cs) : cs.length ≤ BIG := by
  obtain ⟨a, rfl⟩ := charsM_some h
  rw [chars_len]; exact a
theorem ixS_len {z c : Str} {i : Int} (h : ixS z i = some c) : c.length = 1 := by
  unfold ixS at h
  by_cases e : z.length ≤ sizeLine
  · rw [if_pos e] at h
    cases g : atI z.cps.toList i with
    | none => rw [g] at h; cases h
    | some n => rw [g] at h; cases h; rfl
  · rw [if_neg e] at h; cases h
section
variable {α : Type} {K : PySem.W.Frag} {R : Rl α} {B H : Hp} {σ : L2.St} {Q : VK} {v : V} {Φ : Fr} {cs : List (Addr × HO)} {p : Addr} {o : HO} {xs : List α} {i j : Int} {s z : Str} {ta tb td ty : TE}
theorem w_itSM {R' : It → Hp → Prop} {zs : List Str} (h : charsM z = some zs) (g : ∀ J, ItOk J B B zs dChr → R' J H) : WS R' (.str z) H := by
  obtain ⟨_, rfl⟩ := charsM_some h
  refine ⟨z, rfl, g _ ?_⟩
  have e : (chars z).length = z.cps.size := by unfold chars; simp
  refine ⟨_, _, by rw [e]; exact walk_str, fun _ _ => trivial, ?_⟩
  rintro i H x H' hi ⟨rfl, c, hc, rfl⟩
  refine ⟨⟨#[c]⟩, by unfold chars; simp [hc], fun Φ b cs S e => ⟨b, S, Same.rf _, rfl, rfl⟩⟩
theorem rv_niC {c t : Str} (h : c.length = 1) : RV (rInC true) (.str c) (.str t) H (.bl (!decide (c ∈ chars t))) := fun Q q => by
  have e : ∃ n, c = ⟨#[n]⟩ := by
    obtain ⟨⟨l⟩⟩ := c
    match l, h with
    | [n], _ => exact ⟨n, rfl⟩
  obtain ⟨n, rfl⟩ := e
  refine ⟨n, t, rfl, rfl, ?_⟩
  have : decide (n ∈ t.cps.toList) = decide ((⟨#[n]⟩ : Str) ∈ chars t) := by
    refine decide_eq_decide.mpr ⟨fun z => List.mem_map.mpr ⟨n, z, rfl⟩, fun z => ?_⟩
    obtain ⟨m, hm, e⟩ := List.mem_map.mp z
    injection e with e
    have : m = n := by simpa using e
    exact this ▸ hm
  simp only [if_true]
  rw [this]; exact q
theorem tupC {a : Addr} {zs : List Str} (h : ∀ H, SqT K H a (zs.map V.str)) (hl : zs.length ≤ BIG) : (dTup K dStr).rel B zs (.ref a) := ⟨a, _, rfl, h _, strs_fa, hl⟩
theorem modM_some {k : Int} (h : modM i j = some k) : 0 < j ∧ k = i % j := by
  unfold modM at h
  by_cases e : 0 < j
  · rw [if_pos e] at h; cases h; exact ⟨e, rfl⟩
  · rw [if_neg e] at h; cases h
/-! None -/
theorem rv_isN {R : Rl α} {x : Option α} (h : (dOpt R).rel B x v) : RV rIsN v .non H (.bl x.isNone) := fun Q q => by
  cases x with
  | none => cases (show v = .non from h); exact ⟨rfl, q⟩
  | some a => exact ⟨rfl, by rw [decide_eq_false h.2]; exact q⟩
theorem rv_notN {R : Rl α} {x : Option α} (h : (dOpt R).rel B x v) : RV rNotN v .non H (.bl (!x.isNone)) := fun Q q => by
  cases x with
  | none => cases (show v = .non from h); exact ⟨rfl, q⟩
  | some a => exact ⟨rfl, by rw [decide_eq_false h.2]; exact q⟩
/-! cuts of texts -/
def cutM (z : Str) (lo hi : Option Int) : Option Str := if z.length ≤ sizeLine then some (cutS z lo hi) else none
theorem q_cut {lo hi : Option Int} {r : Str} (h : cutM z lo hi = some r) (g : Q (.str r) H) : rSlS (.str z) lo hi H Q := by
  unfold cutM at h
  by_cases e : z.length ≤ sizeLine
  · rw [if_pos e] at h; cases h; exact ⟨z, rfl, e, g⟩
  · rw [if_neg e] at h; cases h
def joinM (z : Str) (zs : List Str) : Option Str := if (zs.map (·.length)).sum + zs.length * z.length ≤ 16777216 then some (Txt.join z zs) else none
theorem q_join {zs : List Str} {r : Str} (h : Sq K dStr B H zs v) (hm : joinM z zs = some r) (g : Q (.str r) H) : rJoin K (.str z) [v] H Q := by
  obtain ⟨p, vs, rfl, h, f, _⟩ := h
  cases fa_str f
  unfold joinM at hm
  by_cases e : (zs.map (·.length)).sum + zs.length * z.length ≤ 16777216
  · rw [if_pos e] at hm; cases hm
    exact ⟨z, p, zs, rfl, rfl, h, e, g⟩
  · rw [if_neg e] at hm; cases hm
def insM (xs : List α) (i : Int) (x : α) : Option (List α) := if 0 ≤ i ∧ i < 2 ^ 63 ∧ xs.length < BIG then some (xs.take i.toNat ++ [x] ++ xs.drop i.toNat) else none
def strI (i : Int) : Option Str := if i.natAbs.log2 < 1920 then some (toString i) else none
theorem rstrI {r : Str} (h : strI i = some r) : ∀ Q : VK, Q (.str r) H → rStrI [.int i] H Q := fun Q q => by
  unfold strI at h
  by_cases e : i.natAbs.log2 < 1920
  · rw [if_pos e] at h; cases h; exact ⟨i, rfl, e, q⟩
  · rw [if_neg e] at h; cases h
/-! dicts by texts -/
def dGet (kvs : List (Str × α)) (k : Str) : Option α := (kvs.find? fun x => decide (x.1 = k)).map (·.2)
def dHas (kvs : List (Str × α)) (k : Str) : Bool := (dGet kvs k).isSome
theorem faD_get {kvs : List (Str × α)} {ws : List (Key × V)} (h : FaD R B kvs ws) (k : Str) : match dGet kvs k with
    | none => valV ws (Sum.inr k) = none
    | some x => ∃ w, valV ws (Sum.inr k) = some w ∧ R.rel B x w := by
  unfold dGet
  induction h with
  | nil => rfl
  | @cons a b as bs' r t ih =>
    by_cases e : a.1 = k
    · simp only [List.find?_cons, e, decide_true, Option.map_some]
      exact ⟨b.2, valV_pos (by rw [r.1, e]), r.2⟩
    · simp only [List.find?_cons, e, decide_false]
      rw [valV_neg (fun z => e (by rw [r.1] at z; injection z))]
      exact ih
theorem dget_D {kvs : List (Str × α)} {k : Str} {x : α} (h : (dDict R).rel B kvs v) (e : dGet kvs k = some x) : ∃ w, R.rel B x w ∧ ∀ H, Same B H → ∃ a, v = .ref a ∧ DGet H a (.str k) (some w) := by
  obtain ⟨p, ws, rfl, h, f, _⟩ := h
  have q := faD_get f k
  rw [e] at q
  obtain ⟨w, hw, r⟩ := q
  exact ⟨w, r, fun H s => ⟨p, rfl, by rw [← hw]; exact DGet.k (k := Sum.inr k) (s _ _ h)⟩⟩
theorem dget_C {kvs : List (Str × α)} {k : Str} {x : α} (h : (cDict R).rel B kvs o) (e : dGet kvs k = some x) : ∃ w, R.rel B x w ∧ ∀ H, H p = some o → ∃ a, V.ref p = .ref a ∧ DGet H a (.str k) (some w) := by
  obtain ⟨ws, rfl, f, _⟩ := h
  have q := faD_get f k
  rw [e] at q
  obtain ⟨w, hw, r⟩ := q
  exact ⟨w, r, fun H s => ⟨p, rfl, by rw [← hw]; exact DGet.k (k := Sum.inr k) s⟩⟩
theorem Ev.dget {w : V} {k : Str} (hd : Ev td σ H v) (hy : Ev ty σ H (.str k)) (h : ∃ a, v = .ref a ∧ DGet H a (.str k) (some w)) : Ev (tDGet td ty) σ H w := fun Q q => hd _ (hy _ (let ⟨a, e, g⟩ := h; ⟨a, w, e, g, q⟩))
def Dq (R : Rl α) (B H : Hp) (kvs : List (Str × α)) (v : V) : Prop := ∃ p ws, v = .ref p ∧ H p = some (.dK ws) ∧ FaD R B kvs ws
theorem dqD {kvs : List (Str × α)} (h : (dDict R).rel B kvs v) (s : Same B H) : Dq R B H kvs v := let ⟨p, ws, a, b, c, _⟩ := h; ⟨p, ws, a, s _ _ b, c⟩
theorem dqC {kvs : List (Str × α)} (h : (cDict R).rel B kvs o) (hp : H p = some o) : Dq R B H kvs (.ref p) := by
  obtain ⟨ws, rfl, f, _⟩ := h
  exact ⟨p, ws, rfl, hp, f⟩
theorem Dq.has {kvs : List (Str × α)} {k : Str} (h : Dq R B H kvs v) : ∃ a o, v = .ref a ∧ DGet H a (.str k) o ∧ o.isSome = dHas kvs k := by
  obtain ⟨p, ws, rfl, h, f⟩ := h
  refine ⟨p, _, rfl, DGet.k (k := Sum.inr k) h, ?_⟩
  have q := faD_get f k
  unfold dHas
  cases e : dGet kvs k with
  | none => rw [e] at q; simp [q]
  | some x => rw [e] at q; obtain ⟨w, hw, _⟩ := q; simp [hw]
theorem Ev.din {kvs : List (Str × α)} {k : Str} (hy : Ev ty σ H (.str k)) (hd : Ev td σ H v) (h : Dq R B H kvs v) : Ev (tDIn ty td) σ H (.bl (dHas kvs k)) := fun Q q => hy _ (hd _ (let ⟨a, o, e, g, b⟩ := h.has (k := k); ⟨a, o, e, g, by rw [b]; exact q⟩))
theorem Ev.dni {kvs : List (Str × α)} {k : Str} (hy : Ev ty σ H (.str k)) (hd : Ev td σ H v) (h : Dq R B H kvs v) : Ev (tDNotIn ty td) σ H (.bl (!dHas kvs k)) := fun Q q => hy _ (hd _ (let ⟨a, o, e, g, b⟩ := h.has (k := k); ⟨a, o, e, g, by rw [b]; exact q⟩))
theorem rlen_d {kvs : List (Str × α)} (h : Dq R B H kvs v) : ∀ Q : VK, Q (.int (kvs.length : Int)) H → rLenD [v] H Q := fun Q q => by
  obtain ⟨p, ws, rfl, h, f⟩ := h
  exact ⟨p, ws, rfl, h, by rw [← f.len]; exact q⟩
/-! a walked own list -/
theorem Sit.withB {b : Hp} (Z : Sit Φ b H cs) (e : Same B b) {i : Nat} (h : cs[i]? = some (p, o)) : Same (upd B p o) H := fun a u q => by
  by_cases z : a = p
  · subst z; rw [upd_same] at q; rw [Z.at' h]; exact q
  · rw [upd_ne z] at q; exact Z.sub a u (e a u q)
theorem Sit.withS {b : Hp} {cs' : List (Addr × HO)} (Z : Sit Φ b H cs') (e : Same B b) (q : cs <:+ cs') {i : Nat} (h : cs[i]? = some (p, o)) : Same (upd B p o) H := by
  obtain ⟨j, hj⟩ := List.getElem?_of_mem (q.subset (List.mem_of_getElem? h))
  exact Z.withB e hj
theorem Ev.fld {K : PySem.W.Frag} {f : Str} {w : V} (ha : Ev ta σ H v) (h : ∃ a C dx fs, v = .ref a ∧ H a = some (.ins C dx fs) ∧ Cls K C ∧ NoAttr K C f ∧ fs.lookup f = some w) : Ev (tFld K ta f) σ H w := fun Q q => ha _ (let ⟨a, C, dx, fs, e, h1, h2, h3, h4⟩ := h; ⟨a, C, dx, fs, w, e, h1, h2, h3, h4, q⟩)
end
end Mf
namespace Mm
open PySem L2 Mf
theorem use_draw {Φ : Fr} {B H : Hp} {cs : List (Addr × HO)} {Q : VK} {E : XK} {r : Int × Src3} {x_0 : Src3} {p_0 : Addr} {o_0 : HO} {i1 : Nat} {x_1 : Int} {v_1 : V} (Z : Sit Φ B H cs) (hc_0 : cs[i1]? = some (p_0, o_0)) (h_0 : cSrc.rel B x_0 o_0) (h_1 : dInt.rel B x_1 v_1) (hm : m_draw x_0 x_1 = some r) (k : ∀ (v : V) (B' H' : Hp) (op_0 : HO), Sit Φ B' H' (cs.set i1 (p_0, op_0)) → Same B B' → dInt.rel B' r.1 v → cSrc.rel B' r.2 op_0 → Q v H') : sp_drawM ([.ref p_0, v_1] ++ []) H Q E := by
  cases h_1
  exact ⟨B, x_0, p_0, o_0, x_1, r, rfl, Z.sub, ⟨Z.at' hc_0, Z.atB hc_0, h_0⟩, hm, fun v B' H' op_0 Z' h qp_0 => k v B' H' op_0 (Z.call1 hc_0 Z') Z'.grow h qp_0⟩
end Mm

namespace Mf
open PySem L2 PyProof.Rows
/-! ### objects of the program's classes -/
structure Fl (α : Type) where
  rel : Hp → α → List (Str × V) → Prop
  mono : ∀ {H H' : Hp} {x : α} {fs : List (Str × V)}, Same H H' → rel H x fs → rel H' x fs
def dObj {α : Type} (C : Addr) (F : Fl α) : Rl α := ⟨fun H x v => ∃ p dx fs, v = .ref p ∧ H p = some (.ins C dx fs) ∧ F.rel H x fs, fun e ⟨p, dx, fs, a, b, c⟩ => ⟨p, dx, fs, a, e _ _ b, F.mono e c⟩⟩
/-- __init__: from the arguments (pre) to the fields (post) -/
def SpI (C : Addr) (pre : Hp → List V → Prop) (post : Hp → List (Str × V) → Prop) : Sp := fun vs H Q _ => ∃ B x dx ws, vs = .ref x :: ws ∧ Same B H ∧ H x = some (.ins C dx []) ∧ B x = none ∧ pre B ws ∧
  ∀ B' H' fs, Sit ⟨B, H, [x]⟩ B' H' [(x, .ins C dx fs)] → post B' fs → Q .non H'
section
variable {α : Type} {K : PySem.W.Frag} {C : Addr} {F : Fl α} {Φ : Fr} {B H : Hp} {cs : List (Addr × HO)} {Q : VK} {E : XK} {r : α} {vs : List V} {pre : Hp → List V → Prop} {post : Hp → List (Str × V) → Prop}
theorem mkObj (Z : Sit Φ B H cs) (hpre : ∀ B', Same B B' → pre B' vs) (hpost : ∀ B' fs, post B' fs → F.rel B' r fs) (k : ∀ v B' H', Sit Φ B' H' cs → Same B B' → (dObj C F).rel B' r v → Q v H') : MkB C (SpI C pre post) E Q vs H := by
  intro x dx nx ndx ne
  have Z1 := Z.put (o := .own x) ndx
  have nx1 : upd H dx (.own x) x = none := by rw [upd_ne (Ne.symm ne)]; exact nx
  have Z2 := Z1.own (o := .ins C dx []) nx1
  refine ⟨_, x, dx, vs, rfl, Z2.sub, upd_same, Z2.atB (i := 0) rfl, hpre _ (Z.updB ndx), fun B' H' fs Z' q => ⟨rfl, ?_⟩⟩
  have Z3 : Sit Φ B' H' ((x, .ins C dx fs) :: cs) := Z2.call1 (i := 0) rfl Z'
  have Z4 : Sit Φ (upd B' x (.ins C dx fs)) H' cs := Z3.frz (i := 0) rfl (Z1.fresh nx1)
  have s3 := Z3.frzS (i := 0) rfl
  exact k _ _ _ Z4 ((Z.updB ndx).tr (Z'.grow.tr s3)) ⟨x, dx, fs, rfl, upd_same, F.mono s3 (hpost _ _ q)⟩
theorem q_sfld {i : Nat} {p dx : Addr} {f : Str} {y : V} {fs fs' : List (Str × V)} {R : Hp → Prop} (Z : Sit Φ B H cs) (hk : cs[i]? = some (p, .ins C dx fs)) (hc : Cls K C) (hn : NoAttr K C f) (hl : fs.length < 1000) (hp : putF f y fs = fs') (g : ∀ H', Sit Φ B H' (cs.set i (p, .ins C dx fs')) → R H') :
    ∃ a C dx fs, V.ref p = .ref a ∧ H a = some (.ins C dx fs) ∧ Cls K C ∧ NoAttr K C f ∧ fs.length < 1000 ∧ R (upd H a (.ins C dx (putF f y fs))) :=
  ⟨p, C, dx, fs, rfl, Z.at' hk, hc, hn, hl, g _ (by rw [hp]; exact Z.set hk)⟩
theorem obj_ty {x : α} {v : V} (ic : C8.InsC K C) (h : (dObj C F).rel H x v) : TyX K H v (.ref C) := by
  obtain ⟨p, dx, fs, rfl, h, _⟩ := h
  exact tyx_i ic h
end
/-! ### data compared -/
def Dr (K : PySem.W.Frag) {α : Type} (R : Rl α) (d : α → PyData) : Prop := ∀ {H : Hp} {x : α} {v : V}, R.rel H x v → Dp K H v (d x)
section
variable {α β γ : Type} {K : PySem.W.Frag} {R : Rl α} {S : Rl β} {T : Rl γ} {d : α → PyData} {e : β → PyData} {t : γ → PyData} {H B : Hp} {v w : V} {x y : α} {Q : VK}
theorem drInt : Dr K dInt PyData.int := fun h => by cases h; exact .int _
theorem drStr : Dr K dStr PyData.str := fun h => by cases h; exact .str _
theorem drBool : Dr K dBool PyData.bool := fun h => by cases h; exact .bl _
theorem drAny : Dr K (dAny K) id := fun h => h
theorem dr_fa (D : Dr K R d) {xs : List α} {vs : List V} (h : Fa (R.rel H) xs vs) : DpAll K H vs (xs.map d) := by
  induction h with
  | nil => exact .nil
  | cons r _ ih => exact .cons (D r) ih
theorem drL (D : Dr K R d) : Dr K (dList R) (fun xs => .list (xs.map d)) := fun ⟨p, vs, e, h, f, _⟩ => by
  cases e; exact .lst (SqL.of h) (dr_fa D f)
theorem drT (D : Dr K R d) : Dr K (dTup K R) (fun xs => .tuple (xs.map d)) := fun ⟨p, vs, e, h, f, _⟩ => by
  cases e; exact .tup h (dr_fa D f)
theorem dr1 (D : Dr K R d) : Dr K (dOne K R) (fun x => .tuple [d x]) := fun ⟨p, a, e, h, r⟩ => by
  cases e; exact .tup h (.cons (D r) .nil)
theorem dr2 (D : Dr K R d) (E : Dr K S e) : Dr K (dPair K R S) (fun x => .tuple [d x.1, e x.2]) := fun ⟨p, a, b, q, h, r, s⟩ => by
  cases q; exact .tup h (.cons (D r) (.cons (E s) .nil))
theorem dr3 (D : Dr K R d) (E : Dr K S e) (F : Dr K T t) : Dr K (dTrip K R S T) (fun x => .tuple [d x.1, e x.2.1, t x.2.2]) := fun ⟨p, a, b, c, q, h, r, s, u⟩ => by
  cases q; exact .tup h (.cons (D r) (.cons (E s) (.cons (F u) .nil)))
/-- == of data, where the model tells it -/
def eqM (d : α → PyData) (x y : α) : Option Bool := if SeqAt.shaped (d x) = true ∧ SeqAt.shaped (d y) = true then some (PyData.eqv (d x) (d y)) else none
def eqD (x y : PyData) : Option Bool := if SeqAt.shaped x = true ∧ SeqAt.shaped y = true then some (PyData.eqv x y) else none
theorem rv_eqD {x : α} {y : β} {b : Bool} (D : Dr K R d) (E : Dr K S e) (h1 : R.rel H x v) (h2 : S.rel H y w) (hm : eqD (d x) (e y) = some b) : RV (rEqD K) v w H (.bl b) := fun Q q => by
  unfold eqD at hm
  by_cases c : SeqAt.shaped (d x) = true ∧ SeqAt.shaped (e y) = true
  · rw [if_pos c] at hm; cases hm; exact ⟨_, _, D h1, E h2, c.1, c.2, q⟩
  · rw [if_neg c] at hm; cases hm
theorem rv_neD {x : α} {y : β} {b : Bool} (D : Dr K R d) (E : Dr K S e) (h1 : R.rel H x v) (h2 : S.rel H y w) (hm : eqD (d x) (e y) = some b) : RV (rNeD K) v w H (.bl (!b)) := fun Q q => by
  unfold eqD at hm
  by_cases c : SeqAt.shaped (d x) = true ∧ SeqAt.shaped (e y) = true
  · rw [if_pos c] at hm; cases hm; exact ⟨_, _, D h1, E h2, c.1, c.2, q⟩
  · rw [if_neg c] at hm; cases hm
/-- `in` of data -/
def inD (x : PyData) (ys : List PyData) : Option Bool := if SeqAt.shaped x = true ∧ SeqAt.shaped (.list ys) = true then some (ys.any fun z => PyData.eqv z x) else none
theorem rv_inD {x : α} {ys : List β} {b : Bool} (D : Dr K R d) (E : Dr K (dList S) (fun xs => .list (xs.map e))) (h1 : R.rel H x v) (h2 : (dList S).rel H ys w) (hm : inD (d x) (ys.map e) = some b) : RV (rInD K) v w H (.bl b) := fun Q q => by
  unfold inD at hm
  by_cases c : SeqAt.shaped (d x) = true ∧ SeqAt.shaped (.list (ys.map e)) = true
  · rw [if_pos c] at hm; cases hm; exact ⟨_, _, D h1, E h2, c.1, c.2, q⟩
  · rw [if_neg c] at hm; cases hm
theorem rv_niD {x : α} {ys : List β} {b : Bool} (D : Dr K R d) (E : Dr K (dList S) (fun xs => .list (xs.map e))) (h1 : R.rel H x v) (h2 : (dList S).rel H ys w) (hm : inD (d x) (ys.map e) = some b) : RV (rNotInD K) v w H (.bl (!b)) := fun Q q => by
  unfold inD at hm
  by_cases c : SeqAt.shaped (d x) = true ∧ SeqAt.shaped (.list (ys.map e)) = true
  · rw [if_pos c] at hm; cases hm; exact ⟨_, _, D h1, E h2, c.1, c.2, q⟩
  · rw [if_neg c] at hm; cases hm
/-- == of dicts of data -/
def eqDict (d : α → PyData) (xs ys : List (Str × α)) : Option Bool := if (∀ x ∈ xs, SeqAt.shaped (d x.2) = true) ∧ (∀ x ∈ ys, SeqAt.shaped (d x.2) = true) then some (xs.length == ys.length && xs.all fun x => match dGet ys x.1 with | none => false | some y => PyData.eqv (d x.2) (d y)) else none
theorem hits_of (D : Dr K R d) {ys : List (Str × α)} {ls : List (Key × V)} (hy : FaD R H ys ls) (sy : ∀ x ∈ ys, SeqAt.shaped (d x.2) = true) : ∀ {xs : List (Str × α)} {ks : List (Key × V)}, FaD R H xs ks → (∀ x ∈ xs, SeqAt.shaped (d x.2) = true) → HitsV K H ls ks (xs.all fun x => match dGet ys x.1 with | none => false | some y => PyData.eqv (d x.2) (d y)) := fun {xs ks} hx => by
  unfold FaD at hx
  induction hx with
  | nil => intro _; exact .nil
  | @cons a b as bs' r t ih =>
    intro sx
    obtain ⟨k, v⟩ := b
    obtain ⟨rk, rv⟩ := r
    cases (show k = Sum.inr a.1 from rk)
    have q := faD_get hy a.1
    rw [List.all_cons]
    cases e : dGet ys a.1 with
    | none =>
      rw [e] at q
      simp only [Bool.false_and]
      exact .miss q
    | some y =>
      rw [e] at q
      obtain ⟨w, hw, rw'⟩ := q
      have my : ∃ z ∈ ys, z.2 = y := by
        unfold dGet at e
        cases f : ys.find? (fun x => decide (x.1 = a.1)) with
        | none => rw [f] at e; cases e
        | some z => rw [f] at e; cases e; exact ⟨z, List.mem_of_find?_eq_some f, rfl⟩
      obtain ⟨z, hz, rfl⟩ := my
      exact .hit hw (D rv) (D rw') (sx a List.mem_cons_self) (sy z hz) (ih fun x hx => sx x (List.mem_cons_of_mem _ hx))
theorem rv_eqDict {b : Bool} {xs ys : List (Str × α)} (D : Dr K R d) (h1 : (dDict R).rel H xs v) (h2 : (dDict R).rel H ys w) (hm : eqDict d xs ys = some b) : RV (rEqDD K) v w H (.bl b) := fun Q q => by
  unfold eqDict at hm
  obtain ⟨p, ks, rfl, hp, f, _⟩ := h1
  obtain ⟨p', ls, rfl, hp', f', _⟩ := h2
  by_cases c : (∀ x ∈ xs, SeqAt.shaped (d x.2) = true) ∧ (∀ x ∈ ys, SeqAt.shaped (d x.2) = true)
  · rw [if_pos c] at hm; cases hm
    refine ⟨p, p', ks, ls, _, rfl, rfl, hp, hp', fun _ => hits_of D f' c.2 f c.1, ?_⟩
    rw [← f.len, ← f'.len]; exact q
  · rw [if_neg c] at hm; cases hm
end
/-! ### isinstance -/
section
variable {K : PySem.W.Frag} {H B : Hp} {C : Addr} {α : Type} {R : Rl α} {v : V} {s : Str} {i : Int} {b : Bool}
theorem isi_s {T : String} (hk : PySem.W.kitOne K (.type "str") (.type T) = some b) : ∀ Q : VK, Q (.bl b) H → rIsi K [.str s, .ty T] H Q := fun Q q => w_isi (.ty T) (.base (.str s)) hk q
theorem isi_sC (hk : PySem.W.kitOne K (.type "str") (.ref C) = some b) : ∀ Q : VK, Q (.bl b) H → rIsi K [.str s, .ref C] H Q := fun Q q => w_isi (.own C) (.base (.str s)) hk q
theorem isi_i {T : String} (hk : PySem.W.kitOne K (.type "int") (.type T) = some b) : ∀ Q : VK, Q (.bl b) H → rIsi K [.int i, .ty T] H Q := fun Q q => w_isi (.ty T) (.base (.int i)) hk q
theorem isi_qC {xs : List α} (h : Sq K R B H xs v) (kl : PySem.W.kitOne K (.type "list") (.ref C) = some b) (kt : PySem.W.kitOne K (.type "tuple") (.ref C) = some b) : ∀ Q : VK, Q (.bl b) H → rIsi K [v, .ref C] H Q := fun Q q => by
  obtain ⟨p, vs, rfl, h | h, _, _⟩ := h
  · exact w_isi (.own C) (tyx_l h) kl q
  · exact w_isi (.own C) (tyx_t h) kt q
theorem isi_o {F : Fl α} {x : α} {D : Addr} (ic : C8.InsC K C) (h : (dObj C F).rel B x v) (s : Same B H) (hk : PySem.W.kitOne K (.ref C) (.ref D) = some b) : ∀ Q : VK, Q (.bl b) H → rIsi K [v, .ref D] H Q := fun Q q => w_isi (.own D) (obj_ty ic ((dObj C F).mono s h)) hk q
end
/-! ### f-strings -/
def fcat (acc y : Str) : Option Str := if (acc ++ y).length ≤ sizeLine then some (acc ++ y) else none
def fmtS (y : Str) : Option Str := if y.length ≤ sizeLine then some y else none
section
variable {K : PySem.W.Frag} {σ : L2.St} {H : Hp} {Q : VK} {te : TE} {z : Str} {i : Int} {QS : Str → Hp → Prop} {t : TE} {ts : List TE} {acc r : Str}
theorem q_fmtS {y : Str} (h : fmtS z = some y) (g : Q (.str y) H) : (∃ y : Str, V.str z = .str y ∧ y.length ≤ sizeLine ∧ Q (.str y) H) ∨ ∃ i : Int, V.str z = .int i ∧ i.natAbs.log2 < 1920 ∧ Q (.str (toString i)) H := by
  unfold fmtS at h
  by_cases e : z.length ≤ sizeLine
  · rw [if_pos e] at h; cases h; exact .inl ⟨z, rfl, e, g⟩
  · rw [if_neg e] at h; cases h
theorem q_fmtI {y : Str} (h : strI i = some y) (g : Q (.str y) H) : (∃ y : Str, V.int i = .str y ∧ y.length ≤ sizeLine ∧ Q (.str y) H) ∨ ∃ j : Int, V.int i = .int j ∧ j.natAbs.log2 < 1920 ∧ Q (.str (toString j)) H := by
  unfold strI at h
  by_cases e : i.natAbs.log2 < 1920
  · rw [if_pos e] at h; cases h; exact .inr ⟨i, rfl, e, g⟩
  · rw [if_neg e] at h; cases h
def JsQ (ts : List TE) (acc : Str) (σ : L2.St) (QS : Str → Hp → Prop) (x : V) (H : Hp) : Prop := ∃ y : Str, x = .str y ∧ (acc ++ y).length ≤ sizeLine ∧ tJs ts (acc ++ y) σ H QS
def FmQ (Q : VK) (x : V) (H : Hp) : Prop := (∃ y : Str, x = .str y ∧ y.length ≤ sizeLine ∧ Q (.str y) H) ∨ ∃ i : Int, x = .int i ∧ i.natAbs.log2 < 1920 ∧ Q (.str (toString i)) H
theorem x_js (h : t σ H fun x H1 => JsQ ts acc σ QS x H1) : tJs (t :: ts) acc σ H QS := h
theorem x_fmt (h : te σ H fun x H1 => FmQ Q x H1) : tFmt te σ H Q := h
theorem x_fmtS {y : Str} (h : fmtS z = some y) (g : Q (.str y) H) : FmQ Q (.str z) H := q_fmtS h g
theorem x_fmtI {y : Str} (h : strI i = some y) (g : Q (.str y) H) : FmQ Q (.int i) H := q_fmtI h g
theorem x_jx (h : fcat acc z = some r) (g : tJs ts r σ H QS) : JsQ ts acc σ QS (.str z) H := by
  unfold fcat at h
  by_cases e : (acc ++ z).length ≤ sizeLine
  · rw [if_pos e] at h; cases h; exact ⟨z, rfl, e, g⟩
  · rw [if_neg e] at h; cases h
end
/-! ### sets of texts, sorted -/
def nsetM (xs : List Str) : Option (List Str) := if xs.length + 1 < 4096 ∧ (addAll xs).length < 64 then some (nset xs) else none
section
variable {w : World} {K : PySem.W.Frag} {α : Type} {R : Rl α} {J : It} {Bi B H : Hp} {as : List α} {Φ : Fr} {cs : List (Addr × HO)} {g : TG} {tt : TT} {te : TE} {vs : List Nat} {σ : L2.St} {Q : VK}
theorem scR (it : ItOk J Bi B as R) (S0 : Sit Φ B H cs) {zs : List Str} (hl : zs.length + 1 < 4096) (f : α → Str) (hz : zs = as.map f := by rfl)
    (hB : ∀ b H' cs', Sit Φ b H' cs' → Same B b → cs <:+ cs' → Same Bi H')
    (hs : ∀ D o a x b0 b H', a ∈ as → Sit Φ b H' ((D, o) :: cs) → Same B b0 → Same b0 b → R.rel b a x → ∀ RR : Option V → Hp → Prop, RR (some (.str (f a))) H' → Turn1 g tt te vs σ x H' RR)
    (hd : ∀ D b H', Sit Φ b H' ((D, TxtO w D (addAll (as.map f))) :: cs) → Same B b → Φ.H D = none → Q (.ref D) H') : ScB w J g tt te vs σ Q H := by
  rw [hz, List.length_map] at hl
  obtain ⟨G, Y, wk, hG, hY⟩ := it
  intro D nD
  refine ⟨fun i m H' => m = as.length - i ∧ i ≤ as.length ∧ ∃ b, Sit Φ b H' ((D, TxtO w D (addAll ((as.take i).map f))) :: cs) ∧ Same B b, ⟨_, rfl, Nat.zero_le _, B, S0.own nD, Same.rf _⟩, ?_⟩
  rintro i m H' ⟨rfl, hi, b, S, e⟩
  have q := hG H' (hB b H' _ S e (List.suffix_cons _ _))
  by_cases hlt : i < as.length
  · refine .inr ⟨wk.goes i H' hlt q, fun H'' => ∃ b, Sit Φ b H'' ((D, TxtO w D (addAll ((as.take (i + 1)).map f))) :: cs) ∧ Same B b, fun H'' ⟨b', S', e'⟩ => ⟨as.length - (i + 1), by omega, rfl, by omega, b', S', e'⟩, fun x H2 y => ?_⟩
    obtain ⟨a, ha, q2⟩ := hY i H' x H2 hlt (wk.yields i H' x H2 hlt q y)
    obtain ⟨b', S', e', r⟩ := q2 Φ b _ S e
    have t := hs D _ a x b b' H2 (List.mem_of_getElem? ha) S' e e' r (fun r H4 => match r with
      | some y => ∃ (z : Str) (xs0 : List Str), y = V.str z ∧ H4 D = some (TxtO w D xs0) ∧ xs0.length + 1 < scanBound ∧ ∃ b, Sit Φ b (upd H4 D (TxtO w D (addT xs0 z))) ((D, TxtO w D (addAll ((as.take (i + 1)).map f))) :: cs) ∧ Same B b
      | none => ∃ b, Sit Φ b H4 ((D, TxtO w D (addAll ((as.take (i + 1)).map f))) :: cs) ∧ Same B b) ⟨f a, _, rfl, S'.at' (i := 0) rfl, ?_, b', ?_, e.tr e'⟩
    · exact t
    · have := foldl_len ((as.take i).map f) []
      rw [List.length_map, List.length_take] at this
      simp only [List.length_nil] at this
      unfold addAll
      show _ < 4096
      omega
    · have e2 : addAll ((as.take (i + 1)).map f) = addT (addAll ((as.take i).map f)) (f a) := by
        rw [take_next ha, List.map_append]
        unfold addAll
        rw [List.foldl_append]
        rfl
      rw [e2]
      exact S'.set (i := 0) rfl
  · have ei : i = as.length := by omega
    subst ei
    rw [List.take_length] at S
    exact .inl ⟨wk.stops H' q, hd D b H' S e (S0.fresh nD)⟩
theorem q_sortT {D : Addr} {xs ys : List Str} (Z : Sit Φ B H ((D, TxtO w D (addAll xs)) :: cs)) (hm : nsetM xs = some ys) (k : ∀ v B' H', Sit Φ B' H' cs → Same B B' → (dList dStr).rel B' ys v → Q v H') : rSortT w [.ref D] H Q := by
  unfold nsetM at hm
  by_cases c : xs.length + 1 < 4096 ∧ (addAll xs).length < 64
  · rw [if_pos c] at hm; cases hm
    refine ⟨D, addAll xs, rfl, Z.at' (i := 0) rfl, c.2, fun ys p pm so np => ?_⟩
    have e : ys = nset xs := sorted_is pm so
    subst e
    have l : (nset xs).length < 64 := by unfold nset; rw [srt_len]; exact c.2
    exact k _ _ _ (Z.put np).tl (Z.updB np) ⟨p, _, rfl, upd_same, strs_fa, by unfold BIG; omega⟩
  · rw [if_neg c] at hm; cases hm
theorem nsetM_lt {xs ys : List Str} (hm : nsetM xs = some ys) : xs.length + 1 < 4096 := by
  unfold nsetM at hm
  by_cases c : xs.length + 1 < 4096 ∧ (addAll xs).length < 64
  · exact c.1
  · rw [if_neg c] at hm; cases hm
end
/-! ### dict comprehensions -/
def dPut {α : Type} (kvs : List (Str × α)) (k : Str) (v : α) : List (Str × α) := if (kvs.any fun x => decide (x.1 = k)) = true then kvs.map (fun x => if x.1 = k then (x.1, v) else x) else kvs ++ [(k, v)]
theorem dPut_len {α : Type} (kvs : List (Str × α)) (k : Str) (v : α) : (dPut kvs k v).length ≤ kvs.length + 1 := by
  unfold dPut
  split
  · rw [List.length_map]; omega
  · rw [List.length_append]; simp
def dcL {α β : Type} (f : α → Option (Option (Str × β))) : List α → List (Str × β) → Option (List (Str × β))
  | [], kvs => some kvs
  | a :: as, kvs => (f a).bind fun o => dcL f as (match o with | none => kvs | some x => dPut kvs x.1 x.2)
theorem faD_put {α : Type} {R : Rl α} {B : Hp} {xs : List (Str × α)} {kvs : List (Key × V)} {k : Str} {x : α} {v : V} (h : FaD R B xs kvs) (hx : R.rel B x v) : FaD R B (dPut xs k x) (putK kvs (Sum.inr k) v) := by
  have ea : (xs.any fun z => decide (z.1 = k)) = (kvs.any fun z => decide (z.1 = (Sum.inr k : Key))) := by
    clear hx
    unfold FaD at h
    induction h with
    | nil => rfl
    | @cons a b as bs' r t ih =>
      rw [List.any_cons, List.any_cons, ih]
      congr 1
      refine decide_eq_decide.mpr ⟨fun e => by rw [r.1, e], fun e => by rw [r.1] at e; injection e⟩
  unfold dPut putK
  rw [ea]
  by_cases c : (kvs.any fun z => decide (z.1 = (Sum.inr k : Key))) = true
  · rw [if_pos c, if_pos c]
    clear c ea
    unfold FaD at h ⊢
    induction h with
    | nil => exact .nil
    | @cons a b as bs' r t ih =>
      refine .cons ?_ ih
      dsimp only
      by_cases e : a.1 = k
      · rw [if_pos e, if_pos (by rw [r.1, e])]; exact ⟨r.1, hx⟩
      · rw [if_neg e, if_neg (fun z => e (by rw [r.1] at z; injection z))]; exact r
  · rw [if_neg c, if_neg c]
    exact h.app (.one ⟨rfl, hx⟩)
section
variable {α β : Type} {Φ : Fr} {as : List α} {R : Rl α} {P : Rl β} {J : It} {Bi B H : Hp} {cs : List (Addr × HO)} {σ : L2.St} {g : TG} {tt : TT} {tk tv : TE} {vs : List Nat} {Q : VK} {ys : List (Str × β)}
def KeptD (P : Rl β) (o : Option (Str × β)) (r : Option (V × V)) (B : Hp) : Prop := match o with
  | none => r = none
  | some y => ∃ v, r = some (.str y.1, v) ∧ P.rel B y.2 v
theorem dcR (it : ItOk J Bi B as R) (S0 : Sit Φ B H cs) (hl : as.length ≤ BIG) {f : α → Option (Option (Str × β))} (hm : dcL f as [] = some ys)
    (hB : ∀ b H' cs', Sit Φ b H' cs' → Same B b → cs <:+ cs' → Same Bi H')
    (hs : ∀ D acc a o x b0 b H', a ∈ as → Sit Φ b H' ((D, .dK acc) :: cs) → Same B b0 → Same b0 b → R.rel b a x → f a = some o → ∀ RR : Option (V × V) → Hp → Prop,
      (∀ r b2 H2, Sit Φ b2 H2 ((D, .dK acc) :: cs) → Same b b2 → KeptD P o r b2 → RR r H2) → TurnD g tt tk tv vs σ x H' RR)
    (hd : ∀ D b H' o, Sit Φ b H' ((D, o) :: cs) → Same B b → Φ.H D = none → (cDict P).rel b ys o → Q (.ref D) H') : DcB J g tt tk tv vs σ Q H := by
  obtain ⟨G, Y, w, hG, hY⟩ := it
  intro D nD
  refine ⟨fun i m H' => m = as.length - i ∧ i ≤ as.length ∧ ∃ b acc zs, Sit Φ b H' ((D, .dK acc) :: cs) ∧ Same B b ∧ FaD P b zs acc ∧ zs.length ≤ i ∧ dcL f (as.drop i) zs = some ys, ⟨_, rfl, Nat.zero_le _, B, [], [], S0.own nD, Same.rf _, .nil, Nat.le_refl _, hm⟩, ?_⟩
  rintro i m H' ⟨rfl, hi, b, acc, zs, S, e, hF, hz, hf⟩
  have q := hG H' (hB b H' _ S e (List.suffix_cons _ _))
  by_cases hlt : i < as.length
  · have hd' : as.drop i = as[i] :: as.drop (i + 1) := List.drop_eq_getElem_cons hlt
    rw [hd'] at hf
    obtain ⟨o, ho, hf⟩ := bs hf
    refine .inr ⟨w.goes i H' hlt q, fun H'' => ∃ b acc zs, Sit Φ b H'' ((D, .dK acc) :: cs) ∧ Same B b ∧ FaD P b zs acc ∧ zs.length ≤ i + 1 ∧ dcL f (as.drop (i + 1)) zs = some ys, fun H'' z => ⟨as.length - (i + 1), by omega, rfl, by omega, z⟩, fun x H2 y => ?_⟩
    obtain ⟨a, ha, q2⟩ := hY i H' x H2 hlt (w.yields i H' x H2 hlt q y)
    obtain ⟨b', S', e', r⟩ := q2 Φ b _ S e
    rw [List.getElem?_eq_getElem hlt] at ha
    cases ha
    refine hs D acc _ o x b b' H2 (List.getElem_mem hlt) S' e e' r ho (fun r H3 => match r with
      | some (y, z) => ∃ kvs k, y = kV k ∧ H3 D = some (.dK kvs) ∧ kvs.length < sizeLine ∧ ∃ b acc zs, Sit Φ b (upd H3 D (.dK (putK kvs k z))) ((D, .dK acc) :: cs) ∧ Same B b ∧ FaD P b zs acc ∧ zs.length ≤ i + 1 ∧ dcL f (as.drop (i + 1)) zs = some ys
      | none => ∃ b acc zs, Sit Φ b H3 ((D, .dK acc) :: cs) ∧ Same B b ∧ FaD P b zs acc ∧ zs.length ≤ i + 1 ∧ dcL f (as.drop (i + 1)) zs = some ys) fun r b2 H3 S2 e2 hk => ?_
    have hF2 := faD_mono (e'.tr e2) hF
    unfold KeptD at hk
    cases o with
    | none =>
      subst hk
      exact ⟨b2, acc, zs, S2, (e.tr e').tr e2, hF2, by omega, hf⟩
    | some y =>
      obtain ⟨v, rfl, hv⟩ := hk
      have la := hF.len
      have lp := dPut_len zs y.1 y.2
      refine ⟨acc, Sum.inr y.1, rfl, S2.at' (i := 0) rfl, by rw [← la]; exact big_lt (by omega), b2, _, dPut zs y.1 y.2, S2.set (i := 0) rfl, (e.tr e').tr e2, faD_put hF2 hv, by omega, hf⟩
  · have ei : i = as.length := by omega
    subst ei
    rw [List.drop_length] at hf
    cases hf
    exact .inl ⟨w.stops H' q, hd D b H' _ S e (S0.fresh nD) ⟨acc, rfl, hF, by omega⟩⟩
end
/-! ### comprehensions with two fors -/
def lc2M {α β γ : Type} (f : α → Option (List γ)) (g : α → γ → Option (Option β)) : List α → Option (List β)
  | [] => some []
  | a :: as => (f a).bind fun cs => (lcM (g a) cs).bind fun bs => (lc2M f g as).bind fun rs => if (bs ++ rs).length ≤ BIG then some (bs ++ rs) else none
section
variable {α β γ : Type} {Φ : Fr} {as : List α} {R : Rl α} {T : Rl γ} {P : Rl β} {J : It} {Bi B H : Hp} {cs : List (Addr × HO)} {σ : L2.St} {g : TG} {tt : TT} {te : TE} {vs : List Nat} {Q : VK} {ys : List β}
theorem big_lt2 {n m : Nat} (h : n ≤ BIG) (h' : m ≤ BIG) : n + m < sizeLine := by rw [PySem.sizeLine_eq]; unfold BIG at h h'; omega
theorem lcM_len {f : α → Option (Option β)} : ∀ {as : List α} {ys : List β}, lcM f as = some ys → ys.length ≤ as.length
  | [], _, h => by cases h; exact Nat.le_refl _
  | a :: as, ys, h => by
    obtain ⟨o, ho, h⟩ := bs h
    obtain ⟨zs, hz, h⟩ := bs h
    have := lcM_len hz
    cases h
    cases o with
    | none => exact Nat.le_succ_of_le this
    | some b => exact Nat.succ_le_succ this
/-- the inner row -/
theorem lc2In {D : Addr} {zs0 : List β} {acc0 : List V} {Nx : Hp → Prop} (it : ItOk J Bi B as R) (S0 : Sit Φ B H ((D, .lst acc0) :: cs)) (hF0 : Fa (P.rel B) zs0 acc0) (hl : zs0.length + as.length < sizeLine) {f : α → Option (Option β)} (hm : lcM f as = some ys)
    (hB : ∀ b H' cs', Sit Φ b H' cs' → Same B b → cs <:+ cs' → Same Bi H')
    (hs : ∀ acc a o x b0 b H', a ∈ as → Sit Φ b H' ((D, .lst acc) :: cs) → Same B b0 → Same b0 b → R.rel b a x → f a = some o → ∀ RR : Option V → Hp → Prop,
      (∀ r b2 H2, Sit Φ b2 H2 ((D, .lst acc) :: cs) → Same b b2 → Kept P o r b2 → RR r H2) → Turn2 g tt te vs σ x H' RR)
    (hd : ∀ b H' acc, Sit Φ b H' ((D, .lst acc) :: cs) → Same B b → Fa (P.rel b) (zs0 ++ ys) acc → Nx H') : Lc2In D J g tt te vs σ Nx H := by
  obtain ⟨G, Y, w, hG, hY⟩ := it
  refine ⟨fun i m H' => m = as.length - i ∧ i ≤ as.length ∧ ∃ b acc zs rest, Sit Φ b H' ((D, .lst acc) :: cs) ∧ Same B b ∧ Fa (P.rel b) (zs0 ++ zs) acc ∧ zs.length ≤ i ∧ lcM f (as.drop i) = some rest ∧ ys = zs ++ rest, ⟨_, rfl, Nat.zero_le _, B, acc0, [], ys, S0, Same.rf _, by rw [List.append_nil]; exact hF0, Nat.le_refl _, hm, rfl⟩, ?_⟩
  rintro i m H' ⟨rfl, hi, b, acc, zs, rest, S, e, hF, hz, hf, ey⟩
  have q := hG H' (hB b H' _ S e (List.suffix_cons _ _))
  by_cases hlt : i < as.length
  · have hd' : as.drop i = as[i] :: as.drop (i + 1) := List.drop_eq_getElem_cons hlt
    rw [hd'] at hf
    obtain ⟨o, ho, hf⟩ := bs hf
    obtain ⟨rs, hrs, hf⟩ := bs hf
    refine .inr ⟨w.goes i H' hlt q, fun H'' => ∃ b acc zs rest, Sit Φ b H'' ((D, .lst acc) :: cs) ∧ Same B b ∧ Fa (P.rel b) (zs0 ++ zs) acc ∧ zs.length ≤ i + 1 ∧ lcM f (as.drop (i + 1)) = some rest ∧ ys = zs ++ rest, fun H'' z => ⟨as.length - (i + 1), by omega, rfl, by omega, z⟩, fun x H2 y => ?_⟩
    obtain ⟨a, ha, q2⟩ := hY i H' x H2 hlt (w.yields i H' x H2 hlt q y)
    obtain ⟨b', S', e', r⟩ := q2 Φ b _ S e
    rw [List.getElem?_eq_getElem hlt] at ha
    cases ha
    refine hs acc _ o x b b' H2 (List.getElem_mem hlt) S' e e' r ho (fun r H7 => match r with
      | some y => ∃ acc, H7 D = some (.lst acc) ∧ acc.length < sizeLine ∧ ∃ b acc' zs rest, Sit Φ b (upd H7 D (.lst (acc ++ [y]))) ((D, .lst acc') :: cs) ∧ Same B b ∧ Fa (P.rel b) (zs0 ++ zs) acc' ∧ zs.length ≤ i + 1 ∧ lcM f (as.drop (i + 1)) = some rest ∧ ys = zs ++ rest
      | none => ∃ b acc zs rest, Sit Φ b H7 ((D, .lst acc) :: cs) ∧ Same B b ∧ Fa (P.rel b) (zs0 ++ zs) acc ∧ zs.length ≤ i + 1 ∧ lcM f (as.drop (i + 1)) = some rest ∧ ys = zs ++ rest) fun r b2 H3 S2 e2 hk => ?_
    have hF2 := fa_mono (e'.tr e2) hF
    unfold Kept at hk
    cases o with
    | none =>
      subst hk
      cases hf
      exact ⟨b2, acc, zs, _, S2, (e.tr e').tr e2, hF2, by omega, hrs, ey⟩
    | some y =>
      obtain ⟨v, rfl, hv⟩ := hk
      cases hf
      have la := hF.len
      rw [List.length_append] at la
      refine ⟨acc, S2.at' (i := 0) rfl, by omega, b2, _, zs ++ [y], rs, S2.set (i := 0) rfl, (e.tr e').tr e2, by rw [← List.append_assoc]; exact hF2.app (.one hv), by rw [List.length_append]; simp; omega, hrs, by rw [ey]; simp⟩
  · have ei : i = as.length := by omega
    subst ei
    rw [List.drop_length] at hf
    cases hf
    rw [List.append_nil] at ey
    subst ey
    exact .inl ⟨w.stops H' q, hd b H' acc S e hF⟩
/-- the whole -/
theorem lc2R {wi1 : TI} {g1 : TG} {tt1 : TT} {vs1 : List Nat} (it : ItOk J Bi B as R) (S0 : Sit Φ B H cs) {f : α → Option (List γ)} {gg : α → γ → Option (Option β)} (hm : lc2M f gg as = some ys)
    (hB : ∀ b H' cs', Sit Φ b H' cs' → Same B b → cs <:+ cs' → Same Bi H')
    (hs : ∀ D zs0 acc a zs ws x b0 b H', a ∈ as → Sit Φ b H' ((D, .lst acc) :: cs) → Same B b0 → Same b0 b → Fa (P.rel b) zs0 acc → R.rel b a x → f a = some zs → lcM (gg a) zs = some ws → zs0.length ≤ BIG → ∀ Nx : Hp → Prop,
      (∀ b2 H2 acc2, Sit Φ b2 H2 ((D, .lst acc2) :: cs) → Same b b2 → Fa (P.rel b2) (zs0 ++ ws) acc2 → Nx H2) → TurnO g tt wi1 vs σ x H' (fun σ2 J1 H4 => Lc2In D J1 g1 tt1 te vs1 σ2 Nx H4) Nx)
    (hd : ∀ D b H' o, Sit Φ b H' ((D, o) :: cs) → Same B b → Φ.H D = none → (cList P).rel b ys o → Q (.ref D) H') : Lc2B J g tt wi1 g1 tt1 te vs vs1 σ Q H := by
  have big : ∀ {as : List α} {ys : List β}, lc2M f gg as = some ys → ys.length ≤ BIG := fun {as ys} h => by
    cases as with
    | nil => cases h; exact Nat.zero_le _
    | cons a as =>
      obtain ⟨cs, hc, h⟩ := bs h
      obtain ⟨b1, h1, h⟩ := bs h
      obtain ⟨b2, h2, h⟩ := bs h
      by_cases c : (b1 ++ b2).length ≤ BIG
      · rw [if_pos c] at h; cases h; exact c
      · rw [if_neg c] at h; cases h
  obtain ⟨G, Y, w, hG, hY⟩ := it
  intro D nD
  refine ⟨fun i m H' => m = as.length - i ∧ i ≤ as.length ∧ ∃ b acc zs rest, Sit Φ b H' ((D, .lst acc) :: cs) ∧ Same B b ∧ Fa (P.rel b) zs acc ∧ lc2M f gg (as.drop i) = some rest ∧ ys = zs ++ rest, ⟨_, rfl, Nat.zero_le _, B, [], [], ys, S0.own nD, Same.rf _, .nil, hm, rfl⟩, ?_⟩
  rintro i m H' ⟨rfl, hi, b, acc, zs, rest, S, e, hF, hf, ey⟩
  have q := hG H' (hB b H' _ S e (List.suffix_cons _ _))
  have hyl := big hm
  by_cases hlt : i < as.length
  · have hd' : as.drop i = as[i] :: as.drop (i + 1) := List.drop_eq_getElem_cons hlt
    rw [hd'] at hf
    obtain ⟨ds, hds, hf⟩ := bs hf
    obtain ⟨ws, hws, hf⟩ := bs hf
    obtain ⟨rs, hrs, hf⟩ := bs hf
    have hr : rest = ws ++ rs := by
      by_cases c : (ws ++ rs).length ≤ BIG
      · rw [if_pos c] at hf; cases hf; rfl
      · rw [if_neg c] at hf; cases hf
    refine .inr ⟨w.goes i H' hlt q, fun H'' => ∃ b acc zs rest, Sit Φ b H'' ((D, .lst acc) :: cs) ∧ Same B b ∧ Fa (P.rel b) zs acc ∧ lc2M f gg (as.drop (i + 1)) = some rest ∧ ys = zs ++ rest, fun H'' z => ⟨as.length - (i + 1), by omega, rfl, by omega, z⟩, fun x H2 y => ?_⟩
    obtain ⟨a, ha, q2⟩ := hY i H' x H2 hlt (w.yields i H' x H2 hlt q y)
    obtain ⟨b', S', e', r⟩ := q2 Φ b _ S e
    rw [List.getElem?_eq_getElem hlt] at ha
    cases ha
    have ll : zs.length ≤ BIG := by rw [ey, List.length_append] at hyl; omega
    exact hs D zs acc _ ds ws x b b' H2 (List.getElem_mem hlt) S' e e' (fa_mono e' hF) r hds hws ll _ fun b2 H3 acc2 S2 e2 hF2 => ⟨b2, acc2, zs ++ ws, rs, S2, (e.tr e').tr e2, hF2, hrs, by rw [ey, hr, List.append_assoc]⟩
  · have ei : i = as.length := by omega
    subst ei
    rw [List.drop_length] at hf
    cases hf
    rw [List.append_nil] at ey
    subst ey
    exact .inl ⟨w.stops H' q, hd D b H' _ S e (S0.fresh nD) ⟨acc, rfl, hF, hyl⟩⟩
end
end Mf

namespace Mf
open PySem L2 PyProof.Rows
def Sub {α : Type} (R S : Rl α) : Prop := ∀ {H : Hp} {x : α} {v : V}, R.rel H x v → S.rel H x v
section
variable {α β γ : Type} {K : PySem.W.Frag} {R R' : Rl α} {S S' : Rl β} {T T' : Rl γ}
theorem subR : Sub R R := fun h => h
theorem subLQ (h : Sub R R') : Sub (dList R) (dSeq K R') := fun ⟨p, vs, e, a, f, l⟩ => ⟨p, vs, e, .inl (SqL.of a), f.imp fun _ _ _ z => h z, l⟩
theorem subTQ (h : Sub R R') : Sub (dTup K R) (dSeq K R') := fun ⟨p, vs, e, a, f, l⟩ => ⟨p, vs, e, .inr a, f.imp fun _ _ _ z => h z, l⟩
theorem subQQ (h : Sub R R') : Sub (dSeq K R) (dSeq K R') := fun ⟨p, vs, e, a, f, l⟩ => ⟨p, vs, e, a, f.imp fun _ _ _ z => h z, l⟩
theorem subLL (h : Sub R R') : Sub (dList R) (dList R') := fun ⟨p, vs, e, a, f, l⟩ => ⟨p, vs, e, a, f.imp fun _ _ _ z => h z, l⟩
theorem subTT (h : Sub R R') : Sub (dTup K R) (dTup K R') := fun ⟨p, vs, e, a, f, l⟩ => ⟨p, vs, e, a, f.imp fun _ _ _ z => h z, l⟩
theorem subP2 (h : Sub R R') (g : Sub S S') : Sub (dPair K R S) (dPair K R' S') := fun ⟨p, a, b, e, q, r, s⟩ => ⟨p, a, b, e, q, h r, g s⟩
theorem subP3 (h : Sub R R') (g : Sub S S') (k : Sub T T') : Sub (dTrip K R S T) (dTrip K R' S' T') := fun ⟨p, a, b, c, e, q, r, s, t⟩ => ⟨p, a, b, c, e, q, h r, g s, k t⟩
end
section
variable {α β : Type} {K : PySem.W.Frag} {C : Addr} {F : Fl α} {x : α} {B H : Hp} {v y : V} {Q : VK} {E : XK} {sp : Sp} {t : Value} {σ : L2.St}
theorem q_cmpO (h : (dObj C F).rel B x v) (s : Same B H) (ht : TyX K H y t) (hn : PySem.W.notFirst K C t = true) (g : sp [v, y] H Q E) : rCmpO K C sp E v y H Q := by
  obtain ⟨p, dx, fs, rfl, h, _⟩ := h
  exact ⟨p, dx, fs, t, rfl, s _ _ h, ht, hn, g⟩
def NeQ (Q : VK) : VK := fun v H' => ∃ b, v = .bl b ∧ Q (.bl (!b)) H'
theorem q_neO (h : (dObj C F).rel B x v) (s : Same B H) (ht : TyX K H y t) (hn : PySem.W.notFirst K C t = true) (g : sp [v, y] H (NeQ Q) E) : rNeO K C sp E v y H Q := by
  obtain ⟨p, dx, fs, rfl, h, _⟩ := h
  exact ⟨p, dx, fs, t, rfl, s _ _ h, ht, hn, g⟩
def InQ (Q : VK) : VK := fun v H' => ∃ b, v = .bl b ∧ Q (.bl b) H'
theorem q_inO (h : (dObj C F).rel B x v) (s : Same B H) (g : sp [v, y] H (InQ Q) E) : rInO C sp E false y v H Q := by
  obtain ⟨p, dx, fs, rfl, h, _⟩ := h
  exact ⟨p, dx, fs, rfl, s _ _ h, g⟩
theorem q_niO (h : (dObj C F).rel B x v) (s : Same B H) (g : sp [v, y] H (NeQ Q) E) : rInO C sp E true y v H Q := by
  obtain ⟨p, dx, fs, rfl, h, _⟩ := h
  exact ⟨p, dx, fs, rfl, s _ _ h, g⟩
def LenQ (Q : VK) : VK := fun v H' => ∃ n : Nat, v = .int n ∧ n ≤ sizeLine ∧ Q (.int n) H'
theorem q_lenO (h : (dObj C F).rel B x v) (s : Same B H) (g : sp [v] H (LenQ Q) E) : rLenO C sp E [v] H Q := by
  obtain ⟨p, dx, fs, rfl, h, _⟩ := h
  exact ⟨p, dx, fs, rfl, s _ _ h, g⟩
theorem q_getO (h : (dObj C F).rel B x v) (s : Same B H) (g : sp [v, y] H Q E) : rGetO C sp E v y H Q := by
  obtain ⟨p, dx, fs, rfl, h, _⟩ := h
  exact ⟨p, dx, fs, rfl, s _ _ h, g⟩
theorem q_binO {x' : α} (h : (dObj C F).rel B x v) (h' : (dObj C F).rel B x' y) (s : Same B H) (g : sp [v, y] H Q E) : rBinO C sp E v y H Q := by
  obtain ⟨p, dx, fs, rfl, h, _⟩ := h
  obtain ⟨p', dx', fs', rfl, h', _⟩ := h'
  exact ⟨p, dx, fs, p', dx', fs', rfl, rfl, s _ _ h, s _ _ h', g⟩
def MeQ (C : Addr) (m : Str) (P : V → Hp → Prop) (v : V) (H : Hp) : Prop := ∃ a dx fs, v = .ref a ∧ H a = some (.ins C dx fs) ∧ fs.lookup m = none ∧ P v H
theorem x_meth {m : Str} {dvs : List V} {ta : TE} {tA : TA} (g : ta σ H fun x H1 => MeQ C m (fun x H1 => tA σ H1 fun vs H2 => sp (x :: (vs ++ dvs)) H2 Q E) x H1) : tMeth C m sp dvs E ta tA σ H Q := g
theorem q_meth {m : Str} {P : V → Hp → Prop} (h : (dObj C F).rel B x v) (s : Same B H) (hl : ∀ fs, F.rel B x fs → fs.lookup m = none) (g : P v H) : MeQ C m P v H := by
  obtain ⟨p, dx, fs, rfl, h, q⟩ := h
  exact ⟨p, dx, fs, rfl, s _ _ h, hl fs q, g⟩
theorem putF_nil {f : Str} {v : V} : putF f v [] = [(f, v)] := rfl
theorem putF_cons {f g : Str} {v y : V} {r r' : List (Str × V)} (h : g ≠ f) (e : putF f v r = r') : putF f v ((g, y) :: r) = (g, y) :: r' := by
  show (if g = f then _ else _) = _
  rw [if_neg h, e]
theorem len_lt {n : Nat} {i : Int} (h : i = (n : Int)) (hb : n ≤ BIG) (g : Q (.int i) H) : LenQ Q (.int i) H := ⟨n, by rw [h], big_size hb, by rw [← h]; exact g⟩
theorem lenQ (i : Nat) (hb : i ≤ sizeLine) (g : Q (.int (i : Int)) H) : LenQ Q (.int (i : Int)) H := ⟨i, rfl, hb, g⟩
theorem w_neQ {b : Bool} (g : Q (.bl (!b)) H) : NeQ Q (.bl b) H := ⟨b, rfl, g⟩
theorem w_inQ {b : Bool} (g : Q (.bl b) H) : InQ Q (.bl b) H := ⟨b, rfl, g⟩
end
section
variable {α β γ δ : Type} {K : PySem.W.Frag} {R : Rl α} {S : Rl β} {T : Rl γ} {U : Rl δ} {H : Hp} {v : V} {C : Addr} {F : Fl α}
theorem nnL {x : List α} (h : (dList R).rel H x v) : v ≠ .non := by obtain ⟨p, vs, rfl, _⟩ := h; intro z; cases z
theorem nnT {x : List α} (h : (dTup K R).rel H x v) : v ≠ .non := by obtain ⟨p, vs, rfl, _⟩ := h; intro z; cases z
theorem nnQ {x : List α} (h : (dSeq K R).rel H x v) : v ≠ .non := by obtain ⟨p, vs, rfl, _⟩ := h; intro z; cases z
theorem nnD {x : List (Str × α)} (h : (dDict R).rel H x v) : v ≠ .non := by obtain ⟨p, vs, rfl, _⟩ := h; intro z; cases z
theorem nnO {x : α} (h : (dObj C F).rel H x v) : v ≠ .non := by obtain ⟨p, vs, _, rfl, _⟩ := h; intro z; cases z
theorem nn1 {x : α} (h : (dOne K R).rel H x v) : v ≠ .non := by obtain ⟨p, a, rfl, _⟩ := h; intro z; cases z
theorem nn2 {x : α × β} (h : (dPair K R S).rel H x v) : v ≠ .non := by obtain ⟨p, a, b, rfl, _⟩ := h; intro z; cases z
theorem nn3 {x : α × β × γ} (h : (dTrip K R S T).rel H x v) : v ≠ .non := by obtain ⟨p, a, b, c, rfl, _⟩ := h; intro z; cases z
theorem nn4 {x : α × β × γ × δ} (h : (dQuad K R S T U).rel H x v) : v ≠ .non := by obtain ⟨p, a, b, c, d, rfl, _⟩ := h; intro z; cases z
theorem someN {x : α} (h : R.rel H x v) (n : v ≠ .non) : (dOpt R).rel H (some x) v := ⟨h, n⟩
end
theorem retB {Q : VK} {H : Hp} {b : Bool} (e : b = true) (k : ∀ H', Q (.bl true) H') : Q (.bl b) H := e ▸ k H
theorem src_of {B H : Hp} {p : Addr} (h : Src H p 0) : ∃ (s : Src3) (o : HO), s.ok 0 ∧ H p = some o ∧ cSrc.rel B s o := by
  obtain ⟨g, s, h, h0, h1⟩ := h
  exact ⟨⟨g, s, 0⟩, _, ⟨h0, h1, Int.le_refl _, Int.le_refl _⟩, h, rfl⟩
theorem Sit.src {Φ : Fr} {B H H' : Hp} {p : Addr} {o : HO} (Z : Sit Φ B H []) (e : Same H H') (n : H p = Option.none) (h : H' p = some o) : Sit Φ B H' [(p, o)] where
  sub := fun a u q => e a u (Z.sub a u q)
  grow := Z.grow
  new := Z.new
  keep := fun a u q w => e a u (Z.keep a u q w)
  cell := fun c m => by cases List.mem_singleton.mp m; exact ⟨h, Z.bn n, .inr (Z.fresh n)⟩
  nd := by simp
  par := fun a m => by
    cases q : H a with
    | none => exact absurd q (Z.par a m)
    | some u => rw [e a u q]; intro z; cases z
end Mf

namespace Mf
open PySem L2 PyProof.Rows
/-! ### what a mirror gives -/
def Wp {α : Type} (m : Option α) (P : α → Prop) : Prop := ∃ a, m = some a ∧ P a
section
variable {α β S R : Type} {m : Option α} {P Q : α → Prop}
theorem Wp.some {a : α} (h : P a) : Wp (some a) P := ⟨a, rfl, h⟩
theorem Wp.of {a : α} (e : m = .some a) (h : P a) : Wp m P := ⟨a, e, h⟩
theorem Wp.bind {f : α → Option β} {Q : β → Prop} (h : Wp m P) (g : ∀ a, P a → Wp (f a) Q) : Wp (m.bind f) Q := by
  obtain ⟨a, rfl, p⟩ := h
  exact g a p
theorem Wp.go {f : α → Option β} {Q : β → Prop} {a : α} (h : m = .some a) (g : Wp (f a) Q) : Wp (m.bind f) Q := by
  subst h; exact g
theorem Wp.mono (h : Wp m P) (g : ∀ a, P a → Q a) : Wp m Q := let ⟨a, e, p⟩ := h; ⟨a, e, g a p⟩
theorem Wp.ite {c : Bool} {x y : Option α} (h1 : c = true → Wp x P) (h2 : c = false → Wp y P) : Wp (if c = true then x else y) P := by
  cases c with
  | true => rw [if_pos rfl]; exact h1 rfl
  | false => rw [if_neg (by decide)]; exact h2 rfl
theorem Wp.yes {c : Bool} {x y : Option α} (h : c = true) (g : Wp x P) : Wp (if c = true then x else y) P := by rw [if_pos h]; exact g
theorem Wp.no {c : Bool} {x y : Option α} (h : c = false) (g : Wp y P) : Wp (if c = true then x else y) P := by rw [if_neg (by rw [h]; decide)]; exact g
theorem Wp.eq {a : α} (h : Wp m (fun x => x = a)) : m = .some a := by
  obtain ⟨x, e, rfl⟩ := h
  exact e
theorem Wp.and (h : Wp m P) (g : Wp m Q) : Wp m (fun x => P x ∧ Q x) := by
  obtain ⟨x, e, p⟩ := h
  obtain ⟨y, e', q⟩ := g
  rw [e] at e'
  cases e'
  exact ⟨x, e, p, q⟩
theorem wp_forL {f : α → S → Option S} {as : List α} {s0 : S} (I : Nat → S → Prop) (h0 : I 0 s0) (hs : ∀ i a s, as[i]? = some a → I i s → Wp (f a s) (I (i + 1))) : Wp (forL f as s0) (I as.length) := by
  have gen : ∀ (bs : List α) (i : Nat) (s : S), (∀ j a, bs[j]? = some a → as[i + j]? = some a) → I i s → Wp (forL f bs s) (I (i + bs.length)) := by
    intro bs
    induction bs with
    | nil => intro i s _ h; exact ⟨s, rfl, h⟩
    | cons b bs ih =>
      intro i s hb h
      refine (hs i b s (hb 0 b rfl) h).bind fun s' h' => ?_
      have := ih (i + 1) s' (fun j a ha => by have := hb (j + 1) a ha; rw [show i + 1 + j = i + (j + 1) by omega]; exact this) h'
      rw [show i + (b :: bs).length = i + 1 + bs.length by simp; omega]
      exact this
  have := gen as 0 s0 (fun j a h => by rw [Nat.zero_add]; exact h) h0
  rw [Nat.zero_add] at this
  exact this
theorem wp_lcS {f : α → S → Option (Option β × S)} {as : List α} {s0 : S} (I : Nat → List β → S → Prop) (h0 : I 0 [] s0) (hs : ∀ i a ys s, as[i]? = some a → I i ys s → Wp (f a s) (fun o => I (i + 1) (ys ++ o.1.toList) o.2)) : Wp (lcS f as s0) (fun r => I as.length r.1 r.2) := by
  have gen : ∀ (bs : List α) (i : Nat) (ys : List β) (s : S), (∀ j a, bs[j]? = some a → as[i + j]? = some a) → I i ys s → Wp (lcS f bs s) (fun r => I (i + bs.length) (ys ++ r.1) r.2) := by
    intro bs
    induction bs with
    | nil => intro i ys s _ h; exact ⟨([], s), rfl, by simpa using h⟩
    | cons b bs ih =>
      intro i ys s hb h
      refine (hs i b ys s (hb 0 b rfl) h).bind fun o h' => ?_
      refine (ih (i + 1) (ys ++ o.1.toList) o.2 (fun j a ha => by have := hb (j + 1) a ha; rw [show i + 1 + j = i + (j + 1) by omega]; exact this) h').bind fun r hr => ?_
      refine ⟨_, rfl, ?_⟩
      rw [show i + (b :: bs).length = i + 1 + bs.length by simp; omega]
      obtain ⟨o1, o2⟩ := o
      cases o1 with
      | none => simpa using hr
      | some b => simpa using hr
  have := gen as 0 [] s0 (fun j a h => by rw [Nat.zero_add]; exact h) h0
  simpa using this
theorem wp_lcM {f : α → Option (Option β)} {as : List α} (g : α → Option β) (h : ∀ a ∈ as, f a = some (g a)) : lcM f as = some (as.filterMap g) := by
  induction as with
  | nil => rfl
  | cons a as ih =>
    unfold lcM
    rw [h a List.mem_cons_self, ih fun b hb => h b (List.mem_cons_of_mem _ hb)]
    cases e : g a with
    | none => simp [List.filterMap_cons, e]
    | some b => simp [List.filterMap_cons, e]
theorem lcM_mapE {f : α → Option (Option β)} {as : List α} (g : α → β) (h : ∀ a ∈ as, f a = some (some (g a))) : lcM f as = some (as.map g) := by
  rw [wp_lcM (fun a => some (g a)) h]; simp
theorem wp_forC {f : α → S → Option (Ctl S R)} {as : List α} {s0 : S} {P : Ctl S R → Prop} (I : Nat → S → Prop) (h0 : I 0 s0) (hs : ∀ i a s, as[i]? = some a → I i s → Wp (f a s) (fun o => match o with | .nx s' => I (i + 1) s' | .brk s' => P (.nx s') | .ret r => P (.ret r))) (hd : ∀ s, I as.length s → P (.nx s)) : Wp (forC f as s0) P := by
  have gen : ∀ (bs : List α) (i : Nat) (s : S), (∀ j a, bs[j]? = some a → as[i + j]? = some a) → i + bs.length = as.length → I i s → Wp (forC f bs s) P := by
    intro bs
    induction bs with
    | nil => intro i s _ e h; exact ⟨_, rfl, hd s (by rw [← e]; exact h)⟩
    | cons b bs ih =>
      intro i s hb e h
      refine (hs i b s (hb 0 b rfl) h).bind fun o h' => ?_
      cases o with
      | nx s' => exact ih (i + 1) s' (fun j a ha => by have := hb (j + 1) a ha; rw [show i + 1 + j = i + (j + 1) by omega]; exact this) (by rw [List.length_cons] at e; omega) h'
      | brk s' => exact ⟨_, rfl, h'⟩
      | ret r => exact ⟨_, rfl, h'⟩
  exact gen as 0 s0 (fun j a h => by rw [Nat.zero_add]; exact h) (Nat.zero_add _) h0
theorem wp_whC {f : S → Option (Ctl S R)} {s0 : S} {n : Nat} {P : Ctl S R → Prop} (I : S → Prop) (μ : S → Nat) (h0 : I s0) (hn : μ s0 < n) (hs : ∀ s, I s → Wp (f s) (fun o => match o with | .nx s' => I s' ∧ μ s' < μ s | .brk s' => P (.nx s') | .ret r => P (.ret r))) : Wp (whC f n s0) P := by
  induction n generalizing s0 with
  | zero => omega
  | succ n ih =>
    refine (hs s0 h0).bind fun o h' => ?_
    cases o with
    | nx s' => exact ih h'.1 (by omega)
    | brk s' => exact ⟨_, rfl, h'⟩
    | ret r => exact ⟨_, rfl, h'⟩
theorem wp_atI {xs : List α} {i : Int} (h0 : 0 ≤ i) (h1 : i < xs.length) : Wp (atI xs i) (fun x => xs[i.toNat]? = some x) := by
  unfold atI ixN
  rw [if_pos h0, if_pos h1]
  have : i.toNat < xs.length := by omega
  exact ⟨xs[i.toNat], by simp [this], by simp [this]⟩
theorem wp_atM {xs : List α} {i : Int} (h0 : 0 ≤ i) (h1 : i < xs.length) (h : ∀ x ∈ xs, P x) : Wp (atI xs i) P := (wp_atI h0 h1).mono fun x e => h x (List.mem_of_getElem? e)
theorem rngM_eq {i : Int} (h0 : 0 ≤ i) (h1 : i ≤ 1000000) : rngM i = some ((List.range i.toNat).map fun k => ((k : Nat) : Int)) := by
  unfold rngM BIG
  rw [if_pos ⟨by omega, by omega⟩]
theorem pushM_eq {xs : List α} {x : α} (h : xs.length < 1000000) : pushM xs x = some (xs ++ [x]) := by
  unfold pushM BIG
  rw [if_pos (by omega)]
theorem catM_eq {xs ys : List α} (h : xs.length + ys.length < 1000000) : catM xs ys = some (xs ++ ys) := by
  unfold catM BIG
  rw [if_pos (by omega)]
theorem addS_eq {a b : Str} (h : a.length + b.length < 1000000) : addS a b = some (a ++ b) := by
  unfold addS
  rw [if_pos (by rw [PySem.sizeLine_eq]; omega)]
theorem cutM_eq {z : Str} {lo hi : Option Int} (h : z.length < 1000000) : cutM z lo hi = some (cutS z lo hi) := by
  unfold cutM
  rw [if_pos (by rw [PySem.sizeLine_eq]; omega)]
theorem charsM_eq {z : Str} (h : z.length < 1000000) : charsM z = some (chars z) := by
  unfold charsM BIG
  rw [if_pos (by omega)]
theorem lenS_eq {z : Str} (h : z.length < 1000000) : lenS z = some (z.length : Int) := by
  unfold lenS
  rw [if_pos (by rw [PySem.sizeLine_eq]; omega)]
theorem modM_eq {i j : Int} (h : 0 < j) : modM i j = some (i % j) := by unfold modM; rw [if_pos h]
theorem insM_eq {xs : List α} {i : Int} {x : α} (h0 : 0 ≤ i) (h1 : i < 1000000) (hl : xs.length < 1000000) : insM xs i x = some (xs.take i.toNat ++ [x] ++ xs.drop i.toNat) := by
  unfold insM BIG
  rw [if_pos ⟨h0, by omega, by omega⟩]
theorem fcat_eq {a b : Str} (h : a.length + b.length < 1000000) : fcat a b = some (a ++ b) := by
  unfold fcat
  rw [if_pos (by rw [PySem.sizeLine_eq, Str.length_append]; omega)]
theorem fmtS_eq {a : Str} (h : a.length < 1000000) : fmtS a = some a := by
  unfold fmtS
  rw [if_pos (by rw [PySem.sizeLine_eq]; omega)]
theorem nsetM_eq {xs : List Str} (h : xs.length < 4000) (h2 : (addAll xs).length < 64) : nsetM xs = some (nset xs) := by
  unfold nsetM
  rw [if_pos ⟨by omega, h2⟩]
theorem Src3.ok.le {s : Src3} {n m : Int} (h : s.ok n) (e : n ≤ m) : s.ok m := ⟨h.1, h.2.1, h.2.2.1, by have := h.2.2.2; omega⟩
theorem wp_draw {s : Src3} {n m : Int} (h : s.ok n) (hn : n < 1000000000) (h0 : 0 < m) (h1 : m < 1000000) : Wp (m_draw s m) (fun r => 0 ≤ r.1 ∧ r.1 < m ∧ r.2.ok (n + 1)) := by
  obtain ⟨v, s', e, a, b, c⟩ := draw_ok h hn h0 (Int.lt_trans h1 (by decide))
  exact ⟨_, e, a, b, c⟩
theorem all_true {as : List α} {f : α → Bool} (h : ∀ a ∈ as, f a = true) : ((as.map f).all id) = true := by
  rw [List.all_map, List.all_eq_true]; exact h
theorem any_false {bs : List Bool} (h : ∀ b ∈ bs, b = false) : (bs.any id) = false := by
  rw [List.any_eq_false]; intro b hb; simp [h b hb]
end
end Mf

namespace Mf
open PySem L2 PyProof.Rows
/-! ### defs with defaults -/
def DefAtD (K : PySem.W.Frag) (mg : Str → Option Value) (x : Str) (st : Stmt) (dvs : List V) (kws : List (Str × V)) : Prop := ∃ f fd, FunD K x x (defArgs st) (defBody st) (defScope st) dvs kws f fd ∧ mg x = some (.ref f)
def CoreD (P : Program) (w : World) (K : PySem.W.Frag) (mg : Str → Option Value) (base : Heap) (CX : CXT) (lv : Nat) (x : Str) (st : Stmt) (dvs : List V) (kws : List (Str × V)) (ps : List Str) (sp : Sp) : Prop :=
  ∃ f fd, FnOk P w K mg base CX lv f fd ps sp ∧ FunD K x x (defArgs st) (defBody st) (defScope st) dvs kws f fd ∧ mg x = some (.ref f)
def DoesD (P : Program) (w : World) (K : PySem.W.Frag) (mg : Str → Option Value) (base : Heap) (CX : CXT) (lv : Nat) (x : Str) (ps : List Str) (dvs : List V) (sp : Sp) : Prop :=
  ∃ f fd ds, FnOk P w K mg base CX lv f fd ps sp ∧ mg x = some (.ref f) ∧ PySem.W.keepIn K (.ref f) = true ∧ Binds K fd ps ds ∧ Vals dvs ds
def MkAtD (K : PySem.W.Frag) (C : Addr) (q : Str) (st : Stmt) (dvs : List V) (kws : List (Str × V)) : Prop := ∃ f fd, FunD K "__init__" q (defArgs st) (defBody st) (defScope st) dvs kws f fd ∧ Mk K C f
def CoreI (P : Program) (w : World) (K : PySem.W.Frag) (mg : Str → Option Value) (base : Heap) (CX : CXT) (lv : Nat) (x : Str) (C : Addr) (q : Str) (st : Stmt) (dvs : List V) (kws : List (Str × V)) (ps : List Str) (sp : Sp) : Prop :=
  ∃ f fd, FnOk P w K mg base CX lv f fd ps sp ∧ FunD K "__init__" q (defArgs st) (defBody st) (defScope st) dvs kws f fd ∧ Mk K C f ∧ mg x = some (.ref C)
section
variable {P : Program} {w : World} {K : PySem.W.Frag} {mg : Str → Option Value} {base : Heap} {CX : CXT} {lv : Nat} {x q : Str} {st : Stmt} {dvs : List V} {kws : List (Str × V)} {ps : List Str} {sp : Sp} {C : Addr}
theorem CoreD.form (h : CoreD P w K mg base CX lv x st dvs kws ps sp) (n j : Nat) (hd : dvs ≠ []) (hn : n + (dvs.length - j) = ps.length)
    (hb : ∀ (T : Addr) (kV doc pm : Value) (an : Option Addr) (cdv ct : Value) (us its : List Value), us.length = n → its.length = dvs.length →
      ∃ k, bindArgs (PySem.W.fnOf x x (defArgs st) (defBody st) (defScope st) (.ref T) kV doc pm an cdv ct) ⟨us, []⟩ = seqItems? (.ref T) >>= k ∧ k (some its.toArray) = pure (ps.zip (us ++ its.drop j))) : DoesD P w K mg base CX lv x ps (dvs.drop j) sp := by
  obtain ⟨f, fd, F, A, g⟩ := h
  obtain ⟨ds, v, b⟩ := A.binds1 n j hd hn hb
  exact ⟨f, fd, ds, F, g, A.kp, b, v⟩
theorem CoreI.form (h : CoreI P w K mg base CX lv x C q st dvs kws ps sp) (n j : Nat) (hd : dvs ≠ []) (hn : n + (dvs.length - j) = ps.length)
    (hb : ∀ (T : Addr) (kV doc pm : Value) (an : Option Addr) (cdv ct : Value) (us its : List Value), us.length = n → its.length = dvs.length →
      ∃ k, bindArgs (PySem.W.fnOf "__init__" q (defArgs st) (defBody st) (defScope st) (.ref T) kV doc pm an cdv ct) ⟨us, []⟩ = seqItems? (.ref T) >>= k ∧ k (some its.toArray) = pure (ps.zip (us ++ its.drop j))) : MkDoes P w K mg base CX lv x C ps (dvs.drop j) sp := by
  obtain ⟨f, fd, F, A, M, g⟩ := h
  obtain ⟨ds, v, b⟩ := A.binds1 n j hd hn hb
  exact ⟨f, fd, ds, M, F, b, v, g⟩
theorem tupC0 {α : Type} {R : Rl α} {T : Addr} {B : Hp} (h : ∀ H, SqT K H T []) : (dTup K R).rel B [] (.ref T) := ⟨T, [], rfl, h _, .nil, Nat.zero_le _⟩
/-- sorted(list of texts) -/
def srtM (xs : List Str) : Option (List Str) := if xs.length < 64 then some (srt xs) else none
theorem q_sortS {Φ : Fr} {B H : Hp} {cs : List (Addr × HO)} {Q : VK} {v : V} {xs ys : List Str} (Z : Sit Φ B H cs) (h : (dList dStr).rel B xs v) (hm : srtM xs = some ys) (k : ∀ v B' H', Sit Φ B' H' cs → Same B B' → (dList dStr).rel B' ys v → Q v H') : rSortedS K [v] H Q := by
  unfold srtM at hm
  by_cases c : xs.length < 64
  · rw [if_pos c] at hm; cases hm
    obtain ⟨p, vs, rfl, h, f, _⟩ := h
    cases fa_str f
    refine w_sort (SqL.of (Z.sub _ _ h)) c fun ys q pm so np => ?_
    have e : ys = srt xs := sorted_is pm so
    subst e
    exact k _ _ _ (Z.put np) (Z.updB np) ⟨q, _, rfl, upd_same, strs_fa, by rw [srt_len]; unfold BIG; omega⟩
  · rw [if_neg c] at hm; cases hm
end
section
variable {α : Type} {K : PySem.W.Frag} {R : Rl α} {B H : Hp} {σ : L2.St} {Q : VK} {QA : List V → Hp → Prop} {v w : V} {te : TE} {t : TA} {xs ys : List α} {vs : List V}
def FldQ (K : PySem.W.Frag) (f : Str) (Q : VK) (x : V) (H : Hp) : Prop := ∃ a C dx fs v, x = .ref a ∧ H a = some (.ins C dx fs) ∧ Cls K C ∧ NoAttr K C f ∧ fs.lookup f = some v ∧ Q v H
theorem x_fld {f : Str} (g : te σ H fun x H1 => FldQ K f Q x H1) : tFld K te f σ H Q := g
theorem q_fld {f : Str} (h : ∃ a C dx fs, v = .ref a ∧ H a = some (.ins C dx fs) ∧ Cls K C ∧ NoAttr K C f ∧ fs.lookup f = some w) (g : Q w H) : FldQ K f Q v H := let ⟨a, C, dx, fs, e, h1, h2, h3, h4⟩ := h; ⟨a, C, dx, fs, w, e, h1, h2, h3, h4, g⟩
def StQ (K : PySem.W.Frag) (t : TA) (σ : L2.St) (QA : List V → Hp → Prop) (x : V) (H : Hp) : Prop := ∃ p xs, x = V.ref p ∧ (SqT K H p xs ∨ SqL K H p xs) ∧ t σ H fun ys H2 => QA (xs ++ ys) H2
theorem x_star (g : te σ H fun x H1 => StQ K t σ QA x H1) : StX.tStar K te t σ H QA := g
theorem q_star (h : Sq K R B H xs v) (g : ∀ vs, Fa (R.rel B) xs vs → t σ H fun ys H2 => QA (vs ++ ys) H2) : StQ K t σ QA v H := by
  obtain ⟨p, vs, rfl, h, f, _⟩ := h
  exact ⟨p, vs, rfl, h.symm, g vs f⟩
theorem q_tupT (h : (dTup K R).rel H xs v) (g : Q v H) : rTupT K [v] H Q := by
  obtain ⟨p, vs, rfl, h, f, l⟩ := h
  exact ⟨p, vs, rfl, h, g⟩
def capM (xs : List α) : Option (List α) := if xs.length ≤ BIG then some xs else none
theorem capM_some (h : capM xs = some ys) : xs = ys ∧ ys.length ≤ BIG := by
  unfold capM at h
  by_cases e : xs.length ≤ BIG
  · rw [if_pos e] at h; cases h; exact ⟨rfl, e⟩
  · rw [if_neg e] at h; cases h
theorem capM_fa (h : capM xs = some ys) (f : Fa (R.rel B) xs vs) : Fa (R.rel B) ys vs := by rw [← (capM_some h).1]; exact f
theorem capM_le (h : capM xs = some ys) : ys.length ≤ BIG := (capM_some h).2
theorem capM_eq (h : xs.length < 1000000) : capM xs = some xs := by unfold capM BIG; rw [if_pos (by omega)]
end
end Mf

namespace Mf
open PySem L2 PyProof.Rows
/-! ### which procedures lead to which other ones -/
theorem dGet_mem {α : Type} {ps : List (Str × α)} {p : Str × α} (nd : (ps.map Prod.fst).Nodup) (h : p ∈ ps) : dGet ps p.1 = some p.2 := by
  unfold dGet
  induction ps with
  | nil => cases h
  | cons q ps ih =>
    rw [List.map_cons, List.nodup_cons] at nd
    by_cases e : q.1 = p.1
    · rcases List.mem_cons.mp h with rfl | h
      · simp
      · exact absurd (by rw [e]; exact List.mem_map.mpr ⟨p, h, rfl⟩) nd.1
    · rcases List.mem_cons.mp h with rfl | h
      · exact absurd rfl e
      · simp [List.find?_cons, e]
        have := ih nd.2 h
        simpa using this
def bodyOf (ps : List Prc) (x : Str) : List Stp := (dGet ps x).getD []
theorem body_of {ps : List Prc} (hg : Good ps) {x : Str} (h : x ∈ nms ps) : dGet ps x = some (bodyOf ps x) ∧ (x, bodyOf ps x) ∈ ps := by
  obtain ⟨p, hp, rfl⟩ := List.mem_map.mp h
  have e := dGet_mem hg.nd hp
  have eb : bodyOf ps p.1 = p.2 := by unfold bodyOf; rw [e]; rfl
  rw [eb]
  exact ⟨e, hp⟩
def nexts (ps : List Prc) (ks st : List Str) (x : Str) : List Str := (bodyOf ps x).filterMap fun s => if s.1 ∈ ks ∧ s.2 ∉ st then some s.2 else none
inductive Rch (ps : List Prc) (ks st S : List Str) : Str → Prop
  | start {x : Str} : x ∈ S → x ∉ st → Rch ps ks st S x
  | step {x y : Str} : Rch ps ks st S x → y ∈ nexts ps ks st x → Rch ps ks st S y
def sprStep (ps : List Prc) (ks st : List Str) (s : List Str × List Str) : Ctl (List Str × List Str) (List Str) := match s.1.getLast? with
  | none => .brk s
  | some x => if x ∈ s.2 then .nx (s.1.dropLast, s.2) else .nx (s.1.dropLast ++ nexts ps ks st x, s.2 ++ [x])
theorem nexts_len {ps : List Prc} (hg : Good ps) {ks st : List Str} {x : Str} (h : x ∈ nms ps) : (nexts ps ks st x).length ≤ 12 := by
  refine Nat.le_trans (List.length_filterMap_le _ _) ?_
  exact hg.short _ (body_of hg h).2
theorem mem_nexts {ps : List Prc} {ks st : List Str} {x y : Str} : y ∈ nexts ps ks st x ↔ ∃ k, k ∈ ks ∧ (k, y) ∈ bodyOf ps x ∧ y ∉ st := by
  unfold nexts
  rw [List.mem_filterMap]
  constructor
  · rintro ⟨s, hs, e⟩
    by_cases c : s.1 ∈ ks ∧ s.2 ∉ st
    · rw [if_pos c] at e; cases e; exact ⟨s.1, c.1, hs, c.2⟩
    · rw [if_neg c] at e; cases e
  · rintro ⟨k, hk, hm, hn⟩
    exact ⟨(k, y), hm, by rw [if_pos ⟨hk, hn⟩]⟩
theorem nexts_sub {ps : List Prc} (hg : Good ps) {ks st : List Str} (hk : ∀ k ∈ ks, k ∈ calls) {x y : Str} (hx : x ∈ nms ps) (h : y ∈ nexts ps ks st x) : y ∈ nms ps := by
  obtain ⟨k, hk', hm, _⟩ := mem_nexts.mp h
  exact (hg.step _ (body_of hg hx).2 _ hm).2.2 (hk k hk')
structure SprI (ps : List Prc) (ks st S : List Str) (s : List Str × List Str) : Prop where
  nd : s.2.Nodup
  fs : ∀ x ∈ s.2, x ∈ nms ps
  ws : ∀ x ∈ s.1, x ∈ nms ps
  rw' : ∀ x ∈ s.1, Rch ps ks st S x
  rf' : ∀ x ∈ s.2, Rch ps ks st S x
  st' : ∀ x ∈ S, x ∉ st → x ∈ s.1 ∨ x ∈ s.2
  cl : ∀ x ∈ s.2, ∀ y ∈ nexts ps ks st x, y ∈ s.1 ∨ y ∈ s.2
  len : s.1.length + 13 * (16 - s.2.length) ≤ 16 + 13 * 16
theorem getLast_split {α : Type} {xs : List α} {x : α} (h : xs.getLast? = some x) : xs = xs.dropLast ++ [x] := by
  cases xs with
  | nil => cases h
  | cons a l =>
    rw [List.getLast?_eq_some_getLast (by simp)] at h
    injection h with h
    rw [← h]
    exact (List.dropLast_concat_getLast (by simp)).symm
def sprMu (s : List Str × List Str) : Nat := s.1.length + 13 * (16 - s.2.length)
theorem spr_step {ps : List Prc} (hg : Good ps) {ks st S : List Str} (hk : ∀ k ∈ ks, k ∈ calls) {s : List Str × List Str} (h : SprI ps ks st S s) :
    match sprStep ps ks st s with
    | .nx s' => SprI ps ks st S s' ∧ sprMu s' < sprMu s
    | .brk s' => s' = s ∧ s.1 = []
    | .ret _ => False := by
  unfold sprStep
  cases e : s.1.getLast? with
  | none => exact ⟨rfl, List.getLast?_eq_none_iff.mp e⟩
  | some x =>
    have es := getLast_split e
    have hx : x ∈ s.1 := by rw [es]; simp
    have hxn := h.ws x hx
    have hd : ∀ y ∈ s.1.dropLast, y ∈ s.1 := fun y hy => by rw [es]; exact List.mem_append_left _ hy
    have hl : s.1.length = s.1.dropLast.length + 1 := by
      conv => lhs; rw [es]
      simp
    have hor : ∀ y ∈ s.1, y ∈ s.1.dropLast ∨ y = x := fun y hy => by
      rw [es] at hy
      rcases List.mem_append.mp hy with z | z
      · exact .inl z
      · exact .inr (List.mem_singleton.mp z)
    have hlen := h.len
    by_cases c : x ∈ s.2
    · simp only [c, if_true]
      refine ⟨⟨h.nd, h.fs, fun y hy => h.ws y (hd y hy), fun y hy => h.rw' y (hd y hy), h.rf', fun y hy hn => ?_, fun a ha y hy => ?_, ?_⟩, ?_⟩
      · rcases h.st' y hy hn with z | z
        · rcases hor y z with z | rfl
          · exact .inl z
          · exact .inr c
        · exact .inr z
      · rcases h.cl a ha y hy with z | z
        · rcases hor y z with z | rfl
          · exact .inl z
          · exact .inr c
        · exact .inr z
      · show s.1.dropLast.length + 13 * (16 - s.2.length) ≤ _
        omega
      · show s.1.dropLast.length + 13 * (16 - s.2.length) < s.1.length + 13 * (16 - s.2.length)
        omega
    · simp only [c, if_false]
      have hr := h.rw' x hx
      have nl := nexts_len hg (ks := ks) (st := st) hxn
      have nd2 : (s.2 ++ [x]).Nodup := by
        rw [List.nodup_append]
        exact ⟨h.nd, by simp, fun a ha b hb => by rw [List.mem_singleton.mp hb]; rintro rfl; exact c ha⟩
      have fs2 : ∀ y ∈ s.2 ++ [x], y ∈ nms ps := fun y hy => by
        rcases List.mem_append.mp hy with z | z
        · exact h.fs y z
        · rw [List.mem_singleton.mp z]; exact hxn
      have f16 : s.2.length + 1 ≤ 16 := by
        have := nodup_le nd2 fs2
        rw [List.length_append] at this
        have h16 := hg.few
        unfold nms at this
        rw [List.length_map] at this
        simp at this
        omega
      refine ⟨⟨nd2, fs2, fun y hy => ?_, fun y hy => ?_, fun y hy => ?_, fun y hy hn => ?_, fun a ha y hy => ?_, ?_⟩, ?_⟩
      · rcases List.mem_append.mp hy with z | z
        · exact h.ws y (hd y z)
        · exact nexts_sub hg hk hxn z
      · rcases List.mem_append.mp hy with z | z
        · exact h.rw' y (hd y z)
        · exact .step hr z
      · rcases List.mem_append.mp hy with z | z
        · exact h.rf' y z
        · rw [List.mem_singleton.mp z]; exact hr
      · rcases h.st' y hy hn with z | z
        · rcases hor y z with z | rfl
          · exact .inl (List.mem_append_left _ z)
          · exact .inr (by simp)
        · exact .inr (List.mem_append_left _ z)
      · rcases List.mem_append.mp ha with z | z
        · rcases h.cl a z y hy with z | z
          · rcases hor y z with z | rfl
            · exact .inl (List.mem_append_left _ z)
            · exact .inr (by simp)
          · exact .inr (List.mem_append_left _ z)
        · rw [List.mem_singleton.mp z] at hy
          exact .inl (List.mem_append_right _ hy)
      · show (s.1.dropLast ++ nexts ps ks st x).length + 13 * (16 - (s.2 ++ [x]).length) ≤ _
        rw [List.length_append, List.length_append]
        simp only [List.length_cons, List.length_nil]
        omega
      · show (s.1.dropLast ++ nexts ps ks st x).length + 13 * (16 - (s.2 ++ [x]).length) < s.1.length + 13 * (16 - s.2.length)
        rw [List.length_append, List.length_append]
        simp only [List.length_cons, List.length_nil]
        omega
theorem whC_congr {S R : Type} {f g : S → Option (Ctl S R)} (I : S → Prop) (he : ∀ s, I s → f s = g s) (hI : ∀ s s', I s → g s = some (.nx s') → I s') : ∀ (n : Nat) (s : S), I s → whC f n s = whC g n s
  | 0, _, _ => rfl
  | n + 1, s, h => by
    unfold whC
    rw [he s h]
    cases e : g s with
    | none => rfl
    | some o =>
      cases o with
      | nx s' => exact whC_congr I he hI n s' (hI s s' h e)
      | brk s' => rfl
      | ret r => rfl
/-- what the walk finds: each once, just what is reached -/
structure Found (ps : List Prc) (ks st S f : List Str) : Prop where
  nd : f.Nodup
  sub : ∀ x ∈ f, x ∈ nms ps
  mem : ∀ x, x ∈ f ↔ Rch ps ks st S x
theorem spr_found {ps : List Prc} (hg : Good ps) {ks st S : List Str} (hk : ∀ k ∈ ks, k ∈ calls) (hS : ∀ x ∈ S, x ∈ nms ps) (hl : S.length ≤ 16) :
    ∃ f, Found ps ks st S f ∧ ∀ g : List Str × List Str → Option (Ctl (List Str × List Str) (List Str)), (∀ s, SprI ps ks st S s → g s = some (sprStep ps ks st s)) → whC g FUEL (S.filter (fun x => decide (x ∉ st)), []) = some (.nx ([], f)) := by
  have h0 : SprI ps ks st S (S.filter (fun x => decide (x ∉ st)), []) := by
    refine ⟨List.nodup_nil, by simp, fun x hx => hS x (List.mem_filter.mp hx).1, fun x hx => ?_, by simp, fun x hx hn => .inl (List.mem_filter.mpr ⟨hx, by simpa using hn⟩), by simp, ?_⟩
    · have := List.mem_filter.mp hx
      exact .start this.1 (by simpa using this.2)
    · show (S.filter _).length + 13 * (16 - 0) ≤ _
      have := List.length_filter_le (fun x => decide (x ∉ st)) S
      omega
  obtain ⟨c, hc, s1, rfl, hI, hw⟩ : Wp (whC (fun s => some (sprStep ps ks st s)) FUEL (S.filter (fun x => decide (x ∉ st)), [])) (fun c => ∃ s, c = .nx s ∧ SprI ps ks st S s ∧ s.1 = []) := by
    refine wp_whC (SprI ps ks st S) sprMu h0 ?_ fun s h => ⟨_, rfl, ?_⟩
    · have := h0.len
      show (S.filter _).length + 13 * (16 - 0) < 1000000
      have := List.length_filter_le (fun x => decide (x ∉ st)) S
      omega
    · have := spr_step hg hk h
      cases e : sprStep ps ks st s with
      | nx s' => rw [e] at this; exact this
      | brk s' => rw [e] at this; obtain ⟨rfl, hw⟩ := this; exact ⟨_, rfl, h, hw⟩
      | ret r => rw [e] at this; exact this.elim
  obtain ⟨w, f⟩ := s1
  simp only at hw
  subst hw
  refine ⟨f, ⟨hI.nd, hI.fs, fun x => ⟨hI.rf' x, fun hr => ?_⟩⟩, fun g hg' => ?_⟩
  · induction hr with
    | start h1 h2 =>
      rcases hI.st' _ h1 h2 with z | z
      · cases z
      · exact z
    | step _ h2 ih =>
      rcases hI.cl _ ih _ h2 with z | z
      · cases z
      · exact z
  · rw [← hc]
    refine whC_congr (SprI ps ks st S) hg' (fun s s' h e => ?_) _ _ h0
    injection e with e
    have := spr_step hg hk h
    rw [e] at this
    exact this.1
/-- one turn of such a walk, however the next ones are got -/
theorem spr_turn {ρ : Type} {ps : List Prc} (hg : Good ps) {ks st S : List Str} {F : Str → Option ρ} {G : ρ → List Str} (hF : ∀ x ∈ nms ps, ∃ r, F x = some r ∧ G r = nexts ps ks st x) {s : List Str × List Str} (h : SprI ps ks st S s) :
    (if (decide ((0 : Int) < (s.1.length : Int))) = true then (s.1.getLast?).bind fun x => if (!decide (x ∈ s.2)) = true then (pushM s.2 x).bind fun f => (F x).bind fun r => (catM s.1.dropLast (G r)).bind fun w => some (.nx (w, f)) else some (.nx (s.1.dropLast, s.2)) else some (.brk (s.1, s.2))) = some (sprStep ps ks st s) := by
  obtain ⟨w, f⟩ := s
  unfold sprStep
  simp only
  cases e : w.getLast? with
  | none =>
    have : w = [] := List.getLast?_eq_none_iff.mp e
    subst this
    rfl
  | some x =>
    have es := getLast_split e
    have hx : x ∈ w := by rw [es]; simp
    have hxn := h.ws x hx
    have hl : 0 < w.length := by rw [es]; simp
    have hlen := h.len
    simp only at hlen
    rw [if_pos (decide_eq_true (by omega)), Option.bind_some]
    dsimp only
    by_cases c : x ∈ f
    · rw [if_neg (by simp [c]), if_pos c]
    · rw [if_pos (by simp [c]), if_neg c]
      obtain ⟨r, e1, e2⟩ := hF x hxn
      have fl : f.length ≤ 16 := by
        have := nodup_le h.nd h.fs
        have h16 := hg.few
        unfold nms at this
        rw [List.length_map] at this
        exact Nat.le_trans this h16
      have nl := nexts_len hg (ks := ks) (st := st) hxn
      have hd : w.dropLast.length ≤ w.length := by rw [List.length_dropLast]; omega
      rw [pushM_eq (by omega), Option.bind_some, e1, Option.bind_some, e2, catM_eq (by omega)]
      rfl
open Classical in
/-- the procedures that are reached, ascending -/
noncomputable def rset (ps : List Prc) (ks st S : List Str) : List Str := nset ((nms ps).filter fun x => decide (Rch ps ks st S x))
theorem mem_rset {ps : List Prc} {ks st S : List Str} {x : Str} : x ∈ rset ps ks st S ↔ x ∈ nms ps ∧ Rch ps ks st S x := by
  unfold rset
  rw [mem_nset, List.mem_filter]
  simp
theorem Found.nset {ps : List Prc} {ks st S f : List Str} (h : Found ps ks st S f) : nset f = rset ps ks st S := by
  unfold rset
  refine nset_congr fun z => ?_
  rw [List.mem_filter]
  exact ⟨fun m => ⟨h.sub z m, by simpa using (h.mem z).mp m⟩, fun m => (h.mem z).mpr (by simpa using m.2)⟩
theorem Found.len {ps : List Prc} (hg : Good ps) {ks st S f : List Str} (h : Found ps ks st S f) : f.length ≤ 16 := by
  have := nodup_le h.nd h.sub
  have h16 := hg.few
  unfold nms at this
  rw [List.length_map] at this
  exact Nat.le_trans this h16
theorem rset_sub {ps : List Prc} {ks st S : List Str} {x : Str} (h : x ∈ rset ps ks st S) : x ∈ nms ps := (mem_rset.mp h).1
theorem rset_oks {ps : List Prc} (hg : Good ps) {ks st S : List Str} : Oks (rset ps ks st S) := fun x hx => hg.oks x (rset_sub hx)
theorem rch_sub {ps : List Prc} (hg : Good ps) {ks st S : List Str} (hk : ∀ k ∈ ks, k ∈ calls) (hS : ∀ x ∈ S, x ∈ nms ps) {x : Str} (h : Rch ps ks st S x) : x ∈ nms ps := by
  induction h with
  | start h1 _ => exact hS _ h1
  | step _ h2 ih => exact nexts_sub hg hk ih h2
theorem rch_congr {ps : List Prc} {ks st S S' : List Str} (h : ∀ x, x ∈ S ↔ x ∈ S') {x : Str} : Rch ps ks st S x ↔ Rch ps ks st S' x := by
  constructor
  · intro r
    induction r with
    | start h1 h2 => exact .start ((h _).mp h1) h2
    | step _ h2 ih => exact .step ih h2
  · intro r
    induction r with
    | start h1 h2 => exact .start ((h _).mpr h1) h2
    | step _ h2 ih => exact .step ih h2
theorem rset_congr {ps : List Prc} {ks st S S' : List Str} (h : ∀ x, x ∈ S ↔ x ∈ S') : rset ps ks st S = rset ps ks st S' := by
  unfold rset
  refine nset_congr fun z => ?_
  rw [List.mem_filter, List.mem_filter]
  simp only [decide_eq_true_iff]
  rw [rch_congr h]
theorem names_few {ps : List Prc} (hg : Good ps) {xs : List Str} (h : ∀ x ∈ xs, x ∈ nms ps) : (addAll xs).length ≤ 16 := by
  have := nodup_le (addAll_nodup xs) (fun z hz => h z (mem_addAll.mp hz))
  have h16 := hg.few
  unfold nms at this
  rw [List.length_map] at this
  exact Nat.le_trans this h16
theorem fm_notin (xs st : List Str) : (xs.filterMap fun (a : Str) => if (!decide (a ∈ st)) = true then some a else none) = xs.filter (fun x => decide (x ∉ st)) := by
  induction xs with
  | nil => rfl
  | cons x xs ih =>
    by_cases c : x ∈ st
    · simp [List.filterMap_cons, c] at ih ⊢; exact ih
    · simp [List.filterMap_cons, c] at ih ⊢; exact ih
theorem srtM_eq {xs : List Str} (h : xs.length < 64) : srtM xs = some (srt xs) := by unfold srtM; rw [if_pos h]
theorem eq_strsT {xs ys : List Str} (h1 : Oks xs) (h2 : Oks ys) : eqD (PyData.tuple (xs.map PyData.str)) (PyData.tuple (ys.map PyData.str)) = some (decide (xs = ys)) := by
  unfold eqD
  rw [if_pos ⟨shaped_strsT h1, shaped_strsT h2⟩, eqv_strsT]
theorem eq_strsL {xs ys : List Str} (h1 : Oks xs) (h2 : Oks ys) : eqD (PyData.list (xs.map PyData.str)) (PyData.list (ys.map PyData.str)) = some (decide (xs = ys)) := by
  unfold eqD
  rw [if_pos ⟨shaped_strsL h1, shaped_strsL h2⟩, eqv_strsL]
def ALLK : List Str := [Str.ofString "call", Str.ofString "try"]
def HARDK : List Str := [Str.ofString "call"]
theorem allk_calls : ∀ k ∈ ALLK, k ∈ calls := by decide +kernel
theorem hardk_calls : ∀ k ∈ HARDK, k ∈ calls := by decide +kernel
section
variable {ps : List Prc} {ks ks' st S S' : List Str} {x y : Str}
theorem rch_mono (h : ∀ x ∈ S, x ∈ S') (r : Rch ps ks st S x) : Rch ps ks st S' x := by
  induction r with
  | start h1 h2 => exact .start (h _ h1) h2
  | step _ h2 ih => exact .step ih h2
theorem rch_trans (r : Rch ps ks st S y) (r' : Rch ps ks st [y] x) : Rch ps ks st S x := by
  induction r' with
  | start h1 h2 => rw [List.mem_singleton.mp h1]; exact r
  | step _ h2 ih => exact .step ih h2
theorem rch_one (r : Rch ps ks st S x) : ∃ y ∈ S, Rch ps ks st [y] x := by
  induction r with
  | start h1 h2 => exact ⟨_, h1, .start (by simp) h2⟩
  | step _ h2 ih => obtain ⟨y, hy, r⟩ := ih; exact ⟨y, hy, .step r h2⟩
theorem rch_bind (r : Rch ps ks st S' x) (h : ∀ y ∈ S', Rch ps ks st S y) : Rch ps ks st S x := by
  obtain ⟨y, hy, r⟩ := rch_one r
  exact rch_trans (h y hy) r
theorem rch_kinds (h : ∀ k ∈ ks, k ∈ ks') (r : Rch ps ks st S x) : Rch ps ks' st S x := by
  induction r with
  | start h1 h2 => exact .start h1 h2
  | step _ h2 ih =>
    obtain ⟨k, hk, hm, hn⟩ := mem_nexts.mp h2
    exact .step ih (mem_nexts.mpr ⟨k, h k hk, hm, hn⟩)
theorem hard_all : ∀ k ∈ HARDK, k ∈ ALLK := by decide +kernel
end
end Mf

namespace Mf
open PySem L2 PyProof.Rows
/-! ### calls with keywords -/
def DoesN (P : Program) (w : World) (K : PySem.W.Frag) (mg : Str → Option Value) (base : Heap) (CX : CXT) (lv : Nat) (x : Str) (ps : List Str) (n : Nat) (ks : List Str) (gV : List V → List V → List V) (sp : Sp) : Prop :=
  ∃ f fd g, FnOk P w K mg base CX lv f fd ps sp ∧ mg x = some (.ref f) ∧ PySem.W.keepIn K (.ref f) = true ∧ KBn K fd ps n ks g gV
def MkN (P : Program) (w : World) (K : PySem.W.Frag) (mg : Str → Option Value) (base : Heap) (CX : CXT) (lv : Nat) (x : Str) (C : Addr) (ps : List Str) (n : Nat) (ks : List Str) (gV : List V → List V → List V) (sp : Sp) : Prop :=
  ∃ f fd g, Mk K C f ∧ FnOk P w K mg base CX lv f fd ps sp ∧ mg x = some (.ref C) ∧ KBn K fd ps n ks g gV
/-- the values behind the positional ones: from the lacking ones (false) or the given ones (true) -/
def arrs {α : Type} (mv ws : List α) : List (Bool × Nat) → List α
  | [] => []
  | (true, i) :: r => (ws.drop i).take 1 ++ arrs mv ws r
  | (false, i) :: r => (mv.drop i).take 1 ++ arrs mv ws r
theorem vals_take {vs : List V} {us : List Value} (h : Vals vs us) : Vals (vs.take 1) (us.take 1) := by
  cases h with
  | nil => exact .nil
  | cons r _ => exact .cons r .nil
theorem arrs_rel {mz zs : List V} {mv ws : List Value} (h1 : Vals mz mv) (h2 : Vals zs ws) : ∀ l, Vals (arrs mz zs l) (arrs mv ws l)
  | [] => .nil
  | (true, i) :: r => (vals_take (h2.drop i)).append (arrs_rel h1 h2 r)
  | (false, i) :: r => (vals_take (h1.drop i)).append (arrs_rel h1 h2 r)
def kwV (dv : List V) (l : List (Bool × Nat)) (vs zs : List V) : List V := vs ++ arrs dv zs l
section
variable {P : Program} {w : World} {K : PySem.W.Frag} {mg : Str → Option Value} {base : Heap} {CX : CXT} {lv : Nat} {x q : Str} {st : Stmt} {dvs : List V} {kws : List (Str × V)} {ps : List Str} {sp : Sp} {C : Addr}
/-- keyword-only defaults alone, none given -/
theorem CoreD.form0 (h : CoreD P w K mg base CX lv x st [] kws ps sp) (n : Nat) (hk : kws ≠ []) (hn : n + kws.length = ps.length)
    (hb : ∀ (D : Addr) (doc pm : Value) (an : Option Addr) (cdv ct : Value) (us ks : List Value), us.length = n → ks.length = kws.length →
      KwChain D ((kws.map (·.1)).zip ks) (bindArgs (PySem.W.fnOf x x (defArgs st) (defBody st) (defScope st) .none (.ref D) doc pm an cdv ct) ⟨us, []⟩) (ps.zip (us ++ ks))) : DoesD P w K mg base CX lv x ps (kws.map (·.2)) sp := by
  obtain ⟨f, fd, F, A, g⟩ := h
  obtain ⟨ds, v, b⟩ := A.binds0 n hk hn hb
  exact ⟨f, fd, ds, F, g, A.kp, b, v⟩
/-- keyword-only defaults alone; ms lack -/
theorem CoreD.formN (h : CoreD P w K mg base CX lv x st [] kws ps sp) (n : Nat) (ks : List Str) (ms : List (Str × V)) (l : List (Bool × Nat)) (hk : kws ≠ []) (hms : ∀ q ∈ ms, q ∈ kws)
    (hb : ∀ (D : Addr) (doc pm : Value) (an : Option Addr) (cdv ct : Value) (us mv ws : List Value), us.length = n → mv.length = ms.length → ws.length = ks.length →
      KwChain D ((ms.map (·.1)).zip mv) (bindArgs (PySem.W.fnOf x x (defArgs st) (defBody st) (defScope st) .none (.ref D) doc pm an cdv ct) ⟨us, ks.zip ws⟩) (ps.zip (us ++ arrs mv ws l))) :
    DoesN P w K mg base CX lv x ps n ks (kwV (ms.map (·.2)) l) sp := by
  obtain ⟨f, fd, F, A, g⟩ := h
  obtain ⟨mv, b⟩ := A.kbinds0 n ks ms (fun us mv ws => us ++ arrs mv ws l) hk hms (fun h1 h2 h3 => h1.append (arrs_rel h2 h3 l)) hb
  exact ⟨f, fd, _, F, g, A.kp, b⟩
theorem kw_nil {D : Addr} : ∀ q ∈ ([] : List (Str × V)), ∃ u, PySem.W.nsIn K D q.1 = some (some u) ∧ RelV q.2 u := fun q hq => by cases hq
theorem kw_cons {D : Addr} {y : Str} {v : V} {u : Value} (h : PySem.W.nsIn K D y = some (some u)) (r : RelV v u) (t : ∀ q ∈ kws, ∃ u, PySem.W.nsIn K D q.1 = some (some u) ∧ RelV q.2 u) : ∀ q ∈ (y, v) :: kws, ∃ u, PySem.W.nsIn K D q.1 = some (some u) ∧ RelV q.2 u := by
  intro q hq
  rcases List.mem_cons.mp hq with e | e
  · rw [e]; exact ⟨u, h, r⟩
  · exact t q e
theorem funD_mkK {f D : Addr} {oc : Value} {od an : Option Addr} {osl : Array (Option Value)} {doc pm cdv ct : Value}
    (l : K.lookup f = some ⟨oc, od, .func (PySem.W.fnOf x q (defArgs st) (defBody st) (defScope st) .none (.ref D) doc pm an cdv ct), osl⟩) (c : PySem.W.codeIn K cdv q = true) (k : PySem.W.keepIn K (.ref f) = true)
    (h : ∀ q ∈ kws, ∃ u, PySem.W.nsIn K D q.1 = some (some u) ∧ RelV q.2 u) :
    FunD K x q (defArgs st) (defBody st) (defScope st) [] kws f (PySem.W.fnOf x q (defArgs st) (defBody st) (defScope st) .none (.ref D) doc pm an cdv ct) :=
  ⟨⟨oc, od, .none, .ref D, doc, pm, an, cdv, ct, osl, rfl, l, c, .inl ⟨rfl, rfl⟩, .inr ⟨D, rfl, h⟩⟩, k⟩
end
section
variable {α β : Type} {K : PySem.W.Frag} {R : Rl α} {S : Rl β} {B H : Hp} {σ : L2.St} {Q : VK} {t tk : TA} {sp : Sp} {gV : List V → List V → List V} {E : XK} {n m : Nat} {vs zs : List V} {v w : V} {as : List α} {bs : List β}
def KwZ (n m : Nat) (sp : Sp) (gV : List V → List V → List V) (E : XK) (Q : VK) (vs zs : List V) (H : Hp) : Prop := vs.length = n ∧ zs.length = m ∧ sp (gV vs zs) H Q E
theorem w_callN (g : t σ H fun vs H1 => tk σ H1 fun zs H2 => KwZ n m sp gV E Q vs zs H2) : tCallN n m sp gV E t tk σ H Q := g
theorem q_kw {us : List V} (h1 : vs.length = n) (h2 : zs.length = m) (e : gV vs zs = us) (g : sp (us ++ []) H Q E) : KwZ n m sp gV E Q vs zs H := ⟨h1, h2, by rw [e, ← List.append_nil us]; exact g⟩
/-! ### zip -/
theorem k_iZ {X : Cx} (K : PySem.W.Frag) {e e2 : Expr} {ta : TA} {p pos tpos : Pos} {elts : List Expr} {kk : Nat} (hg : Gl X "zip") (hm : X.mg "zip" = none) (ha : PA X [e, e2] ta)
    (hs : starEach [e, e2] X.env = (false, eval e X.env) :: starEach [e2] X.env := by rfl) (hpl : (backTo pos (starEach [e2] X.env)).any (·.1) = false := by rfl) (hK : X.K = K := by rfl) :
    PI X (.Tuple elts kk tpos) (.Call (.Name "zip" p) [e, e2] [] pos) (iZip K ta) := by
  subst hK
  exact pi_zip hg hm ha hs hpl
def WZ (K : PySem.W.Frag) (R' : It → Hp → Prop) (vs : List V) (H : Hp) : Prop := ∃ a b xs ys, vs = [.ref a, .ref b] ∧ SqL K H a xs ∧ SqL K H b ys ∧ R' (Itz K a b) H
theorem x_iZ {R' : It → Hp → Prop} (g : t σ H fun vs H1 => WZ K R' vs H1) : iZip K t σ H R' := g
theorem w_itZ {R' : It → Hp → Prop} (h : (dList R).rel B as v) (h2 : (dList S).rel B bs w) (s : Same B H) (g : ∀ J, ItOk J B B (as.zip bs) (dPair K R S) → R' J H) : WZ K R' [v, w] H := by
  obtain ⟨p, xs, rfl, h, f, _⟩ := h
  obtain ⟨p2, ys, rfl, h2, f2, _⟩ := h2
  refine ⟨p, p2, xs, ys, rfl, SqL.of (s _ _ h), SqL.of (s _ _ h2), g _ ⟨fun H => SqL K H p xs ∧ SqL K H p2 ys, _, walk_zip (by rw [List.length_zip, f.len, f2.len]), fun H' e => ⟨SqL.of (e _ _ h), SqL.of (e _ _ h2)⟩, ?_⟩⟩
  rintro i H x H' hi ⟨T, a, b, rfl, nT, rfl, hx, hy⟩
  obtain ⟨a', ha, r⟩ := f.get hx
  obtain ⟨b', hb, r2⟩ := f2.get hy
  refine ⟨(a', b'), ?_, fun Φ b cs Z e => ⟨upd b T (.tup [a, _]), Z.put nT, Z.updB nT, T, _, _, rfl, SqT.of upd_same, R.mono (e.tr (Z.updB nT)) r, S.mono (e.tr (Z.updB nT)) r2⟩⟩
  simp [List.getElem?_zip_eq_some, ha, hb]
theorem zip_le (h : as.length ≤ BIG) : (as.zip bs).length ≤ BIG := by rw [List.length_zip]; omega
end
end Mf

namespace Mf
open PySem PySem.Spec PyProof.Rows L2 NdefX
/-! ### a def that says super() in its first statement -/
/-- a statement that is run as one of a def's body -/
structure PSa (X : Cx) (body : List Stmt) (st : Stmt) (t : TS) : Prop where
  run : ∀ (pins : List (Addr × Obj)) (s : Shared) (σ : L2.St) (H : Hp) (D : Ends), Inv X pins σ H s → t D σ H → _root_.PySem.wpAt (model X.prog X.w) X.A (.func body X.env) (exec st X.env) (SP X pins D) X.xe s
abbrev supF (name qual : Str) (params : Arguments) (body : List Stmt) (scope : Scope) (cc c : Addr) : NF := ⟨name, qual, params, body, scope, [("__class__", cc)], c⟩
theorem fnS_of {CX : CXT} {P : Program} {w : World} {K : PySem.W.Frag} {mg : Str → Option Value} {base : Heap} {k : Nat} {f cc c D : Addr} {name qual : Str} {params : Arguments} {st0 : Stmt} {rest : List Stmt} {scope : Scope} {dV kV doc pm ct oc cl : Value} {an od cld : Option Addr}
    {osl csl : Array (Option Value)} {N ps : List Str} {sp : Sp}
    (lk : K.lookup f = some ⟨oc, od, .func (PySem.W.fnX name qual params (st0 :: rest) scope [("__class__", cc)] dV kV doc pm an (.ref c) ct), osl⟩) (hcd : PySem.W.codeIn K (.ref c) qual = true)
    (hcc : K.lookup cc = some ⟨cl, cld, .cell (some (.ref D)), csl⟩) (S : NScope N ps ["__class__"] scope) (len : ∀ vs H Q E, sp vs H Q E → vs.length = ps.length)
    (hbody : ∀ (A : Around) (outer : List Env) (s : Shared) (H : Hp) (vs : List V) (Q : VK) (E : XK), Room k (A.deeper (envF (supF name qual params (st0 :: rest) scope cc c) f s.heap.objs.size)) → sp vs H Q E →
      ∃ t0 t, PSa (ncx CX P w K mg base N (supF name qual params (st0 :: rest) scope cc c) f A outer s H E) (st0 :: rest) st0 t0 ∧ PSs (ncx CX P w K mg base N (supF name qual params (st0 :: rest) scope cc c) f A outer s H E) rest t ∧
        tSeq t0 t { nx := fun _ H' => Q .non H', rt := Q } (startF N vs [none]) H) :
    FnOk P w K mg base CX (k + 1) f (PySem.W.fnX name qual params (st0 :: rest) scope [("__class__", cc)] dV kV doc pm an (.ref c) ct) ps sp := by
  refine ⟨len, fun A outer s H args us vs Q E hr e0 hb r hsp => ?_⟩
  have hl := len _ _ _ _ hsp
  have KX : K.In s.heap := e0.mod.kin.keeps fun b o e => (e0.bs b o e).1
  have lim : s.heap.NoLimit := e0.mod.nolimit.keeps fun b o e => (e0.bs b o e).1
  have C : CellsAt [("__class__", cc)] ["__class__"] [none] s.heap H := by
    refine ⟨rfl, fun y c' e => ?_, fun x y c' e1 e2 => ?_, fun i y e => ?_⟩
    · have hc' : c' = cc := by
        rw [List.lookup_cons] at e
        split at e
        · exact (Option.some.inj e).symm
        · cases e
      subst hc'
      exact ⟨(e0.bs _ _ (e0.mod.kin _ _ hcc)).2, _, _, KX _ _ hcc, rfl⟩
    · rw [List.lookup_cons] at e1 e2
      split at e1
      · rename_i h1
        split at e2
        · rename_i h2
          exact (beq_iff_eq.mp h1).trans (beq_iff_eq.mp h2).symm
        · cases e2
      · cases e1
    · cases i with
      | zero =>
        have hy : y = "__class__" := (Option.some.inj e).symm
        subst hy
        exact ⟨cc, by rw [List.lookup_cons]; simp, fun v h => by simp at h⟩
      | succ i => simp at e
  refine codeAny_call_function hr.depth (KX _ _ lk) rfl S.co S.gen rfl (PySem.W.codeRec_of KX hcd) (hb _ _ _ _ ?_)
  refine wpAny_newFunctionEnv S.nocell (fun ⟨n, _⟩ hy => S.par n (List.of_mem_zip hy).1) (fun h₁ hns hsb => ⟨lim.fresh _ hsb, ?_⟩) S.kind
  show codeAny _ _ (.func (st0 :: rest) (envF (supF name qual params (st0 :: rest) scope cc c) f s.heap.objs.size)) _ _
  have kp : ∀ b o, s.heap.get? b = some o → h₁.get? b = some o := fun b o e => hsb.extBut b o (Nat.ne_of_lt (Heap.lt_size e)) (Heap.get?_push_of_some _ e)
  obtain ⟨t0, t, ht0, ht, hq⟩ := hbody A outer s H vs Q E (hr.deeper _) hsp
  have I : Inv (ncx CX P w K mg base N (supF name qual params (st0 :: rest) scope cc c) f A outer s H E) [] (startF N vs [none]) H { s with heap := h₁, toks := s.toks + (ps.zip us).length } := inv_startN S hr.hd e0 hl r C hns kp
  refine PySem.ks_codeAny_funcAt (PySem.ks_wpAt_execs_cons ?_)
  have fin : ∀ {σ' : L2.St} {H' : Hp} {v : V} {u : Value} {s' : Shared}, Inv (ncx CX P w K mg base N (supF name qual params (st0 :: rest) scope cc c) f A outer s H E) [] σ' H' s' → L2.RelV v u → Q v H' → CE outer P w H s Q u s' :=
    fun {σ' H' v u s'} J rv q => ⟨v, H', J.os, J.bare, J.base, J.hok, rv, q⟩
  refine PySem.ks_wpAt_mono (ht0.run [] _ _ _ _ I hq) (fun fl s' hs => ?_) fun e s' hs => hs
  cases fl with
  | ret u =>
    obtain ⟨v, σ', H', J, rv, q⟩ := hs
    exact fin J rv q
  | next =>
    obtain ⟨σ', H', J, q⟩ := hs
    refine wpAt_of_wpAny (wpAny_mono (ht.run [] _ σ' H' _ J q) (fun fl s' hs => ?_) fun e s' hs => hs)
    cases fl with
    | ret u =>
      obtain ⟨v, σ', H', J, rv, q⟩ := hs
      exact fin J rv q
    | next =>
      obtain ⟨σ', H', J, q⟩ := hs
      exact fin (v := V.non) (u := Value.none) J rfl q
    | brk =>
      obtain ⟨_, _, _, q⟩ := hs
      exact False.elim q
    | cont =>
      obtain ⟨_, _, _, q⟩ := hs
      exact False.elim q
  | brk =>
    obtain ⟨_, _, _, q⟩ := hs
    exact False.elim q
  | cont =>
    obtain ⟨_, _, _, q⟩ := hs
    exact False.elim q
/-! ### super().__init__(..) of an own exception over ValueError -/
section
open PySem.W PySem.Calls
variable {prog : Program} {w : World} {A : Around} {E : Value → Shared → Prop} {h : Heap} {g : Array GenState} {d : Drawn} {t : Nat} {os : OsState}
variable {nm q : Str} {C N : Addr} {bs bm : List Value} {hdct : Bool} {sn : List Str} {sub : List Value} {ab : Bool} {col : Option Bool} {dd : Option Addr} {k0 k1 k2 k3 k5 : Option Value}
theorem call_mw {u e t0 : Addr} {rest : List Value} {Q : Value → Shared → Prop}
    (hC : h.get? C = some (excClassObj nm q C N bs bm hdct sn sub ab col dd k0 k1 k2 k3 k5 "ValueError.__new__")) (he : h.get? e = some (excObj C t0 none .none)) (hu : h.get? u = some (kxs_mw "ValueError.__init__" e)) (hrest : rest.length ≤ sizeLine)
    (hq : ∀ h' t1, (∀ b o, b ≠ e → h.get? b = some o → h'.get? b = some o) → h'.get? e = some (excObj C t1 none .none) → Q .none ⟨h', g, d, t, os⟩) :
    wpAny (model prog w) A (call (.ref u) rest) Q E ⟨h, g, d, t, os⟩ := by
  refine wpAny_call (codeAny_of_tree ?_)
  show wpAny _ A.in1 (callAny (.ref u) ⟨rest, []⟩) _ _ _
  simp only [callAny]
  refine wpAny_bind (wpAny_load hu ?_)
  simp only [kxs_mw, show (Value.type "method-wrapper" == Value.type "method" || Value.type "method-wrapper" == Value.type "builtin_function_or_method" || Value.type "method-wrapper" == Value.type "method-wrapper") = true by decide, if_true]
  refine KFB.if_so (by decide) ?_
  refine wpAny_bind (check_bound_init F.excBase_ValueError.toExcCallFacts hC he rfl ?_)
  refine wpAny_bind (wpAny_pure (wpAny_pure ?_))
  refine ⟨plainId_quiet F.excBase_ValueError.init.plain _, codeAny_builtin F.excBase_ValueError.initEntry ?_⟩
  exact exc_init_tree (cls := .ref C) (t0 := t0) (dv := none) (c2 := .none) (c3 := .none) (b4 := .bool false) he hrest fun h' k1 k2 _ => hq h' _ k1 k2
end
/-- what K tells of a def that says super() -/
structure SupC (K : PySem.W.Frag) (P : Program) (mg : Str → Option Value) (C D f cc c : Addr) (slf : Str) : Prop where
  fn : ∃ oc od fd osl ar, K.lookup f = some ⟨oc, od, .func fd, osl⟩ ∧ (fd.params.posonlyargs ++ fd.params.args).head? = some ar ∧ ar.arg = slf
  cell : ∃ cl cld csl, K.lookup cc = some ⟨cl, cld, .cell (some (.ref D)), csl⟩
  code : ∃ ccl cdd vs ccs file tf, K.lookup c = some ⟨ccl, cdd, .fields vs, ccs⟩ ∧ vs[2]? = some (.str file tf) ∧ ((P.main.file : Str) == file) = true
  cls : ∃ cd, PySem.W.clsIn K D = some cd
  sub : PySem.W.mroIn K C (.ref D) = some true
  opq : PySem.W.nsIn K cStatics "thirdparty.any" = some none
  top : (P.main.scope.names.lookup ("super" : Str)).isSome = false
  none : mg "super" = none
def tSup (C : Addr) (ta : TA) : TS := fun D σ H => ∃ a, σ[0]? = some (some (.ref a)) ∧ H a = some (exo a C none) ∧ ta σ H fun vs H1 => vs.length ≤ 1000 ∧ H1 a = some (exo a C none) ∧ D.nx σ H1
section
variable {X : Cx} {C D f cc c : Addr} {slf : Str} {body : List Stmt} {p0 p1 p2 pos pos' : Pos} {e : Expr} {es : List Expr} {ta : TA} {pl : Sem Bool}
theorem psa_sup (T : OexC X.K C) (W : SupC X.K X.prog X.mg C D f cc c slf) (hm : PySem.W.ks_superIn X.K C D "__init__" = some (some (.builtin "ValueError.__init__"))) (hB : PySem.W.subIn X.K (.ref C) (.type "ValueError") = some true)
    (hks : X.env.kindOf "super" = some .globalImplicit) (hkc : X.env.kindOf "__class__" = some .free) (hka : X.env.kindOf slf = some .local) (hfu : X.env.func = some f) (hco : X.env.code = .ref c) (hce : X.env.cells.lookup ("__class__" : Str) = some cc) (hN : X.N[0]? = some slf)
    (ha : PA X (e :: es) ta) (hboot : bootBuiltins "super" = some (.type "super") := by rfl)
    (hev : eval (.Call (.Attribute (.Call (.Name "super" p0) [] [] p1) "__init__" p2) (e :: es) [] pos) X.env = (do
      let ov ← attributeBase (.Call (.Name "super" p0) [] [] p1) "__init__" X.env (eval (.Call (.Name "super" p0) [] [] p1) X.env)
      standAt p2.atName
      let (f, first) ← holding [ov] (getMethod ov "__init__" pl)
      callWith pos f first (backTo pos (starEach (e :: es) X.env)) []) := by rfl)
    (hi : interactive X.env = false := by rfl) (hsw : swapsWith (.Call (.Attribute (.Call (.Name "super" p0) [] [] p1) "__init__" p2) (e :: es) [] pos) Option.none pos'.line X.env = pure false := by rfl)
    (he : starEach (e :: es) X.env = (false, eval e X.env) :: starEach es X.env := by rfl) (hpl : (backTo pos (starEach es X.env)).any (·.1) = false := by rfl) :
    PSa X body (.Expr (.Call (.Attribute (.Call (.Name "super" p0) [] [] p1) "__init__" p2) (e :: es) [] pos) pos') (tSup C ta) := by
  refine ⟨fun pins s σ H Dn I h => ?_⟩
  obtain ⟨a, hσ, ea, q⟩ := h
  refine PySem.ks_wpAt_Expr_any ?_ hi hsw
  refine PySem.ks_wpAt_MethodCall (pl := pl) ?_ hev
  obtain ⟨oc, od, fd, osl, ar, hf, hp, har⟩ := W.fn
  obtain ⟨cl, cld, csl, hcell⟩ := W.cell
  obtain ⟨ccl, cdd, vs2, ccs, file, tf, hcode, hvs, hfile⟩ := W.code
  obtain ⟨cdD, hD⟩ := W.cls
  have KX := I.kIn
  obtain ⟨mb, hb1, hb2⟩ := I.mod.blt
  obtain ⟨t1, ho⟩ := exo_at I.hok ea
  obtain ⟨m, hns, hloc⟩ := I.loc
  have hself : m slf = some (.ref a) := by
    obtain ⟨u, ru, lk⟩ := hloc 0 slf (.ref a) hN hσ (.inl hka)
    obtain rfl : u = Value.ref a := ru
    rcases lk with ⟨_, z⟩ | ⟨z, _⟩
    · exact z
    · rw [hka] at z
      rcases z with z | z <;> cases z
  obtain ⟨oD, hD1, hD2⟩ : ∃ oD, s.heap.get? D = some oD ∧ oD.data = .cls cdD := by
    unfold PySem.W.clsIn at hD
    split at hD
    · rename_i c' d' cd' sl' hoD
      cases hD
      exact ⟨_, KX _ _ hoD, rfl⟩
    · cases hD
  refine PySem.ks_wpAt_super_base (env := X.env) hks hkc (by decide) hfu (KX _ _ hf) rfl hp hco (KX _ _ hcode) rfl hvs hfile W.top ?_
  refine PySem.W.ks_loadName_global I.ok.kind hks (Calls.loadGlobal_builtin (by rw [I.ok.glob]; exact I.mod.glob.keeps I.bk) W.none (by rw [I.ok.blt]; exact hb1.keeps I.bk) ((hb2 "super" (by decide)).trans hboot) ⟨rfl, ?_⟩)
  refine wpAny_loadName_free I.ok.kind hkc hce ⟨_, KX _ _ hcell, rfl⟩ ?_
  rw [har]
  refine wpAny_loadName_local I.ok.kind hka hns hself ?_
  obtain ⟨hp0, g0, d0, t0, os0⟩ := s
  refine PySem.ks_wpAny_isType_cls hD1 hD2 ⟨rfl, ?_⟩
  refine PySem.ks_wpAny_call_super hD1 hD2 ho rfl (fun c' z => by cases z) (PySem.W.looks_mroIn KX W.sub) (fun h' hso k => ?_)
  have J := ClX.pin_new (t' := t0) I k (Nat.le_refl _) hso (fun v z => by cases z)
  have KX2 : X.K.In h' := J.kIn
  have ho2 := k _ _ ho
  have aC : a ≠ C := fun z => by
    obtain ⟨nm, q', N', bs, bm, sn, sub, ab, col, dd, k0, k1, k2, k3, k5, hC, _⟩ := T.cls
    have e2 := KX _ _ hC
    rw [← z] at e2
    rw [e2] at ho
    cases ho
  obtain ⟨nm, q', N', bs, bm, sn, sub, ab, col, dd, k0, k1, k2, k3, k5, hC, hbm⟩ := T.cls
  have hcl : PySem.W.clsIn X.K C = some { name := nm, bases := bs, mro := .ref C :: bm, ns := N', qualname := q', hasDict := true, slotNames := sn, subclasses := sub, abstract := ab, collection := col, hasDel := false } := by unfold PySem.W.clsIn; rw [hC] <;> rfl
  unfold PySem.W.ks_superIn at hm
  rw [hcl] at hm
  have IA : PySem.W.InstAt h' a _ C none := ⟨ho2, rfl, rfl, trivial⟩
  refine PySem.W.kxs_getMethod PySem.W.kxs_ValueError hso (PySem.W.looks_opaque KX2 W.opq) (l₀ := .ref C :: bm) ?_ rfl KX2 hm (IA.type.andThen (PySem.W.looks_subIn KX2 hB)) aC (by decide) ?_
  · exact fun A Q E s k q => wpAny_bind ((PySem.W.looks_clsIn KX2 hcl) A _ E s k (wpAny_pure q))
  have J2 := ClX.pin_new (t' := t0 + 1) J (h' := h'.push (PySem.W.kxs_mw "ValueError.__init__" a)) (o := PySem.W.kxs_mw "ValueError.__init__" a) (a := h'.objs.size) (fun b o z => Heap.get?_push_of_some _ z) (Nat.le_refl _) (Heap.get?_push_at rfl rfl) (fun v z => by cases z)
  show wpAny _ _ (callWith pos (Value.ref h'.objs.size) [] (backTo pos (starEach (e :: es) X.env)) []) _ _ _
  have hrun := ha.run pos _ _ σ H _ J2 q
  rw [he] at hrun ⊢
  refine PySem.W.kxs_callWith (i := "ValueError.__init__") (x := a) (by show (false || (backTo pos (starEach es X.env)).any (·.1)) = false; rw [hpl]; rfl) (PySem.Calls.evalArgs_plain ?_)
  refine thn hrun fun us s1 hh => ?_
  obtain ⟨vs, H1, I1, r1, hl, ea1, qn⟩ := hh
  refine ⟨ClX.pin_at I1, ?_⟩
  obtain ⟨t2, ho3⟩ := exo_at I1.hok ea1
  have hu := ClX.pin_at I1
  have hus : us.length ≤ sizeLine := by
    rw [← r1.length, sizeLine_eq]
    omega
  obtain ⟨h1, g1, d1, tk1, os1⟩ := s1
  refine call_mw (I1.kIn _ _ hC) ho3 hu hus fun h2 t3 k2 hx => ?_
  have I2 := ClX.unpin (ClX.unpin I1)
  have J3 := I2.write (t' := tk1) (x := a) (e := a) (o := exo a C none) (by rw [ea1]; exact True.intro) (.inl rfl) k2 ⟨_, hx⟩ (exo_ok hx)
  have eu : upd H1 a (exo a C none) = H1 := by
    funext b
    by_cases hb : b = a
    · rw [hb, upd_same, ea1]
    · rw [upd_ne hb]
  rw [eu] at J3
  exact ⟨σ, H1, J3, qn⟩
end
/-- what the __init__ of an own exception keeps: its fields, in their order -/
def spX (C : Addr) (fs : List Str) : Sp := fun vs H Q _ => ∃ (a : Addr) (ws : List V), vs = .ref a :: ws ∧ ws.length = fs.length ∧ H a = some (exo a C none) ∧ ∀ dx, H dx = none → dx ≠ a → Q .non (upd (upd H dx (exd dx (fs.zip ws).reverse)) a (exo a C (some dx)))
def XQ (C : Addr) (fs : List Str) (Q : XK) (vs : List V) (H1 : Hp) : Prop := vs.length ≤ 1000 ∧ ∀ a, H1 a = none → spX C fs (.ref a :: (vs ++ [])) (upd H1 a (exo a C none))
  (fun v H2 => v = .non ∧ ∃ (d : Addr) (fs : List (Str × V)), H2 a = some (exo a C (some d)) ∧ H2 d = some (exd d fs) ∧ H1 d = none ∧ Q (.ref C) (some d) (upd (del H2 a) d (.xd fs))) (fun _ _ _ => False)
theorem w_exc {C : Addr} {fs : List Str} {ta : TA} {σ : L2.St} {H : Hp} {Q : XK} (g : ta σ H fun vs H1 => XQ C fs Q vs H1) : tMkO C (spX C fs) [] ta σ H Q := g
theorem q_exc {C : Addr} {fs : List Str} {Q : XK} {vs : List V} {H : Hp} (hl : vs.length = fs.length) (hb : vs.length ≤ 1000) (g : ∀ d, H d = none → Q (.ref C) (some d) (upd H d (.xd (fs.zip vs).reverse))) : XQ C fs Q vs H := by
  refine ⟨hb, fun a ha => ⟨a, vs ++ [], rfl, by rw [List.append_nil]; exact hl, upd_same, fun dx hdx hne => ⟨rfl, dx, _, upd_same, by rw [upd_ne hne, upd_same], ?_, ?_⟩⟩⟩
  · rw [upd_ne hne] at hdx; exact hdx
  · rw [upd_ne hne] at hdx
    have e : ∀ l, upd (del (upd (upd (upd H a (exo a C none)) dx (exd dx l)) a (exo a C (some dx))) a) dx (.xd l) = upd H dx (.xd l) := by
      intro l
      funext b
      by_cases h1 : b = dx
      · rw [h1, upd_same, upd_same]
      · rw [upd_ne h1, upd_ne h1]
        by_cases h2 : b = a
        · rw [h2, del_same, ha]
        · rw [del_ne h2, upd_ne h2, upd_ne h1, upd_ne h2]
    rw [e, List.append_nil]
    exact g dx hdx
end Mf

namespace Mf
open PySem PySem.Spec PyProof.Rows L2
/-! ### what a def gives that may raise -/
/-- the program's errors: k tells the class -/
inductive Exn
  | txt (k : Nat) (s : Str)
  | num (k : Nat) (i : Int)
  | pth (k : Nat) (p : List Int)
  | fail (n : Str) (p : List Str) (pl : Str)
inductive Rs (α : Type)
  | ok (a : α)
  | ex (e : Exn)
def Rs.on {α β : Type} (r : Rs α) (f : α → Option (Rs β)) : Option (Rs β) := match r with
  | .ok a => f a
  | .ex e => some (.ex e)
def Rs.tr {α β : Type} (r : Rs α) (f : α → β) (g : Exn → β) : β := match r with
  | .ok a => f a
  | .ex e => g e
/-- the field of an error of class k -/
def exFld : Nat → Str
  | 1 => "name"
  | 2 => "place"
  | 6 => "name"
  | 7 => "path"
  | _ => "line"
/-- an exception in flight stands for e; cx: the classes -/
def ExR (K : PySem.W.Frag) (cx : Nat → Addr) (e : Exn) (cls : Value) (d : Option Addr) (B : Hp) : Prop := match e with
  | .txt k s => cls = .ref (cx k) ∧ ∃ dd, d = some dd ∧ B dd = some (.xd [(exFld k, .str s)])
  | .num k i => cls = .ref (cx k) ∧ ∃ dd, d = some dd ∧ B dd = some (.xd [(exFld k, .int i)])
  | .pth k p => cls = .ref (cx k) ∧ ∃ dd v, d = some dd ∧ B dd = some (.xd [(exFld k, v)]) ∧ (dTup K dInt).rel B p v
  | .fail n p pl => cls = .ref (cx 0) ∧ ∃ dd v, d = some dd ∧ B dd = some (.xd [("place", .str pl), ("path", v), ("name", .str n)]) ∧ (dTup K dStr).rel B p v
theorem ExR.mono {K : PySem.W.Frag} {cx : Nat → Addr} {e : Exn} {cls : Value} {d : Option Addr} {B B' : Hp} (s : Same B B') (h : ExR K cx e cls d B) : ExR K cx e cls d B' := by
  cases e with
  | txt k x => obtain ⟨h1, dd, h2, h3⟩ := h; exact ⟨h1, dd, h2, s _ _ h3⟩
  | num k x => obtain ⟨h1, dd, h2, h3⟩ := h; exact ⟨h1, dd, h2, s _ _ h3⟩
  | pth k p => obtain ⟨h1, dd, v, h2, h3, h4⟩ := h; exact ⟨h1, dd, v, h2, s _ _ h3, (dTup K dInt).mono s h4⟩
  | fail n p pl => obtain ⟨h1, dd, v, h2, h3, h4⟩ := h; exact ⟨h1, dd, v, h2, s _ _ h3, (dTup K dStr).mono s h4⟩
/-- the promise of such a def, behind its arguments -/
def Prm {α : Type} (K : PySem.W.Frag) (cx : Nat → Addr) (R : Rl α) (B H : Hp) (r : Rs α) (Q : VK) (E : XK) : Prop :=
  (∀ a, r = .ok a → ∀ (v : V) (B' H' : Hp), Sit ⟨B, H, []⟩ B' H' [] → R.rel B' a v → Q v H') ∧ ∀ e, r = .ex e → ∀ (cls : Value) (d : Option Addr) (B' H' : Hp), Sit ⟨B, H, []⟩ B' H' [] → ExR K cx e cls d B' → E cls d H'
theorem Prm.use {α : Type} {K : PySem.W.Frag} {cx : Nat → Addr} {R : Rl α} {Φ : Fr} {B H : Hp} {cs : List (Addr × HO)} {r : Rs α} {Q : VK} {E : XK} (Z : Sit Φ B H cs)
    (k : ∀ a, r = .ok a → ∀ (v : V) (B' H' : Hp), Sit Φ B' H' cs → Same B B' → R.rel B' a v → Q v H') (kx : ∀ e, r = .ex e → ∀ (cls : Value) (d : Option Addr) (B' H' : Hp), Sit Φ B' H' cs → Same B B' → ExR K cx e cls d B' → E cls d H') : Prm K cx R B H r Q E :=
  ⟨fun a ha v B' H' Z' h => k a ha v B' H' (Z.call0 Z') Z'.grow h, fun e he cls d B' H' Z' h => kx e he cls d B' H' (Z.call0 Z') Z'.grow h⟩
theorem passE {X : Cx} {E : XK} (tk : Takes X (fun cls d _ H => E cls d H)) : Passes (L2.CX X.prog X.w) X E := fun _ _ _ _ e s' I c => tk e s' (XE.of_call I (fun _ _ _ h => h) c)
/-- raise C(x) -/
theorem x_raise {C : Addr} {fs : List Str} {ta : TA} {σ : L2.St} {H : Hp} {D : Ends} {W : WX} (g : ta σ H fun vs H1 => XQ C fs (fun cls d H' => W cls d σ H') vs H1) : (fun (_ : Ends) σ H => tMkO C (spX C fs) [] ta σ H fun cls d H' => W cls d σ H') D σ H := g
/-- an own exception class, as a def that raises it needs it -/
structure ExcF (P : Program) (w : World) (K : PySem.W.Frag) (mg : Str → Option Value) (base : Heap) (x : Str) (C : Addr) (ps fs : List Str) : Prop where
  T : OexC K C
  ini : ∃ fI fd, PySem.W.findIn K (.ref C) "__init__" = some (some (.ref fI)) ∧ PySem.W.typeIn K (.ref fI) = some (.type "function") ∧ FnOk P w K mg base CX0 1 fI fd ps (spX C fs) ∧ Binds K fd ps []
  g : mg x = some (.ref C)
theorem pmk_x {X : Cx} {x : Str} {C : Addr} {ps fs : List Str} {e : Expr} {es : List Expr} {ta : TA} {p pos : Pos} (F : ExcF X.prog X.w X.K X.mg X.base x C ps fs) (hr : Room 2 X.A) (hg : Gl X x) (ha : PA X (e :: es) ta)
    (hdb : (x == ("__debug__" : Str)) = false := by decide) (he : starEach (e :: es) X.env = (false, eval e X.env) :: starEach es X.env := by rfl) (hpl : (backTo pos (starEach es X.env)).any (·.1) = false := by rfl) :
    PMk X (.Call (.Name x p) (e :: es) [] pos) (tMkO C (spX C fs) [] ta) := by
  obtain ⟨fI, fd, h1, h2, h3, h4⟩ := F.ini
  exact pmk_oex F.T h1 h2 h3 hr h4 .nil pass0 hg F.g ha hdb he hpl
theorem on_ok {α β : Type} {a : α} {f : α → Option (Rs β)} : (Rs.ok a).on f = f a := rfl
theorem on_ex {α β : Type} {e : Exn} {f : α → Option (Rs β)} : (Rs.ex e : Rs α).on f = some (.ex e) := rfl
theorem okX {P : Program} {w : World} {K : PySem.W.Frag} {mg : Str → Option Value} {base : Heap} {x qual : Str} {st : Stmt} {f : Addr} {fd : FuncData} {N ps : List Str} {k : Nat} {sp : Sp} (F : Fun K x qual st f fd) (S : FnScope N ps (defScope st)) (len : ∀ vs H Q E, sp vs H Q E → vs.length = ps.length)
    (hbody : ∀ (cdv : Value) (A : Around) (outer : List Env) (s : Shared) (H : Hp) (vs : List V) (Q : VK) (E : XK), Room k (A.deeper (envOfC qual (defScope st) s.heap.objs.size f cdv)) → sp vs H Q E →
      ∃ t, PSs (cxOf (L2.CX P w) P w K mg base N qual (defScope st) f cdv A outer s H E) (defBody st) t ∧ t { nx := fun _ H' => Q .non H', rt := Q } (start N vs) H) : FnOk P w K mg base (L2.CX P w) (k + 1) f fd ps sp := by
  obtain ⟨oc, od, kV, doc, pm, an, cdv, ct, osl, rfl, lk, hcd⟩ := F.ex
  exact fn_of lk hcd S len fun A outer s H vs Q E hr hsp => hbody cdv A outer s H vs Q E hr hsp
def optG : Option Str → Str
  | some s => s
  | none => Str.empty
theorem optN {B : Hp} {r : Option Str} {v : V} (h : (dOpt dStr).rel B r v) (c : (!r.isNone) = true) : v = V.str (optG r) := by
  cases r with
  | none => cases c
  | some s => exact h.1
end Mf

namespace Mf
open PySem PySem.Spec PyProof.Rows L2
/-! ### calls within a try: what is raised is wished for at the slots -/
theorem passN {X : Cx} : Passes (L2.CX X.prog X.w) X (fun _ _ _ => False) := fun _ _ _ _ _ _ _ c => by
  obtain ⟨_, _, _, _, _, _, _, _, _, _, _, _, z⟩ := c
  exact z.elim
theorem tkN {X : Cx} : Takes X (fun _ _ _ _ => False) := fun _ _ c => by
  obtain ⟨_, _, _, _, _, _, _, _, _, _, _, _, _, _, _, _, z⟩ := c
  exact z.elim
section
variable {X : Cx} {CX : CXT} {k n : Nat} {f C : Addr} {fd : FuncData} {ps ks : List Str} {sp : Sp} {dvs : List V} {ds : List Value} {E : L2.St → XK} {x : Str} {p pos : Pos} {e : Expr} {es : List Expr} {kws : List Keyword} {t tk : TA} {pins : List (Addr × Obj)} {σ : L2.St} {H : Hp} {s : Shared}
  {g : List Value → List Value → List Value} {gV : List V → List V → List V}
theorem getS1 {Q : VK} {us : List Value} {vs : List V} (F : FnOk X.prog X.w X.K X.mg X.base CX k f fd ps sp) (hr : Room (k + 1) X.A) (hb : Binds X.K fd ps []) (hx : PassesAt CX X σ (E σ)) (I : Inv X pins σ H s) (r : Vals vs us) (h : sp vs H Q (E σ)) :
    wpAny (model X.prog X.w) X.A.in1 (call (.ref f) us) (EP X pins σ Q) X.xe s := by
  have b := hb s us I.kIn (by rw [List.append_nil, ← r.length]; exact F.len _ _ _ _ h)
  rw [List.append_nil] at b
  refine wpAny_call (codeAny_mono (F.run X.A.in1 X.stack s H ⟨us, []⟩ us vs Q (E σ) hr.in1 I.env0.in1 b r h) fun w s2 z => ?_)
  cases w with
  | error u => exact hx pins H s u s2 I z
  | ok fl => cases fl <;> first | exact I.after z | exact z.elim
def tOpS (r : L2.St → R2) (ta tb : TE) : TE := fun σ H Q => ta σ H fun x H1 => tb σ H1 fun y H2 => r σ x y H2 Q
theorem w_opS {r : L2.St → R2} {ta tb : TE} {Q : VK} (h : ta σ H fun x H1 => tb σ H1 fun y H2 => r σ x y H2 Q) : tOpS r ta tb σ H Q := h
theorem e_getS {a b : Expr} {ta tb : TE} (hm : Meth X.K C "__getitem__" f) (hf : PySem.W.fnIn X.K f = true) (F : FnOk X.prog X.w X.K X.mg X.base CX k f fd ps sp) (hr : Room (k + 1) X.A) (hb : Binds X.K fd ps []) (hx : ∀ σ, PassesAt CX X σ (E σ)) (ha : PE X a ta) (hb' : PE X b tb)
    (hsl : ∀ o i, subscripted b true o i = runValue (.builtin "lifetime.subscript" ⟨[o, i], []⟩) := by intro _ _; with_unfolding_all rfl) : PE X (.Subscript a b pos) (tOpS (fun σ => rGetO C sp (E σ)) ta tb) := by
  refine ⟨fun pins s σ H Q I h => ?_⟩
  refine Subscript_ (binT (R := fun x y H => rGetO C sp (E σ) x y H Q) ha hb' I h fun v u s2 x y H2 I2 rx ry ⟨p, dx, fs, ex, hp, q⟩ => ?_)
  subst ex
  cases (show v = Value.ref p from rx)
  obtain ⟨od, Jn⟩ := inst_of I2 hp
  obtain ⟨m, hF⟩ := I2.fr
  exact PySem.W.sub_K hF I2.ok.mod.kin Jn hm.at_ hf hm.fn (getS1 (us := [.ref p, u]) (vs := [.ref p, y]) F hr hb (hx σ) I2 (.cons rfl (.cons ry .nil)) q) (hsl _ _)
/-- C(e, ..) -/
def tMakeS (C : Addr) (sp : Sp) (dvs : List V) (E : L2.St → XK) (t : TA) : TE := fun σ H Q => t σ H fun vs H1 => MkB C sp (E σ) Q (vs ++ dvs) H1
theorem makS1 {Q : VK} {us : List Value} {vs : List V} (M : Mk X.K C f) (F : FnOk X.prog X.w X.K X.mg X.base CX k f fd ps sp) (hr : Room (k + 1) X.A) (hb : Binds X.K fd ps ds) (hd : Vals dvs ds) (hx : PassesAt CX X σ (E σ)) (I : Inv X pins σ H s) (r : Vals vs us)
    (h : MkB C sp (E σ) Q (vs ++ dvs) H) : wpAny (model X.prog X.w) X.A (call (.ref C) us) (EP X pins σ Q) X.xe s := by
  obtain ⟨z, hz⟩ : ∃ z, z = s.heap.objs.size := ⟨_, rfl⟩
  have hq := h (s.heap.objs.size + 1) s.heap.objs.size (I.hok.fresh (Nat.le_succ _)) (I.hok.fresh (Nat.le_refl _)) (Nat.ne_of_lt (Nat.lt_succ_self _))
  have J := Inv.made (C := C) I
  have rr : Vals (V.ref (s.heap.objs.size + 1) :: (vs ++ dvs)) (Value.ref (s.heap.objs.size + 1) :: (us ++ ds)) := .cons rfl (r.append hd)
  have hl : (Value.ref (s.heap.objs.size + 1) :: us ++ ds).length = ps.length := (rr.length.symm.trans (F.len _ _ _ _ hq))
  refine wpAny_call (make_map (f := f) I.kIn M.makes M.init (beq_iff_eq.mp M.fn) (codeAny_mono (F.run _ X.stack _ _ ⟨Value.ref (s.heap.objs.size + 1) :: us, []⟩ (Value.ref (s.heap.objs.size + 1) :: (us ++ ds)) _ _ (E σ)
    (hr.make C us []) (J.env0.make C us []) (hb _ (Value.ref (s.heap.objs.size + 1) :: us) J.kIn hl) rr hq) fun w s2 z => ?_))
  cases w with
  | error u => exact hx pins _ _ u s2 J z
  | ok fl =>
    cases fl with
    | ret u =>
      obtain ⟨v, H3, J3, rv, ev, q3⟩ := J.after z
      subst ev
      exact ⟨rv, ⟨V.ref (s.heap.objs.size + 1), H3, J3, rfl, q3⟩⟩
    | next => exact z.elim
    | brk => exact z.elim
    | cont => exact z.elim
theorem e_makeS (M : Mk X.K C f) (F : FnOk X.prog X.w X.K X.mg X.base CX k f fd ps sp) (hr : Room (k + 1) X.A) (hg : Gl X x) (hm : X.mg x = some (.ref C)) (hb : Binds X.K fd ps ds) (hd : Vals dvs ds) (hx : ∀ σ, PassesAt CX X σ (E σ))
    (ha : PA X (e :: es) t) (hdb : (x == ("__debug__" : Str)) = false := by decide) (he : starEach (e :: es) X.env = (false, eval e X.env) :: starEach es X.env := by rfl) (hpl : (backTo pos (starEach es X.env)).any (·.1) = false := by rfl) :
    PE X (.Call (.Name x p) (e :: es) [] pos) (tMakeS C sp dvs E t) := by
  refine ⟨fun pins s σ H Q I h => wpAny_Call_Name_kw (ld_glob I hg hm ?_ hdb)⟩
  exact PySem.W.callWith_K (h₀ := X.base) I.ok.mod.kin M.kp (thn (ha.run pos pins s σ H _ I h) fun us s1 ⟨vs, H1, I1, r, q⟩ => ⟨I1.kIn, makS1 M F hr hb hd (hx σ) I1 r q⟩) he hpl
/-- f(e, .., k = v, ..) -/
def tCallNS (n m : Nat) (sp : Sp) (gV : List V → List V → List V) (E : L2.St → XK) (t tk : TA) : TE := fun σ H Q => tCallN n m sp gV (E σ) t tk σ H Q
theorem e_callNS (F : FnOk X.prog X.w X.K X.mg X.base CX k f fd ps sp) (hr : Room k X.A) (hg : Gl X x) (hm : X.mg x = some (.ref f)) (hk : PySem.W.keepIn X.K (.ref f) = true) (hb : KBn X.K fd ps n ks g gV) (hx : ∀ σ, PassesAt CX X σ (E σ))
    (ha : PA X (e :: es) t) (hkw : PK X kws tk) (hall : (backToKw pos (keywordEach kws X.env)).all (·.1.isSome) = true := by rfl) (hks : (backToKw pos (keywordEach kws X.env)).filterMap (·.1) = ks := by rfl)
    (hdb : (x == ("__debug__" : Str)) = false := by decide) (he : starEach (e :: es) X.env = (false, eval e X.env) :: starEach es X.env := by rfl)
    (hpl : ((backTo pos (starEach (e :: es) X.env)).any (·.1) || (backToKw pos (keywordEach kws X.env)).any (·.1.isNone)) = false := by rfl) :
    PE X (.Call (.Name x p) (e :: es) kws pos) (tCallNS n ks.length sp gV E t tk) := by
  refine ⟨fun pins s σ H Q I h => wpAny_Call_Name_kw (ld_glob I hg hm ?_ hdb)⟩
  refine PySem.W.callWith_KW (h₀ := X.base) I.ok.mod.kin hk hall (thn (ha.run pos pins s σ H _ I h) fun us s1 ⟨vs, H1, I1, r, q⟩ => ?_) hpl he
  refine thn (hkw.run pos pins s1 σ H1 _ I1 q) fun ws s2 ⟨zs, H2, I2, rz, l1, l2, q2⟩ => ⟨I2.kIn, ?_⟩
  rw [hks]
  refine wpAny_call (codeAny_mono (F.run X.A X.stack s2 H2 ⟨us, ks.zip ws⟩ (g us ws) (gV vs zs) Q (E σ) hr I2.env0 (hb.to s2 us ws I2.kIn (r.length.symm.trans l1) (rz.length.symm.trans l2)) (hb.rel r rz) q2) fun w s3 z => ?_)
  cases w with
  | error u => exact hx σ pins H2 s2 u s3 I2 z
  | ok fl => cases fl <;> first | exact I2.after z | exact z.elim
end
/-! ### the except clause -/
section
variable {K : PySem.W.Frag} {c cls : Value} {i : Nat} {ts : Addr → Value → Option Addr → TS} {Wout : WX} {D : Ends} {σ σ' : L2.St} {H : Hp} {d : Option Addr} {P : L2.St → Hp → Prop}
theorem w_as (hx : PySem.W.exmOne K cls c = some true) (g : ∀ a, H a = none → ts a cls d { nx := fun σ' H' => D.nx (σ'.set i none) H', rt := D.rt, bk := fun σ' H' => D.bk (σ'.set i none) H', ct := fun σ' H' => D.ct (σ'.set i none) H' } (σ.set i (some (.ref a))) H) : L2.WE (wAs K c i ts Wout D) σ cls d H :=
  ⟨true, hx, fun _ => g, fun z => by cases z⟩
theorem w_unas (e : σ.set i none = σ') (g : P σ' H) : (fun (s : L2.St) (h : Hp) => P (s.set i none) h) σ H := by
  subst e
  exact g
theorem w_pnx {a b c : L2.St → Hp → Prop} {r : VK} (g : a σ H) : (Ends.mk a r b c).nx σ H := g
theorem Ev.xf {a C dd : Addr} {f : Str} {te : TE} {v : V} {fs : List (Str × V)} (h : Ev te σ H (.ref a)) (hd : H dd = some (.xd fs)) (hl : fs.lookup f = some v) : Ev (tXf a (.ref C) (some dd) C f te) σ H v := fun Q q => h _ ⟨rfl, rfl, dd, fs, v, rfl, hd, hl, q⟩
end
section
variable {α β γ : Type} {K : PySem.W.Frag} {R : Rl α} {S : Rl β} {T' : Rl γ} {B H : Hp} {v : V} {b : Bool} {T : String}
theorem isi_xT {x : List α} (h : (dTup K R).rel B x v) (s : Same B H) (hk : PySem.W.kitOne K (.type "tuple") (.type T) = some b) : ∀ Q : VK, Q (.bl b) H → rIsi K [v, .ty T] H Q := fun Q q => by
  obtain ⟨p, vs, rfl, h, _⟩ := h
  exact w_isi (.ty T) (tyx_t (Same.sqt s h)) hk q
theorem isi_xL {x : List α} (h : (dList R).rel B x v) (s : Same B H) (hk : PySem.W.kitOne K (.type "list") (.type T) = some b) : ∀ Q : VK, Q (.bl b) H → rIsi K [v, .ty T] H Q := fun Q q => by
  obtain ⟨p, vs, rfl, h, _⟩ := h
  exact w_isi (.ty T) (tyx_l (SqL.of (s _ _ h))) hk q
theorem isi_x1 {x : α} (h : (dOne K R).rel B x v) (s : Same B H) (hk : PySem.W.kitOne K (.type "tuple") (.type T) = some b) : ∀ Q : VK, Q (.bl b) H → rIsi K [v, .ty T] H Q := fun Q q => by
  obtain ⟨p, a, rfl, h, _⟩ := h
  exact w_isi (.ty T) (tyx_t (Same.sqt s h)) hk q
theorem isi_x2 {x : α × β} (h : (dPair K R S).rel B x v) (s : Same B H) (hk : PySem.W.kitOne K (.type "tuple") (.type T) = some b) : ∀ Q : VK, Q (.bl b) H → rIsi K [v, .ty T] H Q := fun Q q => by
  obtain ⟨p, a, c, rfl, h, _⟩ := h
  exact w_isi (.ty T) (tyx_t (Same.sqt s h)) hk q
theorem isi_x3 {x : α × β × γ} (h : (dTrip K R S T').rel B x v) (s : Same B H) (hk : PySem.W.kitOne K (.type "tuple") (.type T) = some b) : ∀ Q : VK, Q (.bl b) H → rIsi K [v, .ty T] H Q := fun Q q => by
  obtain ⟨p, a, c, d, rfl, h, _⟩ := h
  exact w_isi (.ty T) (tyx_t (Same.sqt s h)) hk q
theorem q_catO {Φ : Fr} {cs : List (Addr × HO)} {Q : VK} {w : V} {xs ys zs : List α} (Z : Sit Φ B H cs) (h : (dList R).rel B xs v) (hx : (dList R).rel B ys w) (hm : catM xs ys = some zs) (k : ∀ p o H', Sit Φ B H' ((p, o) :: cs) → Φ.H p = none → (cList R).rel B zs o → Q (.ref p) H') : rCat v w H Q := by
  obtain ⟨l, rfl⟩ := catM_some hm
  obtain ⟨p, vs, rfl, hp, f, _⟩ := h
  obtain ⟨q, us, rfl, hq, f2, l2⟩ := hx
  exact w_cat (Z.sub _ _ hp) (Z.sub _ _ hq) (by rw [← f.len, ← f2.len]; exact big_size l) (nwO Z (f.app f2) (by rw [List.length_append]; exact l) k)
def natM (i : Int) : Option Int := if 0 ≤ i ∧ i ≤ BIG then some i else none
theorem lenI {i j : Int} {Q : VK} (h : natM i = some j) (g : Q (.int j) H) : LenQ Q (.int i) H := by
  unfold natM at h
  by_cases e : 0 ≤ i ∧ i ≤ BIG
  · rw [if_pos e] at h
    cases h
    have e' : i = ((i.toNat : Nat) : Int) := by omega
    exact len_lt e' (by have := e.2; omega) g
  · rw [if_neg e] at h; cases h
theorem natM_eq {i : Nat} (h : i < 1000000) : natM (i : Int) = some (i : Int) := by
  unfold natM BIG
  rw [if_pos ⟨by omega, by omega⟩]
theorem w_callSD {sp : Sp} {dvs : List V} {E : L2.St → XK} {t : TA} {σ : L2.St} {Q : VK} (g : t σ H fun vs H1 => sp (vs ++ dvs) H1 Q (E σ)) : tCallSD sp dvs E t σ H Q := g
theorem w_makeS {C : Addr} {sp : Sp} {dvs : List V} {E : L2.St → XK} {t : TA} {σ : L2.St} {Q : VK} (g : t σ H fun vs H1 => MkB C sp (E σ) Q (vs ++ dvs) H1) : tMakeS C sp dvs E t σ H Q := g
theorem w_callNS {n m : Nat} {sp : Sp} {gV : List V → List V → List V} {E : L2.St → XK} {t tk : TA} {σ : L2.St} {Q : VK} (g : tCallN n m sp gV (E σ) t tk σ H Q) : tCallNS n m sp gV E t tk σ H Q := g
end
theorem tr_ok {α β : Type} {a : α} {f : α → β} {g : Exn → β} : (Rs.ok a).tr f g = f a := rfl
theorem tr_ex {α β : Type} {e : Exn} {f : α → β} {g : Exn → β} : (Rs.ex e : Rs α).tr f g = g e := rfl
def exTxt (k : Nat) : Exn → Option Str
  | .txt j s => if j = k then some s else none
  | _ => none
def exNum (k : Nat) : Exn → Option Int
  | .num j s => if j = k then some s else none
  | _ => none
def exPth (k : Nat) : Exn → Option (List Int)
  | .pth j s => if j = k then some s else none
  | _ => none
def exFail : Exn → Option (Str × List Str × Str)
  | .fail n p pl => some (n, p, pl)
  | _ => none
section
variable {K : PySem.W.Frag} {cx : Nat → Addr} {e : Exn} {k : Nat} {cls : Value} {d : Option Addr} {B : Hp}
theorem exTxt_some {s : Str} (h : exTxt k e = some s) (hx : ExR K cx e cls d B) : cls = .ref (cx k) ∧ ∃ dd, d = some dd ∧ B dd = some (.xd [(exFld k, .str s)]) := by
  cases e with
  | txt j z =>
    replace h : (if j = k then some z else none) = some s := h
    by_cases c : j = k
    · rw [if_pos c] at h; cases h; subst c; exact hx
    · rw [if_neg c] at h; cases h
  | num _ _ => cases h
  | pth _ _ => cases h
  | fail _ _ _ => cases h
theorem exNum_some {s : Int} (h : exNum k e = some s) (hx : ExR K cx e cls d B) : cls = .ref (cx k) ∧ ∃ dd, d = some dd ∧ B dd = some (.xd [(exFld k, .int s)]) := by
  cases e with
  | num j z =>
    replace h : (if j = k then some z else none) = some s := h
    by_cases c : j = k
    · rw [if_pos c] at h; cases h; subst c; exact hx
    · rw [if_neg c] at h; cases h
  | txt _ _ => cases h
  | pth _ _ => cases h
  | fail _ _ _ => cases h
theorem exPth_some {s : List Int} (h : exPth k e = some s) (hx : ExR K cx e cls d B) : cls = .ref (cx k) ∧ ∃ dd v, d = some dd ∧ B dd = some (.xd [(exFld k, v)]) ∧ (dTup K dInt).rel B s v := by
  cases e with
  | pth j z =>
    replace h : (if j = k then some z else none) = some s := h
    by_cases c : j = k
    · rw [if_pos c] at h; cases h; subst c; exact hx
    · rw [if_neg c] at h; cases h
  | txt _ _ => cases h
  | num _ _ => cases h
  | fail _ _ _ => cases h
theorem exFail_some {r : Str × List Str × Str} (h : exFail e = some r) (hx : ExR K cx e cls d B) : cls = .ref (cx 0) ∧ ∃ dd v, d = some dd ∧ B dd = some (.xd [("place", .str r.2.2), ("path", v), ("name", .str r.1)]) ∧ (dTup K dStr).rel B r.2.1 v := by
  cases e with
  | fail _ _ _ => cases h; exact hx
  | txt _ _ => cases h
  | num _ _ => cases h
  | pth _ _ => cases h
end
end Mf

namespace Mf
open PySem L2 PyProof.Rows
/-! ### data that the model compares -/
def Ly (n : Nat) (d : PyData) : Prop := PyData.canLay0 d = true ∧ PyData.depth d ≤ n
section
variable {α : Type} {n m : Nat} {d e : PyData} {f : α → PyData}
theorem Ly.le (h : Ly n d) (k : n ≤ m) : Ly m d := ⟨h.1, Nat.le_trans h.2 k⟩
theorem Ly.int {i : Int} : Ly n (.int i) := ⟨by simp [PyData.canLay0], by simp [PyData.depth]⟩
theorem Ly.bool {i : Bool} : Ly n (.bool i) := ⟨by simp [PyData.canLay0], by simp [PyData.depth]⟩
theorem Ly.none : Ly n .none := ⟨by simp [PyData.canLay0], by simp [PyData.depth]⟩
theorem Ly.str {x : Str} (h : PyData.strOk x = true) : Ly n (.str x) := ⟨by simp [PyData.canLay0, h], by simp [PyData.depth]⟩
theorem Ly.all {ds : List PyData} (h : ∀ d ∈ ds, Ly n d) : PyData.canLayAll0 ds = true ∧ PyData.depthAll ds ≤ n := by
  induction ds with
  | nil => exact ⟨by simp [PyData.canLayAll0], by simp [PyData.depthAll]⟩
  | cons d ds ih =>
    have h1 := h d List.mem_cons_self
    have h2 := ih fun e he => h e (List.mem_cons_of_mem _ he)
    exact ⟨by simp [PyData.canLayAll0, h1.1, h2.1], by simp only [PyData.depthAll]; exact Nat.max_le.mpr ⟨h1.2, h2.2⟩⟩
theorem Ly.list {ds : List PyData} (h : ∀ d ∈ ds, Ly n d) : Ly (n + 1) (.list ds) := ⟨by simp only [PyData.canLay0]; exact (Ly.all h).1, by simp only [PyData.depth]; have := (Ly.all h).2; omega⟩
theorem Ly.tuple {ds : List PyData} (h : ∀ d ∈ ds, Ly n d) : Ly (n + 1) (.tuple ds) := ⟨by simp only [PyData.canLay0]; exact (Ly.all h).1, by simp only [PyData.depth]; have := (Ly.all h).2; omega⟩
theorem Ly.mapL {xs : List α} (h : ∀ x ∈ xs, Ly n (f x)) : Ly (n + 1) (.list (xs.map f)) := Ly.list fun d hd => by
  obtain ⟨x, hx, rfl⟩ := List.mem_map.mp hd
  exact h x hx
theorem Ly.mapT {xs : List α} (h : ∀ x ∈ xs, Ly n (f x)) : Ly (n + 1) (.tuple (xs.map f)) := Ly.tuple fun d hd => by
  obtain ⟨x, hx, rfl⟩ := List.mem_map.mp hd
  exact h x hx
theorem Ly.t0 : Ly (n + 1) (.tuple []) := Ly.tuple fun _ h => by cases h
theorem Ly.t1 {a : PyData} (h : Ly n a) : Ly (n + 1) (.tuple [a]) := Ly.tuple fun d hd => by
  rw [List.mem_singleton.mp hd]; exact h
theorem Ly.t2 {a b : PyData} (h : Ly n a) (k : Ly n b) : Ly (n + 1) (.tuple [a, b]) := Ly.tuple fun d hd => by
  simp only [List.mem_cons, List.not_mem_nil, or_false] at hd
  rcases hd with rfl | rfl
  · exact h
  · exact k
theorem Ly.t3 {a b c : PyData} (h : Ly n a) (k : Ly n b) (l : Ly n c) : Ly (n + 1) (.tuple [a, b, c]) := Ly.tuple fun d hd => by
  simp only [List.mem_cons, List.not_mem_nil, or_false] at hd
  rcases hd with rfl | rfl | rfl
  · exact h
  · exact k
  · exact l
theorem Ly.t4 {a b c z : PyData} (h : Ly n a) (k : Ly n b) (l : Ly n c) (m : Ly n z) : Ly (n + 1) (.tuple [a, b, c, z]) := Ly.tuple fun d hd => by
  simp only [List.mem_cons, List.not_mem_nil, or_false] at hd
  rcases hd with rfl | rfl | rfl | rfl
  · exact h
  · exact k
  · exact l
  · exact m
theorem Ly.shaped (h : Ly n d) (hn : n ≤ 64) : SeqAt.shaped d = true := by
  unfold SeqAt.shaped
  rw [h.1, Bool.true_and]
  exact decide_eq_true (Nat.le_trans h.2 hn)
theorem eqD_of (h : Ly n d) (k : Ly m e) (hn : n ≤ 64) (hm : m ≤ 64) : eqD d e = some (PyData.eqv d e) := by
  unfold eqD
  rw [if_pos ⟨h.shaped hn, k.shaped hm⟩]
theorem eqD_self (h : Ly n d) (hn : n ≤ 64) : eqD d d = some true := by
  rw [eqD_of h h hn hn, SeqAt.eqv_refl d h.1]
theorem strs_ly {xs : List Str} (h : Oks xs) : Ly 1 (.list (xs.map PyData.str)) := Ly.mapL fun x hx => Ly.str (h x hx)
theorem strsT_ly {xs : List Str} (h : Oks xs) : Ly 1 (.tuple (xs.map PyData.str)) := Ly.mapT fun x hx => Ly.str (h x hx)
theorem bools_ly {xs : List Bool} : Ly 1 (.list (xs.map PyData.bool)) := Ly.mapL fun x hx => Ly.bool
theorem ints_ly {xs : List Int} : Ly 1 (.list (xs.map PyData.int)) := Ly.mapL fun x hx => Ly.int
theorem intsT_ly {xs : List Int} : Ly 1 (.tuple (xs.map PyData.int)) := Ly.mapT fun x hx => Ly.int
theorem strOk_app {a b : Str} (h : PyData.strOk a = true) (k : PyData.strOk b = true) : PyData.strOk (a ++ b) = true := by
  unfold PyData.strOk at h k ⊢
  rw [Array.all_eq_true'] at h k ⊢
  intro x hx
  have hx : x ∈ a.cps ++ b.cps := hx
  rcases Array.mem_append.mp hx with z | z
  · exact h x z
  · exact k x z
end
/-! eqv tells data without truth values apart -/
def nb : PyData → Bool
  | .bool _ => false
  | .list xs => nbAll xs
  | .tuple xs => nbAll xs
  | .dict _ => false
  | _ => true
where nbAll : List PyData → Bool
  | [] => true
  | x :: xs => nb x && nbAll xs
mutual
theorem eqv_nb : ∀ d e : PyData, nb d = true → nb e = true → (PyData.eqv d e = true ↔ d = e)
  | .none, e, _, h => by cases e <;> simp_all [PyData.eqv, nb]
  | .bool _, _, h, _ => by simp [nb] at h
  | .int i, e, _, h => by cases e <;> simp_all [PyData.eqv, nb]
  | .str x, e, _, h => by cases e <;> simp_all [PyData.eqv, nb]
  | .list xs, e, h1, h => by
    cases e with
    | list ys =>
      have := eqvAll_nb xs ys (by simpa [nb] using h1) (by simpa [nb] using h)
      simp [PyData.eqv, this]
    | _ => simp_all [PyData.eqv, nb]
  | .tuple xs, e, h1, h => by
    cases e with
    | tuple ys =>
      have := eqvAll_nb xs ys (by simpa [nb] using h1) (by simpa [nb] using h)
      simp [PyData.eqv, this]
    | _ => simp_all [PyData.eqv, nb]
  | .dict _, _, h, _ => by simp [nb] at h
theorem eqvAll_nb : ∀ ds es : List PyData, nb.nbAll ds = true → nb.nbAll es = true → (PyData.eqvAll ds es = true ↔ ds = es)
  | [], [], _, _ => by simp [PyData.eqvAll]
  | [], _ :: _, _, _ => by simp [PyData.eqvAll]
  | _ :: _, [], _, _ => by simp [PyData.eqvAll]
  | d :: ds, e :: es, h1, h2 => by
    simp only [nb.nbAll, Bool.and_eq_true] at h1 h2
    simp [PyData.eqvAll, eqv_nb d e h1.1 h2.1, eqvAll_nb ds es h1.2 h2.2]
end
theorem eqv_dec {d e : PyData} (h1 : nb d = true) (h2 : nb e = true) {P : Prop} [Decidable P] (h : d = e ↔ P) : PyData.eqv d e = decide P := by
  rw [Bool.eq_iff_iff, eqv_nb d e h1 h2, decide_eq_true_iff, h]
end Mf

namespace Mf
open PySem L2 PyProof.Rows
/-! ### data of any kind, used as one kind -/
def asI : PyData → Option Int
  | .int i => some i
  | _ => none
def asS : PyData → Option Str
  | .str x => some x
  | _ => none
def asL : PyData → Option (List PyData)
  | .list xs => some xs
  | _ => none
def asT : PyData → Option (List PyData)
  | .tuple xs => some xs
  | _ => none
def isInt : PyData → Bool
  | .int _ => true
  | .bool _ => true
  | _ => false
def isBool : PyData → Bool
  | .bool _ => true
  | _ => false
def isStr : PyData → Bool
  | .str _ => true
  | _ => false
def isTup : PyData → Bool
  | .tuple _ => true
  | _ => false
def isLst : PyData → Bool
  | .list _ => true
  | _ => false
/-- a value of one kind as a value of another -/
def Mp {α β : Type} (R : Rl α) (S : Rl β) (f : α → β) : Prop := ∀ {H : Hp} {x : α} {v : V}, R.rel H x v → S.rel H (f x) v
section
variable {α β γ δ : Type} {K : PySem.W.Frag} {R : Rl α} {S : Rl β} {T : Rl γ} {U : Rl δ} {d : α → PyData} {f : α → β} {σ : L2.St} {H B : Hp} {v w : V} {Q : VK} {te : TE}
theorem Ev.cast (h : Ev te σ H v) (e : v = w) : Ev te σ H w := e ▸ h
theorem asI_v {x : PyData} {i : Int} (h : (dAny K).rel B x v) (e : asI x = some i) : v = .int i := by
  have h : Dp K B v x := h
  cases h <;> simp_all [asI]
theorem asS_v {x : PyData} {i : Str} (h : (dAny K).rel B x v) (e : asS x = some i) : v = .str i := by
  have h : Dp K B v x := h
  cases h <;> simp_all [asS]
theorem asI_f {x : PyData} {i : Int} (h : (dAny K).rel B x v) (e : asI x = some i) : dInt.rel B i v := asI_v h e
theorem asS_f {x : PyData} {i : Str} (h : (dAny K).rel B x v) (e : asS x = some i) : dStr.rel B i v := asS_v h e
theorem mpI : Mp R R id := fun h => h
theorem mpS {R' : Rl α} (h : Sub R R') : Mp R R' id := fun q => h q
theorem mpA (D : Dr K R d) : Mp R (dAny K) d := fun h => D h
theorem fa_map (m : Mp R S f) {xs : List α} {vs : List V} (h : Fa (R.rel H) xs vs) : Fa (S.rel H) (xs.map f) vs := by
  induction h with
  | nil => exact .nil
  | cons r _ ih => exact .cons (m r) ih
theorem mpL (m : Mp R S f) : Mp (dList R) (dList S) (fun xs => xs.map f) := fun ⟨p, vs, e, a, g, l⟩ => ⟨p, vs, e, a, fa_map m g, by simpa using l⟩
theorem mpT (m : Mp R S f) : Mp (dTup K R) (dTup K S) (fun xs => xs.map f) := fun ⟨p, vs, e, a, g, l⟩ => ⟨p, vs, e, a, fa_map m g, by simpa using l⟩
theorem mpLQ (m : Mp R S f) : Mp (dList R) (dSeq K S) (fun xs => xs.map f) := fun ⟨p, vs, e, a, g, l⟩ => ⟨p, vs, e, .inl (SqL.of a), fa_map m g, by simpa using l⟩
theorem mpTQ (m : Mp R S f) : Mp (dTup K R) (dSeq K S) (fun xs => xs.map f) := fun ⟨p, vs, e, a, g, l⟩ => ⟨p, vs, e, .inr a, fa_map m g, by simpa using l⟩
theorem mpQQ (m : Mp R S f) : Mp (dSeq K R) (dSeq K S) (fun xs => xs.map f) := fun ⟨p, vs, e, a, g, l⟩ => ⟨p, vs, e, a, fa_map m g, by simpa using l⟩
theorem mpO (m : Mp R S f) : Mp (dOpt R) (dOpt S) (fun x => x.map f) := fun {H x v} h => by
  cases x with
  | none => exact h
  | some x => exact ⟨m h.1, h.2⟩
theorem mp1 (m : Mp R S f) : Mp (dOne K R) (dTup K S) (fun x => [f x]) := fun ⟨p, a, e, h, r⟩ => ⟨p, [a], e, h, .cons (m r) .nil, by show 1 ≤ BIG; decide⟩
theorem mp2 {g : γ → β} (m : Mp R S f) (n : Mp T S g) : Mp (dPair K R T) (dTup K S) (fun x => [f x.1, g x.2]) := fun ⟨p, a, b, e, h, r, t⟩ => ⟨p, [a, b], e, h, .cons (m r) (.cons (n t) .nil), by show 2 ≤ BIG; decide⟩
theorem mp3 {g : γ → β} {k : δ → β} (m : Mp R S f) (n : Mp T S g) (o : Mp U S k) : Mp (dTrip K R T U) (dTup K S) (fun x => [f x.1, g x.2.1, k x.2.2]) := fun ⟨p, a, b, c, e, h, r, t, u⟩ => ⟨p, [a, b, c], e, h, .cons (m r) (.cons (n t) (.cons (o u) .nil)), by show 3 ≤ BIG; decide⟩
theorem mpP1 (m : Mp R S f) : Mp (dOne K R) (dOne K S) f := fun ⟨p, a, e, h, r⟩ => ⟨p, a, e, h, m r⟩
theorem mpP2 {g : γ → δ} (m : Mp R S f) (n : Mp T U g) : Mp (dPair K R T) (dPair K S U) (fun x => (f x.1, g x.2)) := fun ⟨p, a, b, e, h, r, t⟩ => ⟨p, a, b, e, h, m r, n t⟩
theorem mpP3 {α' β' : Type} {R' : Rl α'} {S' : Rl β'} {g : γ → δ} {k : α' → β'} (m : Mp R S f) (n : Mp T U g) (o : Mp R' S' k) : Mp (dTrip K R T R') (dTrip K S U S') (fun x => (f x.1, g x.2.1, k x.2.2)) := fun ⟨p, a, b, c, e, h, r, t, u⟩ => ⟨p, a, b, c, e, h, m r, n t, o u⟩
theorem drNon : Dr K dNone (fun _ => PyData.none) := fun h => by cases h; exact .non
theorem drOpt (D : Dr K R d) : Dr K (dOpt R) (fun x => match x with | none => PyData.none | some x => d x) := fun {H x v} h => by
  cases x with
  | none => cases h; exact .non
  | some x => exact D h.1
/-! isinstance of data -/
theorem isi_aI {x : PyData} (h : (dAny K).rel H x v) : ∀ Q : VK, Q (.bl (isInt x)) H → rIsi K [v, .ty "int"] H Q := fun Q q => by
  have h : Dp K H v x := h
  cases h with
  | non => exact w_isi (.ty "int") (.base .non) (kit_ty (r := false) (by decide +kernel)) q
  | bl b => exact w_isi (.ty "int") (.base (.bl b)) (kit_ty (r := true) (by decide +kernel)) q
  | int i => exact w_isi (.ty "int") (.base (.int i)) (kit_ty (r := true) (by decide +kernel)) q
  | str i => exact w_isi (.ty "int") (.base (.str i)) (kit_ty (r := false) (by decide +kernel)) q
  | lst hq a => exact w_isi (.ty "int") (tyx_l hq) (kit_ty (r := false) (by decide +kernel)) q
  | tup hq a => exact w_isi (.ty "int") (tyx_t hq) (kit_ty (r := false) (by decide +kernel)) q
theorem isi_aB {x : PyData} (h : (dAny K).rel H x v) : ∀ Q : VK, Q (.bl (isBool x)) H → rIsi K [v, .ty "bool"] H Q := fun Q q => by
  have h : Dp K H v x := h
  cases h with
  | non => exact w_isi (.ty "bool") (.base .non) (kit_ty (r := false) (by decide +kernel)) q
  | bl b => exact w_isi (.ty "bool") (.base (.bl b)) (kit_ty (r := true) (by decide +kernel)) q
  | int i => exact w_isi (.ty "bool") (.base (.int i)) (kit_ty (r := false) (by decide +kernel)) q
  | str i => exact w_isi (.ty "bool") (.base (.str i)) (kit_ty (r := false) (by decide +kernel)) q
  | lst hq a => exact w_isi (.ty "bool") (tyx_l hq) (kit_ty (r := false) (by decide +kernel)) q
  | tup hq a => exact w_isi (.ty "bool") (tyx_t hq) (kit_ty (r := false) (by decide +kernel)) q
theorem isi_aS {x : PyData} (h : (dAny K).rel H x v) : ∀ Q : VK, Q (.bl (isStr x)) H → rIsi K [v, .ty "str"] H Q := fun Q q => by
  have h : Dp K H v x := h
  cases h with
  | non => exact w_isi (.ty "str") (.base .non) (kit_ty (r := false) (by decide +kernel)) q
  | bl b => exact w_isi (.ty "str") (.base (.bl b)) (kit_ty (r := false) (by decide +kernel)) q
  | int i => exact w_isi (.ty "str") (.base (.int i)) (kit_ty (r := false) (by decide +kernel)) q
  | str i => exact w_isi (.ty "str") (.base (.str i)) (kit_ty (r := true) (by decide +kernel)) q
  | lst hq a => exact w_isi (.ty "str") (tyx_l hq) (kit_ty (r := false) (by decide +kernel)) q
  | tup hq a => exact w_isi (.ty "str") (tyx_t hq) (kit_ty (r := false) (by decide +kernel)) q
theorem isi_aT {x : PyData} (h : (dAny K).rel H x v) : ∀ Q : VK, Q (.bl (isTup x)) H → rIsi K [v, .ty "tuple"] H Q := fun Q q => by
  have h : Dp K H v x := h
  cases h with
  | non => exact w_isi (.ty "tuple") (.base .non) (kit_ty (r := false) (by decide +kernel)) q
  | bl b => exact w_isi (.ty "tuple") (.base (.bl b)) (kit_ty (r := false) (by decide +kernel)) q
  | int i => exact w_isi (.ty "tuple") (.base (.int i)) (kit_ty (r := false) (by decide +kernel)) q
  | str i => exact w_isi (.ty "tuple") (.base (.str i)) (kit_ty (r := false) (by decide +kernel)) q
  | lst hq a => exact w_isi (.ty "tuple") (tyx_l hq) (kit_ty (r := false) (by decide +kernel)) q
  | tup hq a => exact w_isi (.ty "tuple") (tyx_t hq) (kit_ty (r := true) (by decide +kernel)) q
/-- data is no object of an own class -/
theorem isi_aC {x : PyData} {C : Addr} (h : (dAny K).rel H x v) (k0 : PySem.W.kitOne K (.type "NoneType") (.ref C) = some false) (k1 : PySem.W.kitOne K (.type "bool") (.ref C) = some false) (k2 : PySem.W.kitOne K (.type "int") (.ref C) = some false) (k3 : PySem.W.kitOne K (.type "str") (.ref C) = some false) (k4 : PySem.W.kitOne K (.type "list") (.ref C) = some false) (k5 : PySem.W.kitOne K (.type "tuple") (.ref C) = some false) : ∀ Q : VK, Q (.bl false) H → rIsi K [v, .ref C] H Q := fun Q q => by
  have h : Dp K H v x := h
  cases h with
  | non => exact w_isi (.own C) (.base .non) k0 q
  | bl b => exact w_isi (.own C) (.base (.bl b)) k1 q
  | int i => exact w_isi (.own C) (.base (.int i)) k2 q
  | str i => exact w_isi (.own C) (.base (.str i)) k3 q
  | lst hq a => exact w_isi (.own C) (tyx_l hq) k4 q
  | tup hq a => exact w_isi (.own C) (tyx_t hq) k5 q
theorem any_ty {x : PyData} {C : Addr} (h : (dAny K).rel H x v) (n0 : PySem.W.notFirst K C (.type "NoneType") = true) (n1 : PySem.W.notFirst K C (.type "bool") = true) (n2 : PySem.W.notFirst K C (.type "int") = true) (n3 : PySem.W.notFirst K C (.type "str") = true) (n4 : PySem.W.notFirst K C (.type "list") = true) (n5 : PySem.W.notFirst K C (.type "tuple") = true) : ∃ t, TyX K H v t ∧ PySem.W.notFirst K C t = true := by
  have h : Dp K H v x := h
  cases h with
  | non => exact ⟨_, .base .non, n0⟩
  | bl b => exact ⟨_, .base (.bl b), n1⟩
  | int i => exact ⟨_, .base (.int i), n2⟩
  | str i => exact ⟨_, .base (.str i), n3⟩
  | lst hq a => exact ⟨_, tyx_l hq, n4⟩
  | tup hq a => exact ⟨_, tyx_t hq, n5⟩
/-! a tuple of like things, taken apart -/
def un2 (xs : List α) : Option (α × α) := match xs with | [a, b] => some (a, b) | _ => none
def un3 (xs : List α) : Option (α × α × α) := match xs with | [a, b, c] => some (a, b, c) | _ => none
theorem un_T2 {xs : List α} {x : α × α} (h : (dTup K R).rel B xs v) (e : un2 xs = some x) : ∃ a b, R.rel B x.1 a ∧ R.rel B x.2 b ∧ ∀ H, Same B H → ∃ p, v = .ref p ∧ SqT K H p [a, b] := by
  obtain ⟨p, vs, rfl, h, f, _⟩ := h
  cases f with
  | nil => cases e
  | cons r f =>
    cases f with
    | nil => cases e
    | cons t f =>
      cases f with
      | nil => cases e; exact ⟨_, _, r, t, fun H s => ⟨p, rfl, Same.sqt s h⟩⟩
      | cons u f => cases e
theorem un_T3 {xs : List α} {x : α × α × α} (h : (dTup K R).rel B xs v) (e : un3 xs = some x) : ∃ a b c, R.rel B x.1 a ∧ R.rel B x.2.1 b ∧ R.rel B x.2.2 c ∧ ∀ H, Same B H → ∃ p, v = .ref p ∧ SqT K H p [a, b, c] := by
  obtain ⟨p, vs, rfl, h, f, _⟩ := h
  cases f with
  | nil => cases e
  | cons r f =>
    cases f with
    | nil => cases e
    | cons t f =>
      cases f with
      | nil => cases e
      | cons u f =>
        cases f with
        | nil => cases e; exact ⟨_, _, _, r, t, u, fun H s => ⟨p, rfl, Same.sqt s h⟩⟩
        | cons u f => cases e
theorem opt_some {x : α} {o : Option α} (h : (dOpt R).rel B o v) (e : o = some x) : R.rel B x v := by
  subst e; exact h.1
end
section
variable {α β : Type} {K : PySem.W.Frag} {R : Rl α} {S : Rl β} {d : α → PyData} {e : β → PyData} {σ : L2.St} {H B : Hp} {v w : V} {Q : VK} {Φ : Fr} {cs : List (Addr × HO)} {p : Addr} {o : HO} {xs ys : List α} {i : Int}
/-! in of data, in a list of one's own -/
theorem cL_d (h : (cList R).rel B xs o) (hp : H p = some o) (s : Same B H) : (dList R).rel H xs (.ref p) := by
  obtain ⟨vs, rfl, f, l⟩ := h
  exact ⟨p, vs, rfl, hp, fa_mono s f, l⟩
/-! x.index(y) -/
def fIx (p : α → Bool) (xs : List α) : Option Int := (xs.findIdx? p).map fun j => ((j : Nat) : Int)
theorem fIx_some {p : α → Bool} {xs : List α} {i : Int} (h : fIx p xs = some i) : ∃ j : Nat, i = j ∧ (∃ z, xs[j]? = some z ∧ p z = true) ∧ ∀ m z, m < j → xs[m]? = some z → p z = false := by
  unfold fIx at h
  cases e : xs.findIdx? p with
  | none => rw [e] at h; cases h
  | some j =>
    rw [e] at h
    cases h
    obtain ⟨hl, h1, h2⟩ := List.findIdx?_eq_some_iff_getElem.mp e
    refine ⟨j, rfl, ⟨xs[j], by simp [hl], h1⟩, fun m z hm hz => ?_⟩
    obtain ⟨h3, h4⟩ := List.getElem?_eq_some_iff.mp hz
    have := h2 m hm
    rw [h4] at this
    simpa using this
def ixOf [DecidableEq α] (x : α) (xs : List α) : Option Int := fIx (fun y => decide (y = x)) xs
def ixD (d : PyData) (ds : List PyData) : Option Int := if SeqAt.shaped (.list ds) = true ∧ SeqAt.shaped d = true then fIx (fun z => PyData.eqv z d) ds else none
theorem r_ixI {zs : List Int} {j : Int} (h : (dList dInt).rel H zs v) (e : ixOf i zs = some j) (g : Q (.int j) H) : rIndex K v [.int i] H Q := by
  obtain ⟨p, vs, rfl, h, f, _⟩ := h
  cases fa_int f
  obtain ⟨n, rfl, ⟨z, h3, h4⟩, h5⟩ := fIx_some e
  have h4 := of_decide_eq_true h4
  subst h4
  refine ⟨_, _, _, n, .int z, rfl, rfl, SqL.of h, rfl, flat_ints, by rw [List.getElem?_map, h3]; rfl, by simp [eqV], fun m z' hm hz => ?_, g⟩
  rw [List.getElem?_map] at hz
  cases q : zs[m]? with
  | none => rw [q] at hz; cases hz
  | some y =>
    rw [q] at hz
    cases hz
    have := h5 m y hm q
    simp only [decide_eq_false_iff_not] at this
    simp [eqV, this]
theorem r_ixS {zs : List Str} {x : Str} {j : Int} (h : (dList dStr).rel H zs v) (e : ixOf x zs = some j) (g : Q (.int j) H) : rIndex K v [.str x] H Q := by
  obtain ⟨p, vs, rfl, h, f, _⟩ := h
  cases fa_str f
  obtain ⟨n, rfl, ⟨z, h3, h4⟩, h5⟩ := fIx_some e
  have h4 := of_decide_eq_true h4
  subst h4
  refine ⟨_, _, _, n, .str z, rfl, rfl, SqL.of h, rfl, flat_strs, by rw [List.getElem?_map, h3]; rfl, by simp [eqV], fun m z' hm hz => ?_, g⟩
  rw [List.getElem?_map] at hz
  cases q : zs[m]? with
  | none => rw [q] at hz; cases hz
  | some y =>
    rw [q] at hz
    cases hz
    have := h5 m y hm q
    simp only [decide_eq_false_iff_not] at this
    simp [eqV, this]
theorem r_ixD {x : α} {zs : List β} {j : Int} (D : Dr K R d) (E : Dr K S e) (h : (dList S).rel H zs v) (hx : R.rel H x w) (hm : ixD (d x) (zs.map e) = some j) (g : Q (.int j) H) : rIndexD K v [w] H Q := by
  unfold ixD at hm
  by_cases c : SeqAt.shaped (.list (zs.map e)) = true ∧ SeqAt.shaped (d x) = true
  · rw [if_pos c] at hm
    obtain ⟨n, rfl, ⟨z, h3, h4⟩, h5⟩ := fIx_some hm
    have hd := drL E h
    obtain ⟨p, vs, rfl, h, f, _⟩ := h
    exact ⟨p, w, _, _, n, z, rfl, rfl, hd, D hx, c.1, c.2, h3, h4, h5, g⟩
  · rw [if_neg c] at hm; cases hm
/-! xs.pop(i), xs[i] = y, x[a:b], x * n, max(i, j) -/
def popM (xs : List α) (i : Int) : Option (α × List α) := if -(2 ^ 63) ≤ i ∧ i < 2 ^ 63 then (seqIndex? i xs.length).bind fun k => (xs[k]?).map fun x => (x, xs.eraseIdx k) else none
theorem fa_erase {R' : α → V → Prop} : ∀ {xs : List α} {vs : List V} {k : Nat}, Fa R' xs vs → Fa R' (xs.eraseIdx k) (vs.eraseIdx k)
  | _, _, _, .nil => .nil
  | _, _, 0, .cons _ t => t
  | _, _, k + 1, .cons r t => .cons r (fa_erase t)
theorem fa_set {R' : α → V → Prop} {x : α} {w : V} (h : R' x w) : ∀ {xs : List α} {vs : List V} {k : Nat}, Fa R' xs vs → Fa R' (xs.set k x) (vs.set k w)
  | _, _, _, .nil => .nil
  | _, _, 0, .cons _ t => .cons h t
  | _, _, k + 1, .cons r t => .cons r (fa_set h t)
theorem fa_take {R' : α → V → Prop} : ∀ {n : Nat} {xs : List α} {vs : List V}, Fa R' xs vs → Fa R' (xs.take n) (vs.take n)
  | _, _, _, .nil => by simp; exact .nil
  | 0, _, _, _ => by simp; exact .nil
  | n + 1, _, _, .cons r t => .cons r (fa_take t)
theorem fa_drop {R' : α → V → Prop} : ∀ {n : Nat} {xs : List α} {vs : List V}, Fa R' xs vs → Fa R' (xs.drop n) (vs.drop n)
  | _, _, _, .nil => by simp; exact .nil
  | 0, _, _, h => h
  | n + 1, _, _, .cons r t => fa_drop (n := n) t
theorem q_popAt {k : Nat} {x : α} (Z : Sit Φ B H cs) (hk : cs[k]? = some (p, o)) (h : (cList R).rel B xs o) (hm : popM xs i = some (x, ys)) (g : ∀ w o' H', Sit Φ B H' (cs.set k (p, o')) → (cList R).rel B ys o' → R.rel B x w → Q w H') : rPopAt (.ref p) [.int i] H Q := by
  unfold popM at hm
  by_cases c : -(2 ^ 63) ≤ i ∧ i < 2 ^ 63
  · rw [if_pos c] at hm
    obtain ⟨n, hn, hm⟩ := bs hm
    obtain ⟨y, hy, hm⟩ := bs (show ((xs[n]?).bind fun x => some (x, xs.eraseIdx n)) = _ by rw [← hm]; cases xs[n]? <;> rfl)
    cases hm
    obtain ⟨vs, rfl, f, l⟩ := h
    obtain ⟨w, hw, r⟩ := f.getL hy
    exact ⟨p, vs, i, n, w, rfl, rfl, Z.at' hk, c.1, c.2, by rw [← f.len]; exact hn, hw, g w _ _ (Z.set hk) ⟨_, rfl, fa_erase f, by rw [List.length_eraseIdx]; split <;> omega⟩ r⟩
  · rw [if_neg c] at hm; cases hm
def setM (xs : List α) (i : Int) (x : α) : Option (List α) := (ixN xs.length i).map fun n => xs.set n x
theorem q_setL {k : Nat} {x : α} {w : V} {RR : Hp → Prop} (Z : Sit Φ B H cs) (hk : cs[k]? = some (p, o)) (h : (cList R).rel B xs o) (hx : R.rel B x w) (hm : setM xs i x = some ys) (g : ∀ o' H', Sit Φ B H' (cs.set k (p, o')) → (cList R).rel B ys o' → RR H') : rSetL (.ref p) (.int i) w H RR := by
  unfold setM at hm
  obtain ⟨vs, rfl, f, l⟩ := h
  cases e : ixN xs.length i with
  | none => rw [e] at hm; cases hm
  | some n =>
    rw [e] at hm
    cases hm
    exact ⟨p, vs, i, n, rfl, rfl, Z.at' hk, by rw [← f.len]; exact e, g _ _ (Z.set hk) ⟨_, rfl, fa_set hx f, by rw [List.length_set]; exact l⟩⟩
def cutL (xs : List α) (lo hi : Option Int) : List α := (xs.drop (HT.sIx xs.length 0 lo)).take (HT.sIx xs.length xs.length hi - HT.sIx xs.length 0 lo)
theorem cutL_len (xs : List α) (lo hi : Option Int) : (cutL xs lo hi).length ≤ xs.length := by
  unfold cutL; rw [List.length_take, List.length_drop]; omega
theorem fa_cut {R' : α → V → Prop} {xs : List α} {vs : List V} {lo hi : Option Int} (f : Fa R' xs vs) : Fa R' (cutL xs lo hi) (cutV vs lo hi) := by
  unfold cutL cutV
  rw [f.len]
  exact fa_take (fa_drop f)
theorem q_slD {lo hi : Option Int} (Z : Sit Φ B H cs) (h : (dList R).rel B xs v) (k : ∀ v B' H', Sit Φ B' H' cs → Same B B' → (dList R).rel B' (cutL xs lo hi) v → Q v H') : rSlL K v lo hi H Q := by
  obtain ⟨p, vs, rfl, h, f, l⟩ := h
  exact ⟨p, vs, rfl, SqL.of (Z.sub _ _ h), nwL Z (fa_cut f) (Nat.le_trans (cutL_len _ _ _) l) k⟩
theorem q_slDO {lo hi : Option Int} (Z : Sit Φ B H cs) (h : (dList R).rel B xs v) (k : ∀ p o H', Sit Φ B H' ((p, o) :: cs) → Φ.H p = none → (cList R).rel B (cutL xs lo hi) o → Q (.ref p) H') : rSlL K v lo hi H Q := by
  obtain ⟨p, vs, rfl, h, f, l⟩ := h
  exact ⟨p, vs, rfl, SqL.of (Z.sub _ _ h), nwO Z (fa_cut f) (Nat.le_trans (cutL_len _ _ _) l) k⟩
theorem cut_all {lo hi : Option Int} (h : HT.sIx xs.length 0 lo = 0 ∧ HT.sIx xs.length xs.length hi = xs.length) : cutL xs lo hi = xs := by
  unfold cutL
  rw [h.1, h.2]
  simp
theorem q_slT {lo hi : Option Int} (Z : Sit Φ B H cs) (h : (dTup K R).rel B xs v) (k : ∀ v B' H', Sit Φ B' H' cs → Same B B' → (dTup K R).rel B' (cutL xs lo hi) v → Q v H') : rSlA K v lo hi H Q := by
  obtain ⟨p, vs, rfl, h, f, l⟩ := h
  refine ⟨p, vs, rfl, Same.sqt Z.sub h, fun c => ?_, fun _ => nwT Z (fa_cut f) (Nat.le_trans (cutL_len _ _ _) l) k⟩
  rw [← f.len] at c
  exact k _ _ _ Z (Same.rf _) ⟨p, vs, rfl, h, by rw [cut_all c]; exact f, by rw [cut_all c]; exact l⟩
def repM (xs : List α) (n : Int) : Option (List α) := if -(2 ^ 63) ≤ n ∧ n < 2 ^ 63 ∧ xs.length * n.toNat ≤ BIG then some (List.replicate n.toNat xs).flatten else none
theorem fa_rep {R' : α → V → Prop} {xs : List α} {vs : List V} (f : Fa R' xs vs) : ∀ n, Fa R' (List.replicate n xs).flatten (List.replicate n vs).flatten
  | 0 => .nil
  | n + 1 => by rw [List.replicate_succ, List.replicate_succ, List.flatten_cons, List.flatten_cons]; exact f.app (fa_rep f n)
theorem rep_len (xs : List α) (n : Nat) : ((List.replicate n xs).flatten).length = n * xs.length := by
  induction n with
  | zero => simp
  | succ n ih => rw [List.replicate_succ, List.flatten_cons, List.length_append, ih, Nat.succ_mul]; omega
theorem repM_some {n : Int} (h : repM xs n = some ys) : (-(2 ^ 63) ≤ n ∧ n < 2 ^ 63 ∧ xs.length * n.toNat ≤ BIG) ∧ ys = (List.replicate n.toNat xs).flatten := by
  unfold repM at h
  by_cases c : -(2 ^ 63) ≤ n ∧ n < 2 ^ 63 ∧ xs.length * n.toNat ≤ BIG
  · rw [if_pos c] at h; cases h; exact ⟨c, rfl⟩
  · rw [if_neg c] at h; cases h
theorem q_rep {n : Int} (Z : Sit Φ B H cs) (h : (dList R).rel B xs v) (hm : repM xs n = some ys) (k : ∀ v B' H', Sit Φ B' H' cs → Same B B' → (dList R).rel B' ys v → Q v H') : rRep v (.int n) H Q := by
  obtain ⟨c, rfl⟩ := repM_some hm
  obtain ⟨p, vs, rfl, h, f, l⟩ := h
  have := rep_len xs n.toNat
  rw [Nat.mul_comm] at this
  exact ⟨p, n, vs, rfl, rfl, Z.sub _ _ h, c.1, c.2.1, by rw [← f.len]; exact big_size c.2.2, nwL Z (fa_rep f _) (by omega) k⟩
theorem q_repO {n : Int} (Z : Sit Φ B H cs) (h : (dList R).rel B xs v) (hm : repM xs n = some ys) (k : ∀ p o H', Sit Φ B H' ((p, o) :: cs) → Φ.H p = none → (cList R).rel B ys o → Q (.ref p) H') : rRep v (.int n) H Q := by
  obtain ⟨c, rfl⟩ := repM_some hm
  obtain ⟨p, vs, rfl, h, f, l⟩ := h
  have := rep_len xs n.toNat
  rw [Nat.mul_comm] at this
  exact ⟨p, n, vs, rfl, rfl, Z.sub _ _ h, c.1, c.2.1, by rw [← f.len]; exact big_size c.2.2, nwO Z (fa_rep f _) (by omega) k⟩
theorem w_tyD {P : Prop} (h : (dList R).rel B xs v) (s : Same B H) (g : P) : tyV K "list" v H ∧ P := by
  obtain ⟨p, vs, rfl, h, f, _⟩ := h
  exact w_tyL (SqL.of (s _ _ h)) g
theorem k_slA {X : Cx} (K : PySem.W.Frag) (h : X.K = K := by rfl) : SlR X (rSlA K) := by subst h; exact sl_tupA
def maxI (i j : Int) : Int := if j > i then j else i
theorem rmax2 {j : Int} : ∀ Q : VK, Q (.int (maxI i j)) H → rMax2 [.int i, .int j] H Q := fun Q q => ⟨i, j, rfl, q⟩
end
end Mf

namespace Mf
open PySem L2 PyProof.Rows
/-! ### a call that gives a list of one's own -/
theorem Sit.call0F {Φ : Fr} {B H B' H' : Hp} {cs : List (Addr × HO)} {p : Addr} {o : HO} (S : Sit Φ B H cs) (S' : Sit ⟨B, H, []⟩ B' H' [(p, o)]) (n : H p = Option.none) : Sit Φ B' H' ((p, o) :: cs) :=
  S.call S' (fun _ m => by cases m) (fun c m => by
    rcases List.mem_cons.mp m with rfl | m
    · exact .inl (by simp)
    · exact .inr ⟨m, fun z => by cases z⟩) (by
    rw [List.map_cons, List.nodup_cons]
    refine ⟨fun m => ?_, S.nd⟩
    obtain ⟨c, hm, e⟩ := List.mem_map.mp m
    exact S.neC n hm e)
theorem Sit.call1F {Φ : Fr} {B H B' H' : Hp} {cs : List (Addr × HO)} {i : Nat} {p q : Addr} {o u u' : HO} (S : Sit Φ B H cs) (h : cs[i]? = some (q, u)) (S' : Sit ⟨B, H, [q]⟩ B' H' [(p, o), (q, u')]) (n : H p = Option.none) : Sit Φ B' H' ((p, o) :: cs.set i (q, u')) := by
  have h1 := S.call1 h (S'.only (.cons _ (.cons₂ _ .slnil)))
  have hp := S'.cell (p, o) (by simp)
  have nd : p ∉ cs.map Prod.fst := fun m => by
    obtain ⟨c, hm, e⟩ := List.mem_map.mp m
    exact S.neC n hm e
  refine S.call S' (fun z m => ⟨u, by rw [List.mem_singleton.mp m]; exact List.mem_of_getElem? h⟩) (fun c m => ?_) ?_
  · rcases List.mem_cons.mp m with rfl | m
    · exact .inl (by simp)
    · obtain ⟨j, hj⟩ := List.getElem?_of_mem m
      rw [List.getElem?_set] at hj
      by_cases e : i = j
      · rw [if_pos e, if_pos (List.getElem?_eq_some_iff.mp h).1] at hj
        cases hj
        exact .inl (by simp)
      · rw [if_neg e] at hj
        exact .inr ⟨List.mem_of_getElem? hj, fun z => e (Sit.inj S.nd h (show cs[j]? = some (c.1, c.2) from hj) (List.mem_singleton.mp z).symm)⟩
  · rw [List.map_cons, List.nodup_cons, Sit.map_set h]
    exact ⟨nd, S.nd⟩
/-! ### dicts of one's own: by whole numbers too -/
section
variable {κ α : Type} [DecidableEq κ] {ky : κ → Key} {K : PySem.W.Frag} {R : Rl α} {σ : L2.St} {H B : Hp} {v w : V} {Q : VK} {Φ : Fr} {cs : List (Addr × HO)} {p : Addr} {o : HO} {kvs : List (κ × α)} {k : κ} {x : α}
def FaG (ky : κ → Key) (R : Rl α) (H : Hp) (xs : List (κ × α)) (kvs : List (Key × V)) : Prop := Fa (fun x (kv : Key × V) => kv.1 = ky x.1 ∧ R.rel H x.2 kv.2) xs kvs
omit [DecidableEq κ] in
theorem faG_mono {H H' : Hp} {xs : List (κ × α)} {kvs : List (Key × V)} (e : Same H H') (h : FaG ky R H xs kvs) : FaG ky R H' xs kvs := h.imp fun _ _ _ z => ⟨z.1, R.mono e z.2⟩
def dDictG (ky : κ → Key) (R : Rl α) : Rl (List (κ × α)) := ⟨fun H xs v => ∃ p kvs, v = .ref p ∧ H p = some (.dK kvs) ∧ FaG ky R H xs kvs ∧ xs.length ≤ BIG, fun e ⟨p, kvs, a, b, c, d⟩ => ⟨p, kvs, a, e _ _ b, faG_mono e c, d⟩⟩
def cDictG (ky : κ → Key) (R : Rl α) : Cl (List (κ × α)) := ⟨fun B xs o => ∃ kvs, o = .dK kvs ∧ FaG ky R B xs kvs ∧ xs.length ≤ BIG, fun e ⟨vs, a, c, d⟩ => ⟨vs, a, faG_mono e c, d⟩⟩
def gGet (kvs : List (κ × α)) (k : κ) : Option α := (kvs.find? fun x => decide (x.1 = k)).map (·.2)
def gHas (kvs : List (κ × α)) (k : κ) : Bool := (gGet kvs k).isSome
def gPut (kvs : List (κ × α)) (k : κ) (v : α) : List (κ × α) := if (kvs.any fun x => decide (x.1 = k)) = true then kvs.map (fun x => if x.1 = k then (x.1, v) else x) else kvs ++ [(k, v)]
def gDel (kvs : List (κ × α)) (k : κ) : List (κ × α) := kvs.filter fun x => decide (x.1 ≠ k)
theorem faG_get (inj : ∀ a b, ky a = ky b → a = b) {ws : List (Key × V)} (h : FaG ky R B kvs ws) (k : κ) : match gGet kvs k with
    | none => valV ws (ky k) = none
    | some x => ∃ w, valV ws (ky k) = some w ∧ R.rel B x w := by
  unfold gGet
  induction h with
  | nil => rfl
  | @cons a b as bs' r t ih =>
    by_cases e : a.1 = k
    · simp only [List.find?_cons, e, decide_true, Option.map_some]
      exact ⟨b.2, valV_pos (by rw [r.1, e]), r.2⟩
    · simp only [List.find?_cons, e, decide_false]
      rw [valV_neg (fun z => e (by rw [r.1] at z; exact inj _ _ z))]
      exact ih
theorem faG_any (inj : ∀ a b, ky a = ky b → a = b) {ws : List (Key × V)} (h : FaG ky R B kvs ws) (k : κ) : (ws.any fun kv => decide (kv.1 = ky k)) = kvs.any fun x => decide (x.1 = k) := by
  induction h with
  | nil => rfl
  | @cons a b as bs' r t ih =>
    rw [List.any_cons, List.any_cons, ih, r.1]
    congr 1
    exact decide_eq_decide.mpr ⟨inj _ _, fun e => by rw [e]⟩
theorem faG_put (inj : ∀ a b, ky a = ky b → a = b) {ws : List (Key × V)} (h : FaG ky R B kvs ws) (hx : R.rel B x w) : FaG ky R B (gPut kvs k x) (putK ws (ky k) w) := by
  unfold gPut putK
  rw [faG_any inj h k]
  by_cases c : (kvs.any fun x => decide (x.1 = k)) = true
  · rw [if_pos c, if_pos c]
    clear c
    induction h with
    | nil => exact .nil
    | @cons a b as bs' r t ih =>
      rw [List.map_cons, List.map_cons]
      refine .cons ?_ ih
      by_cases e : a.1 = k
      · rw [if_pos e, if_pos (by rw [r.1, e])]
        exact ⟨r.1, hx⟩
      · rw [if_neg e, if_neg (fun z => e (by rw [r.1] at z; exact inj _ _ z))]
        exact r
  · rw [if_neg c, if_neg c]
    exact h.app (.one ⟨rfl, hx⟩)
theorem faG_del (inj : ∀ a b, ky a = ky b → a = b) {ws : List (Key × V)} (h : FaG ky R B kvs ws) : FaG ky R B (gDel kvs k) (dropK ws (ky k)) := by
  unfold gDel dropK
  induction h with
  | nil => exact .nil
  | @cons a b as bs' r t ih =>
    by_cases e : a.1 = k
    · rw [List.filter_cons, List.filter_cons, if_neg (by simp [e]), if_neg (by simp [r.1, e])]
      exact ih
    · have e' : b.1 ≠ ky k := fun z => e (by rw [r.1] at z; exact inj _ _ z)
      rw [List.filter_cons, List.filter_cons, if_pos (by simp [e]), if_pos (by simp [e'])]
      exact .cons r ih
theorem gPut_len (kvs : List (κ × α)) (k : κ) (v : α) : (gPut kvs k v).length ≤ kvs.length + 1 := by
  unfold gPut
  split <;> simp
def DqG (ky : κ → Key) (R : Rl α) (B H : Hp) (kvs : List (κ × α)) (v : V) : Prop := ∃ p ws, v = .ref p ∧ H p = some (.dK ws) ∧ FaG ky R B kvs ws
omit [DecidableEq κ] in
theorem dqGD (h : (dDictG ky R).rel B kvs v) (s : Same B H) : DqG ky R B H kvs v := let ⟨p, ws, a, b, c, _⟩ := h; ⟨p, ws, a, s _ _ b, c⟩
omit [DecidableEq κ] in
theorem dqGC (h : (cDictG ky R).rel B kvs o) (hp : H p = some o) : DqG ky R B H kvs (.ref p) := by
  obtain ⟨ws, rfl, f, _⟩ := h
  exact ⟨p, ws, rfl, hp, f⟩
theorem DqG.get (inj : ∀ a b, ky a = ky b → a = b) (h : DqG ky R B H kvs v) (e : gGet kvs k = some x) : ∃ w, R.rel B x w ∧ ∃ a, v = .ref a ∧ DGet H a (kV (ky k)) (some w) := by
  obtain ⟨p, ws, rfl, h, f⟩ := h
  have q := faG_get inj f k
  rw [e] at q
  obtain ⟨w, hw, r⟩ := q
  exact ⟨w, r, p, rfl, by rw [← hw]; exact DGet.k h⟩
theorem DqG.has (inj : ∀ a b, ky a = ky b → a = b) (h : DqG ky R B H kvs v) : ∃ a o, v = .ref a ∧ DGet H a (kV (ky k)) o ∧ o.isSome = gHas kvs k := by
  obtain ⟨p, ws, rfl, h, f⟩ := h
  refine ⟨p, _, rfl, DGet.k h, ?_⟩
  have q := faG_get inj f k
  unfold gHas
  cases e : gGet kvs k with
  | none => rw [e] at q; simp [q]
  | some x => rw [e] at q; obtain ⟨w, hw, _⟩ := q; simp [hw]
omit [DecidableEq κ] in
theorem rlen_g (h : DqG ky R B H kvs v) : ∀ Q : VK, Q (.int (kvs.length : Int)) H → rLenD [v] H Q := fun Q q => by
  obtain ⟨p, ws, rfl, h, f⟩ := h
  exact ⟨p, ws, rfl, h, by rw [← f.len]; exact q⟩
def putM (kvs : List (κ × α)) (k : κ) (x : α) : Option (List (κ × α)) := if kvs.length < BIG then some (gPut kvs k x) else none
theorem q_dputG (inj : ∀ a b, ky a = ky b → a = b) {i : Nat} {ys : List (κ × α)} {D : Ends} (Z : Sit Φ B H cs) (hk : cs[i]? = some (p, o)) (h : (cDictG ky R).rel B kvs o) (hx : R.rel B x w) (hm : putM kvs k x = some ys) (g : ∀ o' H', Sit Φ B H' (cs.set i (p, o')) → (cDictG ky R).rel B ys o' → D.nx σ H') : ∃ a H4, V.ref p = .ref a ∧ DPut H a (kV (ky k)) w H4 ∧ D.nx σ H4 := by
  unfold putM at hm
  by_cases c : kvs.length < BIG
  · rw [if_pos c] at hm
    cases hm
    obtain ⟨ws, rfl, f, l⟩ := h
    exact ⟨p, _, rfl, DPut.k (Z.at' hk) (by rw [← f.len]; exact big_lt (by omega)), g _ _ (Z.set hk) ⟨_, rfl, faG_put inj f hx, Nat.le_trans (gPut_len _ _ _) (by omega)⟩⟩
  · rw [if_neg c] at hm; cases hm
theorem q_ddelG (inj : ∀ a b, ky a = ky b → a = b) {i : Nat} {D : Ends} (Z : Sit Φ B H cs) (hk : cs[i]? = some (p, o)) (h : (cDictG ky R).rel B kvs o) (hm : gGet kvs k = some x) (g : ∀ o' H', Sit Φ B H' (cs.set i (p, o')) → (cDictG ky R).rel B (gDel kvs k) o' → D.nx σ H') : ∃ a ws k', V.ref p = .ref a ∧ H a = some (.dK ws) ∧ kV (ky k) = kV k' ∧ (valV ws k').isSome = true ∧ D.nx σ (upd H a (.dK (dropK ws k'))) := by
  obtain ⟨ws, rfl, f, l⟩ := h
  have q := faG_get inj f k
  rw [hm] at q
  obtain ⟨w, hw, r⟩ := q
  exact ⟨p, ws, ky k, rfl, Z.at' hk, rfl, by rw [hw]; rfl, g _ _ (Z.set hk) ⟨_, rfl, faG_del inj f, Nat.le_trans (by unfold gDel; exact List.length_filter_le _ _) l⟩⟩
theorem q_dpopG (inj : ∀ a b, ky a = ky b → a = b) {i : Nat} (Z : Sit Φ B H cs) (hk : cs[i]? = some (p, o)) (h : (cDictG ky R).rel B kvs o) (hm : gGet kvs k = some x) (g : ∀ w o' H', Sit Φ B H' (cs.set i (p, o')) → (cDictG ky R).rel B (gDel kvs k) o' → R.rel B x w → Q w H') : ∃ ws k' v, H p = some (.dK ws) ∧ kV (ky k) = kV k' ∧ valV ws k' = some v ∧ Q v (upd H p (.dK (dropK ws k'))) := by
  obtain ⟨ws, rfl, f, l⟩ := h
  have q := faG_get inj f k
  rw [hm] at q
  obtain ⟨w, hw, r⟩ := q
  exact ⟨ws, ky k, w, Z.at' hk, rfl, hw, g w _ _ (Z.set hk) ⟨_, rfl, faG_del inj f, Nat.le_trans (by unfold gDel; exact List.length_filter_le _ _) l⟩ r⟩
omit [DecidableEq κ] in
theorem frzG (h : (cDictG ky R).rel B kvs o) (n : B p = none) : (dDictG ky R).rel (upd B p o) kvs (.ref p) := by
  obtain ⟨ws, rfl, f, l⟩ := h
  exact ⟨p, ws, rfl, upd_same, faG_mono (Same.new n) f, l⟩
theorem q_get2 (inj : ∀ a b, ky a = ky b → a = b) (h : DqG ky R B H kvs v) {y : α} {z : V} (hz : R.rel B y z) (g : ∀ w, R.rel B ((gGet kvs k).getD y) w → Q w H) : ∃ a, v = .ref a ∧ ∃ o, DGet H a (kV (ky k)) o ∧ Q (o.getD z) H := by
  obtain ⟨p, ws, rfl, h, f⟩ := h
  refine ⟨p, rfl, _, DGet.k h, ?_⟩
  have q := faG_get inj f k
  cases e : gGet kvs k with
  | none => rw [e] at q; rw [q]; exact g z (by rw [e]; exact hz)
  | some x => rw [e] at q; obtain ⟨w, hw, r⟩ := q; rw [hw]; exact g w (by rw [e]; exact r)
end
theorem inlI : ∀ a b : Int, (Sum.inl a : Key) = Sum.inl b → a = b := fun _ _ e => by injection e
theorem inrI : ∀ a b : Str, (Sum.inr a : Key) = Sum.inr b → a = b := fun _ _ e => by injection e
abbrev dDictI {α : Type} (R : Rl α) : Rl (List (Int × α)) := dDictG Sum.inl R
abbrev cDictI {α : Type} (R : Rl α) : Cl (List (Int × α)) := cDictG Sum.inl R
section
variable {α : Type} {R : Rl α} {σ : L2.St} {H B : Hp} {v w : V} {Q : VK} {Φ : Fr} {cs : List (Addr × HO)} {td ty : TE} {i : Int} {kvs : List (Int × α)}
theorem Ev.iget (hd : Ev td σ H v) (hy : Ev ty σ H (.int i)) (h : ∃ a, v = .ref a ∧ DGet H a (kV (Sum.inl i)) (some w)) : Ev (tDGet td ty) σ H w := fun Q q => hd _ (hy _ (let ⟨a, e, g⟩ := h; ⟨a, w, e, g, q⟩))
theorem Ev.iin (hy : Ev ty σ H (.int i)) (hd : Ev td σ H v) (h : DqG Sum.inl R B H kvs v) : Ev (tDIn ty td) σ H (.bl (gHas kvs i)) := fun Q q => hy _ (hd _ (let ⟨a, o, e, g, b⟩ := h.has inlI (k := i); ⟨a, o, e, g, by rw [b]; exact q⟩))
theorem Ev.ini (hy : Ev ty σ H (.int i)) (hd : Ev td σ H v) (h : DqG Sum.inl R B H kvs v) : Ev (tDNotIn ty td) σ H (.bl (!gHas kvs i)) := fun Q q => hy _ (hd _ (let ⟨a, o, e, g, b⟩ := h.has inlI (k := i); ⟨a, o, e, g, by rw [b]; exact q⟩))
/-- {} -/
theorem q_dnewG {κ : Type} {ky : κ → Key} (Z : Sit Φ B H cs) (k : ∀ p o H', Sit Φ B H' ((p, o) :: cs) → Φ.H p = none → (cDictG ky R).rel B [] o → Q (.ref p) H') : tDNewK σ H Q := fun p n => k _ _ _ (Z.own n) (Z.fresh n) ⟨[], rfl, .nil, Nat.zero_le _⟩
theorem q_dnew (Z : Sit Φ B H cs) (k : ∀ p o H', Sit Φ B H' ((p, o) :: cs) → Φ.H p = none → (cDict R).rel B [] o → Q (.ref p) H') : tDNewK σ H Q := fun p n => k _ _ _ (Z.own n) (Z.fresh n) ⟨[], rfl, .nil, Nat.zero_le _⟩
theorem w_dput {td ty tv : TE} {D : Ends} (g : tv σ H fun v H1 => td σ H1 fun x H2 => ty σ H2 fun y H3 => ∃ a H4, x = .ref a ∧ DPut H3 a y v H4 ∧ D.nx σ H4) : sDPut td ty tv D σ H := g
/-! a text or a number, written -/
def strD : PyData → Option Str
  | .str x => some x
  | .int i => strI i
  | _ => none
def fmtD : PyData → Option Str
  | .str x => fmtS x
  | .int i => strI i
  | _ => none
def rStrA : List V → Hp → VK → Prop := fun xs H Q => rStrI xs H Q ∨ rStrS xs H Q
theorem c_strA {X : Cx} : CallR X (.type "str") rStrA := fun pins s σ H xs us Q I r h => h.elim (fun h => c_strI pins s σ H xs us Q I r h) fun h => c_strS pins s σ H xs us Q I r h
theorem rstrA {K : PySem.W.Frag} {x : PyData} {r : Str} (h : (dAny K).rel B x v) (e : strD x = some r) : ∀ Q : VK, Q (.str r) H → rStrA [v] H Q := fun Q q => by
  have h : Dp K B v x := h
  cases h with
  | int i => exact .inl (rstrI e Q q)
  | str i => cases e; exact .inr ⟨_, rfl, q⟩
  | _ => cases e
theorem x_fmtD {K : PySem.W.Frag} {x : PyData} {r : Str} (h : (dAny K).rel B x v) (e : fmtD x = some r) (g : Q (.str r) H) : FmQ Q v H := by
  have h : Dp K B v x := h
  cases h with
  | int i => exact x_fmtI e g
  | str i => exact x_fmtS e g
  | _ => cases e
/-! dict(d), list(d), d.get(k, x) -/
def DqX {κ : Type} (ky : κ → Key) (R : Rl α) (B H : Hp) (kvs : List (κ × α)) (v : V) : Prop := DqG ky R B H kvs v ∧ kvs.length ≤ BIG
theorem dqxD {κ : Type} {ky : κ → Key} {kvs : List (κ × α)} (h : (dDictG ky R).rel B kvs v) (s : Same B H) : DqX ky R B H kvs v := ⟨dqGD h s, let ⟨_, _, _, _, _, l⟩ := h; l⟩
theorem dqxC {κ : Type} {ky : κ → Key} {kvs : List (κ × α)} {p : Addr} {o : HO} (h : (cDictG ky R).rel B kvs o) (hp : H p = some o) : DqX ky R B H kvs (.ref p) := ⟨dqGC h hp, let ⟨_, _, _, l⟩ := h; l⟩
def rDictD : List V → Hp → VK → Prop := fun xs H Q => ∃ (a : Addr) (kvs : List (Key × V)), xs = [.ref a] ∧ Rd H a (.dK kvs) ∧ ∀ p, H p = none → Q (.ref p) (upd H p (.dK kvs))
theorem c_dictD {X : Cx} : CallR X (.type "dict") rDictD := call_dictD
theorem q_dictO {κ : Type} {ky : κ → Key} {kvs : List (κ × α)} (Z : Sit Φ B H cs) (h : DqX ky R B H kvs v) (k : ∀ p o H', Sit Φ B H' ((p, o) :: cs) → Φ.H p = none → (cDictG ky R).rel B kvs o → Q (.ref p) H') : rDictD [v] H Q := by
  obtain ⟨⟨p, ws, rfl, h, f⟩, l⟩ := h
  exact ⟨p, ws, rfl, .inl h, fun q n => k _ _ _ (Z.own n) (Z.fresh n) ⟨ws, rfl, f, l⟩⟩
def rListD2 : List V → Hp → VK → Prop := fun xs H Q => ∃ (a : Addr) (kvs : List (Key × V)), xs = [.ref a] ∧ Rd H a (.dK kvs) ∧ ∀ p, H p = none → Q (.ref p) (upd H p (.lst (kvs.map fun kv => kV kv.1)))
theorem c_listD {X : Cx} (hc : X.calm = true) : CallR X (.type "list") rListD2 := call_listD hc
theorem faG_keysS {kvs : List (Str × α)} {ws : List (Key × V)} (h : FaG Sum.inr R B kvs ws) : Fa (dStr.rel B) (kvs.map Prod.fst) (ws.map fun kv => kV kv.1) := by
  induction h with
  | nil => exact .nil
  | @cons a b as bs' r t ih => exact .cons (congrArg kV r.1) ih
theorem faG_keysI {kvs : List (Int × α)} {ws : List (Key × V)} (h : FaG Sum.inl R B kvs ws) : Fa (dInt.rel B) (kvs.map Prod.fst) (ws.map fun kv => kV kv.1) := by
  induction h with
  | nil => exact .nil
  | @cons a b as bs' r t ih => exact .cons (congrArg kV r.1) ih
theorem q_keysS {kvs : List (Str × α)} (Z : Sit Φ B H cs) (h : DqX Sum.inr R B H kvs v) (k : ∀ v B' H', Sit Φ B' H' cs → Same B B' → (dList dStr).rel B' (kvs.map Prod.fst) v → Q v H') : rListD2 [v] H Q := by
  obtain ⟨⟨p, ws, rfl, h, f⟩, l⟩ := h
  exact ⟨p, ws, rfl, .inl h, nwL Z (faG_keysS f) (by simpa using l) k⟩
theorem q_keysSO {kvs : List (Str × α)} (Z : Sit Φ B H cs) (h : DqX Sum.inr R B H kvs v) (k : ∀ p o H', Sit Φ B H' ((p, o) :: cs) → Φ.H p = none → (cList dStr).rel B (kvs.map Prod.fst) o → Q (.ref p) H') : rListD2 [v] H Q := by
  obtain ⟨⟨p, ws, rfl, h, f⟩, l⟩ := h
  exact ⟨p, ws, rfl, .inl h, nwO Z (faG_keysS f) (by simpa using l) k⟩
theorem q_keysI (Z : Sit Φ B H cs) (h : DqX Sum.inl R B H kvs v) (k : ∀ v B' H', Sit Φ B' H' cs → Same B B' → (dList dInt).rel B' (kvs.map Prod.fst) v → Q v H') : rListD2 [v] H Q := by
  obtain ⟨⟨p, ws, rfl, h, f⟩, l⟩ := h
  exact ⟨p, ws, rfl, .inl h, nwL Z (faG_keysI f) (by simpa using l) k⟩
theorem w_get2 {κ : Type} [DecidableEq κ] {ky : κ → Key} {tx : TE} {kvs : List (κ × α)} {k : κ} {y : α} {z : V} (inj : ∀ a b, ky a = ky b → a = b) (hd : Ev td σ H v) (h : DqX ky R B H kvs v) (hy : Ev ty σ H (kV (ky k))) (hx : Ev tx σ H z) (hz : R.rel B y z) (g : ∀ w, R.rel B ((gGet kvs k).getD y) w → Q w H) : tDGet2 td ty tx σ H Q := by
  refine hd _ ?_
  obtain ⟨a, e, o, hg, q⟩ := q_get2 (k := k) inj h.1 hz g
  obtain ⟨⟨p, ws, e2, h2, _⟩, _⟩ := h
  subst e2
  cases e
  exact ⟨_, rfl, .inl ⟨ws, .inl h2⟩, hy _ (hx _ ⟨o, hg, q⟩)⟩
/-! own objects that change -/
theorem putF_hit {f : Str} {v y : V} {r : List (Str × V)} : putF f v ((f, y) :: r) = (f, v) :: r := by
  unfold putF
  simp
theorem frzO {α : Type} {F : Fl α} {C dx p : Addr} {x : α} {fs : List (Str × V)} (h : F.rel B x fs) (n : B p = none) : (dObj C F).rel (upd B p (.ins C dx fs)) x (.ref p) := ⟨p, dx, fs, rfl, upd_same, F.mono (Same.new n) h⟩
theorem mkObjO {α : Type} {F : Fl α} {C : Addr} {E : XK} {r : α} {vs : List V} {pre : Hp → List V → Prop} {post : Hp → List (Str × V) → Prop} (Z : Sit Φ B H cs) (hpre : ∀ B', Same B B' → pre B' vs) (hpost : ∀ B' fs, post B' fs → F.rel B' r fs) (k : ∀ p dx fs B' H', Sit Φ B' H' ((p, .ins C dx fs) :: cs) → Same B B' → Φ.H p = none → F.rel B' r fs → Q (.ref p) H') : MkB C (SpI C pre post) E Q vs H := by
  intro x dx nx ndx ne
  have Z1 := Z.put (o := .own x) ndx
  have nx1 : upd H dx (.own x) x = none := by rw [upd_ne (Ne.symm ne)]; exact nx
  have Z2 := Z1.own (o := .ins C dx []) nx1
  refine ⟨_, x, dx, vs, rfl, Z2.sub, upd_same, Z2.atB (i := 0) rfl, hpre _ (Z.updB ndx), fun B' H' fs Z' q => ⟨rfl, ?_⟩⟩
  have Z3 : Sit Φ B' H' ((x, .ins C dx fs) :: cs) := Z2.call1 (i := 0) rfl Z'
  exact k _ _ _ _ _ Z3 ((Z.updB ndx).tr Z'.grow) (Z1.fresh nx1) (hpost _ _ q)
theorem rv_mulI {i j : Int} (h : CMul i j) : RV (rI CMul fun i j => .int (i * j)) (.int i) (.int j) H (.int (i * j)) := rv_I h
theorem rv_powI {i j : Int} (h : CPow i j) : RV (rI CPow fun i j => .int (i ^ j.toNat)) (.int i) (.int j) H (.int (i ^ j.toNat)) := rv_I h
end
end Mf

namespace Mf
open PySem L2 PyProof.Rows
/-! ### distinct things, numbered by first occurrence -/
theorem nd_le {α : Type} [DecidableEq α] : ∀ {l m : List α}, l.Nodup → (∀ z ∈ l, z ∈ m) → l.length ≤ m.length
  | [], _, _, _ => Nat.zero_le _
  | x :: l, m, nd, h => by
    rw [List.nodup_cons] at nd
    have hx := h x List.mem_cons_self
    have := nd_le (l := l) (m := m.erase x) nd.2 (fun z hz => by
      have := h z (List.mem_cons_of_mem _ hz)
      exact (List.mem_erase_of_ne (fun (e : z = x) => nd.1 (e ▸ hz))).mpr this)
    rw [List.length_erase_of_mem hx] at this
    have := List.length_pos_of_mem hx
    rw [List.length_cons]
    omega
theorem nd_of_len {α : Type} [DecidableEq α] : ∀ {m l : List α}, l.Nodup → (∀ z ∈ l, z ∈ m) → m.length ≤ l.length → m.Nodup
  | [], _, _, _, _ => List.nodup_nil
  | y :: m, l, nd, h, hl => by
    rw [List.length_cons] at hl
    have no : ¬ (∀ z ∈ l, z ∈ m) := fun k => by have := nd_le nd k; omega
    rw [List.nodup_cons]
    refine ⟨fun hy => no fun z hz => ?_, ?_⟩
    · rcases List.mem_cons.mp (h z hz) with e | e
      · exact e ▸ hy
      · exact e
    · by_cases hy : y ∈ l
      · refine nd_of_len (l := l.erase y) (nd.erase y) (fun z hz => ?_) (by rw [List.length_erase_of_mem hy]; omega)
        have hz2 := (List.Nodup.mem_erase_iff nd).mp hz
        rcases List.mem_cons.mp (h z hz2.2) with e | e
        · exact absurd e hz2.1
        · exact e
      · exact absurd (fun z hz => by
          rcases List.mem_cons.mp (h z hz) with e | e
          · exact absurd (e ▸ hz) hy
          · exact e) no
section
variable {α β : Type} [DecidableEq α] [DecidableEq β]
def push1 (acc : List α) (x : α) : List α := if x ∈ acc then acc else acc ++ [x]
def dis (xs : List α) : List α := xs.foldl push1 []
theorem push1_mem {acc : List α} {x z : α} : z ∈ push1 acc x ↔ z ∈ acc ∨ z = x := by
  unfold push1
  by_cases h : x ∈ acc
  · rw [if_pos h]; exact ⟨.inl, fun e => e.elim id fun e => e ▸ h⟩
  · rw [if_neg h]; simp
theorem push1_nd {acc : List α} {x : α} (nd : acc.Nodup) : (push1 acc x).Nodup := by
  unfold push1
  by_cases h : x ∈ acc
  · rw [if_pos h]; exact nd
  · rw [if_neg h, List.nodup_append]
    exact ⟨nd, by simp, fun a ha b hb e => h (by rw [← List.mem_singleton.mp hb, ← e]; exact ha)⟩
theorem disF_mem : ∀ {xs acc : List α} {z : α}, z ∈ xs.foldl push1 acc ↔ z ∈ acc ∨ z ∈ xs
  | [], acc, z => by simp
  | x :: xs, acc, z => by rw [List.foldl_cons, disF_mem, push1_mem, List.mem_cons, or_assoc]
theorem disF_nd : ∀ {xs acc : List α}, acc.Nodup → (xs.foldl push1 acc).Nodup
  | [], acc, h => h
  | x :: xs, acc, h => by rw [List.foldl_cons]; exact disF_nd (push1_nd h)
theorem mem_dis {xs : List α} {z : α} : z ∈ dis xs ↔ z ∈ xs := by unfold dis; rw [disF_mem]; simp
theorem dis_nd (xs : List α) : (dis xs).Nodup := disF_nd List.nodup_nil
theorem dis_len (xs : List α) : (dis xs).length ≤ xs.length := nd_le (dis_nd xs) fun z hz => mem_dis.mp hz
theorem disF_map {φ : α → β} : ∀ {xs acc : List α}, (∀ a ∈ acc ++ xs, ∀ b ∈ acc ++ xs, φ a = φ b → a = b) → (xs.map φ).foldl push1 (acc.map φ) = (xs.foldl push1 acc).map φ
  | [], acc, _ => rfl
  | x :: xs, acc, h => by
    rw [List.map_cons, List.foldl_cons, List.foldl_cons]
    have e : push1 (acc.map φ) (φ x) = (push1 acc x).map φ := by
      unfold push1
      by_cases c : x ∈ acc
      · rw [if_pos c, if_pos (List.mem_map.mpr ⟨x, c, rfl⟩)]
      · rw [if_neg c, if_neg, List.map_append, List.map_singleton]
        intro z
        obtain ⟨a, ha, e⟩ := List.mem_map.mp z
        have := h a (List.mem_append_left _ ha) x (List.mem_append_right _ List.mem_cons_self) e
        exact c (this ▸ ha)
    rw [e]
    refine disF_map fun a ha b hb e => ?_
    have hs : ∀ z, z ∈ push1 acc x ++ xs → z ∈ acc ++ x :: xs := fun z hz => by
      rcases List.mem_append.mp hz with q | q
      · rcases push1_mem.mp q with q | q
        · exact List.mem_append_left _ q
        · rw [q]; exact List.mem_append_right _ List.mem_cons_self
      · exact List.mem_append_right _ (List.mem_cons_of_mem _ q)
    exact h a (hs a ha) b (hs b hb) e
theorem dis_map {φ : α → β} {xs : List α} (h : ∀ a ∈ xs, ∀ b ∈ xs, φ a = φ b → a = b) : dis (xs.map φ) = (dis xs).map φ := disF_map (acc := []) (by simpa using h)
theorem idx_map {φ : α → β} : ∀ {xs : List α} {x : α}, (∀ a ∈ xs, φ a = φ x → a = x) → (xs.map φ).idxOf (φ x) = xs.idxOf x
  | [], x, _ => rfl
  | y :: xs, x, h => by
    rw [List.map_cons, List.idxOf_cons, List.idxOf_cons]
    by_cases e : y = x
    · subst e; simp
    · have e' : φ y ≠ φ x := fun z => e (h y List.mem_cons_self z)
      have h1 : (y == x) = false := by simpa using e
      have h2 : (φ y == φ x) = false := by simpa using e'
      rw [h1, h2, cond_false, cond_false, idx_map fun a ha => h a (List.mem_cons_of_mem _ ha)]
def pos (xs : List α) (x : α) : Nat := xs.idxOf x
theorem pos_lt {xs : List α} {x : α} (h : x ∈ xs) : pos xs x < xs.length := List.idxOf_lt_length_of_mem h
theorem pos_map {φ : α → β} {xs : List α} {x : α} (h : ∀ a ∈ xs, φ a = φ x → a = x) : pos (xs.map φ) (φ x) = pos xs x := idx_map h
def num (xs : List α) : List Nat := xs.map fun x => pos (dis xs) x
theorem num_len (xs : List α) : (num xs).length = xs.length := by unfold num; simp
theorem num_inj {φ : α → β} {xs : List α} (h : ∀ a ∈ xs, ∀ b ∈ xs, φ a = φ b → a = b) : num (xs.map φ) = num xs := by
  unfold num
  rw [dis_map h, List.map_map]
  refine List.map_congr_left fun x hx => ?_
  exact pos_map fun a ha e => h a (mem_dis.mp ha) x hx e
theorem get_idx {xs : List α} {x : α} (h : x ∈ xs) : xs[pos xs x]? = some x := by
  unfold pos
  have hl := List.idxOf_lt_length_of_mem h
  rw [List.getElem?_eq_getElem hl, List.getElem_idxOf]
theorem num_fac (F : α → β) (xs : List α) : ∃ g : Nat → Nat, num (xs.map F) = (num xs).map g := by
  refine ⟨fun n => match (dis xs)[n]? with | some y => pos (dis (xs.map F)) (F y) | none => 0, ?_⟩
  unfold num
  rw [List.map_map, List.map_map]
  refine List.map_congr_left fun x hx => ?_
  simp only [Function.comp]
  rw [get_idx (mem_dis.mpr hx)]
theorem num_eq {xs : List α} {a b : α} (ha : a ∈ xs) (hb : b ∈ xs) (h : pos (dis xs) a = pos (dis xs) b) : a = b := by
  have h1 := get_idx (mem_dis.mpr ha)
  have h2 := get_idx (mem_dis.mpr hb)
  rw [h, h2] at h1
  cases h1
  rfl
def cnt (xs : List α) : Nat := (dis xs).length
theorem cnt_le (xs : List α) : cnt xs ≤ xs.length := dis_len xs
theorem cnt_map (F : α → β) (xs : List α) : cnt (xs.map F) ≤ cnt xs := by
  unfold cnt
  have := nd_le (l := dis (xs.map F)) (m := (dis xs).map F) (dis_nd _) (fun z hz => by
    obtain ⟨x, hx, rfl⟩ := List.mem_map.mp (mem_dis.mp hz)
    exact List.mem_map.mpr ⟨x, mem_dis.mpr hx, rfl⟩)
  simpa using this
theorem nd_map_inj {F : α → β} : ∀ {l : List α}, (l.map F).Nodup → ∀ a ∈ l, ∀ b ∈ l, F a = F b → a = b
  | [], _, a, ha, _, _, _ => by cases ha
  | x :: l, nd, a, ha, b, hb, e => by
    rw [List.map_cons, List.nodup_cons] at nd
    rcases List.mem_cons.mp ha with ea | ha <;> rcases List.mem_cons.mp hb with eb | hb
    · rw [ea, eb]
    · exact absurd (List.mem_map.mpr ⟨b, hb, by rw [← e, ea]⟩) nd.1
    · exact absurd (List.mem_map.mpr ⟨a, ha, by rw [e, eb]⟩) nd.1
    · exact nd_map_inj nd.2 a ha b hb e
theorem cnt_inj {F : α → β} {xs : List α} (h : cnt (xs.map F) = cnt xs) : ∀ a ∈ xs, ∀ b ∈ xs, F a = F b → a = b := by
  have nd : ((dis xs).map F).Nodup := nd_of_len (l := dis (xs.map F)) (dis_nd _) (fun z hz => by
    obtain ⟨x, hx, rfl⟩ := List.mem_map.mp (mem_dis.mp hz)
    exact List.mem_map.mpr ⟨x, mem_dis.mpr hx, rfl⟩) (by unfold cnt at h; simp; omega)
  exact fun a ha b hb e => nd_map_inj nd a (mem_dis.mpr ha) b (mem_dis.mpr hb) e
theorem num_small {xs : List α} (h : cnt xs ≤ 1) : num xs = List.replicate xs.length 0 := by
  unfold num
  rw [List.eq_replicate_iff]
  refine ⟨by simp, fun n hn => ?_⟩
  obtain ⟨x, hx, rfl⟩ := List.mem_map.mp hn
  have := pos_lt (mem_dis.mpr hx)
  unfold cnt at h
  omega
end
/-! ### items, rows -/
inductive Item
  | gap
  | word (s : Str)
  | num (i : Int)
  | node (k : Nat)
  deriving DecidableEq
abbrev Row : Type := List Item
abbrev Tbl : Type := List Row
def Item.ren (f : Nat → Nat) : Item → Item
  | .node k => .node (f k)
  | x => x
def cls (c : List Nat) (k : Nat) : Nat := c.getD k 0
def shape (c : List Nat) (r : Row) : Row := r.map (Item.ren (cls c))
def keysC (t : Tbl) (c : List Nat) : Tbl := t.map (shape c)
def stepC (t : Tbl) (c : List Nat) : List Nat := num (keysC t c)
def seqC (t : Tbl) : Nat → List Nat
  | 0 => List.replicate t.length 0
  | k + 1 => stepC t (seqC t k)
def Tok (t : Tbl) : Prop := ∀ r ∈ t, ∀ k, Item.node k ∈ r → k < t.length
def C (t : Tbl) : List Nat := seqC t t.length
theorem seqC_len (t : Tbl) : ∀ k, (seqC t k).length = t.length
  | 0 => by unfold seqC; simp
  | k + 1 => by unfold seqC stepC keysC; rw [num_len]; simp
theorem cls_map {c : List Nat} {f : Nat → Nat} {k : Nat} (h : k < c.length) : cls (c.map f) k = f (cls c k) := by
  unfold cls
  simp [List.getD, List.getElem?_map, h]
theorem shape_map {t : Tbl} (hok : Tok t) {c : List Nat} (hc : c.length = t.length) (f : Nat → Nat) : keysC t (c.map f) = (keysC t c).map (fun r => r.map (Item.ren f)) := by
  unfold keysC
  rw [List.map_map]
  refine List.map_congr_left fun r hr => ?_
  simp only [Function.comp]
  unfold shape
  rw [List.map_map]
  refine List.map_congr_left fun x hx => ?_
  cases x with
  | node k => simp only [Function.comp, Item.ren]; rw [cls_map (by rw [hc]; exact hok r hr k hx)]
  | _ => rfl
theorem seq_fac {t : Tbl} (hok : Tok t) : ∀ k, ∃ f, seqC t k = (seqC t (k + 1)).map f
  | 0 => ⟨fun _ => 0, by
    show List.replicate t.length 0 = _
    symm
    rw [List.eq_replicate_iff]
    refine ⟨by rw [List.length_map, seqC_len], fun n hn => ?_⟩
    obtain ⟨_, _, rfl⟩ := List.mem_map.mp hn
    rfl⟩
  | k + 1 => by
    obtain ⟨f, hf⟩ := seq_fac hok k
    have e : keysC t (seqC t k) = (keysC t (seqC t (k + 1))).map (fun r => r.map (Item.ren f)) := by
      rw [hf]; exact shape_map hok (seqC_len t _) f
    obtain ⟨g, hg⟩ := num_fac (fun r : Row => r.map (Item.ren f)) (keysC t (seqC t (k + 1)))
    exact ⟨g, by show num (keysC t (seqC t k)) = _; rw [e, hg]; rfl⟩
def cntC (t : Tbl) (k : Nat) : Nat := cnt (keysC t (seqC t k))
theorem cntC_le {t : Tbl} (hok : Tok t) (k : Nat) : cntC t k ≤ cntC t (k + 1) := by
  obtain ⟨f, hf⟩ := seq_fac hok k
  unfold cntC
  rw [show keysC t (seqC t k) = (keysC t (seqC t (k + 1))).map (fun r => r.map (Item.ren f)) by rw [hf]; exact shape_map hok (seqC_len t _) f]
  exact cnt_map _ _
theorem cntC_eq {t : Tbl} (hok : Tok t) {k : Nat} (h : cntC t k = cntC t (k + 1)) : seqC t (k + 1) = seqC t (k + 2) := by
  obtain ⟨f, hf⟩ := seq_fac hok k
  have e : keysC t (seqC t k) = (keysC t (seqC t (k + 1))).map (fun r => r.map (Item.ren f)) := by rw [hf]; exact shape_map hok (seqC_len t _) f
  show num (keysC t (seqC t k)) = num (keysC t (seqC t (k + 1)))
  unfold cntC at h
  rw [e] at h
  rw [e]
  exact num_inj (cnt_inj h)
theorem cntC_top (t : Tbl) (k : Nat) : cntC t k ≤ t.length := by
  have := cnt_le (keysC t (seqC t k))
  unfold keysC at this
  rw [List.length_map] at this
  exact this
theorem seq_stay {t : Tbl} {k : Nat} (h : seqC t (k + 1) = seqC t k) : ∀ j, seqC t (k + j) = seqC t k
  | 0 => rfl
  | j + 1 => by
    show stepC t (seqC t (k + j)) = _
    rw [seq_stay h j]
    exact h
theorem seq_two {t : Tbl} {k j : Nat} (hk : seqC t (k + 1) = seqC t k) (hj : seqC t (j + 1) = seqC t j) : seqC t k = seqC t j := by
  rcases Nat.le_total k j with h | h
  · have := seq_stay hk (j - k)
    rw [show k + (j - k) = j by omega] at this
    exact this.symm
  · have := seq_stay hj (k - j)
    rw [show j + (k - j) = k by omega] at this
    exact this
theorem seq_grow {t : Tbl} (hok : Tok t) {n : Nat} (h : ∀ k, k ≤ n → seqC t (k + 1) ≠ seqC t k) : ∀ k, k ≤ n → k + 2 ≤ cntC t k
  | 0, h0 => by
    refine Nat.le_of_not_lt fun hl => h 0 h0 ?_
    show num (keysC t (seqC t 0)) = List.replicate t.length 0
    rw [num_small (by unfold cntC at hl; omega)]
    unfold keysC
    rw [List.length_map]
  | k + 1, hk => by
    have ih := seq_grow hok h k (by omega)
    have h1 := cntC_le hok k
    have h2 : cntC t k ≠ cntC t (k + 1) := fun e => h (k + 1) hk (cntC_eq hok e).symm
    omega
theorem seq_end {t : Tbl} (hok : Tok t) (h0 : 0 < t.length) : ∃ k, k < t.length ∧ seqC t (k + 1) = seqC t k := by
  refine Classical.byContradiction fun no => ?_
  have h := seq_grow (n := t.length - 1) hok (fun k hk e => no ⟨k, by omega, e⟩) (t.length - 1) (Nat.le_refl _)
  have := cntC_top t (t.length - 1)
  omega
theorem C_fix {t : Tbl} (hok : Tok t) (h0 : 0 < t.length) : stepC t (C t) = C t := by
  obtain ⟨k, hk, e⟩ := seq_end hok h0
  have h1 := seq_stay e (t.length - k)
  have h2 := seq_stay e (t.length - k + 1)
  rw [show k + (t.length - k) = t.length by omega] at h1
  rw [show k + (t.length - k + 1) = t.length + 1 by omega] at h2
  show seqC t (t.length + 1) = seqC t t.length
  rw [h1, h2]
theorem C_of {t : Tbl} (hok : Tok t) (h0 : 0 < t.length) {k : Nat} (e : seqC t (k + 1) = seqC t k) : seqC t k = C t := seq_two e (C_fix hok h0)
theorem C_len (t : Tbl) : (C t).length = t.length := seqC_len t _
/-! ### the rows of point 9 -/
def addN (c : List Nat) (o : List Nat) (k : Nat) : List Nat := if cls c k ∈ o.map (cls c) then o else o ++ [k]
def cItem (c : List Nat) (o : List Nat) : Item → Item × List Nat
  | .node k => (.node (pos ((addN c o k).map (cls c)) (cls c k)), addN c o k)
  | x => (x, o)
def cRow (c : List Nat) : List Nat → Row → Row × List Nat
  | o, [] => ([], o)
  | o, x :: r => ((cItem c o x).1 :: (cRow c (cItem c o x).2 r).1, (cRow c (cItem c o x).2 r).2)
def cGo (t : Tbl) (c : List Nat) : Nat → Tbl → List Nat → Tbl
  | 0, acc, _ => acc
  | n + 1, acc, o => if acc.length < o.length then cGo t c n (acc ++ [(cRow c o (t.getD (o.getD acc.length 0) [])).1]) (cRow c o (t.getD (o.getD acc.length 0) [])).2 else acc
def canonAt (t : Tbl) (s : Nat) : Tbl := cGo t (C t) (t.length + 1) [] [s]
abbrev canon (t : Tbl) : Tbl := canonAt t 0
/-- the order of a walk: below n, of unlike classes -/
structure Ord (c : List Nat) (n : Nat) (o : List Nat) : Prop where
  nd : (o.map (cls c)).Nodup
  lt : ∀ k ∈ o, k < n
theorem Ord.len {c : List Nat} {n : Nat} {o : List Nat} (h : Ord c n o) : o.length ≤ n := by
  have nd : o.Nodup := by
    have := h.nd
    clear h
    induction o with
    | nil => exact List.nodup_nil
    | cons x o ih =>
      rw [List.map_cons, List.nodup_cons] at this
      rw [List.nodup_cons]
      exact ⟨fun m => this.1 (List.mem_map.mpr ⟨x, m, rfl⟩), ih this.2⟩
  have := nd_le (m := List.range n) nd (fun z hz => List.mem_range.mpr (h.lt z hz))
  simpa using this
theorem Ord.add {c : List Nat} {n : Nat} {o : List Nat} {k : Nat} (h : Ord c n o) (hk : k < n) : Ord c n (addN c o k) := by
  unfold addN
  by_cases e : cls c k ∈ o.map (cls c)
  · rw [if_pos e]; exact h
  · rw [if_neg e]
    refine ⟨?_, fun z hz => ?_⟩
    · rw [List.map_append, List.nodup_append]
      exact ⟨h.nd, by simp, fun a ha b hb q => e (by
        have hb := List.mem_singleton.mp hb
        rw [← hb, ← q]; exact ha)⟩
    · rcases List.mem_append.mp hz with q | q
      · exact h.lt z q
      · rw [List.mem_singleton.mp q]; exact hk
theorem addN_mem {c o : List Nat} {k : Nat} : cls c k ∈ (addN c o k).map (cls c) := by
  unfold addN
  by_cases e : cls c k ∈ o.map (cls c)
  · rw [if_pos e]; exact e
  · rw [if_neg e]; simp
theorem addN_le {c o : List Nat} {k : Nat} : o.length ≤ (addN c o k).length := by
  unfold addN; split <;> simp
theorem cRow_ord {c : List Nat} {n : Nat} : ∀ {r : Row} {o : List Nat}, Ord c n o → (∀ k, Item.node k ∈ r → k < n) → Ord c n (cRow c o r).2 ∧ o.length ≤ (cRow c o r).2.length
  | [], o, h, _ => ⟨h, Nat.le_refl _⟩
  | x :: r, o, h, hr => by
    unfold cRow
    have hx : Ord c n (cItem c o x).2 ∧ o.length ≤ (cItem c o x).2.length := by
      cases x with
      | node k => exact ⟨h.add (hr k List.mem_cons_self), addN_le⟩
      | _ => exact ⟨h, Nat.le_refl _⟩
    have := cRow_ord (r := r) hx.1 fun k hk => hr k (List.mem_cons_of_mem _ hk)
    exact ⟨this.1, Nat.le_trans hx.2 this.2⟩
theorem cRow_len {c : List Nat} : ∀ {r : Row} {o : List Nat}, (cRow c o r).1.length = r.length
  | [], o => rfl
  | x :: r, o => by unfold cRow; simp [cRow_len (r := r)]
end Mf

namespace Mf
open PySem L2 PyProof.Rows
def Item.d : Item → List PyData
  | .gap => [.str (Str.ofString "gap")]
  | .word s => [.str (Str.ofString "word"), .str s]
  | .num i => [.str (Str.ofString "number"), .int i]
  | .node k => [.str (Str.ofString "node"), .int (k : Int)]
def Item.isNode : Item → Bool
  | .node _ => true
  | _ => false
def rD (r : Row) : List (List PyData) := r.map Item.d
def tD (t : Tbl) : List (List (List PyData)) := t.map rD
def nI (c : List Nat) : List Int := c.map fun (n : Nat) => ((n : Nat) : Int)
def iD : List PyData → PyData := fun xs => PyData.tuple (xs.map id)
structure GoodI (n : Nat) (x : Item) : Prop where
  node : ∀ k, x = .node k → k < n
  word : ∀ s, x = .word s → IsName s
  num : ∀ i, x = .num i → -(1000000000000000000000000000000000000000000000000000000000000 : Int) < i ∧ i < 1000000000000000000000000000000000000000000000000000000000000
structure GoodT (t : Tbl) : Prop where
  pos : 0 < t.length
  few : t.length ≤ 40
  short : ∀ r ∈ t, r.length ≤ 12
  item : ∀ r ∈ t, ∀ x ∈ r, GoodI t.length x
theorem GoodT.tok {t : Tbl} (h : GoodT t) : Tok t := fun r hr k hk => (h.item r hr _ hk).node k rfl
theorem eqS {a b : Str} (ha : PyData.strOk a = true) (hb : PyData.strOk b = true) : eqD (.str a) (.str b) = some (decide (a = b)) := by
  rw [eqD_of (n := 0) (m := 0) (Ly.str ha) (Ly.str hb) (by decide) (by decide)]
  exact congrArg some (eqv_dec rfl rfl ⟨fun h => by injection h, fun h => by rw [h]⟩)
theorem kok1 : PyData.strOk (Str.ofString "gap") = true := by decide +kernel
theorem kok2 : PyData.strOk (Str.ofString "word") = true := by decide +kernel
theorem kok3 : PyData.strOk (Str.ofString "number") = true := by decide +kernel
theorem kok4 : PyData.strOk (Str.ofString "node") = true := by decide +kernel
theorem it_node {β : Type} (x : Item) (f : Bool → Option β) : ((atI x.d (0 : Int)).bind fun y => (eqD y (PyData.str (Str.ofString "node"))).bind f) = f x.isNode := by
  cases x with
  | gap => show (eqD (.str _) _).bind f = _; rw [eqS kok1 kok4]; rfl
  | word s => show (eqD (.str _) _).bind f = _; rw [eqS kok2 kok4]; rfl
  | num s => show (eqD (.str _) _).bind f = _; rw [eqS kok3 kok4]; rfl
  | node s => show (eqD (.str _) _).bind f = _; rw [eqS kok4 kok4]; rfl
theorem it_ix {β : Type} (k : Nat) (f : Int → Option β) : ((atI (Item.node k).d (1 : Int)).bind fun y => (asI y).bind f) = f (k : Int) := rfl
theorem node_d (k : Nat) : ([(PyData.str (Str.ofString "node")), (PyData.int (k : Int))] : List PyData) = (Item.node k).d := rfl
theorem atI_nI {β : Type} {c : List Nat} {k : Nat} (h : k < c.length) (f : Int → Option β) : (atI (nI c) (k : Int)).bind f = f (cls c k : Int) := by
  unfold atI ixN nI cls
  rw [if_pos (by omega), if_pos (by rw [List.length_map]; omega)]
  simp [h, List.getD]
theorem atI_get {α β : Type} {xs : List α} {k : Nat} {x : α} (h : xs[k]? = some x) (f : α → Option β) : (atI xs (k : Int)).bind f = f x := by
  have hl := (List.getElem?_eq_some_iff.mp h).1
  unfold atI ixN
  rw [if_pos (by omega), if_pos (by omega)]
  simp [h]
theorem lcM_on {α β γ : Type} {f : β → Option (Option γ)} {e : α → β} : ∀ {xs : List α}, lcM f (xs.map e) = lcM (fun x => f (e x)) xs
  | [] => rfl
  | x :: xs => by rw [List.map_cons]; unfold lcM; rw [lcM_on]
theorem rD_len (r : Row) : (rD r).length = r.length := by unfold rD; simp
theorem tD_len (t : Tbl) : (tD t).length = t.length := by unfold tD; simp
theorem nI_len (t : List Nat) : (nI t).length = t.length := by unfold nI; simp
theorem tD_get {t : Tbl} {k : Nat} {r : Row} (h : t[k]? = some r) : (tD t)[k]? = some (rD r) := by unfold tD; rw [List.getElem?_map, h]; rfl
theorem item_ly {x : Item} {n : Nat} (h : GoodI n x) : Ly 1 (iD x.d) := by
  cases x with
  | gap => exact Ly.t1 (Ly.str kok1)
  | word s => exact Ly.t2 (Ly.str kok2) (Ly.str (h.word s rfl).ok)
  | num i => exact Ly.t2 (Ly.str kok3) Ly.int
  | node i => exact Ly.t2 (Ly.str kok4) Ly.int
theorem GoodI.ren {x : Item} {n m : Nat} {f : Nat → Nat} (h : GoodI n x) (hf : ∀ k, f k < m) : GoodI m (x.ren f) := by
  cases x with
  | node k => exact ⟨fun j e => (by cases e; exact hf k), fun s e => (by cases e), fun s e => (by cases e)⟩
  | gap => exact ⟨fun j e => (by cases e), h.word, h.num⟩
  | word s => exact ⟨fun j e => (by cases e), h.word, h.num⟩
  | num s => exact ⟨fun j e => (by cases e), h.word, h.num⟩
theorem kne : Str.ofString "gap" ≠ Str.ofString "word" ∧ Str.ofString "gap" ≠ Str.ofString "number" ∧ Str.ofString "gap" ≠ Str.ofString "node" ∧ Str.ofString "word" ≠ Str.ofString "number" ∧ Str.ofString "word" ≠ Str.ofString "node" ∧ Str.ofString "number" ≠ Str.ofString "node" := by decide +kernel
theorem d_inj {x y : Item} (h : x.d = y.d) : x = y := by
  have k := kne
  cases x <;> cases y <;> simp only [Item.d, List.cons.injEq, PyData.str.injEq, PyData.int.injEq, and_true, reduceCtorEq, and_false] at h
  all_goals first | rfl | (rw [h.2]; done) | exact absurd h.1 k.2.2.2.1 | exact absurd h.1 k.2.2.2.2.1 | exact absurd h.1.symm k.2.2.2.1 | exact absurd h.1.symm k.2.2.2.2.1 | exact absurd h.1 k.2.2.2.2.2 | exact absurd h.1.symm k.2.2.2.2.2 | (congr 1; have := h.2; omega)
theorem item_inj {x y : Item} : iD x.d = iD y.d ↔ x = y := by
  constructor
  · intro h
    unfold iD at h
    rw [PyData.tuple.injEq, List.map_id, List.map_id] at h
    exact d_inj h
  · rintro rfl; rfl
theorem item_nb (x : Item) : nb (iD x.d) = true := by cases x <;> rfl
theorem nbAll_map {α : Type} {f : α → PyData} (h : ∀ x, nb (f x) = true) : ∀ xs : List α, nb.nbAll (xs.map f) = true
  | [] => rfl
  | x :: xs => by rw [List.map_cons]; show (nb (f x) && nb.nbAll (xs.map f)) = true; rw [h x, nbAll_map h xs]; rfl
theorem map_inj' {α β : Type} {f : α → β} (h : ∀ a b, f a = f b ↔ a = b) : ∀ {xs ys : List α}, xs.map f = ys.map f ↔ xs = ys
  | [], [] => by simp
  | [], _ :: _ => by simp
  | _ :: _, [] => by simp
  | x :: xs, y :: ys => by rw [List.map_cons, List.map_cons, List.cons.injEq, List.cons.injEq, h, map_inj' h]
/-- a row as a tuple, as a list; a table -/
def rowT : List (List PyData) → PyData := fun xs => PyData.tuple (xs.map (fun xs => PyData.tuple (xs.map id)))
def rowL : List (List PyData) → PyData := fun xs => PyData.list (xs.map (fun xs => PyData.tuple (xs.map id)))
def tblL : List (List (List PyData)) → PyData := fun xs => PyData.list (xs.map (fun xs => PyData.list (xs.map (fun xs => PyData.tuple (xs.map id)))))
theorem rowT_eq (r : Row) : rowT (rD r) = .tuple (r.map fun x => iD x.d) := by unfold rowT rD iD; rw [List.map_map]; rfl
theorem rowL_eq (r : Row) : rowL (rD r) = .list (r.map fun x => iD x.d) := by unfold rowL rD iD; rw [List.map_map]; rfl
theorem tblL_eq (t : Tbl) : tblL (tD t) = .list (t.map fun r => rowL (rD r)) := by unfold tblL tD rowL; rw [List.map_map]; rfl
theorem rowT_ly {r : Row} {n : Nat} (h : ∀ x ∈ r, GoodI n x) : Ly 2 (rowT (rD r)) := by rw [rowT_eq]; exact Ly.mapT fun x hx => item_ly (h x hx)
theorem rowL_ly {r : Row} {n : Nat} (h : ∀ x ∈ r, GoodI n x) : Ly 2 (rowL (rD r)) := by rw [rowL_eq]; exact Ly.mapL fun x hx => item_ly (h x hx)
theorem tblL_ly {t : Tbl} {n : Nat} (h : ∀ r ∈ t, ∀ x ∈ r, GoodI n x) : Ly 3 (tblL (tD t)) := by rw [tblL_eq]; exact Ly.mapL fun r hr => rowL_ly (h r hr)
theorem rowT_nb (r : Row) : nb (rowT (rD r)) = true := by rw [rowT_eq]; exact nbAll_map (fun x => item_nb x) r
theorem rowL_nb (r : Row) : nb (rowL (rD r)) = true := by rw [rowL_eq]; exact nbAll_map (fun x => item_nb x) r
theorem ints_nb (xs : List Int) : nb (.list (xs.map PyData.int)) = true := nbAll_map (f := PyData.int) (fun _ => rfl) xs
theorem tblL_nb (t : Tbl) : nb (tblL (tD t)) = true := by rw [tblL_eq]; exact nbAll_map (fun x => rowL_nb x) t
theorem rowT_inj {a b : Row} : rowT (rD a) = rowT (rD b) ↔ a = b := by rw [rowT_eq, rowT_eq, PyData.tuple.injEq]; exact map_inj' fun x y => item_inj
theorem rowL_inj {a b : Row} : rowL (rD a) = rowL (rD b) ↔ a = b := by rw [rowL_eq, rowL_eq, PyData.list.injEq]; exact map_inj' fun x y => item_inj
theorem tblL_inj {a b : Tbl} : tblL (tD a) = tblL (tD b) ↔ a = b := by rw [tblL_eq, tblL_eq, PyData.list.injEq]; exact map_inj' fun x y => rowL_inj
theorem tbl_eqD {a b : Tbl} {n m : Nat} (ha : ∀ r ∈ a, ∀ x ∈ r, GoodI n x) (hb : ∀ r ∈ b, ∀ x ∈ r, GoodI m x) : eqD (tblL (tD a)) (tblL (tD b)) = some (decide (a = b)) := by
  rw [eqD_of (tblL_ly ha) (tblL_ly hb) (by decide) (by decide)]
  congr 1
  exact eqv_dec (tblL_nb a) (tblL_nb b) tblL_inj
/-! distinct things in a loop -/
theorem fIx_mem {α : Type} [DecidableEq α] {x : α} : ∀ {xs : List α}, x ∈ xs → fIx (fun a => decide (a = x)) xs = some ((pos xs x : Nat) : Int)
  | [], h => by cases h
  | y :: xs, h => by
    unfold fIx pos
    rw [List.findIdx?_cons, List.idxOf_cons]
    by_cases e : y = x
    · subst e; simp
    · have hx : x ∈ xs := by rcases List.mem_cons.mp h with z | z; exact absurd z.symm e; exact z
      have ih := fIx_mem hx
      unfold fIx pos at ih
      have h1 : (y == x) = false := by simpa using e
      simp only [e, decide_false, Bool.false_eq_true, if_false, h1, cond_false]
      cases q : xs.findIdx? (fun a => decide (a = x)) with
      | none => rw [q] at ih; cases ih
      | some j =>
        rw [q] at ih
        simp only [Option.map_some, Option.some.injEq] at ih ⊢
        omega
theorem fIx_on {α β : Type} {p : β → Bool} {e : α → β} (xs : List α) : fIx p (xs.map e) = fIx (fun x => p (e x)) xs := by
  unfold fIx
  rw [List.findIdx?_map]
  rfl
theorem dis_loop {α β : Type} [DecidableEq α] {e : α → β} {F : β → PyData} {n : Nat} {xs : List α} (inj : ∀ a b, F (e a) = F (e b) ↔ a = b) (hnb : ∀ a, nb (F (e a)) = true) (ly : ∀ a ∈ xs, Ly n (F (e a))) (hn : n + 1 ≤ 64) (hl : xs.length < 1000000) :
    forL (fun (a : β) (st : List β) => (inD (F a) (st.map F)).bind fun b => if (!b) = true then (pushM st a).bind fun x => some x else some st) (xs.map e) [] = some ((dis xs).map e) := by
  have hmem : ∀ i z, z ∈ (xs.take i).foldl push1 [] → z ∈ xs := fun i z hz => by
    rw [disF_mem] at hz
    rcases hz with hz | hz
    · cases hz
    · exact List.mem_of_mem_take hz
  refine Wp.eq ?_
  refine (wp_forL (fun i (st : List β) => st = ((xs.take i).foldl push1 []).map e) rfl ?_).mono ?_
  · rintro i b st hb rfl
    rw [List.getElem?_map] at hb
    cases q : xs[i]? with
    | none => rw [q] at hb; cases hb
    | some a =>
      rw [q] at hb
      cases hb
      have ha := List.mem_of_getElem? q
      have hi := (List.getElem?_eq_some_iff.mp q).1
      have e1 : inD (F (e a)) ((((xs.take i).foldl push1 []).map e).map F) = some (decide (a ∈ (xs.take i).foldl push1 [])) := by
        unfold inD
        rw [if_pos ⟨(ly a ha).shaped (by omega), (Ly.mapL (f := fun x => F x) fun y hy => by
          obtain ⟨z, hz, rfl⟩ := List.mem_map.mp hy
          exact ly z (hmem i z hz)).shaped hn⟩]
        congr 1
        rw [List.map_map, List.any_map, Bool.eq_iff_iff, List.any_eq_true, decide_eq_true_iff]
        constructor
        · rintro ⟨z, hz, h⟩
          have := (eqv_nb _ _ (hnb z) (hnb a)).mp h
          rw [inj] at this
          exact this ▸ hz
        · intro h
          exact ⟨a, h, (eqv_nb _ _ (hnb a) (hnb a)).mpr rfl⟩
      refine Wp.go e1 ?_
      rw [take_next q, List.foldl_append]
      show Wp _ (fun st => st = (push1 ((xs.take i).foldl push1 []) a).map e)
      have hlen : ((xs.take i).foldl push1 []).length < 1000000 := by
        have := dis_len (xs.take i)
        unfold dis at this
        rw [List.length_take] at this
        omega
      by_cases c : a ∈ (xs.take i).foldl push1 []
      · rw [show push1 ((xs.take i).foldl push1 []) a = (xs.take i).foldl push1 [] from if_pos c]
        exact Wp.no (by simp [c]) (Wp.some rfl)
      · rw [show push1 ((xs.take i).foldl push1 []) a = (xs.take i).foldl push1 [] ++ [a] from if_neg c]
        refine Wp.yes (by simp [c]) (Wp.go (pushM_eq (by rw [List.length_map]; exact hlen)) (Wp.some ?_))
        rw [List.map_append, List.map_singleton]
  · rintro st rfl
    rw [List.length_map, List.take_length]
    rfl
theorem ixD_dis {α β : Type} [DecidableEq α] {e : α → β} {F : β → PyData} {n : Nat} {xs : List α} {x : α} (inj : ∀ a b, F (e a) = F (e b) ↔ a = b) (hnb : ∀ a, nb (F (e a)) = true) (ly : ∀ a ∈ xs, Ly n (F (e a))) (hn : n + 1 ≤ 64) (hx : x ∈ xs) :
    ixD (F (e x)) (((dis xs).map e).map F) = some ((pos (dis xs) x : Nat) : Int) := by
  unfold ixD
  rw [if_pos ⟨(Ly.mapL (f := fun x => F x) fun y hy => by
    obtain ⟨z, hz, rfl⟩ := List.mem_map.mp hy
    exact ly z (mem_dis.mp hz)).shaped hn, (ly x hx).shaped (by omega)⟩, List.map_map, fIx_on]
  rw [← fIx_mem (mem_dis.mpr hx)]
  congr 1
  funext a
  exact eqv_dec (hnb a) (hnb x) (inj a x)
theorem mem_nI {l : List Nat} {k : Nat} : ((k : Nat) : Int) ∈ nI l ↔ k ∈ l := by
  unfold nI
  rw [List.mem_map]
  exact ⟨fun ⟨a, ha, e⟩ => (by have : a = k := by omega
                               exact this ▸ ha), fun h => ⟨k, h, rfl⟩⟩
theorem ixOf_nI {l : List Nat} {k : Nat} (h : k ∈ l) : ixOf ((k : Nat) : Int) (nI l) = some ((pos l k : Nat) : Int) := by
  unfold ixOf nI
  rw [fIx_on, ← fIx_mem h]
  congr 1
  funext a
  exact decide_eq_decide.mpr (by omega)
theorem nI_push (l : List Nat) (k : Nat) : nI (l ++ [k]) = nI l ++ [(k : Int)] := by unfold nI; simp
theorem rD_push (l : Row) (x : Item) : rD (l ++ [x]) = rD l ++ [x.d] := by unfold rD; simp
theorem tD_push (l : Tbl) (x : Row) : tD (l ++ [x]) = tD l ++ [rD x] := by unfold tD; simp
theorem nI_get {l : List Nat} {i k : Nat} (h : l[i]? = some k) : (nI l)[i]? = some (k : Int) := by unfold nI; rw [List.getElem?_map, h]; rfl
theorem cRow_snoc {c : List Nat} {x : Item} : ∀ {r : Row} {o : List Nat}, cRow c o (r ++ [x]) = ((cRow c o r).1 ++ [(cItem c (cRow c o r).2 x).1], (cItem c (cRow c o r).2 x).2)
  | [], o => rfl
  | y :: r, o => by
    rw [List.cons_append]
    show ((cItem c o y).1 :: (cRow c (cItem c o y).2 (r ++ [x])).1, (cRow c (cItem c o y).2 (r ++ [x])).2) = _
    rw [cRow_snoc]
    rfl
theorem chars_letters' (x : Str) : ((chars x).map (fun a => decide (a ∈ chars (Str.ofString "abcdefghijklmnopqrstuvwxyz")))).all id = decide (∀ c ∈ x.cps.toList, 97 ≤ c ∧ c ≤ 122) := by
  have e : ∀ c : Nat, decide ((⟨#[c]⟩ : Str) ∈ chars (Str.ofString "abcdefghijklmnopqrstuvwxyz")) = decide (97 ≤ c ∧ c ≤ 122) := fun c => by
    rw [← letters_mem]
    refine decide_eq_decide.mpr ⟨fun z => ?_, fun z => List.mem_map.mpr ⟨c, z, rfl⟩⟩
    obtain ⟨m, hm, e⟩ := List.mem_map.mp z
    injection e with e
    have : m = c := by simpa using e
    exact this ▸ hm
  rw [Bool.eq_iff_iff, decide_eq_true_iff, List.all_map, List.all_eq_true]
  unfold chars
  constructor
  · intro h c hc
    have := h _ (List.mem_map.mpr ⟨c, hc, rfl⟩)
    simp only [Function.comp, id] at this
    have e2 := e c
    unfold chars at e2
    rw [e2] at this
    exact of_decide_eq_true this
  · intro h a ha
    obtain ⟨c, hc, rfl⟩ := List.mem_map.mp ha
    have e2 := e c
    unfold chars at e2
    simp only [Function.comp, id]
    rw [e2]
    exact decide_eq_true (h c hc)
/-! numbers written -/
theorem dig_len : ∀ (n m : Nat), m < 10 ^ (n + 1) → (Nat.toDigits 10 m).length ≤ n + 1
  | 0, m, h => by rw [Nat.toDigits_of_lt_base (by omega)]; simp
  | n + 1, m, h => by
    by_cases hs : m < 10
    · rw [Nat.toDigits_of_lt_base hs]; simp
    · have hm : m % 10 < 10 := Nat.mod_lt m (by decide)
      have t : Nat.toDigits 10 (m / 10) ++ Nat.toDigits 10 (m % 10) = Nat.toDigits 10 (10 * (m / 10) + m % 10) := Nat.toDigits_append_toDigits (by decide) (by omega) hm
      rw [Nat.div_add_mod] at t
      have ih := dig_len n (m / 10) (by rw [Nat.pow_succ] at h; exact Nat.div_lt_of_lt_mul (by rw [Nat.mul_comm]; exact h))
      rw [← t, List.length_append, Nat.toDigits_of_lt_base hm]
      simp only [List.length_cons, List.length_nil]
      omega
theorem ofS_length (s : String) : (Str.ofString s).length = s.toList.length := by rw [len_list, signs_ofString, List.length_map]
theorem natT_len {m : Nat} (h : m < 10 ^ 60) : (Str.ofString (toString ((m : Nat) : Int))).length ≤ 60 := by
  rw [ofS_length]
  show (Nat.repr m).toList.length ≤ 60
  rw [Nat.toList_repr]
  exact dig_len 59 m h
theorem intT_len {i : Int} (h : i.natAbs < 10 ^ 60) : (Str.ofString (toString i)).length ≤ 61 := by
  cases i with
  | ofNat m => have := natT_len (m := m) h; exact Nat.le_trans this (by decide)
  | negSucc m =>
    rw [ofS_length]
    show ("-" ++ Nat.repr (m + 1)).toList.length ≤ 61
    rw [String.toList_append, List.length_append, Nat.toList_repr]
    have := dig_len 59 (m + 1) h
    show 1 + _ ≤ _
    omega
theorem strI_eq {i : Int} (h : i.natAbs < 10 ^ 60) : strI i = some (Str.ofString (toString i)) := by
  have hl : i.natAbs.log2 < 1920 := by
    by_cases z : i.natAbs = 0
    · rw [z]; decide
    · exact (Nat.log2_lt z).mpr (Nat.lt_trans h (by decide +kernel))
  unfold strI
  exact if_pos hl
def itemTxt : Item → Str
  | .gap => Str.ofString "-"
  | .word s => s
  | .num i => Str.ofString (toString i)
  | .node k => Str.ofString "@" ++ Str.ofString (toString ((k : Nat) : Int))
theorem itemTxt_len {n : Nat} {x : Item} (h : GoodI n x) (hn : n ≤ 1000) : (itemTxt x).length ≤ 62 := by
  cases x with
  | gap => exact Nat.le_trans (Nat.le_of_eq (by decide +kernel : (Str.ofString "-").length = 1)) (by decide)
  | word s => have := (h.word s rfl).2.1; show s.length ≤ 62; omega
  | num i =>
    have := h.num i rfl
    exact Nat.le_trans (intT_len (by omega)) (by decide)
  | node k =>
    have := h.node k rfl
    show (Str.ofString "@" ++ _).length ≤ 62
    rw [Str.length_append, (by decide +kernel : (Str.ofString "@").length = 1)]
    have := natT_len (m := k) (Nat.lt_of_lt_of_le (show k < 1000 by omega) (by decide +kernel))
    omega
def rowTxt (i : Nat) (r : Row) : Str := Txt.join (Str.ofString "") ((Str.ofString (toString ((i : Nat) : Int)) ++ Str.ofString ":") :: r.map fun x => Str.ofString " " ++ itemTxt x)
def tblTxt (t : Tbl) : Str := Txt.join (Str.ofString "\n") ((List.range t.length).zipWith (fun i r => rowTxt i r) t)
theorem enum_at {α : Type} {k : Int} {xs : List α} {i : Nat} {a : Int × α} (h : (enumM k xs)[i]? = some a) : xs[i]? = some a.2 ∧ a.1 = k + i := by
  unfold enumM at h
  rw [List.getElem?_zipWith] at h
  cases e : xs[i]? with
  | none => rw [e] at h; cases e2 : (List.range xs.length)[i]? <;> rw [e2] at h <;> cases h
  | some x =>
    have hi := (List.getElem?_eq_some_iff.mp e).1
    rw [e, List.getElem?_range hi] at h
    cases h
    exact ⟨rfl, rfl⟩
end Mf

namespace Mf
open PySem L2 PyProof.Rows
/-! ### tables that lead into one another -/
theorem cls_get {c : List Nat} {i k : Nat} (h : c[i]? = some k) : cls c i = k := by unfold cls; simp [List.getD, h]
theorem cls_num {α : Type} [DecidableEq α] {ks : List α} {i : Nat} {x : α} (h : ks[i]? = some x) : cls (num ks) i = pos (dis ks) x := by
  refine cls_get ?_
  unfold num
  rw [List.getElem?_map, h]
  rfl
theorem cls_num_eq {α : Type} [DecidableEq α] {ks : List α} {i j : Nat} {x y : α} (hi : ks[i]? = some x) (hj : ks[j]? = some y) : cls (num ks) i = cls (num ks) j ↔ x = y := by
  rw [cls_num hi, cls_num hj]
  exact ⟨num_eq (List.mem_of_getElem? hi) (List.mem_of_getElem? hj), fun e => by rw [e]⟩
theorem C_ge {t : Tbl} (hok : Tok t) (h0 : 0 < t.length) {n : Nat} (h : t.length ≤ n) : seqC t n = C t := by
  have := seq_stay (C_fix hok h0) (n - t.length)
  rw [show t.length + (n - t.length) = n by omega] at this
  exact this
theorem keys_get {t : Tbl} {c : List Nat} {i : Nat} {r : Row} (h : t[i]? = some r) : (keysC t c)[i]? = some (shape c r) := by
  unfold keysC
  rw [List.getElem?_map, h]
  rfl
/-- equal classes: equal shapes -/
theorem C_eq {t : Tbl} (hok : Tok t) (h0 : 0 < t.length) {i j : Nat} {r r' : Row} (hi : t[i]? = some r) (hj : t[j]? = some r') : cls (C t) i = cls (C t) j ↔ shape (C t) r = shape (C t) r' := by
  have e : C t = num (keysC t (C t)) := (C_fix hok h0).symm
  have := cls_num_eq (keys_get (c := C t) hi) (keys_get (c := C t) hj)
  rw [← e] at this
  exact this
theorem row_iff {g h : Nat → Nat} : ∀ {r r' : Row}, (∀ a b, Item.node a ∈ r → Item.node b ∈ r' → (g a = g b ↔ h a = h b)) → (r.map (Item.ren g) = r'.map (Item.ren g) ↔ r.map (Item.ren h) = r'.map (Item.ren h))
  | [], [], _ => by simp
  | [], _ :: _, _ => by simp
  | _ :: _, [], _ => by simp
  | x :: r, y :: r', hh => by
    rw [List.map_cons, List.map_cons, List.map_cons, List.map_cons, List.cons.injEq, List.cons.injEq, row_iff fun a b ha hb => hh a b (List.mem_cons_of_mem _ ha) (List.mem_cons_of_mem _ hb)]
    refine and_congr ?_ Iff.rfl
    cases x <;> cases y <;> simp only [Item.ren, reduceCtorEq, Item.node.injEq, Item.word.injEq, Item.num.injEq]
    exact hh _ _ List.mem_cons_self List.mem_cons_self
structure Hom (t1 t2 : Tbl) (f : Nat → Nat) : Prop where
  ok1 : Tok t1
  ok2 : Tok t2
  p1 : 0 < t1.length
  lt : ∀ i, i < t1.length → f i < t2.length
  row : ∀ i r, t1[i]? = some r → t2[f i]? = some (r.map (Item.ren f))
theorem Hom.p2 {t1 t2 : Tbl} {f : Nat → Nat} (h : Hom t1 t2 f) : 0 < t2.length := Nat.lt_of_le_of_lt (Nat.zero_le _) (h.lt 0 h.p1)
theorem Hom.seq {t1 t2 : Tbl} {f : Nat → Nat} (h : Hom t1 t2 f) : ∀ (k i j : Nat), i < t1.length → j < t1.length → (cls (seqC t1 k) i = cls (seqC t1 k) j ↔ cls (seqC t2 k) (f i) = cls (seqC t2 k) (f j))
  | 0, i, j, hi, hj => by
    have z : ∀ (t : Tbl) (a : Nat), cls (seqC t 0) a = 0 := fun t a => by
      unfold cls seqC
      by_cases q : a < t.length <;> simp [List.getD, q, List.getElem?_replicate]
    rw [z, z, z, z]
  | k + 1, i, j, hi, hj => by
    obtain ⟨r, hr⟩ : ∃ r, t1[i]? = some r := ⟨t1[i], by simp [hi]⟩
    obtain ⟨r', hr'⟩ : ∃ r, t1[j]? = some r := ⟨t1[j], by simp [hj]⟩
    show cls (num (keysC t1 (seqC t1 k))) i = cls (num (keysC t1 (seqC t1 k))) j ↔ cls (num (keysC t2 (seqC t2 k))) (f i) = cls (num (keysC t2 (seqC t2 k))) (f j)
    rw [cls_num_eq (keys_get hr) (keys_get hr'), cls_num_eq (keys_get (h.row i r hr)) (keys_get (h.row j r' hr'))]
    unfold shape
    have e : ∀ r : Row, (r.map (Item.ren f)).map (Item.ren (cls (seqC t2 k))) = r.map (Item.ren fun a => cls (seqC t2 k) (f a)) := fun r => by
      rw [List.map_map]
      refine List.map_congr_left fun x _ => ?_
      cases x <;> rfl
    rw [e, e]
    exact row_iff fun a b ha hb => h.seq k a b (h.ok1 r (List.mem_of_getElem? hr) a ha) (h.ok1 r' (List.mem_of_getElem? hr') b hb)
theorem Hom.cls {t1 t2 : Tbl} {f : Nat → Nat} (h : Hom t1 t2 f) {i j : Nat} (hi : i < t1.length) (hj : j < t1.length) : Mf.cls (C t1) i = Mf.cls (C t1) j ↔ Mf.cls (C t2) (f i) = Mf.cls (C t2) (f j) := by
  have := h.seq (t1.length + t2.length) i j hi hj
  rw [C_ge h.ok1 h.p1 (by omega), C_ge h.ok2 h.p2 (by omega)] at this
  exact this
theorem pos_pat {g h : Nat → Nat} {k k' : Nat} : ∀ {o : List Nat}, (∀ a ∈ o, g a = k ↔ h a = k') → pos (o.map g) k = pos (o.map h) k'
  | [], _ => rfl
  | a :: o, hh => by
    have ih := pos_pat (o := o) fun b hb => hh b (List.mem_cons_of_mem _ hb)
    have ha := hh a List.mem_cons_self
    unfold pos at ih ⊢
    rw [List.map_cons, List.map_cons, List.idxOf_cons, List.idxOf_cons, ih]
    by_cases e : g a = k
    · have h1 : (g a == k) = true := by simpa using e
      have h2 : (h a == k') = true := by simpa using ha.mp e
      rw [h1, h2]
    · have h1 : (g a == k) = false := by simpa using e
      have h2 : (h a == k') = false := by simpa using fun z => e (ha.mpr z)
      rw [h1, h2]
theorem Hom.add {t1 t2 : Tbl} {f : Nat → Nat} (h : Hom t1 t2 f) {o : List Nat} {k : Nat} (ho : ∀ a ∈ o, a < t1.length) (hk : k < t1.length) : addN (C t2) (o.map f) (f k) = (addN (C t1) o k).map f := by
  have e : Mf.cls (C t2) (f k) ∈ (o.map f).map (Mf.cls (C t2)) ↔ Mf.cls (C t1) k ∈ o.map (Mf.cls (C t1)) := by
    rw [List.mem_map, List.mem_map]
    constructor
    · rintro ⟨b, hb, e⟩
      obtain ⟨a, ha, rfl⟩ := List.mem_map.mp hb
      exact ⟨a, ha, (h.cls (ho a ha) hk).mpr e⟩
    · rintro ⟨a, ha, e⟩
      exact ⟨f a, List.mem_map.mpr ⟨a, ha, rfl⟩, (h.cls (ho a ha) hk).mp e⟩
  unfold addN
  by_cases c : Mf.cls (C t1) k ∈ o.map (Mf.cls (C t1))
  · rw [if_pos c, if_pos (e.mpr c)]
  · rw [if_neg c, if_neg (fun z => c (e.mp z)), List.map_append, List.map_singleton]
theorem Hom.item {t1 t2 : Tbl} {f : Nat → Nat} (h : Hom t1 t2 f) {o : List Nat} {x : Item} (ho : ∀ a ∈ o, a < t1.length) (hx : ∀ k, x = .node k → k < t1.length) : cItem (C t2) (o.map f) (x.ren f) = ((cItem (C t1) o x).1, (cItem (C t1) o x).2.map f) := by
  cases x with
  | node k =>
    have hk := hx k rfl
    show (Item.node (pos ((addN (C t2) (o.map f) (f k)).map (Mf.cls (C t2))) (Mf.cls (C t2) (f k))), addN (C t2) (o.map f) (f k)) = _
    rw [h.add ho hk]
    have hm : ∀ a ∈ addN (C t1) o k, a < t1.length := fun a ha => by
      unfold addN at ha
      split at ha
      · exact ho a ha
      · rcases List.mem_append.mp ha with z | z
        · exact ho a z
        · rw [List.mem_singleton.mp z]; exact hk
    rw [List.map_map, pos_pat (g := Mf.cls (C t2) ∘ f) (h := Mf.cls (C t1)) (k' := Mf.cls (C t1) k) fun a ha => (h.cls (hm a ha) hk).symm]
    rfl
  | _ => rfl
theorem addN_lt {c : List Nat} {n : Nat} {o : List Nat} {k : Nat} (ho : ∀ a ∈ o, a < n) (hk : k < n) : ∀ a ∈ addN c o k, a < n := fun a ha => by
  unfold addN at ha
  split at ha
  · exact ho a ha
  · rcases List.mem_append.mp ha with z | z
    · exact ho a z
    · rw [List.mem_singleton.mp z]; exact hk
theorem cItem_lt {c : List Nat} {n : Nat} {o : List Nat} {x : Item} (ho : ∀ a ∈ o, a < n) (hx : ∀ k, x = .node k → k < n) : ∀ a ∈ (cItem c o x).2, a < n := by
  cases x with
  | node k => exact addN_lt ho (hx k rfl)
  | _ => exact ho
theorem Hom.rows {t1 t2 : Tbl} {f : Nat → Nat} (h : Hom t1 t2 f) : ∀ {r : Row} {o : List Nat}, (∀ a ∈ o, a < t1.length) → (∀ k, Item.node k ∈ r → k < t1.length) → cRow (C t2) (o.map f) (r.map (Item.ren f)) = ((cRow (C t1) o r).1, (cRow (C t1) o r).2.map f) ∧ ∀ a ∈ (cRow (C t1) o r).2, a < t1.length
  | [], o, ho, _ => ⟨rfl, ho⟩
  | x :: r, o, ho, hr => by
    have hx : ∀ k, x = .node k → k < t1.length := fun k e => hr k (by rw [← e]; exact List.mem_cons_self)
    have h1 := h.item ho hx
    have h2 := h.rows (r := r) (cItem_lt (c := C t1) ho hx) fun k hk => hr k (List.mem_cons_of_mem _ hk)
    refine ⟨?_, h2.2⟩
    rw [List.map_cons]
    show ((cItem (C t2) (o.map f) (x.ren f)).1 :: (cRow (C t2) (cItem (C t2) (o.map f) (x.ren f)).2 (r.map (Item.ren f))).1, (cRow (C t2) (cItem (C t2) (o.map f) (x.ren f)).2 (r.map (Item.ren f))).2) = _
    rw [h1]
    simp only
    rw [h2.1]
    rfl
theorem Hom.go {t1 t2 : Tbl} {f : Nat → Nat} (h : Hom t1 t2 f) : ∀ {n : Nat} {acc : Tbl} {o : List Nat}, (∀ a ∈ o, a < t1.length) → cGo t2 (C t2) n acc (o.map f) = cGo t1 (C t1) n acc o
  | 0, acc, o, _ => rfl
  | n + 1, acc, o, ho => by
    unfold cGo
    rw [List.length_map]
    by_cases q : acc.length < o.length
    · rw [if_pos q, if_pos q]
      obtain ⟨k, hk⟩ : ∃ k, o[acc.length]? = some k := ⟨o[acc.length], by simp [q]⟩
      have hkn := ho k (List.mem_of_getElem? hk)
      obtain ⟨r, hr⟩ : ∃ r, t1[k]? = some r := ⟨t1[k], by simp [hkn]⟩
      have hm := List.mem_of_getElem? hr
      rw [show o.getD acc.length 0 = k by simp [List.getD, hk], show t1.getD k [] = r by simp [List.getD, hr], show (o.map f).getD acc.length 0 = f k by simp [List.getD, hk], show t2.getD (f k) [] = r.map (Item.ren f) by simp [List.getD, h.row k r hr]]
      have := h.rows (r := r) ho fun j hj => h.ok1 r hm j hj
      rw [this.1]
      exact h.go this.2
    · rw [if_neg q, if_neg q]
theorem cGo_more {t : Tbl} {c : List Nat} (ht : Tok t) : ∀ {n m : Nat} {acc : Tbl} {o : List Nat}, Ord c t.length o → acc.length ≤ o.length → t.length + 1 ≤ n + acc.length → t.length + 1 ≤ m + acc.length → cGo t c n acc o = cGo t c m acc o
  | 0, m, acc, o, ho, hl, hn, hm => by have := ho.len; omega
  | n + 1, 0, acc, o, ho, hl, hn, hm => by have := ho.len; omega
  | n + 1, m + 1, acc, o, ho, hl, hn, hm => by
    unfold cGo
    by_cases q : acc.length < o.length
    · rw [if_pos q, if_pos q]
      obtain ⟨k, hk⟩ : ∃ k, o[acc.length]? = some k := ⟨o[acc.length], by simp [q]⟩
      have hkn := ho.lt k (List.mem_of_getElem? hk)
      obtain ⟨r, hr⟩ : ∃ r, t[k]? = some r := ⟨t[k], by simp [hkn]⟩
      rw [show o.getD acc.length 0 = k by simp [List.getD, hk], show t.getD k [] = r by simp [List.getD, hr]]
      obtain ⟨ho1, hle⟩ := cRow_ord (r := r) ho fun j hj => ht r (List.mem_of_getElem? hr) j hj
      exact cGo_more ht ho1 (by simp; omega) (by simp; omega) (by simp; omega)
    · rw [if_neg q, if_neg q]
theorem Ord.one {c : List Nat} {n s : Nat} (h : s < n) : Ord c n [s] := ⟨by simp, fun k hk => by rw [List.mem_singleton.mp hk]; exact h⟩
theorem canon_hom {t1 t2 : Tbl} {f : Nat → Nat} (h : Hom t1 t2 f) {s : Nat} (hs : s < t1.length) : canonAt t1 s = canonAt t2 (f s) := by
  have h1 : canonAt t1 s = cGo t1 (C t1) (t1.length + t2.length + 1) [] [s] := cGo_more h.ok1 (Ord.one hs) (by simp) (by simp) (by simp)
  have h2 : canonAt t2 (f s) = cGo t2 (C t2) (t1.length + t2.length + 1) [] [f s] := cGo_more h.ok2 (Ord.one (h.lt s hs)) (by simp) (by simp) (by simp)
  rw [h1, h2]
  exact (h.go (o := [s]) fun a ha => by rw [List.mem_singleton.mp ha]; exact hs).symm
/-! a table that is its own table of point 9 -/
def okR : Nat → Row → Prop
  | _, [] => True
  | m, .node k :: r => k ≤ m ∧ okR (max m (k + 1)) r
  | m, _ :: r => okR m r
def adv : Nat → Row → Nat
  | m, [] => m
  | m, .node k :: r => adv (max m (k + 1)) r
  | m, _ :: r => adv m r
theorem adv_ge : ∀ {r : Row} {m : Nat}, m ≤ adv m r
  | [], m => Nat.le_refl _
  | .node k :: r, m => Nat.le_trans (Nat.le_max_left m (k + 1)) (adv_ge (r := r))
  | .gap :: r, m => adv_ge (r := r)
  | .word _ :: r, m => adv_ge (r := r)
  | .num _ :: r, m => adv_ge (r := r)
theorem pos_range {c : List Nat} {n : Nat} (inj : ∀ i j, i < n → j < n → cls c i = cls c j → i = j) {m k : Nat} (hm : m ≤ n) (hk : k < m) : pos ((List.range m).map (cls c)) (cls c k) = k := by
  rw [pos_map fun a ha e => inj a k (by have := List.mem_range.mp ha; omega) (by omega) e]
  have h1 := get_idx (xs := List.range m) (x := k) (List.mem_range.mpr hk)
  have h2 := pos_lt (xs := List.range m) (x := k) (List.mem_range.mpr hk)
  rw [List.length_range] at h2
  rw [List.getElem?_range h2] at h1
  injection h1
theorem add_range {c : List Nat} {n : Nat} (inj : ∀ i j, i < n → j < n → cls c i = cls c j → i = j) {m k : Nat} (hm : m ≤ n) (hk : k ≤ m) (hkn : k < n) : addN c (List.range m) k = List.range (max m (k + 1)) := by
  unfold addN
  by_cases e : k < m
  · rw [if_pos (List.mem_map.mpr ⟨k, List.mem_range.mpr e, rfl⟩), Nat.max_eq_left (by omega)]
  · have : k = m := by omega
    subst this
    rw [if_neg, Nat.max_eq_right (by omega), List.range_succ]
    intro z
    obtain ⟨a, ha, q⟩ := List.mem_map.mp z
    have ha := List.mem_range.mp ha
    have := inj a k (by omega) hkn q
    omega
theorem cRow_range {c : List Nat} {n : Nat} (inj : ∀ i j, i < n → j < n → cls c i = cls c j → i = j) : ∀ {r : Row} {m : Nat}, m ≤ n → okR m r → (∀ k, Item.node k ∈ r → k < n) → cRow c (List.range m) r = (r, List.range (adv m r)) ∧ adv m r ≤ n
  | [], m, hm, _, _ => ⟨rfl, hm⟩
  | .node k :: r, m, hm, ho, hr => by
    have hkn := hr k List.mem_cons_self
    have hk := ho.1
    have hmx : max m (k + 1) ≤ n := Nat.max_le.mpr ⟨hm, hkn⟩
    have ih := cRow_range inj (r := r) hmx ho.2 fun j hj => hr j (List.mem_cons_of_mem _ hj)
    refine ⟨?_, ih.2⟩
    show (Item.node (pos ((addN c (List.range m) k).map (cls c)) (cls c k)) :: (cRow c (addN c (List.range m) k) r).1, (cRow c (addN c (List.range m) k) r).2) = _
    rw [add_range inj hm hk hkn, pos_range inj hmx (by omega), ih.1]
    rfl
  | .gap :: r, m, hm, ho, hr => by
    have ih := cRow_range inj (r := r) hm ho fun j hj => hr j (List.mem_cons_of_mem _ hj)
    refine ⟨?_, ih.2⟩
    show (Item.gap :: (cRow c (List.range m) r).1, (cRow c (List.range m) r).2) = _
    rw [ih.1]; rfl
  | .word w :: r, m, hm, ho, hr => by
    have ih := cRow_range inj (r := r) hm ho fun j hj => hr j (List.mem_cons_of_mem _ hj)
    refine ⟨?_, ih.2⟩
    show (Item.word w :: (cRow c (List.range m) r).1, (cRow c (List.range m) r).2) = _
    rw [ih.1]; rfl
  | .num w :: r, m, hm, ho, hr => by
    have ih := cRow_range inj (r := r) hm ho fun j hj => hr j (List.mem_cons_of_mem _ hj)
    refine ⟨?_, ih.2⟩
    show (Item.num w :: (cRow c (List.range m) r).1, (cRow c (List.range m) r).2) = _
    rw [ih.1]; rfl
/-- rows in the order of first occurrence: i rows told, m known -/
def okT : Nat → Nat → Tbl → Prop
  | i, m, [] => i = m
  | i, m, r :: t => i < m ∧ okR m r ∧ okT (i + 1) (adv m r) t
theorem cGo_self {t : Tbl} (ht : Tok t) {c : List Nat} (inj : ∀ i j, i < t.length → j < t.length → cls c i = cls c j → i = j) : ∀ {n : Nat} {a b : Tbl} {m : Nat}, t = a ++ b → m ≤ t.length → okT a.length m b → t.length + 1 ≤ n + a.length → cGo t c n a (List.range m) = t
  | 0, a, b, m, e, hm, ho, hn => by
    have := congrArg List.length e
    rw [List.length_append] at this
    omega
  | n + 1, a, b, m, e, hm, ho, hn => by
    unfold cGo
    rw [List.length_range]
    cases b with
    | nil =>
      have ho : a.length = m := ho
      rw [if_neg (by omega), e, List.append_nil]
    | cons r b =>
      obtain ⟨h1, h2, h3⟩ := ho
      rw [if_pos h1]
      have hl : a.length < t.length := by rw [e]; simp
      have hr : t[a.length]? = some r := by rw [e]; simp
      rw [show (List.range m).getD a.length 0 = a.length by simp [List.getD, List.getElem?_range h1], show t.getD a.length [] = r by simp [List.getD, hr]]
      have := cRow_range inj (r := r) hm h2 fun k hk => ht r (List.mem_of_getElem? hr) k hk
      rw [this.1]
      refine cGo_self ht inj (b := b) (by rw [e]; simp) this.2 ?_ (by simp; omega)
      rw [List.length_append]
      exact h3
theorem canon_self {t : Tbl} (ht : Tok t) (h0 : 0 < t.length) (inj : ∀ i j, i < t.length → j < t.length → cls (C t) i = cls (C t) j → i = j) (ho : okT 0 1 t) : canon t = t := by
  show cGo t (C t) (t.length + 1) [] (List.range 1) = t
  exact cGo_self ht inj (a := []) (b := t) rfl h0 ho (by simp)
end Mf

namespace Mf
open PySem L2 PyProof.Rows
/-- the places that a body reads -/
def rds (ps : List Prc) (x : Str) : List Str := (bodyOf ps x).filterMap rdOf
theorem rds_form (b : List Stp) : (b.filterMap fun (a : Str × Str) => if (decide (a.1 = Str.ofString "read")) = true then some a.2 else none) = b.filterMap rdOf := by
  congr 1
  funext a
  unfold rdOf
  by_cases c : a.1 = Str.ofString "read"
  · rw [if_pos (decide_eq_true c), if_pos c]
  · rw [if_neg (by rw [decide_eq_false c]; decide), if_neg c]
theorem mem_rdOf {b : List Stp} {z : Str} : z ∈ b.filterMap rdOf ↔ (Str.ofString "read", z) ∈ b := by
  rw [List.mem_filterMap]
  constructor
  · rintro ⟨⟨k, y⟩, h, e⟩
    unfold rdOf at e
    by_cases c : k = ("read" : Str)
    · rw [if_pos c] at e
      cases e
      rw [← c]
      exact h
    · rw [if_neg c] at e; cases e
  · intro h
    exact ⟨_, h, by unfold rdOf; rw [if_pos]; rfl⟩
theorem rds_len {ps : List Prc} (hg : Good ps) {x : Str} (h : x ∈ nms ps) : (rds ps x).length ≤ 12 := Nat.le_trans (List.length_filterMap_le _ _) (hg.short _ (body_of hg h).2)
theorem rds_places {ps : List Prc} (hg : Good ps) {x z : Str} (h : x ∈ nms ps) (hz : z ∈ rds ps x) : z ∈ places ps := by
  unfold places
  rw [mem_nset]
  unfold reads
  exact List.mem_flatMap.mpr ⟨_, (body_of hg h).2, hz⟩
theorem places_few {ps : List Prc} (hg : Good ps) {xs : List Str} (h : ∀ x ∈ xs, x ∈ places ps) : (addAll xs).length < 64 := by
  have h1 := nodup_le (addAll_nodup xs) (fun z hz => h z (mem_addAll.mp hz))
  have h2 : (places ps).length = (addAll (reads ps)).length := by unfold places nset; rw [srt_len]
  have h3 := hg.plc
  omega
theorem places_oks {ps : List Prc} (hg : Good ps) : Oks (places ps) := fun x hx => by
  unfold places at hx
  rw [mem_nset] at hx
  obtain ⟨p, hp, s, hs, e⟩ := mem_reads.mp hx
  unfold rdOf at e
  by_cases c : s.1 = ("read" : Str)
  · rw [if_pos c] at e
    cases e
    exact (hg.step p hp s hs).2.1.ok
  · rw [if_neg c] at e; cases e
/-- runs that fail: by a broken reading of their own, or by a call -/
inductive Bad (ps : List Prc) (hurt safe : List Str) : Str → Prop
  | read {x z : Str} : x ∈ nms ps → x ∉ safe → (Str.ofString "read", z) ∈ bodyOf ps x → z ∈ hurt → Bad ps hurt safe x
  | call {x y : Str} : x ∈ nms ps → x ∉ safe → (Str.ofString "call", y) ∈ bodyOf ps x → Bad ps hurt safe y → Bad ps hurt safe x
section
variable {ps : List Prc} {hurt safe : List Str} {x : Str}
theorem Bad.out (h : Bad ps hurt safe x) : x ∈ nms ps ∧ x ∉ safe := by cases h <;> exact ⟨by assumption, by assumption⟩
theorem rch_out {ks st S : List Str} (h : Rch ps ks st S x) : x ∉ st := by
  cases h with
  | start _ h => exact h
  | step _ h => exact (mem_nexts.mp h).choose_spec.2.2
theorem bad_rch (h : Bad ps hurt safe x) : ∃ e z, Rch ps HARDK safe [x] e ∧ (Str.ofString "read", z) ∈ bodyOf ps e ∧ z ∈ hurt := by
  induction h with
  | read h1 h2 h3 h4 => exact ⟨_, _, .start (by simp) h2, h3, h4⟩
  | call h1 h2 h3 h4 ih =>
    obtain ⟨e, z, r, h5, h6⟩ := ih
    exact ⟨e, z, rch_trans (.step (.start (by simp) h2) (mem_nexts.mpr ⟨_, by unfold HARDK; simp, h3, h4.out.2⟩)) r, h5, h6⟩
theorem rch_bad (hg : Good ps) (hx : x ∈ nms ps) {e : Str} (r : Rch ps HARDK safe [x] e) (h : Bad ps hurt safe e) : Bad ps hurt safe x := by
  induction r with
  | start h1 h2 => rw [← List.mem_singleton.mp h1]; exact h
  | step r1 h1 ih =>
    obtain ⟨k, hk, hm, _⟩ := mem_nexts.mp h1
    unfold HARDK at hk
    rw [List.mem_singleton.mp hk] at hm
    exact ih (.call (rch_sub hg hardk_calls (fun y hy => by rw [List.mem_singleton.mp hy]; exact hx) r1) (rch_out r1) hm h)
theorem bad_iff (hg : Good ps) (hx : x ∈ nms ps) : Bad ps hurt safe x ↔ ∃ e z, Rch ps HARDK safe [x] e ∧ (Str.ofString "read", z) ∈ bodyOf ps e ∧ z ∈ hurt := by
  constructor
  · exact bad_rch
  · rintro ⟨e, z, r, h1, h2⟩
    exact rch_bad hg hx r (.read (rch_sub hg hardk_calls (fun y hy => by rw [List.mem_singleton.mp hy]; exact hx) r) (rch_out r) h1 h2)
def Fails (hurt bd : List Str) (b : List Stp) : Prop := (∃ z, (Str.ofString "read", z) ∈ b ∧ z ∈ hurt) ∨ ∃ y, (Str.ofString "call", y) ∈ b ∧ y ∈ bd
def Shut (ps : List Prc) (hurt safe bd : List Str) : Prop := ∀ p ∈ ps, p.1 ∉ safe → Fails hurt bd p.2 → p.1 ∈ bd
theorem shut_bad (hg : Good ps) {bd : List Str} (h : Shut ps hurt safe bd) (hb : Bad ps hurt safe x) : x ∈ bd := by
  induction hb with
  | read h1 h2 h3 h4 => exact h _ (body_of hg h1).2 h2 (.inl ⟨_, h3, h4⟩)
  | call h1 h2 h3 h4 ih => exact h _ (body_of hg h1).2 h2 (.inr ⟨_, h3, ih⟩)
structure BadI (ps : List Prc) (hurt safe bd : List Str) : Prop where
  nd : bd.Nodup
  sub : ∀ x ∈ bd, Bad ps hurt safe x
theorem BadI.len (h : BadI ps hurt safe x') : x'.length ≤ ps.length := by
  have := nodup_le h.nd (fun z hz => (h.sub z hz).out.1)
  unfold nms at this
  rw [List.length_map] at this
  exact this
theorem fm_pos (k : Str) (xs : List Str) (b : List Stp) : 0 < (b.filterMap fun (a : Str × Str) => if (decide (a.1 = k) && decide (a.2 ∈ xs)) = true then some a.2 else none).length ↔ ∃ z, (k, z) ∈ b ∧ z ∈ xs := by
  rw [List.length_pos_iff_exists_mem]
  simp only [List.mem_filterMap]
  constructor
  · rintro ⟨y, ⟨a, z⟩, h, e⟩
    by_cases c : (decide (a = k) && decide (z ∈ xs)) = true
    · rw [Bool.and_eq_true] at c
      rw [← of_decide_eq_true c.1]
      exact ⟨z, h, of_decide_eq_true c.2⟩
    · rw [if_neg c] at e; cases e
  · rintro ⟨z, h, hz⟩
    exact ⟨z, _, h, by simp [hz]⟩
theorem bad_turn (hg : Good ps) {bd : List Str} (hI : BadI ps hurt safe bd) : Wp (forL (fun (a54 : (Str × (List (Str × Str)))) (st55 : (List Str)) => (catM (a54.2.filterMap (fun (a89 : (Str × Str)) => if ((decide (a89.1 = (Str.ofString "read"))) && (decide (a89.2 ∈ hurt))) = true then (some a89.2) else none)) (a54.2.filterMap (fun (a129 : (Str × Str)) => if ((decide (a129.1 = (Str.ofString "call"))) && (decide (a129.2 ∈ st55))) = true then (some a129.2) else none))).bind fun x169 =>
  if ((!decide (a54.1 ∈ safe)) && ((!decide (a54.1 ∈ st55)) && (decide ((0 : Int) < (x169.length : Int))))) = true then (pushM st55 a54.1).bind fun x176 =>
  some x176 else some st55) ps bd) (fun bd' => BadI ps hurt safe bd' ∧ bd <+: bd' ∧ (∀ p ∈ ps, p.1 ∉ safe → Fails hurt bd p.2 → p.1 ∈ bd') ∧ (Shut ps hurt safe bd → bd' = bd)) := by
  refine (wp_forL (fun i (cur : List Str) => BadI ps hurt safe cur ∧ bd <+: cur ∧ (∀ j p, j < i → ps[j]? = some p → p.1 ∉ safe → Fails hurt bd p.2 → p.1 ∈ cur) ∧ (Shut ps hurt safe bd → cur = bd)) ⟨hI, List.prefix_refl _, fun j p hj => absurd hj (Nat.not_lt_zero _), fun _ => rfl⟩ ?_).mono ?_
  · rintro i ⟨x, b⟩ cur hp ⟨h1, h2, h3, h4⟩
    have hmem := List.mem_of_getElem? hp
    have hs := hg.short _ hmem
    simp only at hs
    have hl1 := List.length_filterMap_le (fun (a89 : (Str × Str)) => if ((decide (a89.1 = (Str.ofString "read"))) && (decide (a89.2 ∈ hurt))) = true then (some a89.2) else none) b
    have hl2 := List.length_filterMap_le (fun (a129 : (Str × Str)) => if ((decide (a129.1 = (Str.ofString "call"))) && (decide (a129.2 ∈ cur))) = true then (some a129.2) else none) b
    have hb : bodyOf ps x = b := by unfold bodyOf; rw [dGet_mem hg.nd hmem]; rfl
    have hxn : x ∈ nms ps := List.mem_map.mpr ⟨_, hmem, rfl⟩
    refine Wp.go (catM_eq (by simp only; omega)) ?_
    simp only
    have hpos : (0 : Int) < (((b.filterMap (fun (a89 : (Str × Str)) => if ((decide (a89.1 = (Str.ofString "read"))) && (decide (a89.2 ∈ hurt))) = true then (some a89.2) else none)) ++ (b.filterMap (fun (a129 : (Str × Str)) => if ((decide (a129.1 = (Str.ofString "call"))) && (decide (a129.2 ∈ cur))) = true then (some a129.2) else none))).length : Int) ↔ Fails hurt cur b := by
      unfold Fails
      rw [← fm_pos, ← fm_pos, List.length_append]
      omega
    have hkeep : ∀ j p, j < i + 1 → ps[j]? = some p → p.1 ∉ safe → Fails hurt bd p.2 → p.1 ∈ cur ∨ (p.1 = x ∧ x ∉ safe ∧ Fails hurt cur b) := by
      intro j p hj hpj hsf hf
      by_cases c : j < i
      · exact .inl (h3 j p c hpj hsf hf)
      · have : j = i := by omega
        subst this
        rw [hp] at hpj
        cases hpj
        refine .inr ⟨rfl, hsf, ?_⟩
        rcases hf with hf | ⟨y, hy, hyb⟩
        · exact .inl hf
        · exact .inr ⟨y, hy, h2.subset hyb⟩
    refine Wp.ite (fun hc => ?_) (fun hc => Wp.some ⟨h1, h2, fun j p hj hpj hsf hf => ?_, h4⟩)
    · rw [Bool.and_eq_true, Bool.and_eq_true, decide_eq_true_iff, hpos] at hc
      obtain ⟨c1, c2, c3⟩ := hc
      have c1 : x ∉ safe := by simpa using c1
      have c2 : x ∉ cur := by simpa using c2
      have hlen := h1.len
      have h16 := hg.few
      refine Wp.go (pushM_eq (by omega)) (Wp.some ⟨⟨?_, fun y hy => ?_⟩, h2.trans (List.prefix_append _ _), fun j p hj hpj hsf hf => ?_, fun hsh => ?_⟩)
      · exact List.nodup_append.mpr ⟨h1.nd, by simp, fun a ha b hb z => c2 (by rw [← List.mem_singleton.mp hb, ← z]; exact ha)⟩
      · rcases List.mem_append.mp hy with hy | hy
        · exact h1.sub y hy
        · rw [List.mem_singleton.mp hy]
          rcases c3 with ⟨z, h5, h6⟩ | ⟨z, h5, h6⟩
          · exact .read hxn c1 (by rw [hb]; exact h5) h6
          · exact .call hxn c1 (by rw [hb]; exact h5) (h1.sub z h6)
      · rcases hkeep j p hj hpj hsf hf with h | ⟨h, _⟩
        · exact List.mem_append_left _ h
        · rw [h]; simp
      · have e := h4 hsh
        subst e
        exact absurd (hsh _ hmem c1 c3) c2
    · rcases hkeep j p hj hpj hsf hf with h | ⟨h, h', hf'⟩
      · exact h
      · rw [h]
        by_cases c2 : x ∈ cur
        · exact c2
        · exfalso
          rw [Bool.and_eq_false_iff, Bool.and_eq_false_iff, decide_eq_false_iff_not, hpos] at hc
          rcases hc with hc | hc | hc
          · exact h' (by simpa using hc)
          · exact c2 (by simpa using hc)
          · exact hc hf'
  · rintro bd' ⟨h1, h2, h3, h4⟩
    refine ⟨h1, h2, fun p hp hs hf => ?_, h4⟩
    obtain ⟨j, hj⟩ := List.mem_iff_getElem?.mp hp
    exact h3 j p (List.getElem?_eq_some_iff.mp hj).1 hj hs hf
end
/-! ### data in lists, when the model's == is equality -/
theorem inD_of {α : Type} [DecidableEq α] {F : α → PyData} {n : Nat} {xs : List α} {x : α} (eqv : ∀ a b, PyData.eqv (F a) (F b) = decide (a = b)) (ly : ∀ a ∈ xs, Ly n (F a)) (lx : Ly n (F x)) (hn : n + 1 ≤ 64) : inD (F x) (xs.map F) = some (decide (x ∈ xs)) := by
  unfold inD
  rw [if_pos ⟨lx.shaped (by omega), (Ly.mapL ly).shaped hn⟩]
  refine congrArg some ?_
  rw [List.any_map, Bool.eq_iff_iff, List.any_eq_true, decide_eq_true_iff]
  constructor
  · rintro ⟨z, hz, h⟩
    have h : PyData.eqv (F z) (F x) = true := h
    rw [eqv] at h
    exact of_decide_eq_true h ▸ hz
  · intro h
    exact ⟨x, h, by show PyData.eqv (F x) (F x) = true; rw [eqv]; exact decide_eq_true rfl⟩
theorem ixD_of {α : Type} [DecidableEq α] {F : α → PyData} {n : Nat} {xs : List α} {x : α} (eqv : ∀ a b, PyData.eqv (F a) (F b) = decide (a = b)) (ly : ∀ a ∈ xs, Ly n (F a)) (hn : n + 1 ≤ 64) (hx : x ∈ xs) : ixD (F x) (xs.map F) = some ((pos xs x : Nat) : Int) := by
  unfold ixD
  rw [if_pos ⟨(Ly.mapL ly).shaped hn, (ly x hx).shaped (by omega)⟩, fIx_on, ← fIx_mem hx]
  congr 1
  funext a
  exact eqv a x
/-! ### the rows of a plain run -/
abbrev Own : Type := Str × Bool
def ownD (q : Own) : PyData := PyData.tuple [PyData.str q.1, PyData.bool q.2]
theorem own_eqv (a b : Own) : PyData.eqv (ownD a) (ownD b) = decide (a = b) := by
  obtain ⟨a, x⟩ := a
  obtain ⟨b, y⟩ := b
  rw [Bool.eq_iff_iff, decide_eq_true_iff, Prod.mk.injEq]
  simp [ownD, PyData.eqv, PyData.eqvAll]
def pIt (nu : Str → Int) (bad safe : List Str) (c : Bool) (o : List Own) (s : Stp) : Item × List Own :=
  if s.1 = Str.ofString "read" then (.num (nu s.2), o) else if s.1 = Str.ofString "say" then (.word s.2, o) else if s.2 ∈ bad ∧ c = false then (.gap, o)
  else (.node (pos (push1 o (s.2, c || decide (s.2 ∈ safe))) (s.2, c || decide (s.2 ∈ safe))), push1 o (s.2, c || decide (s.2 ∈ safe)))
def pRow (nu : Str → Int) (bad safe : List Str) (c : Bool) : List Own → List Stp → Row × List Own
  | o, [] => ([], o)
  | o, s :: b => ((pIt nu bad safe c o s).1 :: (pRow nu bad safe c (pIt nu bad safe c o s).2 b).1, (pRow nu bad safe c (pIt nu bad safe c o s).2 b).2)
def pGo (body : Str → List Stp) (nu : Str → Int) (bad safe : List Str) : Nat → Tbl → List Own → Tbl
  | 0, acc, _ => acc
  | n + 1, acc, o => match o[acc.length]? with
    | none => acc
    | some q => pGo body nu bad safe n (acc ++ [(pRow nu bad safe q.2 o (body q.1)).1]) (pRow nu bad safe q.2 o (body q.1)).2
def plainT (body : Str → List Stp) (nu : Str → Int) (bad safe : List Str) (x : Str) : Tbl := pGo body nu bad safe 33 [] [(x, decide (x ∈ safe))]
theorem pRow_snoc {nu : Str → Int} {bad safe : List Str} {c : Bool} {s : Stp} : ∀ {b : List Stp} {o : List Own}, pRow nu bad safe c o (b ++ [s]) = ((pRow nu bad safe c o b).1 ++ [(pIt nu bad safe c (pRow nu bad safe c o b).2 s).1], (pIt nu bad safe c (pRow nu bad safe c o b).2 s).2)
  | [], o => rfl
  | y :: b, o => by
    rw [List.cons_append]
    show ((pIt nu bad safe c o y).1 :: (pRow nu bad safe c (pIt nu bad safe c o y).2 (b ++ [s])).1, (pRow nu bad safe c (pIt nu bad safe c o y).2 (b ++ [s])).2) = _
    rw [pRow_snoc]
    rfl
structure PO (ps : List Prc) (o : List Own) : Prop where
  nd : o.Nodup
  sub : ∀ q ∈ o, q.1 ∈ nms ps
theorem PO.len {ps : List Prc} (hg : Good ps) {o : List Own} (h : PO ps o) : o.length ≤ 32 := by
  have := nd_le (m := (nms ps).map (fun x => ((x, true) : Own)) ++ (nms ps).map (fun x => ((x, false) : Own))) h.nd (fun q hq => by
    obtain ⟨x, b⟩ := q
    have hx := h.sub _ hq
    cases b with
    | true => exact List.mem_append_left _ (List.mem_map.mpr ⟨x, hx, rfl⟩)
    | false => exact List.mem_append_right _ (List.mem_map.mpr ⟨x, hx, rfl⟩))
  have h16 := hg.few
  have hl : (nms ps).length = ps.length := by unfold nms; simp
  rw [List.length_append, List.length_map, List.length_map] at this
  omega
theorem push1_len {α : Type} [DecidableEq α] (o : List α) (x : α) : o.length ≤ (push1 o x).length := by
  unfold push1; split <;> simp
theorem push1_self {α : Type} [DecidableEq α] (o : List α) (x : α) : x ∈ push1 o x := push1_mem.mpr (.inr rfl)
/-- steps of the program: what a step that is no reading and says nothing names -/
theorem kinds_four {k : Str} (h : k ∈ kinds) : k = Str.ofString "read" ∨ k = Str.ofString "say" ∨ k ∈ calls := by
  revert h
  have : ∀ k ∈ kinds, k = Str.ofString "read" ∨ k = Str.ofString "say" ∨ k ∈ calls := by decide +kernel
  exact this k
theorem pIt_po {ps : List Prc} {nu : Str → Int} {bad safe : List Str} {c : Bool} {o : List Own} {s : Stp} (hs : GoodStp (nms ps) s) (h : PO ps o) : PO ps (pIt nu bad safe c o s).2 ∧ o.length ≤ (pIt nu bad safe c o s).2.length := by
  unfold pIt
  split
  · exact ⟨h, Nat.le_refl _⟩
  · split
    · exact ⟨h, Nat.le_refl _⟩
    · split
      · exact ⟨h, Nat.le_refl _⟩
      · rename_i h1 h2 _
        refine ⟨⟨push1_nd h.nd, fun q hq => ?_⟩, push1_len _ _⟩
        rcases push1_mem.mp hq with z | z
        · exact h.sub q z
        · rw [z]
          rcases kinds_four hs.1 with w | w | w
          · exact absurd w h1
          · exact absurd w h2
          · exact hs.2.2 w
theorem pRow_po {ps : List Prc} {nu : Str → Int} {bad safe : List Str} {c : Bool} : ∀ {b : List Stp} {o : List Own}, (∀ s ∈ b, GoodStp (nms ps) s) → PO ps o → PO ps (pRow nu bad safe c o b).2 ∧ o.length ≤ (pRow nu bad safe c o b).2.length
  | [], o, _, h => ⟨h, Nat.le_refl _⟩
  | s :: b, o, hs, h => by
    have h1 := pIt_po (nu := nu) (bad := bad) (safe := safe) (c := c) (hs s List.mem_cons_self) h
    have h2 := pRow_po (b := b) (nu := nu) (bad := bad) (safe := safe) (c := c) (fun z hz => hs z (List.mem_cons_of_mem _ hz)) h1.1
    exact ⟨h2.1, Nat.le_trans h1.2 h2.2⟩
theorem pRow_len {nu : Str → Int} {bad safe : List Str} {c : Bool} : ∀ {b : List Stp} {o : List Own}, (pRow nu bad safe c o b).1.length = b.length
  | [], o => rfl
  | s :: b, o => by unfold pRow; simp [pRow_len (b := b)]
def numOk (i : Int) : Prop := -(1000000000000000000000000000000000000000000000000000000000000 : Int) < i ∧ i < 1000000000000000000000000000000000000000000000000000000000000
theorem GoodI.le' {n m : Nat} {x : Item} (h : GoodI n x) (e : n ≤ m) : GoodI m x := ⟨fun k q => Nat.lt_of_lt_of_le (h.node k q) e, h.word, h.num⟩
theorem pIt_good {ns : List Str} {nu : Str → Int} {bad safe : List Str} {c : Bool} {o : List Own} {s : Stp} (hn : ∀ z, numOk (nu z)) (hs : GoodStp ns s) : GoodI (pIt nu bad safe c o s).2.length (pIt nu bad safe c o s).1 := by
  unfold pIt
  split
  · exact ⟨fun j e => (by cases e), fun t e => (by cases e), fun t e => (by cases e; exact hn _)⟩
  · split
    · exact ⟨fun j e => (by cases e), fun t e => (by cases e; exact hs.2.1), fun t e => (by cases e)⟩
    · split
      · exact ⟨fun j e => (by cases e), fun t e => (by cases e), fun t e => (by cases e)⟩
      · exact ⟨fun j e => (by cases e; exact pos_lt (push1_self _ _)), fun t e => (by cases e), fun t e => (by cases e)⟩
theorem pRow_good {ps : List Prc} {nu : Str → Int} {bad safe : List Str} {c : Bool} (hn : ∀ z, numOk (nu z)) : ∀ {b : List Stp} {o : List Own}, (∀ s ∈ b, GoodStp (nms ps) s) → PO ps o → ∀ x ∈ (pRow nu bad safe c o b).1, GoodI (pRow nu bad safe c o b).2.length x
  | [], o, _, _, x, hx => by cases hx
  | s :: b, o, hs, h, x, hx => by
    have h1 := pIt_po (nu := nu) (bad := bad) (safe := safe) (c := c) (hs s List.mem_cons_self) h
    have hb : ∀ z ∈ b, GoodStp (nms ps) z := fun z hz => hs z (List.mem_cons_of_mem _ hz)
    have h2 := pRow_po (b := b) (nu := nu) (bad := bad) (safe := safe) (c := c) hb h1.1
    have hx : x ∈ (pIt nu bad safe c o s).1 :: (pRow nu bad safe c (pIt nu bad safe c o s).2 b).1 := hx
    show GoodI (pRow nu bad safe c (pIt nu bad safe c o s).2 b).2.length x
    rcases List.mem_cons.mp hx with rfl | hx
    · exact (pIt_good hn (hs s List.mem_cons_self)).le' h2.2
    · exact pRow_good hn hb h1.1 x hx
theorem pGo_good {ps : List Prc} (hg : Good ps) {nu : Str → Int} {bad safe : List Str} (hn : ∀ z, numOk (nu z)) : ∀ {n : Nat} {acc : Tbl} {o : List Own}, PO ps o → acc.length ≤ o.length → 33 ≤ n + acc.length → (∀ r ∈ acc, r.length ≤ 12 ∧ ∀ x ∈ r, GoodI o.length x) → o ≠ [] → GoodT (pGo (bodyOf ps) nu bad safe n acc o)
  | 0, acc, o, ho, hl, hf, _, _ => by have := ho.len hg; omega
  | n + 1, acc, o, ho, hl, hf, ha, h0 => by
    have h32 := ho.len hg
    unfold pGo
    by_cases q : acc.length < o.length
    · obtain ⟨k, hk⟩ : ∃ k, o[acc.length]? = some k := ⟨o[acc.length], by simp [q]⟩
      rw [hk]
      have hx := ho.sub k (List.mem_of_getElem? hk)
      have hb := (body_of hg hx).2
      have hs : ∀ s ∈ bodyOf ps k.1, GoodStp (nms ps) s := fun s h => hg.step _ hb s h
      have h1 := pRow_po (b := bodyOf ps k.1) (nu := nu) (bad := bad) (safe := safe) (c := k.2) hs ho
      refine pGo_good hg hn h1.1 (by simp; omega) (by simp; omega) (fun r hr => ?_) (fun z => by rw [z] at h1; have := h1.2; simp at this; exact h0 this)
      rcases List.mem_append.mp hr with w | w
      · exact ⟨(ha r w).1, fun x hx => ((ha r w).2 x hx).le' h1.2⟩
      · rw [List.mem_singleton.mp w]
        refine ⟨?_, pRow_good hn hs ho⟩
        rw [pRow_len]
        exact hg.short _ hb
    · rw [List.getElem?_eq_none (by omega)]
      show GoodT acc
      have e : acc.length = o.length := by omega
      have hp : 0 < o.length := List.length_pos_iff.mpr h0
      exact ⟨by omega, by omega, fun r hr => (ha r hr).1, fun r hr => by rw [e]; exact (ha r hr).2⟩
theorem plain_good {ps : List Prc} (hg : Good ps) {nu : Str → Int} {bad safe : List Str} {x : Str} (hx : x ∈ nms ps) (hn : ∀ z, numOk (nu z)) : GoodT (plainT (bodyOf ps) nu bad safe x) :=
  pGo_good hg hn ⟨by simp, fun q hq => by rw [List.mem_singleton.mp hq]; exact hx⟩ (by simp) (by simp) (fun r hr => by cases hr) (by simp)
theorem rch_stops' {ps : List Prc} {ks st st' S : List Str} (h : ∀ x, x ∈ st ↔ x ∈ st') {x : Str} (r : Rch ps ks st S x) : Rch ps ks st' S x := by
  induction r with
  | start h1 h2 => exact .start h1 fun z => h2 ((h _).mpr z)
  | step _ h1 ih =>
    obtain ⟨k, h3, h4, h5⟩ := mem_nexts.mp h1
    exact .step ih (mem_nexts.mpr ⟨k, h3, h4, fun z => h5 ((h _).mpr z)⟩)
end Mf

namespace Mf
open PySem L2 PyProof.Rows
/-! ### rings of words -/
def ringT (W : Nat → Str) (s m : Nat) : Tbl := (List.range m).map fun i => [Item.word (W (s + i)), Item.node ((i + 1) % m)]
theorem ringT_len (W : Nat → Str) (s m : Nat) : (ringT W s m).length = m := by unfold ringT; simp
theorem ringT_get {W : Nat → Str} {s m i : Nat} (h : i < m) : (ringT W s m)[i]? = some [Item.word (W (s + i)), Item.node ((i + 1) % m)] := by
  unfold ringT
  rw [List.getElem?_map, List.getElem?_range h]
  rfl
theorem ringT_mem {W : Nat → Str} {s m : Nat} {r : Row} (h : r ∈ ringT W s m) : ∃ i, i < m ∧ r = [Item.word (W (s + i)), Item.node ((i + 1) % m)] := by
  obtain ⟨i, hi, rfl⟩ := List.mem_map.mp h
  exact ⟨i, List.mem_range.mp hi, rfl⟩
theorem ringT_tok {W : Nat → Str} {s m : Nat} (hm : 0 < m) : Tok (ringT W s m) := fun r hr k hk => by
  obtain ⟨i, hi, rfl⟩ := ringT_mem hr
  simp only [List.mem_cons, reduceCtorEq, Item.node.injEq, List.not_mem_nil, or_false, false_or] at hk
  rw [ringT_len, hk]
  exact Nat.mod_lt _ hm
theorem ringT_good {W : Nat → Str} {s m : Nat} (hm : 0 < m) (hW : ∀ i, IsName (W i)) : ∀ r ∈ ringT W s m, ∀ x ∈ r, GoodI m x := fun r hr x hx => by
  obtain ⟨i, hi, rfl⟩ := ringT_mem hr
  simp only [List.mem_cons, List.not_mem_nil, or_false] at hx
  rcases hx with rfl | rfl
  · exact ⟨fun j e => (by cases e), fun t e => (by cases e; exact hW _), fun t e => (by cases e)⟩
  · exact ⟨fun j e => (by cases e; exact Nat.mod_lt _ hm), fun t e => (by cases e), fun t e => (by cases e)⟩
structure Per (W : Nat → Str) (n p : Nat) : Prop where
  pos : 0 < p
  le : p ≤ n
  hn : ∀ k, W (k + n) = W k
  hp : ∀ k, W (k + p) = W k
  least : ∀ d, 0 < d → d < p → ¬ ∀ k, W (k + d) = W k
theorem per_mul {W : Nat → Str} {p : Nat} (h : ∀ k, W (k + p) = W k) (k : Nat) : ∀ q, W (k + p * q) = W k
  | 0 => by simp
  | q + 1 => by rw [Nat.mul_succ, ← Nat.add_assoc, h]; exact per_mul h k q
theorem per_mod {W : Nat → Str} {p : Nat} (h : ∀ k, W (k + p) = W k) (s i : Nat) : W (s + i % p) = W (s + i) := by
  have := per_mul h (s + i % p) (i / p)
  rw [Nat.add_assoc, Nat.mod_add_div] at this
  exact this.symm
theorem Per.dvd {W : Nat → Str} {n p : Nat} (h : Per W n p) : n % p = 0 := by
  refine Classical.byContradiction fun z => h.least (n % p) (by omega) (Nat.mod_lt _ h.pos) fun k => ?_
  rw [per_mod h.hp k n]
  exact h.hn k
theorem Per.hom {W : Nat → Str} {n p s : Nat} (h : Per W n p) : Hom (ringT W s n) (ringT W s p) (· % p) := by
  have hn : 0 < n := Nat.lt_of_lt_of_le h.pos h.le
  refine ⟨ringT_tok hn, ringT_tok h.pos, by rw [ringT_len]; exact hn, fun i _ => by rw [ringT_len]; exact Nat.mod_lt _ h.pos, fun i r hr => ?_⟩
  have hi : i < n := by have := (List.getElem?_eq_some_iff.mp hr).1; rwa [ringT_len] at this
  rw [ringT_get hi] at hr
  cases hr
  show (ringT W s p)[i % p]? = _
  rw [ringT_get (Nat.mod_lt _ h.pos), per_mod h.hp]
  show some [Item.word (W (s + i)), Item.node ((i % p + 1) % p)] = some [Item.word (W (s + i)), Item.node ((i + 1) % n % p)]
  have hd := h.dvd
  rw [Nat.mod_mod_of_dvd _ (Nat.dvd_of_mod_eq_zero hd), Nat.mod_add_mod]
theorem Per.inj {W : Nat → Str} {n p s : Nat} (h : Per W n p) : ∀ i j, i < p → j < p → cls (C (ringT W s p)) i = cls (C (ringT W s p)) j → i = j := by
  have step : ∀ i j, i < p → j < p → cls (C (ringT W s p)) i = cls (C (ringT W s p)) j → W (s + i) = W (s + j) ∧ cls (C (ringT W s p)) ((i + 1) % p) = cls (C (ringT W s p)) ((j + 1) % p) := fun i j hi hj e => by
    have := (C_eq (ringT_tok h.pos) (by rw [ringT_len]; exact h.pos) (ringT_get hi) (ringT_get hj)).mp e
    simp only [shape, List.map_cons, List.map_nil, Item.ren, List.cons.injEq, Item.word.injEq, Item.node.injEq, and_true] at this
    exact this
  have go : ∀ m i j, i < p → j < p → cls (C (ringT W s p)) i = cls (C (ringT W s p)) j → W (s + i + m) = W (s + j + m) := by
    intro m
    induction m with
    | zero => intro i j hi hj e; exact (step i j hi hj e).1
    | succ m ih =>
      intro i j hi hj e
      have := ih ((i + 1) % p) ((j + 1) % p) (Nat.mod_lt _ h.pos) (Nat.mod_lt _ h.pos) (step i j hi hj e).2
      have e1 : ∀ i, W (s + (i + 1) % p + m) = W (s + i + (m + 1)) := fun i => by
        have := per_mod h.hp (s + m) (i + 1)
        rw [show s + (i + 1) % p + m = s + m + (i + 1) % p by omega, this]
        congr 1
        omega
      rw [e1, e1] at this
      exact this
  have main : ∀ i j, i < j → j < p → cls (C (ringT W s p)) i = cls (C (ringT W s p)) j → False := fun i j hij hj e => by
    refine h.least (j - i) (by omega) (by omega) fun k => ?_
    -- a shift of k that lies behind s + i
    have h1 := go (k + p * (s + i) - (s + i)) i j (by omega) hj e
    have hge : s + i ≤ k + p * (s + i) := by
      have := Nat.mul_le_mul_right (s + i) h.pos
      omega
    rw [show s + i + (k + p * (s + i) - (s + i)) = k + p * (s + i) by omega, show s + j + (k + p * (s + i) - (s + i)) = k + (j - i) + p * (s + i) by omega, per_mul h.hp, per_mul h.hp] at h1
    exact h1.symm
  intro i j hi hj e
  rcases Nat.lt_trichotomy i j with z | z | z
  · exact (main i j z hj e).elim
  · exact z
  · exact (main j i z hi e.symm).elim
theorem ringT_okT {W : Nat → Str} {s m : Nat} (hm : 0 < m) : okT 0 1 (ringT W s m) := by
  have gen : ∀ k i, i + k = m → okT i (if i < m then i + 1 else m) (((List.range m).drop i).map fun i => [Item.word (W (s + i)), Item.node ((i + 1) % m)]) := by
    intro k
    induction k with
    | zero =>
      intro i e
      have : i = m := by omega
      subst this
      rw [List.drop_eq_nil_of_le (by simp), if_neg (by omega)]
      rfl
    | succ k ih =>
      intro i e
      have hi : i < m := by omega
      have hd : (List.range m).drop i = i :: (List.range m).drop (i + 1) := by
        rw [List.drop_eq_getElem_cons (by simpa using hi)]
        simp
      rw [hd, List.map_cons, if_pos hi]
      refine ⟨by omega, ?_, ?_⟩
      · show (i + 1) % m ≤ i + 1 ∧ True
        exact ⟨Nat.mod_le _ _, trivial⟩
      · have := ih (i + 1) (by omega)
        have ea : adv (i + 1) [Item.word (W (s + i)), Item.node ((i + 1) % m)] = if i + 1 < m then i + 1 + 1 else m := by
          show max (i + 1) ((i + 1) % m + 1) = _
          by_cases q : i + 1 < m
          · rw [if_pos q, Nat.mod_eq_of_lt q]; omega
          · have : i + 1 = m := by omega
            rw [if_neg q, this, Nat.mod_self]; omega
        rw [ea]
        exact this
  have := gen m 0 (by omega)
  rw [if_pos hm, List.drop_zero] at this
  exact this
theorem Per.canon {W : Nat → Str} {n p s : Nat} (h : Per W n p) : Mf.canon (ringT W s n) = ringT W s p := by
  have hn : 0 < n := Nat.lt_of_lt_of_le h.pos h.le
  have h1 := canon_hom (h.hom (s := s)) (s := 0) (by rw [ringT_len]; exact hn)
  rw [Nat.zero_mod] at h1
  show canonAt (ringT W s n) 0 = _
  rw [h1]
  exact canon_self (ringT_tok h.pos) (by rw [ringT_len]; exact h.pos) (fun i j hi hj => h.inj i j (by rwa [ringT_len] at hi) (by rwa [ringT_len] at hj)) (ringT_okT h.pos)
/-! the plain run of a ring -/
structure Ring (body : Str → List Stp) (X W : Nat → Str) (n : Nat) : Prop where
  pos : 0 < n
  few : n ≤ 32
  inj : ∀ a b, X a = X b → a % n = b % n
  per : ∀ k, X (k + n) = X k
  body : ∀ k, ∃ kd, body (X k) = [(Str.ofString "say", W k), (kd, X (k + 1))] ∧ kd ≠ Str.ofString "read" ∧ kd ≠ Str.ofString "say"
theorem Ring.X_mod {body : Str → List Stp} {X W : Nat → Str} {n : Nat} (h : Ring body X W n) {a b : Nat} (e : a % n = b % n) : X a = X b := by
  have h1 := per_mod h.per 0 a
  have h2 := per_mod h.per 0 b
  rw [Nat.zero_add, Nat.zero_add] at h1 h2
  rw [← h1, ← h2, e]
theorem mod_can {n s j k : Nat} (h : (s + j) % n = (s + k) % n) (hj : j < n) (hk : k < n) : j = k := by
  have h1 := Nat.sub_mod_eq_zero_of_mod_eq h
  have h2 := Nat.sub_mod_eq_zero_of_mod_eq h.symm
  rw [Nat.add_sub_add_left, Nat.mod_eq_of_lt (by omega)] at h1
  rw [Nat.add_sub_add_left, Nat.mod_eq_of_lt (by omega)] at h2
  omega
def owR (X : Nat → Str) (s i : Nat) : List Own := (List.range i).map fun j => (X (s + j), false)
theorem owR_mem {body : Str → List Stp} {X W : Nat → Str} {n : Nat} (h : Ring body X W n) {s i k : Nat} (hi : i ≤ n) (hk : k < n) : ((X (s + k), false) : Own) ∈ owR X s i ↔ k < i := by
  unfold owR
  rw [List.mem_map]
  constructor
  · rintro ⟨j, hj, e⟩
    have hj := List.mem_range.mp hj
    have := h.inj _ _ (Prod.mk.inj e).1
    have : j = k := by
      have h1 : (s + j) % n = (s + k) % n := this
      exact mod_can h1 (by omega) hk
    omega
  · intro hk
    exact ⟨k, List.mem_range.mpr hk, rfl⟩
theorem owR_succ (X : Nat → Str) (s i : Nat) : owR X s (i + 1) = owR X s i ++ [(X (s + i), false)] := by unfold owR; rw [List.range_succ]; simp
theorem owR_len (X : Nat → Str) (s i : Nat) : (owR X s i).length = i := by unfold owR; simp
theorem owR_pos {body : Str → List Stp} {X W : Nat → Str} {n : Nat} (h : Ring body X W n) {s i k : Nat} (hi : i ≤ n) (hk : k < i) : pos (owR X s i) (X (s + k), false) = k := by
  have hm := (owR_mem h (s := s) hi (show k < n by omega)).mpr hk
  have h1 := get_idx hm
  have h2 := pos_lt hm
  rw [owR_len] at h2
  generalize pos (owR X s i) (X (s + k), false) = q at h1 h2 ⊢
  unfold owR at h1
  rw [List.getElem?_map, List.getElem?_range h2] at h1
  have h3 := h.inj _ _ (Prod.mk.inj (Option.some.inj h1)).1
  exact mod_can h3 (by omega) (by omega)
theorem ring_row {body : Str → List Stp} {X W : Nat → Str} {n : Nat} (h : Ring body X W n) {nu : Str → Int} {bad : List Str} (hb : ∀ k, X k ∉ bad) {s i : Nat} (hi : i < n) :
    pRow nu bad [] false (owR X s (i + 1)) (body (X (s + i))) = ([Item.word (W (s + i)), Item.node ((i + 1) % n)], owR X s (if i + 1 < n then i + 2 else n)) := by
  obtain ⟨kd, e, k1, k2⟩ := h.body (s + i)
  rw [e]
  have hx : X (s + i + 1) ∉ bad := hb _
  have hsr : Str.ofString "say" ≠ Str.ofString "read" := by decide +kernel
  show ((pIt nu bad [] false (owR X s (i + 1)) (Str.ofString "say", W (s + i))).1 :: (pIt nu bad [] false (pIt nu bad [] false (owR X s (i + 1)) (Str.ofString "say", W (s + i))).2 (kd, X (s + i + 1))).1 :: [], (pIt nu bad [] false (pIt nu bad [] false (owR X s (i + 1)) (Str.ofString "say", W (s + i))).2 (kd, X (s + i + 1))).2) = _
  have e1 : pIt nu bad [] false (owR X s (i + 1)) (Str.ofString "say", W (s + i)) = (Item.word (W (s + i)), owR X s (i + 1)) := by
    unfold pIt
    rw [if_neg hsr, if_pos rfl]
  have e2 : pIt nu bad [] false (owR X s (i + 1)) (kd, X (s + i + 1)) = (Item.node ((i + 1) % n), owR X s (if i + 1 < n then i + 2 else n)) := by
    unfold pIt
    rw [if_neg k1, if_neg k2, if_neg (fun z => hx z.1)]
    have ef : (false || decide (X (s + i + 1) ∈ ([] : List Str))) = false := by simp
    simp only [ef]
    by_cases q : i + 1 < n
    · have hp : push1 (owR X s (i + 1)) (X (s + i + 1), false) = owR X s (i + 2) := by
        rw [owR_succ X s (i + 1)]
        exact if_neg fun z => by
          have := (owR_mem h (s := s) (i := i + 1) (k := i + 1) (by omega) q).mp z
          omega
      rw [hp, if_pos q, Nat.mod_eq_of_lt q, show s + i + 1 = s + (i + 1) by omega, owR_pos h (by omega) (by omega)]
    · have hn : i + 1 = n := by omega
      have hX : X (s + i + 1) = X (s + 0) := h.X_mod (by rw [show s + i + 1 = s + n by omega]; simp)
      have hp : push1 (owR X s (i + 1)) (X (s + i + 1), false) = owR X s n := by
        rw [hn]
        exact if_pos (by rw [hX]; exact (owR_mem h (Nat.le_refl _) h.pos).mpr h.pos)
      rw [hp, if_neg q, hX, owR_pos h (Nat.le_refl _) h.pos, hn, Nat.mod_self]
  rw [e1]
  simp only
  rw [e2]
theorem ring_plain {body : Str → List Stp} {X W : Nat → Str} {n : Nat} (h : Ring body X W n) {nu : Str → Int} {bad : List Str} (hb : ∀ k, X k ∉ bad) (s : Nat) : plainT body nu bad [] (X s) = ringT W s n := by
  have gen : ∀ k i m, i + k = n → n + 1 ≤ m + i → pGo body nu bad [] m ((List.range i).map fun i => [Item.word (W (s + i)), Item.node ((i + 1) % n)]) (owR X s (if i < n then i + 1 else n)) = ringT W s n := by
    intro k
    induction k with
    | zero =>
      intro i m e hm
      have : i = n := by omega
      subst this
      obtain ⟨m, rfl⟩ : ∃ z, m = z + 1 := ⟨m - 1, by omega⟩
      rw [if_neg (by omega)]
      unfold pGo
      rw [List.getElem?_eq_none (by rw [owR_len]; simp)]
      rfl
    | succ k ih =>
      intro i m e hm
      obtain ⟨m, rfl⟩ : ∃ z, m = z + 1 := ⟨m - 1, by omega⟩
      have hi : i < n := by omega
      rw [if_pos hi]
      unfold pGo
      have hg : (owR X s (i + 1))[((List.range i).map fun i => [Item.word (W (s + i)), Item.node ((i + 1) % n)]).length]? = some (X (s + i), false) := by
        unfold owR
        rw [List.length_map, List.length_range, List.getElem?_map, List.getElem?_range (by omega)]
        rfl
      rw [hg]
      simp only
      rw [ring_row h hb hi]
      simp only
      have := ih (i + 1) m (by omega) (by omega)
      rw [List.range_succ, List.map_append, List.map_singleton] at this
      exact this
  have := gen n 0 33 (by omega) (by have := h.few; omega)
  rw [if_pos h.pos] at this
  exact this
end Mf

namespace Mf
open PySem L2
/-! ### what the top has left, fact by fact -/
section
variable {K : PySem.W.Frag} {h : Heap} {mg : Str → Option Value}
theorem clsF_mk {x : Str} {C : Addr} (X : K.In h) (G : h.Ns mainGlobals mg) (aC : PySem.W.nsIn K mainGlobals x = some (some (.ref C))) (pg : PySem.W.plainGet K C Str.empty = true) (hd : PySem.W.hasDictIn K C = true) (po : PySem.W.plainOver K C = true)
    (sa : PySem.W.findIn K (.ref C) "__setattr__" = some (some (.builtin "object.__setattr__"))) (ha : PySem.W.findIn K (.ref C) "__class__" = some (some (.builtin "object.__class__")))
    (hn : PySem.W.specialIn K (.builtin "object.__class__") "__get__" = some (some (.builtin "getset_descriptor.__get__"))) (htk : PySem.W.takesIn K (.builtin "object.__class__") = some true)
    (hm : PySem.W.mroIn K C (.type "object") = some true) (sf : PySem.W.selfFirst K C = true) (ne : PySem.W.findIn K (.ref C) "__ne__" = some (some (.builtin "object.__ne__"))) : ClsF K mg x C :=
  ⟨PySem.W.mg_of X G aC, ⟨⟨pg, hd, po, sa⟩, ha, hn, htk, hm, by simp [PySem.W.kitOne]⟩, sf, ne⟩
theorem methAt_mk {C : Addr} {m q : Str} {st : Stmt} {ps : List Str} {f : Addr} {oc : Value} {od an : Option Addr} {osl : Array (Option Value)} {kV doc pm cdv ct : Value} (a : PySem.W.findIn K (.ref C) m = some (some (.ref f))) (i : PySem.W.isFn K (.ref f) = true)
    (l : K.lookup f = some ⟨oc, od, .func (PySem.W.fnOf m q (defArgs st) (defBody st) (defScope st) .none kV doc pm an cdv ct), osl⟩) (c : PySem.W.codeIn K cdv q = true) (k : PySem.W.keepIn K (.ref f) = true)
    (hb : ∀ (kV doc pm : Value) (an : Option Addr) (cdv ct : Value) (us : List Value), us.length = ps.length → bindArgs (PySem.W.fnOf m q (defArgs st) (defBody st) (defScope st) .none kV doc pm an cdv ct) ⟨us, []⟩ = pure (ps.zip us)) : MethAt K C m q st ps :=
  ⟨f, _, fun_mk l c k, ⟨a, i, k⟩, (fun_mk l c k).binds hb⟩
theorem mkAt_mk {C : Addr} {q : Str} {st : Stmt} {ps : List Str} {f : Addr} {oc : Value} {od an : Option Addr} {osl : Array (Option Value)} {kV doc pm cdv ct : Value} (a : PySem.W.findIn K (.ref C) "__init__" = some (some (.ref f))) (i : PySem.W.isFn K (.ref f) = true)
    (l : K.lookup f = some ⟨oc, od, .func (PySem.W.fnOf "__init__" q (defArgs st) (defBody st) (defScope st) .none kV doc pm an cdv ct), osl⟩) (c : PySem.W.codeIn K cdv q = true) (k : PySem.W.keepIn K (.ref f) = true) (mk : PySem.W.makesIn K C = true) (kc : PySem.W.keepIn K (.ref C) = true)
    (hb : ∀ (kV doc pm : Value) (an : Option Addr) (cdv ct : Value) (us : List Value), us.length = ps.length → bindArgs (PySem.W.fnOf "__init__" q (defArgs st) (defBody st) (defScope st) .none kV doc pm an cdv ct) ⟨us, []⟩ = pure (ps.zip us)) : MkAt K C q st ps :=
  ⟨f, _, fun_mk l c k, ⟨mk, a, i, kc⟩, (fun_mk l c k).binds hb⟩
theorem law_binds {x q : Str} {st : Stmt} {f : Addr} {fd : FuncData} {p : Str} (F : Fun K x q st f fd)
    (hb : ∀ (kV doc pm : Value) (an : Option Addr) (cdv ct : Value) (u : Value), bindArgs (PySem.W.fnOf x q (defArgs st) (defBody st) (defScope st) .none kV doc pm an cdv ct) ⟨[u], []⟩ = pure [(p, u)]) : ∀ (s : Shared) (u : Value), BindsTo s fd ⟨[u], []⟩ [(p, u)] := fun s u => by
  obtain ⟨oc, od, kV, doc, pm, an, cdv, ct, osl, rfl, _, _⟩ := F.ex
  exact .of_eq (hb kV doc pm an cdv ct u)
/-- a built-in type is no kind of an own class -/
theorem kit_no {C : Addr} {t : String} (ci : PySem.W.isClsIn K C = true) (ty : PySem.W.typeIn K (.ref C) = some (.type "type")) (nf : PySem.W.notFirst K C (.type t) = true) : PySem.W.kitOne K (.type t) (.ref C) = some false := by
  have e : (Value.type t == Value.ref C) = false := by simp
  have sb : PySem.W.subIn K (.type t) (.ref C) = some false := by simpa [PySem.W.notFirst] using nf
  simp only [PySem.W.isClsIn] at ci
  simp [PySem.W.kitOne, PySem.W.kitCls, ci, ty, sb]
/-- a def with one default, a tuple of nothing -/
theorem funD_mk {x q : Str} {st : Stmt} {f T T0 : Addr} {oc tc : Value} {od an td : Option Addr} {osl tsl : Array (Option Value)} {kV doc pm cdv ct : Value} {n : Nat}
    (l : K.lookup f = some ⟨oc, od, .func (PySem.W.fnOf x q (defArgs st) (defBody st) (defScope st) (.ref T) kV doc pm an cdv ct), osl⟩) (c : PySem.W.codeIn K cdv q = true) (k : PySem.W.keepIn K (.ref f) = true)
    (lT : K.lookup T = some ⟨tc, td, .seq [Value.ref T0].toArray n, tsl⟩) :
    FunD K x q (defArgs st) (defBody st) (defScope st) [.ref T0] [] f (PySem.W.fnOf x q (defArgs st) (defBody st) (defScope st) (.ref T) kV doc pm an cdv ct) :=
  ⟨⟨oc, od, .ref T, kV, doc, pm, an, cdv, ct, osl, rfl, l, c, .inr ⟨by simp, T, _, [.ref T0], n, rfl, lT, rfl, .cons rfl .nil⟩, .inl rfl⟩, k⟩
theorem funD_mkV {x q : Str} {st : Stmt} {f T : Addr} {oc tc : Value} {od an td : Option Addr} {osl tsl : Array (Option Value)} {kV doc pm cdv ct : Value} {n : Nat} {dvs : List V} {us : List Value}
    (l : K.lookup f = some ⟨oc, od, .func (PySem.W.fnOf x q (defArgs st) (defBody st) (defScope st) (.ref T) kV doc pm an cdv ct), osl⟩) (c : PySem.W.codeIn K cdv q = true) (k : PySem.W.keepIn K (.ref f) = true)
    (h0 : dvs ≠ []) (lT : K.lookup T = some ⟨tc, td, .seq us.toArray n, tsl⟩) (hv : Vals dvs us) :
    FunD K x q (defArgs st) (defBody st) (defScope st) dvs [] f (PySem.W.fnOf x q (defArgs st) (defBody st) (defScope st) (.ref T) kV doc pm an cdv ct) :=
  ⟨⟨oc, od, .ref T, kV, doc, pm, an, cdv, ct, osl, rfl, l, c, .inr ⟨h0, T, _, us, n, rfl, lT, rfl, hv⟩, .inl rfl⟩, k⟩
/-- own exceptions -/
theorem exm_mk {c cls : Value} {C : Addr} {b : Bool} (hc : c = .ref C) (h1 : PySem.W.subIn K (.ref C) (.type "BaseException") = some true) (ci : PySem.W.isClsIn K C = true) (ty : PySem.W.typeIn K (.ref C) = some (.type "type")) (h2 : PySem.W.subIn K cls (.ref C) = some b) : PySem.W.exmOne K cls c = some b := by
  subst hc
  simp only [PySem.W.isClsIn] at ci
  simp [PySem.W.exmOne, PySem.W.kitCls, h1, ci, ty, h2]
theorem oex_mk {C N : Addr} {nm q : Str} {bs bm : List Value} {sn : List Str} {sub : List Value} {ab : Bool} {col : Option Bool} {dd : Option Addr} {k0 k1 k2 k3 k5 : Option Value} (l : K.lookup C = some (excClassObj nm q C N bs bm true sn sub ab col dd k0 k1 k2 k3 k5 "ValueError.__new__")) (rv : PySem.HandSPX.refsVE bm = true)
    (sa : PySem.W.findIn K (.ref C) "__setattr__" = some (some (.builtin "object.__setattr__"))) (ex : PySem.W.subIn K (.ref C) (.type "BaseException") = some true) (ty : PySem.W.typeIn K (.ref C) = some (.type "type")) (kp : PySem.W.keepIn K (.ref C) = true) : OexC K C :=
  ⟨⟨nm, q, N, bs, bm, sn, sub, ab, col, dd, k0, k1, k2, k3, k5, l, rv⟩, sa, ex, ty, kp⟩
theorem unitT {T0 : Addr} {d0 : Option Addr} {n0 : Nat} {sl0 : Array (Option Value)} (l0 : K.lookup T0 = some ⟨.type "tuple", d0, .seq #[] n0, sl0⟩) (H : Hp) : SqT K H T0 [] :=
  .inr ⟨_, #[], n0, l0, rfl, rfl, by decide, .nil⟩
end
theorem walkL {l : PySem.W.OpenLaw} {q : Program} {loose : List Str} {XP : (Str → Option Value) → Heap → Prop} {YP : World → Heap → Prop} {d : DefRec} {K : Params → PySem.W.Frag} {lv : Nat} {x : Str} (hn : l.most = some 63) (hdf : d.params.defaults = []) (hr : Room lv PySem.callerA)
    (hY : ∀ (w : World) (h : Heap), YP w h → (K w.params).In h)
    (F : ∀ (w : World) (mg : Str → Option Value) (fa : Addr) (h : Heap), (K w.params).In h → h.Ns mainGlobals mg → mg d.name = some (.ref fa) →
      ∃ fd : FuncData, (∀ (s : Shared) (u : Value), BindsTo s fd ⟨[u], []⟩ [(x, u)]) ∧ ∀ base : Heap, (K w.params).In base → base.Ns mainGlobals mg → FnOk l.prog w (K w.params) mg base CX0 lv fa fd [x] (sp_law (K w.params))) :
    PySem.W.WalkO q loose XP YP l.row.toRowW d [] (fun f vs => PySem.call f vs) :=
  L2.walk_of (n := 63) (k := lv) (x := x) (CX := fun _ => CX0) (sp := fun w => sp_law (K w.params)) hn (by decide) hdf hr hY F (fun _ _ a ns hl _ hS => ⟨a, ns, rfl, hS, hl, fun _ => rfl⟩) fun _ _ _ _ _ z => z
end Mf

open PySem L2 Mf
local macro_rules | `(tactic| walk_at "hp") => `(tactic| first | assumption | exact upd_same)
local macro_rules | `(tactic| walk_at "sq") => `(tactic| first | assumption | exact SqL.of (by walk_at "hp") | exact SqT.of (by walk_at "hp"))
local macro_rules | `(tactic| walk_at "sz") => `(tactic| first | assumption | (simp only [PySem.sizeLine_eq, List.length_cons, List.length_nil, List.length_map, List.length_append]; omega) | (simp only [PySem.sizeLine_eq, Str.length_append, empty_len]; omega))
local macro_rules | `(tactic| walk_at "sd") => `(tactic| first | assumption | exact rfl | omega | decide | exact ⟨by omega, by omega⟩ | exact .inl ⟨by omega, by omega⟩ | exact .inr ⟨by omega, by omega⟩ | exact ⟨by decide, by decide, by decide⟩)
local macro_rules | `(tactic| walk_at "s1") => `(tactic| first
  | ((with_reducible refine w_var (v := ?v) ?h ?_); (case h => exact rfl))
  | with_reducible refine w_c ?_
  | with_reducible refine w_op ?_
  | with_reducible refine w_I0 ?_
  | with_reducible refine w_bl ?_
  | with_reducible refine w_test ?_
  | with_reducible refine w_cons ?_
  | with_reducible refine w_nil ?_
  | with_reducible refine w_seq ?_
  | with_reducible refine w_asg ?_
  | with_reducible refine w_gname ?_
  | with_reducible refine w_ifS ?_
  | with_reducible refine w_cb ?_
  | with_reducible refine w_ret ?_
  | with_reducible refine w_drop ?_
  | with_reducible refine w_next ?_
  | with_reducible refine w_retN ?_
  | ((with_reducible refine w_aug (v := ?v) ?h ?_); (case h => exact rfl))
  | with_reducible refine w_ipI ?_
  | with_reducible refine w_int1 ?_
  | with_reducible refine w_call ?_
  | with_reducible refine w_and ?_
  | with_reducible refine w_or ?_
  | with_reducible refine w_not ?_
  | with_reducible refine w_tb ?_
  | with_reducible refine w_un ?_
  | with_reducible refine w_U ?_
  | ((with_reducible refine w_I ?h ?_); (case h => walk_at "sd"))
  | ((with_reducible refine w_eq ?h ?_); (case h => exact rfl))
  | ((with_reducible refine w_ne ?h ?_); (case h => exact rfl))
  | with_reducible refine w_gcons ?_
  | with_reducible refine w_gnil ?_
  | ((with_reducible refine w_gtup (xs := ?xs) ?h ?hn ?_); (case h => walk_at "sq"); (case hn => exact rfl))
  | with_reducible refine w_gsub ?_
  | ((with_reducible refine w_setL (xs := ?xs) (n := ?n) ?h ?hn ?_); (case h => walk_at "hp"); (case hn => exact rfl))
  | ((with_reducible refine w_ixL (xs := ?xs) (v := ?v) ?h ?hn ?_); (case h => walk_at "sq"); (case hn => exact rfl))
  | ((with_reducible refine w_ixT (xs := ?xs) (v := ?v) ?h ?hn ?_); (case h => walk_at "sq"); (case hn => exact rfl))
  | with_reducible refine w_tup ?_
  | with_reducible refine w_lst ?_
  | with_reducible refine iteT ?_
  | with_reducible refine iteF ?_
  | with_reducible refine ite_nt ?_
  | with_reducible refine ite_nf ?_
  | with_reducible refine w_andV ?_
  | with_reducible refine w_orV ?_
  | with_reducible refine w_notV ?_
  | with_reducible refine w_ifE ?_
  | with_reducible refine w_chain ?_
  | with_reducible refine w_yes ?_
  | with_reducible refine w_par ?_
  | with_reducible refine w_two ?_
  | with_reducible refine w_bm ?_
  | with_reducible refine w_bm0 ?_
  | with_reducible refine w_m1 ?_
  | with_reducible refine w_cont ?_
  | with_reducible refine w_iQ ?_
  | ((with_reducible refine w_iQl (xs := ?xs) ?h ?_); (case h => walk_at "sq"))
  | ((with_reducible refine w_iQt (xs := ?xs) ?h ?_); (case h => walk_at "sq"))
  | with_reducible refine w_fld ?_
  | ((with_reducible refine w_fldx (C := ?C) (dx := ?dx) (fs := ?fs) (v := ?v) ?h ?hc ?hn ?hl ?_); (case h => walk_at "hp"); (case hc => assumption); (case hn => assumption); (case hl => first | assumption | exact look_hd))
  | with_reducible refine w_sfld ?_
  | ((with_reducible refine w_sfldx (C := ?C) (dx := ?dx) (fs := ?fs) ?h ?hc ?hn ?hl ?_); (case h => walk_at "hp"); (case hc => assumption); (case hn => assumption); (case hl => first | decide | simp))
  | with_reducible refine w_make ?_
  | with_reducible refine w_sc ?_
  | with_reducible refine w_lc ?_
  | with_reducible refine w_for ?_
  | with_reducible refine w_turn ?_
  | ((with_reducible refine w_wipe ?h ?_); (case h => exact rfl))
  | with_reducible refine w_iR1 ?_
  | ((with_reducible refine w_iR1x ?h ?k ?_); (case h => omega); (case k => omega))
  | with_reducible refine w_iR2 ?_
  | with_reducible refine w_iS ?_
  | with_reducible refine w_iE ?_
  | ((with_reducible refine w_iEx (xs := ?xs) ?h ?_); (case h => walk_at "sq"))
  | with_reducible refine w_iSx ?_
  | with_reducible refine w_strS ?_
  | ((with_reducible refine w_lenL (ys := ?ys) ?h ?_); (case h => walk_at "sq"))
  | ((with_reducible refine w_lenT (ys := ?ys) ?h ?_); (case h => walk_at "sq"))
  | ((with_reducible refine w_lenS ?h ?_); (case h => walk_at "sz"))
  | ((with_reducible refine w_lenD (kvs := ?kvs) ?h ?_); (case h => walk_at "hp"))
  | ((with_reducible refine w_addS ?h ?_); (case h => walk_at "sz"))
  | with_reducible refine w_inC ?_
  | with_reducible refine w_niC ?_
  | with_reducible refine w_isN ?_
  | with_reducible refine w_notN ?_
  | with_reducible refine w_max2 ?_
  | with_reducible refine w_sl ?_
  | with_reducible refine w_noP ?_
  | with_reducible refine w_part ?_
  | with_reducible refine w_exI ?_
  | with_reducible refine w_exS ?_
  | ((with_reducible refine w_slS ?h ?_); (case h => walk_at "sz"))
  | ((with_reducible refine w_tyL (xs := ?xs) ?h ?_); (case h => walk_at "sq"))
  | ((with_reducible refine w_size ?h ?_); (case h => walk_at "sz"))
  | ((with_reducible refine w_clear (xs := ?xs) ?h ?_); (case h => walk_at "hp"))
  | with_reducible refine w_star ?_
  | ((with_reducible refine w_stT (xs := ?xs) ?h ?_); (case h => walk_at "sq"))
  | with_reducible refine w_iL ?_
  | with_reducible refine w_iT ?_
  | ((with_reducible refine w_iLx (xs := ?xs) ?h ?_); (case h => walk_at "sq"))
  | ((with_reducible refine w_iTx (xs := ?xs) ?h ?_); (case h => walk_at "sq"))
  | with_reducible refine w_brk ?_
  | with_reducible refine w_joined ?_
  | with_reducible refine w_js ?_
  | with_reducible refine w_js0 ?_
  | with_reducible refine w_fmt ?_
  | ((with_reducible refine w_fmtS ?h ?_); (case h => walk_at "sz"))
  | ((with_reducible refine w_jx ?h ?_); (case h => walk_at "sz"))
  | with_reducible refine w_dc ?_
  | with_reducible refine w_lc2 ?_
  | with_reducible refine w_turnD ?_
  | with_reducible refine w_turnO ?_
  | with_reducible refine w_turn2 ?_
  | with_reducible refine w_iES ?_
  | with_reducible refine w_dget ?_
  | with_reducible refine w_din ?_
  | with_reducible refine w_dni ?_)
local macro_rules | `(tactic| walk_at "rd") => `(tactic| repeat walk_at "s1")
namespace Mm
open PySem L2 Mf
def top (i : Nat) : Stmt := PySem.Challenge.pw_midfall_k14_cycles_never_fail.main.body.getD i (.Pass ⟨0, 0, 0, 0⟩)
abbrev s_source : Stmt := top 48
abbrev s_draw : Stmt := top 49
abbrev s_name : Stmt := top 50
abbrev s_names : Stmt := top 51
abbrev s_is_name : Stmt := top 26
abbrev s_is_step : Stmt := top 27
abbrev s_invalid_line : Stmt := top 28
abbrev s_Program___getitem__ : Stmt := inClass (top 30) 4
abbrev s_Program___init__ : Stmt := inClass (top 30) 0
abbrev s_NameSet___init__ : Stmt := inClass (top 9) 0
abbrev s_least_unknown : Stmt := top 10
abbrev s_check_procedures : Stmt := top 15
abbrev s_check_places : Stmt := top 16
abbrev s_callees : Stmt := top 13
abbrev s_spread : Stmt := top 14
abbrev s_places_read : Stmt := top 17
abbrev s_is_number : Stmt := top 20
abbrev s_is_item : Stmt := top 34
abbrev s_check_rows : Stmt := top 35
abbrev s_row_shape : Stmt := top 36
abbrev s_classes_of : Stmt := top 37
abbrev s_canonical_rows : Stmt := top 38
abbrev s_Result___init__ : Stmt := inClass (top 40) 0
abbrev s_Result_rows : Stmt := inClass (top 40) 2
abbrev s_make_result : Stmt := top 41
abbrev s_bad_procedures : Stmt := top 44
abbrev s_failing_path : Stmt := top 43
abbrev s_plain_rows : Stmt := top 45
abbrev s_plain_result : Stmt := top 46
abbrev s_fresh : Stmt := top 52
abbrev s_period : Stmt := top 53
abbrev s_law : Stmt := top 54
abbrev s_CallFailed___init__ : Stmt := inClass (top 7) 0
abbrev s_UnknownProcedure___init__ : Stmt := inClass (top 5) 0
abbrev s_UnknownPlace___init__ : Stmt := inClass (top 6) 0
abbrev s_InvalidProgram___init__ : Stmt := inClass (top 3) 0
abbrev s_InvalidResult___init__ : Stmt := inClass (top 4) 0
abbrev O_NameSet : Type := (List Str)
def F_NameSet (K : PySem.W.Frag) (C_NameSet : Addr)  : Fl O_NameSet := ⟨fun H x fs => ∃ a0, fs = [(Str.ofString "members", a0)] ∧ (dTup K dStr).rel H x a0, fun e ⟨a0, h, r0⟩ => ⟨a0, h, (dTup K dStr).mono e r0⟩⟩
def dO_NameSet (K : PySem.W.Frag) (C_NameSet : Addr)  : Rl O_NameSet := dObj C_NameSet (F_NameSet K C_NameSet)
theorem fld_NameSet_members {K : PySem.W.Frag} {C_NameSet : Addr} {B : Hp} {x : O_NameSet} {v : V} (cl : Cls K C_NameSet) (nA : NoAttr K C_NameSet "members") (h : (dO_NameSet K C_NameSet).rel B x v) : ∃ w, (dTup K dStr).rel B x w ∧ ∀ H, Same B H → ∃ a C dx fs, v = .ref a ∧ H a = some (.ins C dx fs) ∧ Cls K C ∧ NoAttr K C "members" ∧ fs.lookup (Str.ofString "members") = some w := by
  obtain ⟨p, dx, fs, rfl, h, a0, rfl, r0⟩ := h
  exact ⟨a0, r0, fun H s => ⟨p, _, dx, _, rfl, s _ _ h, cl, nA, rfl⟩⟩
abbrev O_Program : Type := ((List Str) × (List (Str × (List (Str × Str)))) × (List Str))
def F_Program (K : PySem.W.Frag) (C_Program : Addr)  : Fl O_Program := ⟨fun H x fs => ∃ a0 a1 a2, fs = [(Str.ofString "names", a0), (Str.ofString "bodies", a1), (Str.ofString "places", a2)] ∧ (dTup K dStr).rel H x.1 a0 ∧ (dDict (dTup K (dPair K dStr dStr))).rel H x.2.1 a1 ∧ (dTup K dStr).rel H x.2.2 a2, fun e ⟨a0, a1, a2, h, r0, r1, r2⟩ => ⟨a0, a1, a2, h, (dTup K dStr).mono e r0, (dDict (dTup K (dPair K dStr dStr))).mono e r1, (dTup K dStr).mono e r2⟩⟩
def dO_Program (K : PySem.W.Frag) (C_Program : Addr)  : Rl O_Program := dObj C_Program (F_Program K C_Program)
theorem fld_Program_names {K : PySem.W.Frag} {C_Program : Addr} {B : Hp} {x : O_Program} {v : V} (cl : Cls K C_Program) (nA : NoAttr K C_Program "names") (h : (dO_Program K C_Program).rel B x v) : ∃ w, (dTup K dStr).rel B x.1 w ∧ ∀ H, Same B H → ∃ a C dx fs, v = .ref a ∧ H a = some (.ins C dx fs) ∧ Cls K C ∧ NoAttr K C "names" ∧ fs.lookup (Str.ofString "names") = some w := by
  obtain ⟨p, dx, fs, rfl, h, a0, a1, a2, rfl, r0, r1, r2⟩ := h
  exact ⟨a0, r0, fun H s => ⟨p, _, dx, _, rfl, s _ _ h, cl, nA, rfl⟩⟩
theorem fld_Program_bodies {K : PySem.W.Frag} {C_Program : Addr} {B : Hp} {x : O_Program} {v : V} (cl : Cls K C_Program) (nA : NoAttr K C_Program "bodies") (h : (dO_Program K C_Program).rel B x v) : ∃ w, (dDict (dTup K (dPair K dStr dStr))).rel B x.2.1 w ∧ ∀ H, Same B H → ∃ a C dx fs, v = .ref a ∧ H a = some (.ins C dx fs) ∧ Cls K C ∧ NoAttr K C "bodies" ∧ fs.lookup (Str.ofString "bodies") = some w := by
  obtain ⟨p, dx, fs, rfl, h, a0, a1, a2, rfl, r0, r1, r2⟩ := h
  exact ⟨a1, r1, fun H s => ⟨p, _, dx, _, rfl, s _ _ h, cl, nA, rfl⟩⟩
theorem fld_Program_places {K : PySem.W.Frag} {C_Program : Addr} {B : Hp} {x : O_Program} {v : V} (cl : Cls K C_Program) (nA : NoAttr K C_Program "places") (h : (dO_Program K C_Program).rel B x v) : ∃ w, (dTup K dStr).rel B x.2.2 w ∧ ∀ H, Same B H → ∃ a C dx fs, v = .ref a ∧ H a = some (.ins C dx fs) ∧ Cls K C ∧ NoAttr K C "places" ∧ fs.lookup (Str.ofString "places") = some w := by
  obtain ⟨p, dx, fs, rfl, h, a0, a1, a2, rfl, r0, r1, r2⟩ := h
  exact ⟨a2, r2, fun H s => ⟨p, _, dx, _, rfl, s _ _ h, cl, nA, rfl⟩⟩
abbrev O_Result : Type := (List (List (List PyData)))
def F_Result (K : PySem.W.Frag) (C_Result : Addr)  : Fl O_Result := ⟨fun H x fs => ∃ a0, fs = [(Str.ofString "table", a0)] ∧ (dList (dList (dTup K (dAny K)))).rel H x a0, fun e ⟨a0, h, r0⟩ => ⟨a0, h, (dList (dList (dTup K (dAny K)))).mono e r0⟩⟩
def dO_Result (K : PySem.W.Frag) (C_Result : Addr)  : Rl O_Result := dObj C_Result (F_Result K C_Result)
theorem fld_Result_table {K : PySem.W.Frag} {C_Result : Addr} {B : Hp} {x : O_Result} {v : V} (cl : Cls K C_Result) (nA : NoAttr K C_Result "table") (h : (dO_Result K C_Result).rel B x v) : ∃ w, (dList (dList (dTup K (dAny K)))).rel B x w ∧ ∀ H, Same B H → ∃ a C dx fs, v = .ref a ∧ H a = some (.ins C dx fs) ∧ Cls K C ∧ NoAttr K C "table" ∧ fs.lookup (Str.ofString "table") = some w := by
  obtain ⟨p, dx, fs, rfl, h, a0, rfl, r0⟩ := h
  exact ⟨a0, r0, fun H s => ⟨p, _, dx, _, rfl, s _ _ h, cl, nA, rfl⟩⟩
end Mm
namespace Mm
open PySem L2 Mf
section
variable {P : Program} {w : World} {K : PySem.W.Frag} {mg : Str → Option Value} {base : Heap} {cx : Nat → Addr}
abbrev n_source : List Str := ["_law_script", "_law_great", "_law_seed", "_law_k", "_law_cell"]
theorem sc_source : FnScope n_source ["_law_script"] (defScope s_source) := ⟨rfl, rfl, rfl, by decide +kernel, rfl, by decide +kernel, by decide +kernel⟩
theorem ok_source (A0 : DefAt K mg "_law_source" s_source ["_law_script"]) (b_enumerate : mg "enumerate" = none) (b_int : mg "int" = none) : Does P w K mg base CX0 1 "_law_source" ["_law_script"] (sp_source K) := by
  obtain ⟨f, fd, F, gm, bd⟩ := A0
  refine ⟨f, fd, ?_, gm, F.kp, bd⟩
  refine F.ok sc_source (fun vs H Q E h => ?_) (fun cdv A outer s H vs Q E hr h => ?_)
  · obtain ⟨a, ns, rfl, _⟩ := h
    rfl
  · obtain ⟨a, ns, rfl, hS, hlen, k⟩ := h
    have hu := hu_of hr
    refine ⟨_, (pss_cons (ps_set (i := 1) sc_source.nd rfl (Or.inl rfl) pe_int)
  (pss_cons (ps_set (i := 2) sc_source.nd rfl (Or.inl rfl) pe_int)
  (pss_cons (ps_for PassesOwn.never rfl (k_iE K (by rfl) b_enumerate (pa_cons (pv 0) pa_nil)) (k_gT K (n := 2) (by rfl) (pgs_cons (pg_name (i := 3) sc_source.nd rfl (Or.inl rfl)) (pgs_cons (pg_name (i := 4) sc_source.nd rfl (Or.inl rfl)) pgs_nil)))
  (C8.pss_cut (ps_if (PW.pt (pw_and (pt_cmpR op_eq (pv 1) pe_int (nomark _)) (pw_and1 (pt_cmpR op_ge (pv 4) (pe_op op_pow pe_int pe_int) (nomark _))))) (pss_one (ps_set (i := 1) sc_source.nd rfl (Or.inl rfl) (pv 4))) pss_nil)
  (pss_one (ps_set (i := 2) sc_source.nd rfl (Or.inl rfl) (pe_op op_mod (pe_callTy c_int1 (by rfl) b_int (by decide +kernel) (pa_cons (pe_op op_add (pe_op op_mul (pe_op op_add (pv 2) (pe_op op_mod (pe_callTy c_int1 (by rfl) b_int (by decide +kernel) (pa_cons (pv 4) pa_nil)) pe_int)) pe_int) (pv 3)) pa_nil)) pe_int)))))
  (pss_one (ps_ret (pe_lst (pa_cons (pv 1) (pa_cons (pv 2) (pa_cons pe_int pa_nil))))))))), ?_⟩
    walk_at "rd"
    refine forb (walk_enum (xs := ns.map V.int)) (fun i σ H2 => ∃ (g sd : Int) (v3 v4 : Option V), σ = [some (.ref a), some (.int g), some (.int sd), v3, v4] ∧ Same H H2 ∧ 0 ≤ sd ∧ sd < 2147483647)
      ⟨0, 104729, _, _, rfl, Same.refl _, by decide, by decide⟩ (fun i σ H2 _ ⟨_, _, _, _, _, s2, _⟩ => s2.seq hS) ?_ ?_
    · rintro i x σ H2 H3 hi ⟨g, sd, v3, v4, rfl, s2, h0, h1⟩ ⟨T, y, z, rfl, nT, rfl, e1, e2⟩
      cases e1
      have e2' : (ns.map V.int)[i]? = some z := e2
      rw [List.getElem?_map] at e2'
      cases e3 : ns[i]? with
      | none => rw [e3] at e2'; cases e2'
      | some n =>
        rw [e3] at e2'; cases e2'
        have s3 : Same H (upd H2 T (.tup [.int (i : Nat), .int n])) := fun b o e => by
          rw [upd_ne (ne_of_none (s2 b o e) nT)]; exact s2 b o e
        walk_at "rd"
        refine w_cut (fun σ' H' => ∃ g', σ' = [some (.ref a), some (.int g'), some (.int sd), some (.int i), some (.int n)] ∧ H' = (upd H2 T (.tup [.int (i : Nat), .int n]))) ?_ ?_
        · walk_at "rd"
          refine w_if (fun h => ?_) (fun h => ?_)
          · walk_at "rd"
            refine w_if (fun h => ?_) (fun h => ?_)
            · walk_at "rd"
              exact ⟨_, rfl, rfl⟩
            · walk_at "rd"
              exact ⟨_, rfl, rfl⟩
          · walk_at "rd"
            exact ⟨_, rfl, rfl⟩
        · rintro σ' H' ⟨g', rfl, rfl⟩
          walk_at "rd"
          exact ⟨_, _, _, _, rfl, s3, Int.emod_nonneg _ (by decide), Int.emod_lt_of_pos _ (by decide)⟩
    · rintro σ H2 ⟨g, sd, v3, v4, rfl, s2, h0, h1⟩
      walk_at "rd"
      intro p np
      exact k p _ (s2.trans (Same.new np)) (s2.free np) ⟨g, sd, upd_same, h0, h1⟩
abbrev n_draw : List Str := ["_law_source_here", "_law_many", "_law_value", "_law_stirred"]
theorem sc_draw : FnScope n_draw ["_law_source_here", "_law_many"] (defScope s_draw) := ⟨rfl, rfl, rfl, by decide +kernel, rfl, by decide +kernel, by decide +kernel⟩
theorem ok_draw (A0 : DefAt K mg "_law_draw" s_draw ["_law_source_here", "_law_many"]) (b_int : mg "int" = none) : Does P w K mg base CX0 1 "_law_draw" ["_law_source_here", "_law_many"] sp_drawM := by
  obtain ⟨f, fd, F, gm, bd⟩ := A0
  refine ⟨f, fd, ?_, gm, F.kp, bd⟩
  refine F.ok sc_draw (fun vs H Q E h => ?_) (fun cdv A outer s H vs Q E hr h => ?_)
  · obtain ⟨_, _, _, _, _, _, rfl, _⟩ := h
    rfl
  · obtain ⟨B, x_0, p, o_0, m, r, rfl, sB, ⟨hp, hb, hx⟩, hm, k⟩ := h
    have hu := hu_of hr
    refine ⟨_, (pss_cons (ps_if (pt_cmpR op_gt (pe_ix (k_ixL K) (pv 0) pe_int (fun _ _ => rfl)) pe_int (nomark _)) (pss_cons (ps_set (i := 2) sc_draw.nd rfl (Or.inl rfl) (pe_op op_mod (pe_callTy c_int1 (by rfl) b_int (by decide +kernel) (pa_cons (pe_ix (k_ixL K) (pv 0) pe_int (fun _ _ => rfl)) pa_nil)) (pv 1)))
  (pss_cons (ps_asg (pe_op op_fdivW (pe_ix (k_ixL K) (pv 0) pe_int (fun _ _ => rfl)) (pv 1)) (pg_sub (pv 0) pe_int set_list))
  (pss_one (ps_ret (pv 2))))) pss_nil)
  (pss_cons (ps_asg (pe_op op_add (pe_ix (k_ixL K) (pv 0) pe_int (fun _ _ => rfl)) pe_int) (pg_sub (pv 0) pe_int set_list))
  (pss_cons (ps_set (i := 3) sc_draw.nd rfl (Or.inl rfl) (pe_op op_mod (pe_callTy c_int1 (by rfl) b_int (by decide +kernel) (pa_cons (pe_op op_pow (pe_op op_add (pe_ix (k_ixL K) (pv 0) pe_int (fun _ _ => rfl)) (pe_op op_mul pe_int (pe_ix (k_ixL K) (pv 0) pe_int (fun _ _ => rfl)))) pe_int) pa_nil)) pe_int))
  (pss_one (ps_ret (pe_op op_mod (pe_callTy c_int1 (by rfl) b_int (by decide +kernel) (pa_cons (pe_op op_mod (pe_callTy c_int1 (by rfl) b_int (by decide +kernel) (pa_cons (pe_op op_mul (pe_op op_add (pv 3) (pe_ix (k_ixL K) (pv 0) pe_int (fun _ _ => rfl))) pe_int) pa_nil)) pe_int) pa_nil)) (pv 1))))))), ?_⟩
    cases (show o_0 = .lst [.int x_0.g, .int x_0.s, .int x_0.c] from hx)
    unfold m_draw at hm
    by_cases hok : (0 ≤ x_0.s ∧ x_0.s < 2147483647 ∧ 0 ≤ x_0.c ∧ x_0.c < 1000000000) ∧ 0 < m ∧ m < 2 ^ 1000
    · rw [if_pos hok] at hm
      obtain ⟨⟨h0, h1, h2, h3⟩, hm0, hM⟩ := hok
      have hD : ∀ z : Int, CDivW z m := fun z => wide_div hm0 (b := 1000) (by omega) (by decide) (by decide)
      have hP : CPow (x_0.s + 7919 * (x_0.c + 1)) 5 := ⟨by decide, by decide, by omega⟩
      have S0 := Sit.start1 sB hp hb
      walk_at "rd"
      refine w_if (fun hg => ?_) (fun hg => ?_)
      · rw [if_pos hg] at hm
        cases hm
        walk_at "rd"
        refine w_I (hD _) ?_
        walk_at "rd"
        exact k _ _ _ _ (S0.set (i := 0) rfl) rfl rfl
      · rw [if_neg hg] at hm
        cases hm
        walk_at "rd"
        exact k _ _ _ _ (S0.set (i := 0) rfl) rfl rfl
    · rw [if_neg hok] at hm
      cases hm
end
end Mm
namespace Mm
open PySem L2 Mf
section
variable {P : Program} {w : World} {K : PySem.W.Frag} {mg : Str → Option Value} {base : Heap} {cx : Nat → Addr}
abbrev n_name : List Str := ["_law_source_here", "_law_taken", "_law_size", "_law_name_here", "_law_k", "_law_one", "_law_letter"]
theorem sc_name : FnScope n_name ["_law_source_here", "_law_taken"] (defScope s_name) := ⟨rfl, rfl, rfl, by decide +kernel, rfl, by decide +kernel, by decide +kernel⟩
def m_name (x_0 : Src3) (x_1 : (List Str)) : Option (Str × Src3) :=
  (m_draw (x_0) ((13 : Int))).bind fun r7 =>
  (atI ([(8 : Int), (4 : Int), (5 : Int), (6 : Int), (7 : Int), (1 : Int), (2 : Int), (3 : Int), (1 : Int), (2 : Int), (3 : Int), (1 : Int), (2 : Int)] : (List Int)) r7.1).bind fun x17 =>
  (rngM x17).bind fun x21 =>
  (lcS (fun (a26 : Int) (st40 : Src3) => (m_draw (st40) ((26 : Int))).bind fun r43 =>
  (ixS (Str.ofString "abcdefghijklmnopqrstuvwxyz") r43.1).bind fun x53 =>
  some ((some x53), r43.2)) x21 r7.2).bind fun r55 =>
  (joinM (Str.ofString "") r55.1).bind fun x75 =>
  (if ((decide ((3 : Int) < x17)) && (decide (x17 < (8 : Int)))) = true then (cutM x75 (some (1 : Int)) none).bind fun x79 =>
  (addS (Str.ofString "q") x79).bind fun x80 =>
  (m_draw (r55.2) ((5 : Int))).bind fun r87 =>
  (atI ([(Str.ofString "read"), (Str.ofString "call"), (Str.ofString "say"), (Str.ofString "try"), x80] : (List Str)) r87.1).bind fun x97 =>
  some (x97, r87.2) else some (x75, r55.2)).bind fun j76 =>
  if (!decide (j76.1 ∈ x_1)) = true then some (j76.1, j76.2) else (charsM (Str.ofString "abcdefghijklmnopq")).bind fun z112 =>
  (lcM (fun (a116 : Str) => (addS (Str.ofString "z") a116).bind fun x132 =>
  some (some x132)) z112).bind fun ys134 =>
  (atI (ys134.filterMap (fun (a150 : Str) => if (!decide (a150 ∈ x_1)) = true then (some a150) else none)) (0 : Int)).bind fun x180 =>
  some (x180, j76.2)
def sp_name (K : PySem.W.Frag) : Sp := fun vs H Q E => ∃ (B : Hp) (x_0 : Src3) (p_0 : Addr) (o_0 : HO) (x_1 : (List Str)) (v_1 : V) (r : (Str × Src3)), vs = [.ref p_0, v_1] ∧ Same B H ∧ (H p_0 = some o_0 ∧ B p_0 = none ∧ cSrc.rel B x_0 o_0) ∧ (dList dStr).rel B x_1 v_1 ∧ m_name x_0 x_1 = some r ∧ ∀ (v : V) (B' H' : Hp) (op_0 : HO), Sit ⟨B, H, [p_0]⟩ B' H' [(p_0, op_0)] → dStr.rel B' r.1 v → cSrc.rel B' r.2 op_0 → Q v H'
theorem use_name {K : PySem.W.Frag} {Φ : Fr} {B H : Hp} {cs : List (Addr × HO)} {Q : VK} {E : XK} {r : (Str × Src3)} {x_0 : Src3} {p_0 : Addr} {o_0 : HO} {i1 : Nat} {x_1 : (List Str)} {v_1 : V} (Z : Sit Φ B H cs) (hc_0 : cs[i1]? = some (p_0, o_0)) (h_0 : cSrc.rel B x_0 o_0) (h_1 : (dList dStr).rel B x_1 v_1) (hm : m_name x_0 x_1 = some r) (k : ∀ (v : V) (B' H' : Hp) (op_0 : HO), Sit Φ B' H' (cs.set i1 (p_0, op_0)) → Same B B' → dStr.rel B' r.1 v → cSrc.rel B' r.2 op_0 → Q v H') : sp_name K ([.ref p_0, v_1] ++ []) H Q E := by
  exact ⟨B, x_0, p_0, o_0, x_1, v_1, r, rfl, Z.sub, ⟨Z.at' hc_0, Z.atB hc_0, h_0⟩, h_1, hm, fun v B' H' op_0 Z' h qp_0 => k v B' H' op_0 (Z.call1 hc_0 Z') Z'.grow h qp_0⟩
theorem ok_name (A0 : DefAt K mg "_law_name" s_name ["_law_source_here", "_law_taken"]) (b_range : mg "range" = none) (D_draw : Does P w K mg base CX0 1 "_law_draw" ["_law_source_here", "_law_many"] sp_drawM) : Does P w K mg base CX0 2 "_law_name" ["_law_source_here", "_law_taken"] (sp_name K ) := by
  obtain ⟨f, fd, F, gm, bd⟩ := A0
  obtain ⟨f_draw, fd_draw, G_draw, g_draw, kp_draw, bd_draw⟩ := D_draw
  refine ⟨f, fd, ?_, gm, F.kp, bd⟩
  refine F.ok sc_name (fun vs H Q E h => ?_) (fun cdv A outer s H vs Q E hr h => ?_)
  · obtain ⟨_, _, _, _, _, _, _, rfl, _⟩ := h
    rfl
  · obtain ⟨B, x_0, p_0, o_0, x_1, v_1, r, rfl, sB, ⟨hp_0, hb_0, hx_0⟩, hx_1, hm, k⟩ := h
    have hu := hu_of hr
    refine ⟨_, (pss_cons (ps_set (i := 2) sc_name.nd rfl (Or.inl rfl) (pe_ix (k_ixL K) (pe_lst (pa_cons pe_int (pa_cons pe_int (pa_cons pe_int (pa_cons pe_int (pa_cons pe_int (pa_cons pe_int (pa_cons pe_int (pa_cons pe_int (pa_cons pe_int (pa_cons pe_int (pa_cons pe_int (pa_cons pe_int (pa_cons pe_int pa_nil)))))))))))))) (pe_call G_draw (hr.mono (by decide)) rfl g_draw kp_draw bd_draw .nil pass0 (pa_cons (pv 0) (pa_cons pe_int pa_nil))) (fun _ _ => rfl)))
  (pss_cons (ps_set (i := 3) sc_name.nd rfl (Or.inl rfl) (k_join K pe_str (pe_lc (own := [("_law_k", 4)]) (tt := tYes) rfl sc_name.nd (pi_range1 (by rfl) b_range (pa_cons (pv 2) pa_nil)) (blkOk_by (own := [("_law_k", 4)]) (N := n_name) (sc := defScope s_name) (by decide +kernel)) (fun _ _ _ _ _ => (pg_name (i := 4) sc_name.nd rfl (Or.inl rfl))) (fun _ _ _ _ _ => pts_nil) (fun _ _ _ _ _ => (pe_ix ix_str pe_str (pe_call G_draw (hr.mono (by decide)) rfl g_draw kp_draw bd_draw .nil pass0 (pa_cons (pv 0) (pa_cons pe_int pa_nil))) (fun _ _ => rfl))))))
  (C8.pss_cut (ps_if (pt_chain op_lt op_lt pe_int (pv 2) pe_int) (pss_one (ps_set (i := 3) sc_name.nd rfl (Or.inl rfl) (pe_ix (k_ixL K) (pe_lst (pa_cons pe_str (pa_cons pe_str (pa_cons pe_str (pa_cons pe_str (pa_cons (pe_op o_addS pe_str (pe_slice sl_str (pv 3) (po_some pe_int) po_none)) pa_nil)))))) (pe_call G_draw (hr.mono (by decide)) rfl g_draw kp_draw bd_draw .nil pass0 (pa_cons (pv 0) (pa_cons pe_int pa_nil))) (fun _ _ => rfl)))) pss_nil)
  (pss_cons (ps_if (pt_cmpR (k_ni K) (pv 3) (pv 1) (by rfl)) (pss_one (ps_ret (pv 3))) pss_nil)
  (pss_one (ps_ret (pe_ix (k_ixL K) (pe_lc (own := [("_law_one", 5)]) rfl sc_name.nd (k_iL K (pe_lc (own := [("_law_letter", 6)]) (tt := tYes) rfl sc_name.nd (pi_str pe_str) (blkOk_by (own := [("_law_letter", 6)]) (N := n_name) (sc := defScope s_name) (by decide +kernel)) (fun _ _ _ _ _ => (pg_name (i := 6) sc_name.nd rfl (Or.inl rfl))) (fun _ _ _ _ _ => pts_nil) (fun _ _ _ _ _ => (pe_op o_addS pe_str (pv 6))))) (blkOk_by (own := [("_law_one", 5)]) (N := n_name) (sc := defScope s_name) (by decide +kernel)) (fun _ _ _ _ _ => (pg_name (i := 5) sc_name.nd rfl (Or.inl rfl))) (fun _ _ _ _ _ => pts_one (pt_cmpR (k_ni K) (pv 5) (pv 1) (by rfl))) (fun _ _ _ _ _ => (pv 5))) pe_int (fun _ _ => rfl)))))))), ?_⟩
    obtain ⟨B0, hB0⟩ : ∃ B0 : Hp, B0 = B := ⟨_, rfl⟩
    subst hB0
    have S0 := Sit.start1 sB hp_0 hb_0
    unfold m_name at hm
    refine w_sig (σ' := [(some (.ref p_0)), (some v_1), none, none, none, none, none]) rfl ?_
    refine w_seq ?_
    refine w_asg ?_
    refine w_op ?_
    refine x_lst ?_
    refine w_evA (EvA.cons Ev.c (EvA.cons Ev.c (EvA.cons Ev.c (EvA.cons Ev.c (EvA.cons Ev.c (EvA.cons Ev.c (EvA.cons Ev.c (EvA.cons Ev.c (EvA.cons Ev.c (EvA.cons Ev.c (EvA.cons Ev.c (EvA.cons Ev.c (EvA.cons Ev.c EvA.nil))))))))))))) ?_
    refine mkL (R := dInt) (xs := [(8 : Int), (4 : Int), (5 : Int), (6 : Int), (7 : Int), (1 : Int), (2 : Int), (3 : Int), (1 : Int), (2 : Int), (3 : Int), (1 : Int), (2 : Int)]) S0 (.cons (show dInt.rel _ (8 : Int) (V.int 8) from rfl) (.cons (show dInt.rel _ (4 : Int) (V.int 4) from rfl) (.cons (show dInt.rel _ (5 : Int) (V.int 5) from rfl) (.cons (show dInt.rel _ (6 : Int) (V.int 6) from rfl) (.cons (show dInt.rel _ (7 : Int) (V.int 7) from rfl) (.cons (show dInt.rel _ (1 : Int) (V.int 1) from rfl) (.cons (show dInt.rel _ (2 : Int) (V.int 2) from rfl) (.cons (show dInt.rel _ (3 : Int) (V.int 3) from rfl) (.cons (show dInt.rel _ (1 : Int) (V.int 1) from rfl) (.cons (show dInt.rel _ (2 : Int) (V.int 2) from rfl) (.cons (show dInt.rel _ (3 : Int) (V.int 3) from rfl) (.cons (show dInt.rel _ (1 : Int) (V.int 1) from rfl) (.cons (show dInt.rel _ (2 : Int) (V.int 2) from rfl) .nil))))))))))))) (by show 13 ≤ BIG; decide) fun v1 B6 H2 S3 s4 h5 => ?_
    refine w_call ?_
    refine w_evA (EvA.cons (Ev.var rfl) (EvA.cons Ev.c EvA.nil)) ?_
    obtain ⟨r7, h8, hm⟩ := bs hm
    refine use_draw S3 (i1 := 0) rfl (Cl.mono _ s4 hx_0) (show dInt.rel _ (13 : Int) (V.int 13) from rfl) h8 fun v9 B13 H10 o14 (S11 : Sit _ B13 H10 [(p_0, o14)]) s12 h16 h15 => ?_
    cases h16
    obtain ⟨x17, hx17, hm⟩ := bs hm
    obtain ⟨_, rfl, r18⟩ := ix_L (K := K) (Rl.mono _ s12 h5) hx17
    refine w_rv (r18 _ S11.sub) ?_
    refine w_gname ?_
    refine w_nx (σ' := [(some (.ref p_0)), (some v_1), (some (V.int x17)), none, none, none, none]) rfl ?_
    refine w_seq ?_
    refine w_asg ?_
    refine w_m1 ?_
    refine w_ev Ev.c ?_
    refine w_exS ?_
    refine w_lc ?_
    refine x_iR1 ?_
    refine w_evA (EvA.cons (Ev.var rfl) EvA.nil) ?_
    obtain ⟨x21, h22, hm⟩ := bs hm
    refine w_itR1 (B := B13) h22 fun J19 it20 hl23 => ?_
    obtain ⟨r55, h56, hm⟩ := bs hm
    refine lcRS (P := dStr) it20 S11 hl23 (fun (st40 : Src3) b cs' => ∃ o41, cs' = [(p_0, o41)] ∧ cSrc.rel b st40 o41) ⟨_, rfl, h15⟩ (h56 : _ = some (r55.1, r55.2)) (fun _ _ _ _ _ Z e _ => e.tr Z.sub) (fun D24 ac25 a26 st40 o27 x28 B31 B32 H33 cs58 ma39 S34 s29 s30 hI57 h35 ho36 RR37 kk38 => ?_) ?_
    · obtain ⟨o41, rfl, h42⟩ := hI57
      refine w_turn ?_
      cases h35
      refine w_gname ?_
      refine w_wipe rfl ?_
      refine w_yes ?_
      refine iteT ?_
      refine w_op ?_
      refine w_ev Ev.c ?_
      refine w_call ?_
      refine w_evA (EvA.cons (Ev.var rfl) (EvA.cons Ev.c EvA.nil)) ?_
      obtain ⟨r43, h44, ho36⟩ := bs ho36
      refine use_draw S34 (i1 := 1) rfl (Cl.mono _ s30 h42) (show dInt.rel _ (26 : Int) (V.int 26) from rfl) h44 fun v45 B49 H46 o50 (S47 : Sit _ B49 H46 [(D24, (.lst ac25)), (p_0, o50)]) s48 h52 h51 => ?_
      cases h52
      obtain ⟨x53, hx53, ho36⟩ := bs ho36
      have hx53l := ixS_len hx53
      refine w_rv (ix_S hx53) ?_
      obtain rfl := Option.some.inj ho36
      exact kk38 _ _ _ _ S47 s48 ⟨o50, rfl, h51⟩ ⟨_, rfl, (show dStr.rel _ x53 (V.str x53) from rfl)⟩
    · intro p59 B66 H60 o61 cs70 S62 s63 hI69 n64 h65
      obtain ⟨o67, rfl, h68⟩ := hI69
      obtain ⟨B73, S71, s72, h74⟩ : ∃ B', Sit _ B' H60 [(p_0, o67)] ∧ Same _ B' ∧ (dList dStr).rel B' r55.1 (.ref p59) := ⟨_, S62.frz (i := 0) rfl n64, S62.frzS (i := 0) rfl, frzL h65 (S62.atB (i := 0) rfl)⟩
      obtain ⟨x75, hx75, hm⟩ := bs hm
      refine q_join (sqL (K := K) h74 S71.sub) hx75 ?_
      refine w_gname ?_
      refine w_nx (σ' := [(some (.ref p_0)), (some v_1), (some (V.int x17)), (some (V.str x75)), none, none, none]) rfl ?_
      obtain ⟨j76, hj77, hm⟩ := bs hm
      refine w_cut (MidD (fun σ' H' => ∃ (B' : Hp) (e103 : V) (o105 : HO), σ' = [(some (.ref p_0)), (some v_1), (some (V.int x17)), (some e103), none, none, none] ∧ Sit (Fr.mk B0 H [p_0]) B' H' [(p_0, o105)] ∧ Same B73 B' ∧ dStr.rel B' j76.1 e103 ∧ cSrc.rel B' j76.2 o105 ∧ True)) ?_ ?_
      · refine w_ifS ?_
        refine w_evT (EvT.test (Ev.chain Ev.c (Ev.var rfl) Ev.c rv_I0 rv_I0)) ?_
        refine w_ifb (fun h78 => ?_) (fun h78 => ?_)
        · rw [ifT h78] at hj77
          refine w_asg ?_
          refine w_op ?_
          refine x_lst ?_
          refine w_cons ?_
          refine w_ev Ev.c ?_
          refine w_cons ?_
          refine w_ev Ev.c ?_
          refine w_cons ?_
          refine w_ev Ev.c ?_
          refine w_cons ?_
          refine w_ev Ev.c ?_
          refine w_cons ?_
          refine w_op ?_
          refine w_ev Ev.c ?_
          obtain ⟨x79, hx79, hj77⟩ := bs hj77
          refine w_sl ?_
          refine w_ev (Ev.var rfl) ?_
          refine w_part ?_
          refine w_ev Ev.c ?_
          refine w_exI ?_
          refine w_noP ?_
          refine q_cut hx79 ?_
          obtain ⟨x80, hx80, hj77⟩ := bs hj77
          refine w_rv (rv_addS hx80) ?_
          refine w_nil ?_
          refine mkL (R := dStr) (xs := [(Str.ofString "read"), (Str.ofString "call"), (Str.ofString "say"), (Str.ofString "try"), x80]) S71 (.cons (show dStr.rel _ (Str.ofString "read") (V.str (Str.ofString "read")) from rfl) (.cons (show dStr.rel _ (Str.ofString "call") (V.str (Str.ofString "call")) from rfl) (.cons (show dStr.rel _ (Str.ofString "say") (V.str (Str.ofString "say")) from rfl) (.cons (show dStr.rel _ (Str.ofString "try") (V.str (Str.ofString "try")) from rfl) (.cons (show dStr.rel _ x80 (V.str x80) from rfl) .nil))))) (by show 5 ≤ BIG; decide) fun v81 B86 H82 S83 s84 h85 => ?_
          refine w_call ?_
          refine w_evA (EvA.cons (Ev.var rfl) (EvA.cons Ev.c EvA.nil)) ?_
          obtain ⟨r87, h88, hj77⟩ := bs hj77
          refine use_draw S83 (i1 := 0) rfl (Cl.mono _ (s72.tr s84) h68) (show dInt.rel _ (5 : Int) (V.int 5) from rfl) h88 fun v89 B93 H90 o94 (S91 : Sit _ B93 H90 [(p_0, o94)]) s92 h96 h95 => ?_
          cases h96
          obtain ⟨x97, hx97, hj77⟩ := bs hj77
          obtain ⟨_, rfl, r98⟩ := ix_L (K := K) (Rl.mono _ s92 h85) hx97
          refine w_rv (r98 _ S91.sub) ?_
          refine w_gname ?_
          refine w_nx (σ' := [(some (.ref p_0)), (some v_1), (some (V.int x17)), (some (V.str x97)), none, none, none]) rfl ?_
          obtain rfl := Option.some.inj hj77
          exact ⟨_, _, _, rfl, S91, (s84.tr s92), (show dStr.rel _ x97 (V.str x97) from rfl), h95, trivial⟩
        · rw [ifF h78] at hj77
          refine w_next ?_
          obtain rfl := Option.some.inj hj77
          exact ⟨_, _, _, rfl, S71, (Same.rf _), (show dStr.rel _ x75 (V.str x75) from rfl), (Cl.mono _ s72 h68), trivial⟩
      · rintro _ H99 ⟨B102, e103, o105, rfl, S100, s101, h104, h106, -⟩
        cases h104
        refine w_seq ?_
        refine w_ifS ?_
        refine w_evT (EvT.test (Ev.op (Ev.var rfl) (Ev.var rfl) (rni_s (sqL (K := K) (Rl.mono _ (s4.tr (s12.tr (s63.tr (s72.tr s101)))) hx_1) S100.sub)))) ?_
        refine w_ifb (fun h107 => ?_) (fun h107 => ?_)
        · rw [ifT h107] at hm
          refine w_ret ?_
          refine w_ev (Ev.var rfl) ?_
          obtain rfl := Option.some.inj hm
          exact k _ _ _ _ S100 (show dStr.rel _ j76.1 (V.str j76.1) from rfl) h106
        · rw [ifF h107] at hm
          refine w_next ?_
          refine w_ret ?_
          refine w_op ?_
          refine w_lc ?_
          refine x_iL ?_
          refine w_lc ?_
          refine x_iS ?_
          refine w_ev Ev.c ?_
          obtain ⟨z112, h113, hm⟩ := bs hm
          have h113l := charsM_le h113
          refine w_itSM (B := B102) h113 fun J110 it111 => ?_
          obtain ⟨ys134, h135, hm⟩ := bs hm
          refine lcR (P := dStr) it111 S100 h113l h135 (fun _ _ _ Z e _ => e.tr Z.sub) (fun D114 ac115 a116 o117 x118 B121 B122 H123 ma129 S124 s119 s120 h125 ho126 RR127 kk128 => ?_) ?_
          · refine w_turn ?_
            obtain ⟨rfl, h131⟩ := h125
            refine w_gname ?_
            refine w_wipe rfl ?_
            refine w_yes ?_
            refine iteT ?_
            obtain ⟨x132, hx132, ho126⟩ := bs ho126
            refine w_ev (Ev.op Ev.c (Ev.var rfl) (rv_addS hx132)) ?_
            obtain rfl := Option.some.inj ho126
            exact kk128 _ _ _ S124 (Same.rf _) ⟨_, rfl, (show dStr.rel _ x132 (V.str x132) from rfl)⟩
          · intro p136 B143 H137 o138 S139 s140 n141 h142
            obtain ⟨B146, S144, s145, h147⟩ : ∃ B', Sit _ B' H137 [(p_0, o105)] ∧ Same _ B' ∧ (dList dStr).rel B' ys134 (.ref p136) := ⟨_, S139.frz (i := 0) rfl n141, S139.frzS (i := 0) rfl, frzL h142 (S139.atB (i := 0) rfl)⟩
            refine w_itL h147 S144.sub fun J108 it109 => ?_
            refine lcR (P := dStr) it109 S144 (dList.le h147) (lcM_total (fun (a150 : Str) => if (!decide (a150 ∈ x_1)) = true then (some a150) else none) ys134) (fun _ _ _ Z e _ => e.tr Z.sub) (fun D148 ac149 a150 o151 x152 B155 B156 H157 ma163 S158 s153 s154 h159 ho160 RR161 kk162 => ?_) ?_
            · refine w_turn ?_
              cases h159
              refine w_gname ?_
              refine w_wipe rfl ?_
              refine w_evT (EvT.test (Ev.op (Ev.var rfl) (Ev.var rfl) (rni_s (sqL (K := K) (Rl.mono _ (s4.tr (s12.tr (s63.tr (s72.tr (s101.tr (s140.tr (s145.tr (s153.tr s154)))))))) hx_1) S158.sub)))) ?_
              refine w_ifb (fun h166 => ?_) (fun h166 => ?_)
              · rw [ifT h166] at ho160
                refine w_ev (Ev.var rfl) ?_
                obtain rfl := Option.some.inj ho160
                exact kk162 _ _ _ S158 (Same.rf _) ⟨_, rfl, (show dStr.rel _ a150 (V.str a150) from rfl)⟩
              · rw [ifF h166] at ho160
                obtain rfl := Option.some.inj ho160
                exact kk162 _ _ _ S158 (Same.rf _) rfl
            · intro p168 B175 H169 o170 S171 s172 n173 h174
              obtain ⟨B178, S176, s177, h179⟩ : ∃ B', Sit _ B' H169 [(p_0, o105)] ∧ Same _ B' ∧ (dList dStr).rel B' (ys134.filterMap (fun (a150 : Str) => if (!decide (a150 ∈ x_1)) = true then (some a150) else none)) (.ref p168) := ⟨_, S171.frz (i := 0) rfl n173, S171.frzS (i := 0) rfl, frzL h174 (S171.atB (i := 0) rfl)⟩
              refine w_ev Ev.c ?_
              obtain ⟨x180, hx180, hm⟩ := bs hm
              obtain ⟨_, rfl, r181⟩ := ix_L (K := K) h179 hx180
              refine w_rv (r181 _ S176.sub) ?_
              obtain rfl := Option.some.inj hm
              exact k _ _ _ _ S176 (show dStr.rel _ x180 (V.str x180) from rfl) (Cl.mono _ (s140.tr (s145.tr (s172.tr s177))) h106)
abbrev n_names : List Str := ["_law_source_here", "_law_many", "_law_names_here", "_law_k"]
theorem sc_names : FnScope n_names ["_law_source_here", "_law_many"] (defScope s_names) := ⟨rfl, rfl, rfl, by decide +kernel, rfl, by decide +kernel, by decide +kernel⟩
def m_names (x_0 : Src3) (x_1 : Int) : Option ((List Str) × Src3) :=
  (rngM x_1).bind fun x9 =>
  (forL (fun (a18 : Int) (st19 : ((List Str) × Src3)) => (m_name (st19.2) (st19.1)).bind fun r50 =>
  (pushM st19.1 r50.1).bind fun x60 =>
  some (x60, r50.2)) x9 (([] : (List Str)), x_0)).bind fun st72 =>
  some (st72.1, st72.2)
def sp_names (K : PySem.W.Frag) : Sp := fun vs H Q E => ∃ (B : Hp) (x_0 : Src3) (p_0 : Addr) (o_0 : HO) (x_1 : Int) (r : ((List Str) × Src3)), vs = [.ref p_0, (V.int x_1)] ∧ Same B H ∧ (H p_0 = some o_0 ∧ B p_0 = none ∧ cSrc.rel B x_0 o_0) ∧ m_names x_0 x_1 = some r ∧ ∀ (v : V) (B' H' : Hp) (op_0 : HO), Sit ⟨B, H, [p_0]⟩ B' H' [(p_0, op_0)] → (dList dStr).rel B' r.1 v → cSrc.rel B' r.2 op_0 → Q v H'
theorem use_names {K : PySem.W.Frag} {Φ : Fr} {B H : Hp} {cs : List (Addr × HO)} {Q : VK} {E : XK} {r : ((List Str) × Src3)} {x_0 : Src3} {p_0 : Addr} {o_0 : HO} {i1 : Nat} {x_1 : Int} {v_1 : V} (Z : Sit Φ B H cs) (hc_0 : cs[i1]? = some (p_0, o_0)) (h_0 : cSrc.rel B x_0 o_0) (h_1 : dInt.rel B x_1 v_1) (hm : m_names x_0 x_1 = some r) (k : ∀ (v : V) (B' H' : Hp) (op_0 : HO), Sit Φ B' H' (cs.set i1 (p_0, op_0)) → Same B B' → (dList dStr).rel B' r.1 v → cSrc.rel B' r.2 op_0 → Q v H') : sp_names K ([.ref p_0, v_1] ++ []) H Q E := by
  cases h_1
  exact ⟨B, x_0, p_0, o_0, x_1, r, rfl, Z.sub, ⟨Z.at' hc_0, Z.atB hc_0, h_0⟩, hm, fun v B' H' op_0 Z' h qp_0 => k v B' H' op_0 (Z.call1 hc_0 Z') Z'.grow h qp_0⟩
theorem ok_names (A0 : DefAt K mg "_law_names" s_names ["_law_source_here", "_law_many"]) (b_list : mg "list" = none) (b_range : mg "range" = none) (D_name : Does P w K mg base CX0 2 "_law_name" ["_law_source_here", "_law_taken"] (sp_name K )) : Does P w K mg base CX0 3 "_law_names" ["_law_source_here", "_law_many"] (sp_names K ) := by
  obtain ⟨f, fd, F, gm, bd⟩ := A0
  obtain ⟨f_name, fd_name, G_name, g_name, kp_name, bd_name⟩ := D_name
  refine ⟨f, fd, ?_, gm, F.kp, bd⟩
  refine F.ok sc_names (fun vs H Q E h => ?_) (fun cdv A outer s H vs Q E hr h => ?_)
  · obtain ⟨_, _, _, _, _, _, rfl, _⟩ := h
    rfl
  · obtain ⟨B, x_0, p_0, o_0, x_1, r, rfl, sB, ⟨hp_0, hb_0, hx_0⟩, hm, k⟩ := h
    have hu := hu_of hr
    refine ⟨_, (pss_cons (ps_set (i := 2) sc_names.nd rfl (Or.inl rfl) (pe_lst pa_nil))
  (pss_cons (ps_for PassesOwn.never rfl (pi_range1 (by rfl) b_range (pa_cons (pv 1) pa_nil)) (pg_name (i := 3) sc_names.nd rfl (Or.inl rfl))
  (pss_one (ps_expr (k_bm K PySem.F.plainAttrs_list PySem.F.slot_list_append PySem.F.type_list_append mt_append (pv 2) (pa_cons (pe_call G_name (hr.mono (by decide)) rfl g_name kp_name bd_name .nil pass0 (pa_cons (pv 0) (pa_cons (pe_callTy (k_list K) (by rfl) b_list (by decide +kernel) (pa_cons (pv 2) pa_nil)) pa_nil))) pa_nil)))))
  (pss_one (ps_ret (pv 2))))), ?_⟩
    obtain ⟨B0, hB0⟩ : ∃ B0 : Hp, B0 = B := ⟨_, rfl⟩
    subst hB0
    have S0 := Sit.start1 sB hp_0 hb_0
    unfold m_names at hm
    refine w_sig (σ' := [(some (.ref p_0)), (some (V.int x_1)), none, none]) rfl ?_
    refine w_seq ?_
    refine w_asg ?_
    refine x_lst ?_
    refine w_nil ?_
    refine mkO (R := dStr) (xs := []) S0 .nil (by show 0 ≤ BIG; decide) fun p1 o2 H3 S4 n5 h6 => ?_
    refine w_gname ?_
    refine w_nx (σ' := [(some (.ref p_0)), (some (V.int x_1)), (some (.ref p1)), none]) rfl ?_
    refine w_seq ?_
    refine w_for ?_
    refine x_iR1 ?_
    refine w_evA (EvA.cons (Ev.var rfl) EvA.nil) ?_
    obtain ⟨x9, h10, hm⟩ := bs hm
    refine w_itR1 (B := B0) h10 fun J7 it8 hl11 => ?_
    obtain ⟨st72, hl82, hm⟩ := bs hm
    refine forS (s0 := (([] : (List Str)), x_0)) it8 S4 (fun (st12 : ((List Str) × Src3)) b σ' cs' => ∃ (e13 : Option V) (o14 : HO) (o16 : HO), σ' = [(some (.ref p_0)), (some (V.int x_1)), (some (.ref p1)), e13] ∧ cs' = [(p1, o14), (p_0, o16)] ∧ (cList dStr).rel b st12.1 o14 ∧ cSrc.rel b st12.2 o16 ∧ True) ⟨_, _, _, rfl, rfl, h6, hx_0, trivial⟩ hl82 (fun _ _ _ _ _ Z e _ => e.tr Z.sub) (fun a18 st19 o20 x21 B31 B37 H22 _ cs23 ma24 S25 s26 s27 hI28 h29 hf30 => ?_) ?_
    · obtain ⟨e32, o33, o35, rfl, rfl, h34, h36, -⟩ := hI28
      cases h29
      refine w_gname ?_
      refine w_nx (σ' := [(some (.ref p_0)), (some (V.int x_1)), (some (.ref p1)), (some (V.int a18))]) rfl ?_
      refine w_drop ?_
      refine w_bm ?_
      refine w_ev (Ev.var rfl) ?_
      refine w_tyC (Cl.mono _ s27 h34) (S25.at' (i := 0) rfl) ?_
      refine w_cons ?_
      refine w_call ?_
      refine w_cons ?_
      refine w_ev (Ev.var rfl) ?_
      refine w_cons ?_
      refine w_cb ?_
      refine w_evA (EvA.cons (Ev.var rfl) EvA.nil) ?_
      refine q_list S25 (sqC (K := K) (Cl.mono _ s27 h34) (S25.at' (i := 0) rfl)) fun v44 B49 H45 S46 s47 h48 => ?_
      refine w_nil ?_
      obtain ⟨r50, h51, hf30⟩ := bs hf30
      refine use_name S46 (i1 := 1) rfl (Cl.mono _ (s27.tr s47) h36) h48 h51 fun v52 B56 H53 o57 (S54 : Sit _ B56 H53 [(p1, o33), (p_0, o57)]) s55 h59 h58 => ?_
      cases h59
      refine w_nil ?_
      obtain ⟨x60, h61, hf30⟩ := bs hf30
      refine q_append (k := 0) S54 rfl (Cl.mono _ (s27.tr (s47.tr s55)) h34) (show dStr.rel _ r50.1 (V.str r50.1) from rfl) h61 fun o62 H63 (S64 : Sit _ B56 H63 [(p1, o62), (p_0, o57)]) h65 => ?_
      obtain rfl := Option.some.inj hf30
      exact ⟨_, _, S64, (s26.tr (s27.tr (s47.tr s55))), _, _, _, rfl, rfl, h65, h58, trivial⟩
    · intro B71 H66 _ cs67 S68 s69 hI70
      obtain ⟨e73, o74, o76, rfl, rfl, h75, h77, -⟩ := hI70
      obtain ⟨B80, S78, s79, h81⟩ : ∃ B', Sit _ B' H66 [(p_0, o76)] ∧ Same _ B' ∧ (dList dStr).rel B' st72.1 (.ref p1) := ⟨_, S68.frz (i := 0) rfl n5, S68.frzS (i := 0) rfl, frzL h75 (S68.atB (i := 0) rfl)⟩
      refine w_ret ?_
      refine w_ev (Ev.var rfl) ?_
      obtain rfl := Option.some.inj hm
      exact k _ _ _ _ S78 h81 (Cl.mono _ s79 h77)
end
end Mm
namespace Mm
open PySem L2 Mf
theorem name_wp {s : Src3} {n : Int} {xs : List Str} (ok : s.ok n) (hn : n + 10 < 1000000000) (hl : xs.length ≤ 16) : Wp (m_name s xs) (fun r => IsName r.1 ∧ r.1 ∉ xs ∧ r.2.ok (n + 10)) := by
  unfold m_name
  refine (wp_draw ok (by omega) (by decide) (by decide)).bind fun r hr => ?_
  obtain ⟨r0, r1, ok1⟩ := hr
  refine (wp_atM (P := fun x => 1 ≤ x ∧ x ≤ 8) r0 (by exact r1) (by decide)).bind fun z hz => ?_
  refine Wp.go (rngM_eq (by omega) (by omega)) ?_
  refine Wp.bind (P := fun (t : List Str × Src3) => ∃ cs : List Nat, t.1 = cs.map sign ∧ cs.length = z.toNat ∧ (∀ c ∈ cs, 97 ≤ c ∧ c ≤ 122) ∧ t.2.ok (n + 9)) ?_ fun t ht => ?_
  · refine (wp_lcS (fun i ys s' => ∃ cs : List Nat, ys = cs.map sign ∧ cs.length = i ∧ (∀ c ∈ cs, 97 ≤ c ∧ c ≤ 122) ∧ s'.ok (n + 1 + i)) ⟨[], rfl, rfl, by simp, by simpa using ok1⟩ ?_).mono ?_
    · rintro i a ys s' ha ⟨cs, rfl, hc, hcs, ok2⟩
      have hi : i < z.toNat := by
        have := (List.getElem?_eq_some_iff.mp ha).1
        simpa using this
      refine (wp_draw ok2 (by omega) (by decide) (by decide)).bind fun u hu => ?_
      obtain ⟨u0, u1, ok3⟩ := hu
      obtain ⟨c, hc', hc2⟩ := letters_at u0 u1
      refine Wp.go (a := sign c) (by unfold ixS; rw [if_pos (by rw [letters_len]; decide), hc']; rfl) ?_
      exact ⟨_, rfl, cs ++ [c], by simp, by simp [hc], fun d hd => by
        rcases List.mem_append.mp hd with h | h
        · exact hcs d h
        · rw [List.mem_singleton.mp h]; exact hc2, ok3.le (by push_cast; omega)⟩
    · rintro ⟨ys, s'⟩ ⟨cs, h1, h2, h3, h4⟩
      refine ⟨cs, h1, by rw [h2]; simp, h3, h4.le ?_⟩
      have : (List.map (fun k => ((k : Nat) : Int)) (List.range z.toNat)).length = z.toNat := by simp
      rw [this]; omega
  obtain ⟨ys, s2⟩ := t
  obtain ⟨cs, rfl, hc, hcs, ok2⟩ := ht
  refine Wp.go (a := (⟨cs.toArray⟩ : Str)) (by unfold joinM; rw [if_pos (signs_size cs (by omega)), join_signs]) ?_
  have hx : IsName ⟨cs.toArray⟩ := ⟨by rw [len_list]; simp; omega, by rw [len_list]; simp; omega, by simpa using hcs⟩
  have hxl : (⟨cs.toArray⟩ : Str).length = z.toNat := by rw [len_list]; simp; omega
  generalize (⟨cs.toArray⟩ : Str) = x at hx hxl
  have hx8 := hx.2.1
  refine Wp.bind (P := fun (t : Str × Src3) => IsName t.1 ∧ t.2.ok (n + 10)) (Wp.ite (fun h => ?_) (fun h => ⟨_, rfl, hx, ok2.le (by omega)⟩)) fun t ht => ?_
  · rw [Bool.and_eq_true, decide_eq_true_iff, decide_eq_true_iff] at h
    refine Wp.go (cutM_eq (by omega)) ?_
    have hxc := cutS_length x (some 1) none
    refine Wp.go (addS_eq (by rw [show (Str.ofString "q").length = 1 from by decide +kernel]; omega)) ?_
    refine (wp_draw ok2 (by omega) (by decide) (by decide)).bind fun u hu => ?_
    obtain ⟨u0, u1, ok3⟩ := hu
    refine (wp_atM (P := IsName) u0 (by exact u1) ?_).bind fun y hy => ⟨_, rfl, hy, ok3.le (by omega)⟩
    intro y hy
    simp only [List.mem_cons, List.not_mem_nil, or_false] at hy
    rcases hy with rfl | rfl | rfl | rfl | rfl
    · decide +kernel
    · decide +kernel
    · decide +kernel
    · decide +kernel
    · exact isName_q hx (by omega)
  · obtain ⟨y, s3⟩ := t
    obtain ⟨hy, ok3⟩ := ht
    refine Wp.ite (fun h => ⟨_, rfl, hy, by simpa using h, ok3⟩) (fun _ => ?_)
    refine Wp.go (charsM_eq (by decide +kernel)) ?_
    refine Wp.go (lcM_mapE (fun a => Str.ofString "z" ++ a) fun a ha => ?_) ?_
    · obtain ⟨c, hc, rfl⟩ := List.mem_map.mp ha
      show (addS _ _).bind _ = _
      rw [addS_eq (by rw [show (Str.ofString "z").length = 1 from by decide +kernel, show (⟨#[c]⟩ : Str).length = 1 from rfl]; decide)]
      rfl
    have ez : (chars (Str.ofString "abcdefghijklmnopq")).map (fun a => Str.ofString "z" ++ a) = zNames := by
      unfold chars zNames sign
      rw [List.map_map]
      rfl
    rw [ez]
    obtain ⟨k, hk, hkn⟩ := pigeon zNames xs zNames_nodup (by rw [zNames_len]; omega)
    have hm : k ∈ zNames.filterMap (fun (a : Str) => if (!decide (a ∈ xs)) = true then some a else none) := List.mem_filterMap.mpr ⟨k, hk, by simp [hkn]⟩
    refine (wp_atM (P := fun x => IsName x ∧ x ∉ xs) (by decide) (by have := List.length_pos_of_mem hm; omega) ?_).bind fun y' hy' => ⟨_, rfl, hy'.1, hy'.2, ok3⟩
    intro w hw
    obtain ⟨v, hv, e⟩ := List.mem_filterMap.mp hw
    by_cases hvx : v ∈ xs
    · simp [hvx] at e
    · simp [hvx] at e
      subst e
      exact ⟨zNames_isName _ hv, hvx⟩
theorem names_wp {s : Src3} {n m : Int} (ok : s.ok n) (h0 : 0 ≤ m) (h1 : m ≤ 16) (hn : n + 10 * m + 10 < 1000000000) : Wp (m_names s m) (fun r => Names r.1 ∧ (r.1.length : Int) = m ∧ r.2.ok (n + 10 * m)) := by
  unfold m_names
  refine Wp.go (rngM_eq h0 (by omega)) ?_
  have el : (List.map (fun k => ((k : Nat) : Int)) (List.range m.toNat)).length = m.toNat := by simp
  refine (wp_forL (fun i (t : List Str × Src3) => Names t.1 ∧ t.1.length = i ∧ t.2.ok (n + 10 * i)) ⟨⟨List.nodup_nil, by simp⟩, rfl, by simpa using ok⟩ ?_).bind fun t ht => ?_
  · rintro i a ⟨ys, s'⟩ ha ⟨hN, hl, ok1⟩
    have hi : i < m.toNat := by have := (List.getElem?_eq_some_iff.mp ha).1; rwa [el] at this
    simp only at hl
    refine (name_wp ok1 (by omega) (by simp only; omega)).bind fun r hr => ?_
    refine Wp.go (pushM_eq (by simp only; omega)) ?_
    refine ⟨_, rfl, ⟨?_, fun x hx => ?_⟩, by simp [hl], hr.2.2.le (by push_cast; omega)⟩
    · rw [List.nodup_append]
      exact ⟨hN.1, by simp, fun a ha b hb => by rw [List.mem_singleton.mp hb]; rintro rfl; exact hr.2.1 ha⟩
    · rcases List.mem_append.mp hx with h | h
      · exact hN.2 x h
      · rw [List.mem_singleton.mp h]; exact hr.1
  · rw [el] at ht
    refine ⟨_, rfl, ht.1, ?_, ht.2.2.le (by omega)⟩
    have := ht.2.1
    simp only
    omega
end Mm
namespace Mm
open PySem L2 Mf
section
variable {P : Program} {w : World} {K : PySem.W.Frag} {mg : Str → Option Value} {base : Heap} {cx : Nat → Addr}
abbrev n_is_name : List Str := ["value", "char"]
theorem sc_is_name : FnScope n_is_name ["value"] (defScope s_is_name) := ⟨rfl, rfl, rfl, by decide +kernel, rfl, by decide +kernel, by decide +kernel⟩
def m_is_name (x_0 : Str) : Option Bool :=
  (if (!true) = true then some true else (lenS x_0).bind fun n6 =>
  some (!((decide ((1 : Int) ≤ n6)) && (decide (n6 ≤ (8 : Int)))))).bind fun c2 =>
  if c2 = true then some false else (charsM x_0).bind fun z14 =>
  some ((z14.map (fun (a18 : Str) => (decide (a18 ∈ chars (Str.ofString "abcdefghijklmnopqrstuvwxyz"))))).all id)
def sp_is_name (K : PySem.W.Frag) : Sp := fun vs H Q E => ∃ (B : Hp) (x_0 : Str) (r : Bool), vs = [(V.str x_0)] ∧ Same B H ∧ m_is_name x_0 = some r ∧ ∀ (v : V) (B' H' : Hp) , Sit ⟨B, H, []⟩ B' H' [] → dBool.rel B' r v → Q v H'
theorem use_is_name {K : PySem.W.Frag} {Φ : Fr} {B H : Hp} {cs : List (Addr × HO)} {Q : VK} {E : XK} {r : Bool} {x_0 : Str} {v_0 : V} (Z : Sit Φ B H cs) (h_0 : dStr.rel B x_0 v_0) (hm : m_is_name x_0 = some r) (k : ∀ (v : V) (B' H' : Hp) , Sit Φ B' H' cs → Same B B' → dBool.rel B' r v → Q v H') : sp_is_name K ([v_0] ++ []) H Q E := by
  cases h_0
  exact ⟨B, x_0, r, rfl, Z.sub, hm, fun v B' H'  Z' h  => k v B' H'  (Z.call0 Z') Z'.grow h ⟩
theorem ok_is_name (A0 : DefAt K mg "is_name" s_is_name ["value"]) (b_all : mg "all" = none) (b_isinstance : mg "isinstance" = none) (b_len : mg "len" = none) (b_str : mg "str" = none) (e_LETTERS : ∃ t, mg "LETTERS" = some (.str "abcdefghijklmnopqrstuvwxyz" t)) : Does P w K mg base CX0 1 "is_name" ["value"] (sp_is_name K ) := by
  obtain ⟨f, fd, F, gm, bd⟩ := A0
  obtain ⟨t_LETTERS, g_LETTERS⟩ := e_LETTERS
  refine ⟨f, fd, ?_, gm, F.kp, bd⟩
  refine F.ok sc_is_name (fun vs H Q E h => ?_) (fun cdv A outer s H vs Q E hr h => ?_)
  · obtain ⟨_, _, _, rfl, _⟩ := h
    rfl
  · obtain ⟨B, x_0, r, rfl, sB, hm, k⟩ := h
    have hu := hu_of hr
    refine ⟨_, (pss_cons (ps_if (PW.pt (pw_or (pt_not (pt_val (pe_callB (k_isi K) (by rfl) b_isinstance (by decide +kernel) (pa_cons (pv 0) (pa_cons (pe_bltn (v := .ty "str") (by rfl) b_str (by decide +kernel) rfl) pa_nil))))) (pw_or1 (pt_not (pt_chain op_le op_le pe_int (pe_callB c_lenS (by rfl) b_len (by decide +kernel) (pa_cons (pv 0) pa_nil)) pe_int))))) (pss_one (ps_ret pe_bl)) pss_nil)
  (pss_one (ps_ret (pe_callB (k_all K rfl) (by rfl) b_all (by decide +kernel) (pa_cons (pe_lc (own := [("char", 1)]) (tt := tYes) rfl sc_is_name.nd (pi_str (pv 0)) (blkOk_by (own := [("char", 1)]) (N := n_is_name) (sc := defScope s_is_name) (by decide +kernel)) (fun _ _ _ _ _ => (pg_name (i := 1) sc_is_name.nd rfl (Or.inl rfl))) (fun _ _ _ _ _ => pts_nil) (fun _ _ _ _ _ => (pe_cmpR o_inC (pv 1) (pe_glob (v := .str "abcdefghijklmnopqrstuvwxyz") rfl g_LETTERS ⟨_, rfl⟩) (by rfl)))) pa_nil))))), ?_⟩
    obtain ⟨B0, hB0⟩ : ∃ B0 : Hp, B0 = B := ⟨_, rfl⟩
    subst hB0
    have S0 := Sit.start0 sB
    unfold m_is_name at hm
    refine w_sig (σ' := [(some (V.str x_0)), none]) rfl ?_
    refine w_seq ?_
    refine w_ifS ?_
    obtain ⟨c2, hc3, hm⟩ := bs hm
    refine cutT (fun b H' => c2 = b ∧ ∃ (B' : Hp), Sit (Fr.mk B0 H []) B' H' [] ∧ Same B0 B') (fun kk4 => ?_) ?_
    · refine w_or ?_
      refine w_evT (EvT.not (EvT.tB (Ev.cb (EvA.cons (Ev.var rfl) (EvA.cons Ev.c EvA.nil)) (isi_s (b := true) (kit_ty (r := true) (by decide +kernel)))))) ?_
      refine w_ifb (fun h5 => ?_) (fun h5 => ?_)
      · rw [ifT h5] at hc3
        obtain rfl := Option.some.inj hc3
        exact kk4 _ _ ⟨rfl, _, S0, (Same.rf _)⟩
      · rw [ifF h5] at hc3
        obtain ⟨n6, hn6, hc3⟩ := bs hc3
        refine w_evT (EvT.not (EvT.test (Ev.chain Ev.c (Ev.cb (EvA.cons (Ev.var rfl) EvA.nil) (len_str hn6)) Ev.c rv_I0 rv_I0))) ?_
        obtain rfl := Option.some.inj hc3
        exact kk4 _ _ ⟨rfl, _, S0, (Same.rf _)⟩
    · rintro _ H7 ⟨rfl, B10, S8, s9⟩
      refine w_ifb (fun h11 => ?_) (fun h11 => ?_)
      · rw [ifT h11] at hm
        refine w_ret ?_
        refine w_ev Ev.c ?_
        obtain rfl := Option.some.inj hm
        exact k _ _ _  S8 (show dBool.rel _ false (V.bl false) from rfl)
      · rw [ifF h11] at hm
        refine w_next ?_
        refine w_ret ?_
        refine w_cb ?_
        refine w_cons ?_
        refine w_lc ?_
        refine x_iS ?_
        refine w_ev (Ev.var rfl) ?_
        obtain ⟨z14, h15, hm⟩ := bs hm
        have h15l := charsM_le h15
        refine w_itSM (B := B10) h15 fun J12 it13 => ?_
        refine lcR (P := dBool) it13 S8 h15l (lcM_map (fun (a18 : Str) => (decide (a18 ∈ chars (Str.ofString "abcdefghijklmnopqrstuvwxyz")))) z14) (fun _ _ _ Z e _ => e.tr Z.sub) (fun D16 ac17 a18 o19 x20 B23 B24 H25 ma31 S26 s21 s22 h27 ho28 RR29 kk30 => ?_) ?_
        · refine w_turn ?_
          obtain ⟨rfl, h34⟩ := h27
          refine w_gname ?_
          refine w_wipe rfl ?_
          refine w_yes ?_
          refine iteT ?_
          refine w_ev (Ev.op (Ev.var rfl) Ev.c (rv_inC h34)) ?_
          obtain rfl := Option.some.inj ho28
          exact kk30 _ _ _ S26 (Same.rf _) ⟨_, rfl, (show dBool.rel _ (decide (a18 ∈ chars (Str.ofString "abcdefghijklmnopqrstuvwxyz"))) (V.bl (decide (a18 ∈ chars (Str.ofString "abcdefghijklmnopqrstuvwxyz")))) from rfl)⟩
        · intro p36 B43 H37 o38 S39 s40 n41 h42
          obtain ⟨B46, S44, s45, h47⟩ : ∃ B', Sit _ B' H37 [] ∧ Same _ B' ∧ (dList dBool).rel B' (z14.map (fun (a18 : Str) => (decide (a18 ∈ chars (Str.ofString "abcdefghijklmnopqrstuvwxyz"))))) (.ref p36) := ⟨_, S39.frz (i := 0) rfl n41, S39.frzS (i := 0) rfl, frzL h42 (S39.atB (i := 0) rfl)⟩
          refine w_nil ?_
          refine rall (Rl.mono _ S44.sub h47) _ ?_
          obtain rfl := Option.some.inj hm
          exact k _ _ _  S44 (show dBool.rel _ ((z14.map (fun (a18 : Str) => (decide (a18 ∈ chars (Str.ofString "abcdefghijklmnopqrstuvwxyz"))))).all id) (V.bl ((z14.map (fun (a18 : Str) => (decide (a18 ∈ chars (Str.ofString "abcdefghijklmnopqrstuvwxyz"))))).all id)) from rfl)
abbrev n_is_step : List Str := ["step", "kind", "name"]
theorem sc_is_step : FnScope n_is_step ["step"] (defScope s_is_step) := ⟨rfl, rfl, rfl, by decide +kernel, rfl, by decide +kernel, by decide +kernel⟩
def m_is_step (x_0 : (Str × Str)) : Option Bool :=
  (if (decide (x_0.1 ∈ ([(Str.ofString "read"), (Str.ofString "say"), (Str.ofString "call"), (Str.ofString "try")] : List Str))) = true then (m_is_name (x_0.2)).bind fun r10 =>
  some r10 else some false).bind fun c6 =>
  some c6
def sp_is_step (K : PySem.W.Frag) : Sp := fun vs H Q E => ∃ (B : Hp) (x_0 : (Str × Str)) (v_0 : V) (r : Bool), vs = [v_0] ∧ Same B H ∧ (dPair K dStr dStr).rel B x_0 v_0 ∧ m_is_step x_0 = some r ∧ ∀ (v : V) (B' H' : Hp) , Sit ⟨B, H, []⟩ B' H' [] → dBool.rel B' r v → Q v H'
theorem use_is_step {K : PySem.W.Frag} {Φ : Fr} {B H : Hp} {cs : List (Addr × HO)} {Q : VK} {E : XK} {r : Bool} {x_0 : (Str × Str)} {v_0 : V} (Z : Sit Φ B H cs) (h_0 : (dPair K dStr dStr).rel B x_0 v_0) (hm : m_is_step x_0 = some r) (k : ∀ (v : V) (B' H' : Hp) , Sit Φ B' H' cs → Same B B' → dBool.rel B' r v → Q v H') : sp_is_step K ([v_0] ++ []) H Q E := by
  exact ⟨B, x_0, v_0, r, rfl, Z.sub, h_0, hm, fun v B' H'  Z' h  => k v B' H'  (Z.call0 Z') Z'.grow h ⟩
theorem ok_is_step (A0 : DefAt K mg "is_step" s_is_step ["step"]) (e_KINDS : ∃ a, mg "KINDS" = some (.ref a) ∧ ∀ H, SqT K H a (([Str.ofString "read", Str.ofString "say", Str.ofString "call", Str.ofString "try"] : List Str).map V.str)) (D_is_name : Does P w K mg base CX0 1 "is_name" ["value"] (sp_is_name K )) : Does P w K mg base CX0 2 "is_step" ["step"] (sp_is_step K ) := by
  obtain ⟨f, fd, F, gm, bd⟩ := A0
  obtain ⟨a_KINDS, g_KINDS, hk_KINDS⟩ := e_KINDS
  obtain ⟨f_is_name, fd_is_name, G_is_name, g_is_name, kp_is_name, bd_is_name⟩ := D_is_name
  refine ⟨f, fd, ?_, gm, F.kp, bd⟩
  refine F.ok sc_is_step (fun vs H Q E h => ?_) (fun cdv A outer s H vs Q E hr h => ?_)
  · obtain ⟨_, _, _, _, rfl, _⟩ := h
    rfl
  · obtain ⟨B, x_0, v_0, r, rfl, sB, hx_0, hm, k⟩ := h
    have hu := hu_of hr
    refine ⟨_, (pss_cons (ps_asg (pv 0) (k_gT K (n := 2) (by rfl) (pgs_cons (pg_name (i := 1) sc_is_step.nd rfl (Or.inl rfl)) (pgs_cons (pg_name (i := 2) sc_is_step.nd rfl (Or.inl rfl)) pgs_nil))))
  (pss_one (ps_ret (pe_and (pe_cmpR (k_in K) (pv 1) (pe_glob (v := .ref a_KINDS) rfl g_KINDS rfl) (by rfl)) (pe_one (pe_call G_is_name (hr.mono (by decide)) rfl g_is_name kp_is_name bd_is_name .nil pass0 (pa_cons (pv 2) pa_nil))))))), ?_⟩
    obtain ⟨B0, hB0⟩ : ∃ B0 : Hp, B0 = B := ⟨_, rfl⟩
    subst hB0
    have S0 := Sit.start0 sB
    unfold m_is_step at hm
    refine w_sig (σ' := [(some v_0), none, none]) rfl ?_
    refine w_seq ?_
    refine w_asg ?_
    refine w_ev (Ev.var rfl) ?_
    obtain ⟨w1, w3, h2, h4, hu5⟩ := un_p (K := K) hx_0
    refine w_gun (hu5 _ S0.sub) rfl ?_
    refine w_gcons ?_
    cases h2
    refine w_gname ?_
    refine w_gcons ?_
    cases h4
    refine w_gname ?_
    refine w_gnil ?_
    refine w_nx (σ' := [(some v_0), (some (V.str x_0.1)), (some (V.str x_0.2))]) rfl ?_
    refine w_ret ?_
    obtain ⟨c6, hc7, hm⟩ := bs hm
    refine cutE (fun v H' => v = V.bl c6 ∧ ∃ (B' : Hp), Sit (Fr.mk B0 H []) B' H' [] ∧ Same B0 B') (fun kk8 => ?_) ?_
    · refine w_andV ?_
      refine w_ev (Ev.op (Ev.var rfl) Ev.c (rin_s (sqT (K := K) (tupC hk_KINDS (by decide)) S0.sub))) ?_
      refine w_bl ?_
      refine w_ifb (fun h9 => ?_) (fun h9 => ?_)
      · rw [ifT h9] at hc7
        refine w_call ?_
        refine w_evA (EvA.cons (Ev.var rfl) EvA.nil) ?_
        obtain ⟨r10, h11, hc7⟩ := bs hc7
        refine use_is_name S0 (show dStr.rel _ x_0.2 (V.str x_0.2) from rfl) h11 fun v12 B16 H13  (S14 : Sit _ B16 H13 []) s15 h17  => ?_
        cases h17
        obtain rfl := Option.some.inj hc7
        exact kk8 _ _ ⟨rfl, _, S14, s15⟩
      · rw [ifF h9] at hc7
        obtain rfl := Option.some.inj hc7
        exact kk8 _ _ ⟨rfl, _, S0, (Same.rf _)⟩
    · rintro _ H18 ⟨rfl, B21, S19, s20⟩
      obtain rfl := Option.some.inj hm
      exact k _ _ _  S19 (show dBool.rel _ c6 (V.bl c6) from rfl)
end
end Mm
namespace Mm
open PySem L2 Mf
section
variable {P : Program} {w : World} {K : PySem.W.Frag} {mg : Str → Option Value} {base : Heap} {cx : Nat → Addr}
abbrev n_invalid_line : List Str := ["procedures", "earlier", "number", "name", "body", "kind", "callee", "step"]
theorem sc_invalid_line : FnScope n_invalid_line ["procedures"] (defScope s_invalid_line) := ⟨rfl, rfl, rfl, by decide +kernel, rfl, by decide +kernel, by decide +kernel⟩
def m_invalid_line (x_0 : (List (Str × (List (Str × Str))))) : Option Int :=
  if (decide ((x_0.length : Int) = (0 : Int))) = true then some (1 : Int) else (forC (R := Int) (fun (a16 : (Int × (Str × (List (Str × Str))))) (st17 : (List Str)) => (if (decide ((16 : Int) < a16.1)) = true then some true else (m_is_name (a16.2.1)).bind fun r56 =>
  if (!r56) = true then some true else if (decide (a16.2.1 ∈ st17)) = true then some true else some (decide ((12 : Int) < (a16.2.2.length : Int)))).bind fun c52 =>
  if c52 = true then some (.ret a16.1) else (lcM (fun (a75 : (Str × Str)) => (m_is_step (a75)).bind fun r90 =>
  some (some r90)) a16.2.2).bind fun ys99 =>
  if (!(ys99.all id)) = true then some (.ret a16.1) else (pushM st17 a16.2.1).bind fun x114 =>
  some (.nx x114)) (enumM 1 x_0) ([] : (List Str))).bind fun c41 =>
  c41.on (fun st126 => (forC (R := Int) (fun (a144 : (Int × (Str × (List (Str × Str))))) (st145 : Unit) => (forC (R := Int) (fun (a185 : (Str × Str)) (st186 : Unit) => (if (decide (a185.1 ∈ ([(Str.ofString "call"), (Str.ofString "try")] : (List Str)))) = true then some (!decide (a185.2 ∈ st126)) else some false).bind fun c213 =>
  if c213 = true then some (.ret a144.1) else some (.nx ())) a144.2.2 ()).bind fun c207 =>
  c207.on (fun st234 => some (.nx ())) (fun r => some (.ret r))) (enumM 1 x_0) ()).bind fun c169 =>
  c169.on (fun st245 => some (0 : Int)) (fun r => some r)) (fun r => some r)
def sp_invalid_line (K : PySem.W.Frag) : Sp := fun vs H Q E => ∃ (B : Hp) (x_0 : (List (Str × (List (Str × Str))))) (v_0 : V) (r : Int), vs = [v_0] ∧ Same B H ∧ (dSeq K (dPair K dStr (dSeq K (dPair K dStr dStr)))).rel B x_0 v_0 ∧ m_invalid_line x_0 = some r ∧ ∀ (v : V) (B' H' : Hp) , Sit ⟨B, H, []⟩ B' H' [] → dInt.rel B' r v → Q v H'
theorem use_invalid_line {K : PySem.W.Frag} {Φ : Fr} {B H : Hp} {cs : List (Addr × HO)} {Q : VK} {E : XK} {r : Int} {x_0 : (List (Str × (List (Str × Str))))} {v_0 : V} (Z : Sit Φ B H cs) (h_0 : (dSeq K (dPair K dStr (dSeq K (dPair K dStr dStr)))).rel B x_0 v_0) (hm : m_invalid_line x_0 = some r) (k : ∀ (v : V) (B' H' : Hp) , Sit Φ B' H' cs → Same B B' → dInt.rel B' r v → Q v H') : sp_invalid_line K ([v_0] ++ []) H Q E := by
  exact ⟨B, x_0, v_0, r, rfl, Z.sub, h_0, hm, fun v B' H'  Z' h  => k v B' H'  (Z.call0 Z') Z'.grow h ⟩
theorem ok_invalid_line (A0 : DefAt K mg "invalid_line" s_invalid_line ["procedures"]) (b_all : mg "all" = none) (b_enumerate : mg "enumerate" = none) (b_len : mg "len" = none) (e_MOST_PROCEDURES : ∃ t, mg "MOST_PROCEDURES" = some (.int 16 t)) (e_MOST_STEPS : ∃ t, mg "MOST_STEPS" = some (.int 12 t)) (D_is_name : Does P w K mg base CX0 1 "is_name" ["value"] (sp_is_name K )) (D_is_step : Does P w K mg base CX0 2 "is_step" ["step"] (sp_is_step K )) : Does P w K mg base CX0 3 "invalid_line" ["procedures"] (sp_invalid_line K ) := by
  obtain ⟨f, fd, F, gm, bd⟩ := A0
  obtain ⟨t_MOST_PROCEDURES, g_MOST_PROCEDURES⟩ := e_MOST_PROCEDURES
  obtain ⟨t_MOST_STEPS, g_MOST_STEPS⟩ := e_MOST_STEPS
  obtain ⟨f_is_name, fd_is_name, G_is_name, g_is_name, kp_is_name, bd_is_name⟩ := D_is_name
  obtain ⟨f_is_step, fd_is_step, G_is_step, g_is_step, kp_is_step, bd_is_step⟩ := D_is_step
  refine ⟨f, fd, ?_, gm, F.kp, bd⟩
  refine F.ok sc_invalid_line (fun vs H Q E h => ?_) (fun cdv A outer s H vs Q E hr h => ?_)
  · obtain ⟨_, _, _, _, rfl, _⟩ := h
    rfl
  · obtain ⟨B, x_0, v_0, r, rfl, sB, hx_0, hm, k⟩ := h
    have hu := hu_of hr
    refine ⟨_, (pss_cons (ps_if (pt_cmpR op_eq (pe_callB (k_len K) (by rfl) b_len (by decide +kernel) (pa_cons (pv 0) pa_nil)) pe_int (nomark _)) (pss_one (ps_ret pe_int)) pss_nil)
  (pss_cons (ps_set (i := 1) sc_invalid_line.nd rfl (Or.inl rfl) (pe_lst pa_nil))
  (pss_cons (ps_for PassesOwn.never rfl (k_iES K (by rfl) b_enumerate (pa_cons (pv 0) pa_nil) (pk_cons pe_int pk_nil)) (k_gT K (n := 2) (by rfl) (pgs_cons (pg_name (i := 2) sc_invalid_line.nd rfl (Or.inl rfl)) (pgs_cons (k_gT K (n := 2) (by rfl) (pgs_cons (pg_name (i := 3) sc_invalid_line.nd rfl (Or.inl rfl)) (pgs_cons (pg_name (i := 4) sc_invalid_line.nd rfl (Or.inl rfl)) pgs_nil))) pgs_nil)))
  (pss_cons (ps_if (PW.pt (pw_or (pt_cmpR op_gt (pv 2) (pe_glob (v := .int 16) rfl g_MOST_PROCEDURES ⟨_, rfl⟩) (nomark _)) (pw_or (pt_not (pt_val (pe_call G_is_name (hr.mono (by decide)) rfl g_is_name kp_is_name bd_is_name .nil pass0 (pa_cons (pv 3) pa_nil)))) (pw_or (pt_cmpR (k_in K) (pv 3) (pv 1) (by rfl)) (pw_or1 (pt_cmpR op_gt (pe_callB (k_len K) (by rfl) b_len (by decide +kernel) (pa_cons (pv 4) pa_nil)) (pe_glob (v := .int 12) rfl g_MOST_STEPS ⟨_, rfl⟩) (nomark _))))))) (pss_one (ps_ret (pv 2))) pss_nil)
  (pss_cons (ps_if (pt_not (pt_val (pe_callB (k_all K rfl) (by rfl) b_all (by decide +kernel) (pa_cons (pe_lc (own := [("step", 7)]) (tt := tYes) rfl sc_invalid_line.nd (k_iQ K (pv 4)) (blkOk_by (own := [("step", 7)]) (N := n_invalid_line) (sc := defScope s_invalid_line) (by decide +kernel)) (fun _ _ _ _ _ => (pg_name (i := 7) sc_invalid_line.nd rfl (Or.inl rfl))) (fun _ _ _ _ _ => pts_nil) (fun _ _ _ _ _ => (pe_call G_is_step (hr.mono (by decide)) rfl g_is_step kp_is_step bd_is_step .nil pass0 (pa_cons (pv 7) pa_nil)))) pa_nil)))) (pss_one (ps_ret (pv 2))) pss_nil)
  (pss_one (ps_expr (k_bm K PySem.F.plainAttrs_list PySem.F.slot_list_append PySem.F.type_list_append mt_append (pv 1) (pa_cons (pv 3) pa_nil)))))))
  (pss_cons (ps_for PassesOwn.never rfl (k_iES K (by rfl) b_enumerate (pa_cons (pv 0) pa_nil) (pk_cons pe_int pk_nil)) (k_gT K (n := 2) (by rfl) (pgs_cons (pg_name (i := 2) sc_invalid_line.nd rfl (Or.inl rfl)) (pgs_cons (k_gT K (n := 2) (by rfl) (pgs_cons (pg_name (i := 3) sc_invalid_line.nd rfl (Or.inl rfl)) (pgs_cons (pg_name (i := 4) sc_invalid_line.nd rfl (Or.inl rfl)) pgs_nil))) pgs_nil)))
  (pss_one (ps_for PassesOwn.never rfl (k_iQ K (pv 4)) (k_gT K (n := 2) (by rfl) (pgs_cons (pg_name (i := 5) sc_invalid_line.nd rfl (Or.inl rfl)) (pgs_cons (pg_name (i := 6) sc_invalid_line.nd rfl (Or.inl rfl)) pgs_nil)))
  (pss_one (ps_if (PW.pt (pw_and (pt_cmpR (k_in K) (pv 5) (pe_tup (pa_cons pe_str (pa_cons pe_str pa_nil))) (by rfl)) (pw_and1 (pt_cmpR (k_ni K) (pv 6) (pv 1) (by rfl))))) (pss_one (ps_ret (pv 2))) pss_nil)))))
  (pss_one (ps_ret pe_int)))))), ?_⟩
    obtain ⟨B0, hB0⟩ : ∃ B0 : Hp, B0 = B := ⟨_, rfl⟩
    subst hB0
    have S0 := Sit.start0 sB
    unfold m_invalid_line at hm
    refine w_sig (σ' := [(some v_0), none, none, none, none, none, none, none]) rfl ?_
    refine w_seq ?_
    refine w_ifS ?_
    refine w_evT (EvT.test (Ev.op (Ev.cb (EvA.cons (Ev.var rfl) EvA.nil) (rlen_q (sqQ (K := K) hx_0 S0.sub))) Ev.c rv_eqI)) ?_
    refine w_ifb (fun h1 => ?_) (fun h1 => ?_)
    · rw [ifT h1] at hm
      refine w_ret ?_
      refine w_ev Ev.c ?_
      obtain rfl := Option.some.inj hm
      exact k _ _ _  S0 (show dInt.rel _ (1 : Int) (V.int 1) from rfl)
    · rw [ifF h1] at hm
      refine w_next ?_
      refine w_seq ?_
      refine w_asg ?_
      refine x_lst ?_
      refine w_nil ?_
      refine mkO (R := dStr) (xs := []) S0 .nil (by show 0 ≤ BIG; decide) fun p2 o3 H4 S5 n6 h7 => ?_
      refine w_gname ?_
      refine w_nx (σ' := [(some v_0), (some (.ref p2)), none, none, none, none, none, none]) rfl ?_
      refine w_seq ?_
      refine w_for ?_
      refine x_iES ?_
      refine w_evA (EvA.cons (Ev.var rfl) EvA.nil) ?_
      refine w_evA (EvA.cons Ev.c EvA.nil) ?_
      refine w_itES (by decide) hx_0 S5.sub fun J8 it9 => ?_
      obtain ⟨c41, hl253, hm⟩ := bs hm
      refine forK (s0 := ([] : (List Str))) it9 S5 (fun (st10 : (List Str)) b σ' cs' => ∃ (e11 : Option V) (e12 : Option V) (e13 : Option V) (o14 : HO), σ' = [(some v_0), (some (.ref p2)), e11, e12, e13, none, none, none] ∧ cs' = [(p2, o14)] ∧ (cList dStr).rel b st10 o14 ∧ True) ⟨_, _, _, _, rfl, rfl, h7, trivial⟩ hl253 (fun _ _ _ _ _ Z e _ => e.tr Z.sub) (fun a16 st17 o18 x19 B29 B35 H20 _ cs21 ma22 S23 s24 s25 hI26 h27 hf28 hret36 hbrk37 => ?_) ?_
      · obtain ⟨e30, e31, e32, o33, rfl, rfl, h34, -⟩ := hI26
        obtain ⟨w42, w44, h43, h45, hu46⟩ := un_p (K := K) h27
        refine w_gun (hu46 _ S23.sub) rfl ?_
        refine w_gcons ?_
        cases h43
        refine w_gname ?_
        refine w_gcons ?_
        obtain ⟨w47, w49, h48, h50, hu51⟩ := un_p (K := K) h45
        refine w_gun (hu51 _ S23.sub) rfl ?_
        refine w_gcons ?_
        cases h48
        refine w_gname ?_
        refine w_gcons ?_
        refine w_gname ?_
        refine w_gnil ?_
        refine w_gnil ?_
        refine w_nx (σ' := [(some v_0), (some (.ref p2)), (some (V.int a16.1)), (some (V.str a16.2.1)), (some w49), none, none, none]) rfl ?_
        refine w_seq ?_
        refine w_ifS ?_
        obtain ⟨c52, hc53, hf28⟩ := bs hf28
        refine cutT (fun b H' => c52 = b ∧ ∃ (B' : Hp), Sit (Fr.mk B0 H []) B' H' [(p2, o33)] ∧ Same B35 B') (fun kk54 => ?_) ?_
        · refine w_or ?_
          refine w_evT (EvT.test (Ev.op (Ev.var rfl) Ev.c rv_I0)) ?_
          refine w_ifb (fun h55 => ?_) (fun h55 => ?_)
          · rw [ifT h55] at hc53
            obtain rfl := Option.some.inj hc53
            exact kk54 _ _ ⟨rfl, _, S23, (Same.rf _)⟩
          · rw [ifF h55] at hc53
            refine w_or ?_
            refine w_not ?_
            refine w_tb ?_
            refine w_call ?_
            refine w_evA (EvA.cons (Ev.var rfl) EvA.nil) ?_
            obtain ⟨r56, h57, hc53⟩ := bs hc53
            refine use_is_name S23 (show dStr.rel _ a16.2.1 (V.str a16.2.1) from rfl) h57 fun v58 B62 H59  (S60 : Sit _ B62 H59 [(p2, o33)]) s61 h63  => ?_
            cases h63
            refine w_bl ?_
            refine w_ifb (fun h64 => ?_) (fun h64 => ?_)
            · rw [ifT h64] at hc53
              obtain rfl := Option.some.inj hc53
              exact kk54 _ _ ⟨rfl, _, S60, s61⟩
            · rw [ifF h64] at hc53
              refine w_or ?_
              refine w_evT (EvT.test (Ev.op (Ev.var rfl) (Ev.var rfl) (rin_s (sqC (K := K) (Cl.mono _ (s25.tr s61) h34) (S60.at' (i := 0) rfl))))) ?_
              refine w_ifb (fun h65 => ?_) (fun h65 => ?_)
              · rw [ifT h65] at hc53
                obtain rfl := Option.some.inj hc53
                exact kk54 _ _ ⟨rfl, _, S60, s61⟩
              · rw [ifF h65] at hc53
                refine w_evT (EvT.test (Ev.op (Ev.cb (EvA.cons (Ev.var rfl) EvA.nil) (rlen_q (sqQ (K := K) (Rl.mono _ s61 h50) S60.sub))) Ev.c rv_I0)) ?_
                obtain rfl := Option.some.inj hc53
                exact kk54 _ _ ⟨rfl, _, S60, s61⟩
        · rintro _ H66 ⟨rfl, B69, S67, s68⟩
          refine w_ifb (fun h70 => ?_) (fun h70 => ?_)
          · rw [ifT h70] at hf28
            refine w_ret ?_
            refine w_ev (Ev.var rfl) ?_
            obtain rfl := Option.some.inj hf28
            cases hret36 _ rfl
            obtain rfl := Option.some.inj hm
            exact k _ _ _  S67.tl (show dInt.rel _ a16.1 (V.int a16.1) from rfl)
          · rw [ifF h70] at hf28
            refine w_next ?_
            refine w_seq ?_
            refine w_ifS ?_
            refine w_not ?_
            refine w_tb ?_
            refine w_cb ?_
            refine w_cons ?_
            refine w_lc ?_
            refine x_iQ ?_
            refine w_ev (Ev.var rfl) ?_
            refine w_itQ (Rl.mono _ s68 h50) S67.sub fun J71 it72 => ?_
            obtain ⟨ys99, h100, hf28⟩ := bs hf28
            refine lcR (P := dBool) it72 S67 (dSeq.le (Rl.mono _ s68 h50)) h100 (fun _ _ _ Z e _ => e.tr Z.sub) (fun D73 ac74 a75 o76 x77 B80 B81 H82 ma88 S83 s78 s79 h84 ho85 RR86 kk87 => ?_) ?_
            · refine w_turn ?_
              refine w_gname ?_
              refine w_wipe rfl ?_
              refine w_yes ?_
              refine iteT ?_
              refine w_call ?_
              refine w_evA (EvA.cons (Ev.var rfl) EvA.nil) ?_
              obtain ⟨r90, h91, ho85⟩ := bs ho85
              refine use_is_step S83 h84 h91 fun v92 B96 H93  (S94 : Sit _ B96 H93 [(D73, (.lst ac74)), (p2, o33)]) s95 h97  => ?_
              cases h97
              obtain rfl := Option.some.inj ho85
              exact kk87 _ _ _ S94 s95 ⟨_, rfl, (show dBool.rel _ r90 (V.bl r90) from rfl)⟩
            · intro p101 B108 H102 o103 S104 s105 n106 h107
              obtain ⟨B111, S109, s110, h112⟩ : ∃ B', Sit _ B' H102 [(p2, o33)] ∧ Same _ B' ∧ (dList dBool).rel B' ys99 (.ref p101) := ⟨_, S104.frz (i := 0) rfl n106, S104.frzS (i := 0) rfl, frzL h107 (S104.atB (i := 0) rfl)⟩
              refine w_nil ?_
              refine rall (Rl.mono _ S109.sub h112) _ ?_
              refine w_bl ?_
              refine w_ifb (fun h113 => ?_) (fun h113 => ?_)
              · rw [ifT h113] at hf28
                refine w_ret ?_
                refine w_ev (Ev.var rfl) ?_
                obtain rfl := Option.some.inj hf28
                cases hret36 _ rfl
                obtain rfl := Option.some.inj hm
                exact k _ _ _  S109.tl (show dInt.rel _ a16.1 (V.int a16.1) from rfl)
              · rw [ifF h113] at hf28
                refine w_next ?_
                refine w_drop ?_
                refine w_bm ?_
                refine w_ev (Ev.var rfl) ?_
                refine w_tyC (Cl.mono _ (s25.tr (s68.tr (s105.tr s110))) h34) (S109.at' (i := 0) rfl) ?_
                refine w_evA (EvA.cons (Ev.var rfl) EvA.nil) ?_
                obtain ⟨x114, h115, hf28⟩ := bs hf28
                refine q_append (k := 0) S109 rfl (Cl.mono _ (s25.tr (s68.tr (s105.tr s110))) h34) (show dStr.rel _ a16.2.1 (V.str a16.2.1) from rfl) h115 fun o116 H117 (S118 : Sit _ B111 H117 [(p2, o116)]) h119 => ?_
                obtain rfl := Option.some.inj hf28
                exact ⟨_, rfl, _, _, S118, (s24.tr (s25.tr (s68.tr (s105.tr s110)))), _, _, _, _, rfl, rfl, h119, trivial⟩
      · intro st126 B125 H120 _ cs121 ec254 S122 s123 hI124
        cases ec254
        obtain ⟨e127, e128, e129, o130, rfl, rfl, h131, -⟩ := hI124
        obtain ⟨B134, S132, s133, h135⟩ : ∃ B', Sit _ B' H120 [] ∧ Same _ B' ∧ (dList dStr).rel B' st126 (.ref p2) := ⟨_, S122.frz (i := 0) rfl n6, S122.frzS (i := 0) rfl, frzL h131 (S122.atB (i := 0) rfl)⟩
        refine w_seq ?_
        refine w_for ?_
        refine x_iES ?_
        refine w_evA (EvA.cons (Ev.var rfl) EvA.nil) ?_
        refine w_evA (EvA.cons Ev.c EvA.nil) ?_
        refine w_itES (by decide) (Rl.mono _ (s123.tr s133) hx_0) S132.sub fun J136 it137 => ?_
        obtain ⟨c169, hl251, hm⟩ := bs hm
        refine forK (s0 := ()) it137 S132 (fun (st138 : Unit) b σ' cs' => ∃ (e139 : Option V) (e140 : Option V) (e141 : Option V) (e142 : Option V) (e143 : Option V), σ' = [(some v_0), (some (.ref p2)), e139, e140, e141, e142, e143, none] ∧ cs' = [] ∧ True) ⟨_, _, _, _, _, rfl, rfl, trivial⟩ hl251 (fun _ _ _ _ _ Z e _ => e.tr Z.sub) (fun a144 st145 o146 x147 B157 B163 H148 _ cs149 ma150 S151 s152 s153 hI154 h155 hf156 hret164 hbrk165 => ?_) ?_
        · obtain ⟨e158, e159, e160, e161, e162, rfl, rfl, -⟩ := hI154
          obtain ⟨w170, w172, h171, h173, hu174⟩ := un_p (K := K) h155
          refine w_gun (hu174 _ S151.sub) rfl ?_
          refine w_gcons ?_
          cases h171
          refine w_gname ?_
          refine w_gcons ?_
          obtain ⟨w175, w177, h176, h178, hu179⟩ := un_p (K := K) h173
          refine w_gun (hu179 _ S151.sub) rfl ?_
          refine w_gcons ?_
          cases h176
          refine w_gname ?_
          refine w_gcons ?_
          refine w_gname ?_
          refine w_gnil ?_
          refine w_gnil ?_
          refine w_nx (σ' := [(some v_0), (some (.ref p2)), (some (V.int a144.1)), (some (V.str a144.2.1)), (some w177), e161, e162, none]) rfl ?_
          refine w_for ?_
          refine x_iQ ?_
          refine w_ev (Ev.var rfl) ?_
          refine w_itQ h178 S151.sub fun J180 it181 => ?_
          obtain ⟨c207, hl237, hf156⟩ := bs hf156
          refine forK (s0 := ()) it181 S151 (fun (st182 : Unit) b σ' cs' => ∃ (e183 : Option V) (e184 : Option V), σ' = [(some v_0), (some (.ref p2)), (some (V.int a144.1)), (some (V.str a144.2.1)), (some w177), e183, e184, none] ∧ cs' = [] ∧ True) ⟨_, _, rfl, rfl, trivial⟩ hl237 (fun _ _ _ _ _ Z e _ => e.tr Z.sub) (fun a185 st186 o187 x188 B198 B201 H189 _ cs190 ma191 S192 s193 s194 hI195 h196 hf197 hret202 hbrk203 => ?_) ?_
          · obtain ⟨e199, e200, rfl, rfl, -⟩ := hI195
            obtain ⟨w208, w210, h209, h211, hu212⟩ := un_p (K := K) h196
            refine w_gun (hu212 _ S192.sub) rfl ?_
            refine w_gcons ?_
            cases h209
            refine w_gname ?_
            refine w_gcons ?_
            cases h211
            refine w_gname ?_
            refine w_gnil ?_
            refine w_nx (σ' := [(some v_0), (some (.ref p2)), (some (V.int a144.1)), (some (V.str a144.2.1)), (some w177), (some (V.str a185.1)), (some (V.str a185.2)), none]) rfl ?_
            refine w_ifS ?_
            obtain ⟨c213, hc214, hf197⟩ := bs hf197
            refine cutT (fun b H' => c213 = b ∧ ∃ (B' : Hp), Sit (Fr.mk B0 H []) B' H' [] ∧ Same B201 B') (fun kk215 => ?_) ?_
            · refine w_and ?_
              refine w_test ?_
              refine w_op ?_
              refine w_ev (Ev.var rfl) ?_
              refine x_tup ?_
              refine w_evA (EvA.cons Ev.c (EvA.cons Ev.c EvA.nil)) ?_
              refine mkT (K := K) (R := dStr) (xs := [(Str.ofString "call"), (Str.ofString "try")]) S192 (.cons rfl (.cons rfl .nil)) (by show 2 ≤ BIG; decide) fun v216 B221 H217 S218 s219 h220 => ?_
              refine w_rv (rin_s (sqT (K := K) h220 S218.sub)) ?_
              refine w_bl ?_
              refine w_ifb (fun h222 => ?_) (fun h222 => ?_)
              · rw [ifT h222] at hc214
                refine w_evT (EvT.test (Ev.op (Ev.var rfl) (Ev.var rfl) (rni_s (sqL (K := K) (Rl.mono _ (s152.tr (s153.tr (s193.tr (s194.tr s219)))) h135) S218.sub)))) ?_
                obtain rfl := Option.some.inj hc214
                exact kk215 _ _ ⟨rfl, _, S218, s219⟩
              · rw [ifF h222] at hc214
                obtain rfl := Option.some.inj hc214
                exact kk215 _ _ ⟨rfl, _, S218, s219⟩
            · rintro _ H223 ⟨rfl, B226, S224, s225⟩
              refine w_ifb (fun h227 => ?_) (fun h227 => ?_)
              · rw [ifT h227] at hf197
                refine w_ret ?_
                refine w_ev (Ev.var rfl) ?_
                obtain rfl := Option.some.inj hf197
                cases hret202 _ rfl
                obtain rfl := Option.some.inj hf156
                cases hret164 _ rfl
                obtain rfl := Option.some.inj hm
                exact k _ _ _  S224 (show dInt.rel _ a144.1 (V.int a144.1) from rfl)
              · rw [ifF h227] at hf197
                refine w_next ?_
                obtain rfl := Option.some.inj hf197
                exact ⟨_, rfl, _, _, S224, (s193.tr (s194.tr s225)), _, _, rfl, rfl, trivial⟩
          · intro st234 B233 H228 _ cs229 ec238 S230 s231 hI232
            cases ec238
            obtain ⟨e235, e236, rfl, rfl, -⟩ := hI232
            obtain rfl := Option.some.inj hf156
            exact ⟨_, rfl, _, _, S230, (s152.tr (s153.tr s231)), _, _, _, _, _, rfl, rfl, trivial⟩
        · intro st245 B244 H239 _ cs240 ec252 S241 s242 hI243
          cases ec252
          obtain ⟨e246, e247, e248, e249, e250, rfl, rfl, -⟩ := hI243
          refine w_ret ?_
          refine w_ev Ev.c ?_
          obtain rfl := Option.some.inj hm
          exact k _ _ _  S241 (show dInt.rel _ (0 : Int) (V.int 0) from rfl)
end
end Mm
namespace Mm
open PySem L2 Mf
section
variable {P : Program} {w : World} {K : PySem.W.Frag} {mg : Str → Option Value} {base : Heap} {cx : Nat → Addr}
abbrev n_Program___getitem__ : List Str := ["self", "name"]
theorem sc_Program___getitem__ : FnScope n_Program___getitem__ ["self", "name"] (defScope s_Program___getitem__) := ⟨rfl, rfl, rfl, by decide +kernel, rfl, by decide +kernel, by decide +kernel⟩
def m_Program___getitem__ (x_0 : O_Program) (x_1 : Str) : Option (List (Str × Str)) :=
  if (!dHas x_0.2.1 x_1) = true then none else (dGet x_0.2.1 x_1).bind fun x11 =>
  some x11
def sp_Program___getitem__ (K : PySem.W.Frag) (C_Program : Addr) : Sp := fun vs H Q E => ∃ (B : Hp) (x_0 : O_Program) (v_0 : V) (x_1 : Str) (r : (List (Str × Str))), vs = [v_0, (V.str x_1)] ∧ Same B H ∧ (dO_Program K C_Program).rel B x_0 v_0 ∧ m_Program___getitem__ x_0 x_1 = some r ∧ ∀ (v : V) (B' H' : Hp) , Sit ⟨B, H, []⟩ B' H' [] → (dTup K (dPair K dStr dStr)).rel B' r v → Q v H'
theorem use_Program___getitem__ {K : PySem.W.Frag} {C_Program : Addr} {Φ : Fr} {B H : Hp} {cs : List (Addr × HO)} {Q : VK} {E : XK} {r : (List (Str × Str))} {x_0 : O_Program} {v_0 : V} {x_1 : Str} {v_1 : V} (Z : Sit Φ B H cs) (h_0 : (dO_Program K C_Program).rel B x_0 v_0) (h_1 : dStr.rel B x_1 v_1) (hm : m_Program___getitem__ x_0 x_1 = some r) (k : ∀ (v : V) (B' H' : Hp) , Sit Φ B' H' cs → Same B B' → (dTup K (dPair K dStr dStr)).rel B' r v → Q v H') : sp_Program___getitem__ K C_Program ([v_0, v_1] ++ []) H Q E := by
  cases h_1
  exact ⟨B, x_0, v_0, x_1, r, rfl, Z.sub, h_0, hm, fun v B' H'  Z' h  => k v B' H'  (Z.call0 Z') Z'.grow h ⟩
theorem ok_Program___getitem__ {C_Program : Addr} (A0 : MethAt K C_Program "__getitem__" "Program.__getitem__" s_Program___getitem__ ["self", "name"]) (T_Program : ClsF K mg "Program" C_Program) (nA_Program_bodies : NoAttr K C_Program "bodies") : MDoes P w K mg base CX0 1 C_Program "__getitem__" ["self", "name"] (sp_Program___getitem__ K C_Program ) := by
  obtain ⟨f, fd, F, me, bd⟩ := A0
  have cl_Program := T_Program.ic.cl
  have g_Program := T_Program.g
  refine ⟨f, fd, ?_, me, bd, F.isIn⟩
  refine F.ok sc_Program___getitem__ (fun vs H Q E h => ?_) (fun cdv A outer s H vs Q E hr h => ?_)
  · obtain ⟨_, _, _, _, _, rfl, _⟩ := h
    rfl
  · obtain ⟨B, x_0, v_0, x_1, r, rfl, sB, hx_0, hm, k⟩ := h
    have hu := hu_of hr
    refine ⟨_, (pss_cons (ps_if (pt_cmp (pc_dnotin hu (pv 1) (k_fld K (pv 0) rfl))) (pss_one ps_dead) pss_nil)
  (pss_one (ps_ret (pe_dget hu (k_fld K (pv 0) rfl) (pv 1) (fun _ _ => rfl))))), ?_⟩
    obtain ⟨B0, hB0⟩ : ∃ B0 : Hp, B0 = B := ⟨_, rfl⟩
    subst hB0
    have S0 := Sit.start0 sB
    unfold m_Program___getitem__ at hm
    refine w_sig (σ' := [(some v_0), (some (V.str x_1))]) rfl ?_
    refine w_seq ?_
    refine w_ifS ?_
    obtain ⟨w2, h3, r1⟩ := fld_Program_bodies T_Program.ic.cl nA_Program_bodies hx_0
    refine w_evT (EvT.tB (Ev.dni (Ev.var rfl) (Ev.fld (Ev.var rfl) (r1 _ S0.sub)) (dqD h3 S0.sub))) ?_
    refine w_ifb (fun h7 => ?_) (fun h7 => ?_)
    · rw [ifT h7] at hm
      cases hm
    · rw [ifF h7] at hm
      refine w_next ?_
      refine w_ret ?_
      obtain ⟨w9, h10, r8⟩ := fld_Program_bodies T_Program.ic.cl nA_Program_bodies hx_0
      obtain ⟨x11, hx11, hm⟩ := bs hm
      obtain ⟨w13, h14, r12⟩ := dget_D h10 hx11
      refine w_ev (Ev.dget (Ev.fld (Ev.var rfl) (r8 _ S0.sub)) (Ev.var rfl) (r12 _ S0.sub)) ?_
      obtain rfl := Option.some.inj hm
      exact k _ _ _  S0 h14
end
end Mm
namespace Mm
open PySem L2 Mf
section
variable {P : Program} {w : World} {K : PySem.W.Frag} {mg : Str → Option Value} {base : Heap} {cx : Nat → Addr}
abbrev n_Program___init__ : List Str := ["self", "procedures", "line", "read", "name", "body", "kind", "word", "place"]
theorem sc_Program___init__ : FnScope n_Program___init__ ["self", "procedures"] (defScope s_Program___init__) := ⟨rfl, rfl, rfl, by decide +kernel, rfl, by decide +kernel, by decide +kernel⟩
def m_Program___init__ (x_1 : (List (Str × (List (Str × Str))))) : Option O_Program :=
  (m_invalid_line (x_1)).bind fun r1 =>
  if (decide ((0 : Int) < r1)) = true then none else (dcL (fun (a64 : (Str × (List (Str × Str)))) => some (some (a64.1, (a64.2.map (fun (a87 : (Str × Str)) => (a87.1, a87.2)))))) x_1 []).bind fun ys143 =>
  (lc2M (γ := (Str × Str)) (fun (a164 : (Str × (List (Str × Str)))) => some a164.2) (fun (a164 : (Str × (List (Str × Str)))) (a190 : (Str × Str)) => if (decide (a190.1 = (Str.ofString "read"))) = true then some (some a190.2) else some none) x_1).bind fun ys216 =>
  (nsetM (ys216.map (fun (a234 : Str) => a234))).bind fun r246 =>
  some ((x_1.map (fun (a14 : (Str × (List (Str × Str)))) => a14.1)), ys143, r246)
def sp_Program___init__ (K : PySem.W.Frag) (C_Program : Addr) : Sp := fun vs H Q E => ∃ (x_1 : (List (Str × (List (Str × Str))))) (r : O_Program), m_Program___init__ x_1 = some r ∧ SpI C_Program (fun B ws => ∃ v_1, ws = [v_1] ∧ (dSeq K (dPair K dStr (dSeq K (dPair K dStr dStr)))).rel B x_1 v_1) (fun B' fs => (F_Program K C_Program).rel B' r fs) vs H Q E
theorem mk_Program___init__ {K : PySem.W.Frag} {C_Program : Addr} {Φ : Fr} {B H : Hp} {cs : List (Addr × HO)} {Q : VK} {E : XK} {r : O_Program} {x_1 : (List (Str × (List (Str × Str))))} {v_1 : V} (Z : Sit Φ B H cs) (h_1 : (dSeq K (dPair K dStr (dSeq K (dPair K dStr dStr)))).rel B x_1 v_1) (hm : m_Program___init__ x_1 = some r) (k : ∀ v B' H', Sit Φ B' H' cs → Same B B' → (dO_Program K C_Program).rel B' r v → Q v H') : MkB C_Program (sp_Program___init__ K C_Program ) E Q ([v_1] ++ []) H := by
  exact fun x dx nx ndx ne => ⟨x_1, r, hm, mkObj Z (fun B' e => ⟨v_1, rfl, (dSeq K (dPair K dStr (dSeq K (dPair K dStr dStr)))).mono e h_1⟩) (fun _ _ q => q) k x dx nx ndx ne⟩
theorem mo_Program___init__ {K : PySem.W.Frag} {C_Program : Addr} {Φ : Fr} {B H : Hp} {cs : List (Addr × HO)} {Q : VK} {E : XK} {r : O_Program} {x_1 : (List (Str × (List (Str × Str))))} {v_1 : V} (Z : Sit Φ B H cs) (h_1 : (dSeq K (dPair K dStr (dSeq K (dPair K dStr dStr)))).rel B x_1 v_1) (hm : m_Program___init__ x_1 = some r) (k : ∀ p dx fs B' H', Sit Φ B' H' ((p, .ins C_Program dx fs) :: cs) → Same B B' → Φ.H p = none → (F_Program K C_Program).rel B' r fs → Q (.ref p) H') : MkB C_Program (sp_Program___init__ K C_Program ) E Q ([v_1] ++ []) H := by
  exact fun x dx nx ndx ne => ⟨x_1, r, hm, mkObjO Z (fun B' e => ⟨v_1, rfl, (dSeq K (dPair K dStr (dSeq K (dPair K dStr dStr)))).mono e h_1⟩) (fun _ _ q => q) k x dx nx ndx ne⟩
theorem ok_Program___init__ {C_Program : Addr} (A0 : MkAt K C_Program "Program.__init__" s_Program___init__ ["self", "procedures"]) (T_Program : ClsF K mg "Program" C_Program) (b_sorted : mg "sorted" = none) (b_str : mg "str" = none) (b_tuple : mg "tuple" = none) (nA_Program_bodies : NoAttr K C_Program "bodies") (nA_Program_names : NoAttr K C_Program "names") (nA_Program_places : NoAttr K C_Program "places") (D_invalid_line : Does P w K mg base CX0 3 "invalid_line" ["procedures"] (sp_invalid_line K )) : MkDoes P w K mg base CX0 4 "Program" C_Program ["self", "procedures"] [] (sp_Program___init__ K C_Program ) := by
  obtain ⟨f, fd, F, mk, bd⟩ := A0
  have cl_Program := T_Program.ic.cl
  have g_Program := T_Program.g
  obtain ⟨f_invalid_line, fd_invalid_line, G_invalid_line, g_invalid_line, kp_invalid_line, bd_invalid_line⟩ := D_invalid_line
  refine ⟨f, fd, [], mk, ?_, bd, .nil, T_Program.g⟩
  refine F.ok sc_Program___init__ (fun vs H Q E h => ?_) (fun cdv A outer s H vs Q E hr h => ?_)
  · obtain ⟨_, _, _, _, _, _, _, rfl, _, _, _, ⟨_, rfl, _⟩, _⟩ := h
    rfl
  · obtain ⟨x_1, r, hm, B, p_0, dx, ws, rfl, sB, hp_0, hb_0, ⟨v_1, rfl, hx_1⟩, k⟩ := h
    have hu := hu_of hr
    refine ⟨_, (pss_cons (ps_set (i := 2) sc_Program___init__.nd rfl (Or.inl rfl) (pe_call G_invalid_line (hr.mono (by decide)) rfl g_invalid_line kp_invalid_line bd_invalid_line .nil pass0 (pa_cons (pv 1) pa_nil)))
  (pss_cons (ps_if (pt_cmpR op_gt (pv 2) pe_int (nomark _)) (pss_one ps_dead) pss_nil)
  (pss_cons (k_sfld K (pv 0) (pe_callTy (k_tupL K) (by rfl) b_tuple (by decide +kernel) (pa_cons (pe_lc (own := [("name", 4), ("body", 5)]) (tt := tYes) rfl sc_Program___init__.nd (k_iQ K (pv 1)) (blkOk_by (own := [("name", 4), ("body", 5)]) (N := n_Program___init__) (sc := defScope s_Program___init__) (by decide +kernel)) (fun _ _ _ _ _ => (k_gT K (n := 2) (by rfl) (pgs_cons (pg_name (i := 4) sc_Program___init__.nd rfl (Or.inl rfl)) (pgs_cons (pg_name (i := 5) sc_Program___init__.nd rfl (Or.inl rfl)) pgs_nil)))) (fun _ _ _ _ _ => pts_nil) (fun _ _ _ _ _ => (pv 4))) pa_nil)) rfl)
  (pss_cons (k_sfld K (pv 0) (pe_dc (own := [("name", 4), ("body", 5)]) (tt := tYes) rfl sc_Program___init__.nd (k_iQ K (pv 1)) (blkOk_by (own := [("name", 4), ("body", 5)]) (N := n_Program___init__) (sc := defScope s_Program___init__) (by decide +kernel)) (fun _ _ _ _ _ => (k_gT K (n := 2) (by rfl) (pgs_cons (pg_name (i := 4) sc_Program___init__.nd rfl (Or.inl rfl)) (pgs_cons (pg_name (i := 5) sc_Program___init__.nd rfl (Or.inl rfl)) pgs_nil)))) (fun _ _ _ _ _ => pts_nil) (fun _ _ _ _ _ => (pv 4)) (fun _ _ _ _ _ => (pe_callTy (k_tupL K) (by rfl) b_tuple (by decide +kernel) (pa_cons (pe_lc (own := [("kind", 6), ("word", 7)]) (tt := tYes) rfl sc_Program___init__.nd (k_iQ K (pv 5)) (by dsimp only [L2.Cx.blk, compEnvC]; exact blkOk_nest (own := [("kind", 6), ("word", 7)]) (N := n_Program___init__) (sc := defScope s_Program___init__) rfl (by decide +kernel)) (fun _ _ _ _ _ => (k_gT K (n := 2) (by rfl) (pgs_cons (pg_name (i := 6) sc_Program___init__.nd rfl (Or.inl rfl)) (pgs_cons (pg_name (i := 7) sc_Program___init__.nd rfl (Or.inl rfl)) pgs_nil)))) (fun _ _ _ _ _ => pts_nil) (fun _ _ _ _ _ => (pe_tup (pa_cons (pv 6) (pa_cons (pv 7) pa_nil))))) pa_nil)))) rfl)
  (pss_cons (ps_setLc2 (i := 3) (own := [("name", 4), ("body", 5), ("kind", 6), ("word", 7)]) (vs1 := [6, 7]) (tt := tYes) rfl sc_Program___init__.nd rfl rfl (sw_true rfl rfl rfl (by decide +kernel)) (k_iQ K (pv 1)) (blkOk_by (own := [("name", 4), ("body", 5), ("kind", 6), ("word", 7)]) (N := n_Program___init__) (sc := defScope s_Program___init__) (by decide +kernel)) (by decide) (fun _ _ _ _ _ => (k_gT K (n := 2) (by rfl) (pgs_cons (pg_name (i := 4) sc_Program___init__.nd rfl (Or.inl rfl)) (pgs_cons (pg_name (i := 5) sc_Program___init__.nd rfl (Or.inl rfl)) pgs_nil)))) (fun _ _ _ _ _ => pts_nil) (fun _ _ _ _ _ => (k_iQ K (pv 5))) (fun _ _ _ _ _ => (k_gT K (n := 2) (by rfl) (pgs_cons (pg_name (i := 6) sc_Program___init__.nd rfl (Or.inl rfl)) (pgs_cons (pg_name (i := 7) sc_Program___init__.nd rfl (Or.inl rfl)) pgs_nil)))) (fun _ _ _ _ _ => pts_one (pt_cmpR op_eq (pv 6) pe_str (nomark _))) (fun _ _ _ _ _ => (pv 7)))
  (pss_one (k_sfld K (pv 0) (pe_callTy (k_tupL K) (by rfl) b_tuple (by decide +kernel) (pa_cons (pe_callB (c_sortT w rfl) (by rfl) b_sorted (by decide +kernel) (pa_cons (e_scT w (own := [("place", 8)]) (tt := tYes) rfl sc_Program___init__.nd (k_iL K (pv 3)) (blkOk_by (own := [("place", 8)]) (N := n_Program___init__) (sc := defScope s_Program___init__) (by decide +kernel)) (fun _ _ _ _ _ => (pg_name (i := 8) sc_Program___init__.nd rfl (Or.inl rfl))) (fun _ _ _ _ _ => pts_nil) (fun _ _ _ _ _ => (pe_callTy c_strS (by rfl) b_str (by decide +kernel) (pa_cons (pv 8) pa_nil)))) pa_nil)) pa_nil)) rfl))))))), ?_⟩
    obtain ⟨B0, hB0⟩ : ∃ B0 : Hp, B0 = B := ⟨_, rfl⟩
    subst hB0
    have S0 := Sit.start1 sB hp_0 hb_0
    unfold m_Program___init__ at hm
    refine w_sig (σ' := [(some (.ref p_0)), (some v_1), none, none, none, none, none, none, none]) rfl ?_
    refine w_seq ?_
    refine w_asg ?_
    refine w_call ?_
    refine w_evA (EvA.cons (Ev.var rfl) EvA.nil) ?_
    obtain ⟨r1, h2, hm⟩ := bs hm
    refine use_invalid_line S0 hx_1 h2 fun v3 B7 H4  (S5 : Sit _ B7 H4 [(p_0, .ins C_Program dx [])]) s6 h8  => ?_
    cases h8
    refine w_gname ?_
    refine w_nx (σ' := [(some (.ref p_0)), (some v_1), (some (V.int r1)), none, none, none, none, none, none]) rfl ?_
    refine w_seq ?_
    refine w_ifS ?_
    refine w_evT (EvT.test (Ev.op (Ev.var rfl) Ev.c rv_I0)) ?_
    refine w_ifb (fun h9 => ?_) (fun h9 => ?_)
    · rw [ifT h9] at hm
      cases hm
    · rw [ifF h9] at hm
      refine w_next ?_
      refine w_seq ?_
      refine w_sfld ?_
      refine w_cb ?_
      refine w_cons ?_
      refine w_lc ?_
      refine x_iQ ?_
      refine w_ev (Ev.var rfl) ?_
      refine w_itQ (Rl.mono _ s6 hx_1) S5.sub fun J10 it11 => ?_
      refine lcR (P := dStr) it11 S5 (dSeq.le (Rl.mono _ s6 hx_1)) (lcM_map (fun (a14 : (Str × (List (Str × Str)))) => a14.1) x_1) (fun _ _ _ Z e _ => e.tr Z.sub) (fun D12 ac13 a14 o15 x16 B19 B20 H21 ma27 S22 s17 s18 h23 ho24 RR25 kk26 => ?_) ?_
      · refine w_turn ?_
        obtain ⟨w34, w36, h35, h37, hu38⟩ := un_p (K := K) h23
        refine w_gun (hu38 _ S22.sub) rfl ?_
        refine w_gcons ?_
        cases h35
        refine w_gname ?_
        refine w_gcons ?_
        refine w_gname ?_
        refine w_gnil ?_
        refine w_wipe rfl ?_
        refine w_yes ?_
        refine iteT ?_
        refine w_ev (Ev.var rfl) ?_
        obtain rfl := Option.some.inj ho24
        exact kk26 _ _ _ S22 (Same.rf _) ⟨_, rfl, (show dStr.rel _ a14.1 (V.str a14.1) from rfl)⟩
      · intro p40 B47 H41 o42 S43 s44 n45 h46
        obtain ⟨B50, S48, s49, h51⟩ : ∃ B', Sit _ B' H41 [(p_0, .ins C_Program dx [])] ∧ Same _ B' ∧ (dList dStr).rel B' (x_1.map (fun (a14 : (Str × (List (Str × Str)))) => a14.1)) (.ref p40) := ⟨_, S43.frz (i := 0) rfl n45, S43.frzS (i := 0) rfl, frzL h46 (S43.atB (i := 0) rfl)⟩
        refine w_nil ?_
        refine q_tupL (K := K) S48 h51 fun v52 B57 H53 S54 s55 h56 => ?_
        refine w_ev (Ev.var rfl) ?_
        refine q_sfld (i := 0) S54 rfl cl_Program nA_Program_names (by show 0 < 1000; decide) putF_nil fun H58 (S59 : Sit _ B57 H58 [(p_0, .ins C_Program dx [(Str.ofString "names", v52)])]) => ?_
        refine w_seq ?_
        refine w_sfld ?_
        refine w_dc ?_
        refine x_iQ ?_
        refine w_ev (Ev.var rfl) ?_
        refine w_itQ (Rl.mono _ (s6.tr (s44.tr (s49.tr s55))) hx_1) S59.sub fun J60 it61 => ?_
        obtain ⟨ys143, h144, hm⟩ := bs hm
        refine dcR (P := (dTup K (dPair K dStr dStr))) it61 S59 (dSeq.le (Rl.mono _ (s6.tr (s44.tr (s49.tr s55))) hx_1)) h144 (fun _ _ _ Z e _ => e.tr Z.sub) (fun D62 ac63 a64 o65 x66 B76 B77 H67 ma68 S69 s70 s71 h72 ho73 RR74 kk75 => ?_) ?_
        · refine w_turnD ?_
          obtain ⟨w78, w80, h79, h81, hu82⟩ := un_p (K := K) h72
          refine w_gun (hu82 _ S69.sub) rfl ?_
          refine w_gcons ?_
          cases h79
          refine w_gname ?_
          refine w_gcons ?_
          refine w_gname ?_
          refine w_gnil ?_
          refine w_wipe rfl ?_
          refine w_yes ?_
          refine iteT ?_
          refine w_ev (Ev.var rfl) ?_
          refine w_cb ?_
          refine w_cons ?_
          refine w_lc ?_
          refine x_iQ ?_
          refine w_ev (Ev.var rfl) ?_
          refine w_itQ h81 S69.sub fun J83 it84 => ?_
          refine lcR (P := (dPair K dStr dStr)) it84 S69 (dSeq.le h81) (lcM_map (fun (a87 : (Str × Str)) => (a87.1, a87.2)) a64.2) (fun _ _ _ Z e _ => e.tr Z.sub) (fun D85 ac86 a87 o88 x89 B92 B93 H94 ma100 S95 s90 s91 h96 ho97 RR98 kk99 => ?_) ?_
          · refine w_turn ?_
            obtain ⟨w113, w115, h114, h116, hu117⟩ := un_p (K := K) h96
            refine w_gun (hu117 _ S95.sub) rfl ?_
            refine w_gcons ?_
            cases h114
            refine w_gname ?_
            refine w_gcons ?_
            cases h116
            refine w_gname ?_
            refine w_gnil ?_
            refine w_wipe rfl ?_
            refine w_yes ?_
            refine iteT ?_
            refine x_tup ?_
            refine w_evA (EvA.cons (Ev.var rfl) (EvA.cons (Ev.var rfl) EvA.nil)) ?_
            refine mk2 (K := K)   S95 (show dStr.rel _ a87.1 (V.str a87.1) from rfl) (show dStr.rel _ a87.2 (V.str a87.2) from rfl) fun v118 B123 H119 S120 s121 h122 => ?_
            obtain rfl := Option.some.inj ho97
            exact kk99 _ _ _ S120 s121 ⟨_, rfl, h122⟩
          · intro p125 B132 H126 o127 S128 s129 n130 h131
            obtain ⟨B135, S133, s134, h136⟩ : ∃ B', Sit _ B' H126 [(D62, (.dK ac63)), (p_0, .ins C_Program dx [(Str.ofString "names", v52)])] ∧ Same _ B' ∧ (dList (dPair K dStr dStr)).rel B' (a64.2.map (fun (a87 : (Str × Str)) => (a87.1, a87.2))) (.ref p125) := ⟨_, S128.frz (i := 0) rfl n130, S128.frzS (i := 0) rfl, frzL h131 (S128.atB (i := 0) rfl)⟩
            refine w_nil ?_
            refine q_tupL (K := K) S133 h136 fun v137 B142 H138 S139 s140 h141 => ?_
            obtain rfl := Option.some.inj ho73
            exact kk75 _ _ _ S139 (s129.tr (s134.tr s140)) ⟨_, rfl, h141⟩
        · intro p145 B152 H146 o147 S148 s149 n150 h151
          obtain ⟨B155, S153, s154, h156⟩ : ∃ B', Sit _ B' H146 [(p_0, .ins C_Program dx [(Str.ofString "names", v52)])] ∧ Same _ B' ∧ (dDict (dTup K (dPair K dStr dStr))).rel B' ys143 (.ref p145) := ⟨_, S148.frz (i := 0) rfl n150, S148.frzS (i := 0) rfl, frzD h151 (S148.atB (i := 0) rfl)⟩
          refine w_ev (Ev.var rfl) ?_
          refine q_sfld (i := 0) S153 rfl cl_Program nA_Program_bodies (by show 1 < 1000; decide) (putF_cons (by decide +kernel) putF_nil) fun H157 (S158 : Sit _ B155 H157 [(p_0, .ins C_Program dx [(Str.ofString "names", v52), (Str.ofString "bodies", (.ref p145))])]) => ?_
          refine w_seq ?_
          refine w_asg ?_
          refine w_lc2 ?_
          refine x_iQ ?_
          refine w_ev (Ev.var rfl) ?_
          refine w_itQ (Rl.mono _ (s6.tr (s44.tr (s49.tr (s55.tr (s149.tr s154))))) hx_1) S158.sub fun J159 it160 => ?_
          obtain ⟨ys216, h217, hm⟩ := bs hm
          refine lc2R (P := dStr) it160 S158 h217 (fun _ _ _ Z e _ => e.tr Z.sub) (fun D161 zs162 ac163 a164 zs165 ws166 x167 B180 B181 H168 ma169 S170 s171 s172 hF173 h174 hz175 hw176 hl177 Nx178 kk179 => ?_) ?_
          · refine w_turnO ?_
            obtain ⟨w182, w184, h183, h185, hu186⟩ := un_p (K := K) h174
            refine w_gun (hu186 _ S170.sub) rfl ?_
            refine w_gcons ?_
            cases h183
            refine w_gname ?_
            refine w_gcons ?_
            refine w_gname ?_
            refine w_gnil ?_
            refine w_wipe rfl ?_
            refine w_yes ?_
            refine iteT ?_
            refine x_iQ ?_
            refine w_ev (Ev.var rfl) ?_
            refine w_itQ h185 S170.sub fun J187 it188 => ?_
            obtain rfl := Option.some.inj hz175
            refine lc2In (P := dStr) it188 S170 (fa_mono (Same.rf _) hF173) (big_lt2 hl177 (dSeq.le h185)) hw176 (fun _ _ _ Z e _ => e.tr Z.sub) (fun ac189 a190 o191 x192 B202 B203 H193 ma194 S195 s196 s197 h198 ho199 RR200 kk201 => ?_) ?_
            · refine w_turn2 ?_
              obtain ⟨w204, w206, h205, h207, hu208⟩ := un_p (K := K) h198
              refine w_gun (hu208 _ S195.sub) rfl ?_
              refine w_gcons ?_
              cases h205
              refine w_gname ?_
              refine w_gcons ?_
              cases h207
              refine w_gname ?_
              refine w_gnil ?_
              refine w_wipe rfl ?_
              refine w_evT (EvT.test (Ev.op (Ev.var rfl) Ev.c rv_eqS)) ?_
              refine w_ifb (fun h209 => ?_) (fun h209 => ?_)
              · rw [ifT h209] at ho199
                refine w_ev (Ev.var rfl) ?_
                obtain rfl := Option.some.inj ho199
                exact kk201 _ _ _ S195 (Same.rf _) ⟨_, rfl, (show dStr.rel _ a190.2 (V.str a190.2) from rfl)⟩
              · rw [ifF h209] at ho199
                obtain rfl := Option.some.inj ho199
                exact kk201 _ _ _ S195 (Same.rf _) rfl
            · intro B214 H210 ac215 S211 s212 hF213
              exact kk179 _ _ _ S211 ((Same.rf _).tr s212) hF213
          · intro p218 B225 H219 o220 S221 s222 n223 h224
            obtain ⟨B228, S226, s227, h229⟩ : ∃ B', Sit _ B' H219 [(p_0, .ins C_Program dx [(Str.ofString "names", v52), (Str.ofString "bodies", (.ref p145))])] ∧ Same _ B' ∧ (dList dStr).rel B' ys216 (.ref p218) := ⟨_, S221.frz (i := 0) rfl n223, S221.frzS (i := 0) rfl, frzL h224 (S221.atB (i := 0) rfl)⟩
            refine w_gname ?_
            refine w_nx (σ' := [(some (.ref p_0)), (some v_1), (some (V.int r1)), (some (.ref p218)), none, none, none, none, none]) rfl ?_
            refine w_sfld ?_
            refine w_cb ?_
            refine w_cons ?_
            refine w_cb ?_
            refine w_cons ?_
            refine w_sc ?_
            refine x_iL ?_
            refine w_ev (Ev.var rfl) ?_
            refine w_itL h229 S226.sub fun J230 it231 => ?_
            obtain ⟨r246, h247, hm⟩ := bs hm
            refine scR it231 S226 (nsetM_lt h247) (fun (a234 : Str) => a234) rfl (fun _ _ _ Z e _ => e.tr Z.sub) (fun D232 o233 a234 x235 B244 B245 H236 ma237 S238 s239 s240 h241 RR242 kk243 => ?_) ?_
            · refine w_turn ?_
              cases h241
              refine w_gname ?_
              refine w_wipe rfl ?_
              refine w_yes ?_
              refine iteT ?_
              refine w_ev (Ev.cb (EvA.cons (Ev.var rfl) EvA.nil) fun _ q => ⟨_, rfl, q⟩) ?_
              exact kk243
            · intro p248 B253 H249 S250 s251 n252
              refine w_nil ?_
              refine q_sortT S250 h247 fun v254 B259 H255 S256 s257 h258 => ?_
              refine w_nil ?_
              refine q_tupL (K := K) S256 h258 fun v260 B265 H261 S262 s263 h264 => ?_
              refine w_ev (Ev.var rfl) ?_
              refine q_sfld (i := 0) S262 rfl cl_Program nA_Program_places (by show 2 < 1000; decide) (putF_cons (by decide +kernel) (putF_cons (by decide +kernel) putF_nil)) fun H266 (S267 : Sit _ B265 H266 [(p_0, .ins C_Program dx [(Str.ofString "names", v52), (Str.ofString "bodies", (.ref p145)), (Str.ofString "places", v260)])]) => ?_
              obtain rfl := Option.some.inj hm
              exact k _ _ _ S267 ⟨_, _, _, rfl, (Rl.mono _ (s149.tr (s154.tr (s222.tr (s227.tr (s251.tr (s257.tr s263)))))) h56), (Rl.mono _ (s222.tr (s227.tr (s251.tr (s257.tr s263)))) h156), h264⟩
end
end Mm
namespace Mm
open PySem L2 Mf
section
variable {P : Program} {w : World} {K : PySem.W.Frag} {mg : Str → Option Value} {base : Heap} {cx : Nat → Addr}
abbrev n_NameSet___init___q : List Str := ["self", "names", "name"]
theorem sc_NameSet___init___q : FnScope n_NameSet___init___q ["self", "names"] (defScope s_NameSet___init__) := ⟨rfl, rfl, rfl, by decide +kernel, rfl, by decide +kernel, by decide +kernel⟩
def m_NameSet___init___q (x_1 : (List Str)) : Option O_NameSet :=
  (nsetM (x_1.map (fun (a6 : Str) => a6))).bind fun r18 =>
  some r18
def sp_NameSet___init___q (K : PySem.W.Frag) (C_NameSet : Addr) : Sp := fun vs H Q E => ∃ (x_1 : (List Str)) (r : O_NameSet), m_NameSet___init___q x_1 = some r ∧ SpI C_NameSet (fun B ws => ∃ v_1, ws = [v_1] ∧ (dSeq K dStr).rel B x_1 v_1) (fun B' fs => (F_NameSet K C_NameSet).rel B' r fs) vs H Q E
theorem mk_NameSet___init___q {K : PySem.W.Frag} {C_NameSet : Addr} {Φ : Fr} {B H : Hp} {cs : List (Addr × HO)} {Q : VK} {E : XK} {r : O_NameSet} {x_1 : (List Str)} {v_1 : V} (Z : Sit Φ B H cs) (h_1 : (dSeq K dStr).rel B x_1 v_1) (hm : m_NameSet___init___q x_1 = some r) (k : ∀ v B' H', Sit Φ B' H' cs → Same B B' → (dO_NameSet K C_NameSet).rel B' r v → Q v H') : MkB C_NameSet (sp_NameSet___init___q K C_NameSet ) E Q ([v_1] ++ []) H := by
  exact fun x dx nx ndx ne => ⟨x_1, r, hm, mkObj Z (fun B' e => ⟨v_1, rfl, (dSeq K dStr).mono e h_1⟩) (fun _ _ q => q) k x dx nx ndx ne⟩
theorem mo_NameSet___init___q {K : PySem.W.Frag} {C_NameSet : Addr} {Φ : Fr} {B H : Hp} {cs : List (Addr × HO)} {Q : VK} {E : XK} {r : O_NameSet} {x_1 : (List Str)} {v_1 : V} (Z : Sit Φ B H cs) (h_1 : (dSeq K dStr).rel B x_1 v_1) (hm : m_NameSet___init___q x_1 = some r) (k : ∀ p dx fs B' H', Sit Φ B' H' ((p, .ins C_NameSet dx fs) :: cs) → Same B B' → Φ.H p = none → (F_NameSet K C_NameSet).rel B' r fs → Q (.ref p) H') : MkB C_NameSet (sp_NameSet___init___q K C_NameSet ) E Q ([v_1] ++ []) H := by
  exact fun x dx nx ndx ne => ⟨x_1, r, hm, mkObjO Z (fun B' e => ⟨v_1, rfl, (dSeq K dStr).mono e h_1⟩) (fun _ _ q => q) k x dx nx ndx ne⟩
theorem ok_NameSet___init___q {C_NameSet : Addr} {T1 : Addr} (hT1 : ∀ H, SqT K H T1 []) (A0 : MkAtD K C_NameSet "NameSet.__init__" s_NameSet___init__ [.ref T1] []) (T_NameSet : ClsF K mg "NameSet" C_NameSet) (b_isinstance : mg "isinstance" = none) (b_sorted : mg "sorted" = none) (b_str : mg "str" = none) (b_tuple : mg "tuple" = none) (nA_NameSet_members : NoAttr K C_NameSet "members") (kit_list_NameSet : PySem.W.kitOne K (.type "list") (.ref C_NameSet) = some false) (kit_tuple_NameSet : PySem.W.kitOne K (.type "tuple") (.ref C_NameSet) = some false) : CoreI P w K mg base CX0 1 "NameSet" C_NameSet "NameSet.__init__" s_NameSet___init__ [.ref T1] [] ["self", "names"] (sp_NameSet___init___q K C_NameSet ) := by
  obtain ⟨f, fd, F, mk⟩ := A0
  have cl_NameSet := T_NameSet.ic.cl
  have g_NameSet := T_NameSet.g
  refine ⟨f, fd, ?_, F, mk, T_NameSet.g⟩
  refine FunD.okN F sc_NameSet___init___q (fun vs H Q E h => ?_) (fun cdv A outer s H vs Q E hr h => ?_)
  · obtain ⟨_, _, _, _, _, _, _, rfl, _, _, _, ⟨_, rfl, _⟩, _⟩ := h
    rfl
  · obtain ⟨x_1, r, hm, B, p_0, dx, ws, rfl, sB, hp_0, hb_0, ⟨v_1, rfl, hx_1⟩, k⟩ := h
    have hu := hu_of hr
    refine ⟨_, (pss_one (ps_if (pt_val (pe_callB (k_isi K) (by rfl) b_isinstance (by decide +kernel) (pa_cons (pv 1) (pa_cons (pe_glob (v := .ref C_NameSet) rfl g_NameSet rfl) pa_nil)))) (pss_one (k_sfld K (pv 0) (k_fld K (pv 1) rfl) rfl)) (pss_one (k_sfld K (pv 0) (pe_callTy (k_tupL K) (by rfl) b_tuple (by decide +kernel) (pa_cons (pe_callB (c_sortT w rfl) (by rfl) b_sorted (by decide +kernel) (pa_cons (e_scT w (own := [("name", 2)]) (tt := tYes) rfl sc_NameSet___init___q.nd (k_iQ K (pv 1)) (blkOk_by (own := [("name", 2)]) (N := n_NameSet___init___q) (sc := defScope s_NameSet___init__) (by decide +kernel)) (fun _ _ _ _ _ => (pg_name (i := 2) sc_NameSet___init___q.nd rfl (Or.inl rfl))) (fun _ _ _ _ _ => pts_nil) (fun _ _ _ _ _ => (pe_callTy c_strS (by rfl) b_str (by decide +kernel) (pa_cons (pv 2) pa_nil)))) pa_nil)) pa_nil)) rfl)))), ?_⟩
    obtain ⟨B0, hB0⟩ : ∃ B0 : Hp, B0 = B := ⟨_, rfl⟩
    subst hB0
    have S0 := Sit.start1 sB hp_0 hb_0
    unfold m_NameSet___init___q at hm
    refine w_sig (σ' := [(some (.ref p_0)), (some v_1), none]) rfl ?_
    refine w_ifS ?_
    refine w_evT (EvT.tB (Ev.cb (EvA.cons (Ev.var rfl) (EvA.cons Ev.c EvA.nil)) (isi_qC (sqQ (K := K) hx_1 S0.sub) kit_list_NameSet kit_tuple_NameSet))) ?_
    refine w_ifb (fun h1 => ?_) (fun h1 => ?_)
    · cases h1
    · refine w_sfld ?_
      refine w_cb ?_
      refine w_cons ?_
      refine w_cb ?_
      refine w_cons ?_
      refine w_sc ?_
      refine x_iQ ?_
      refine w_ev (Ev.var rfl) ?_
      refine w_itQ hx_1 S0.sub fun J2 it3 => ?_
      obtain ⟨r18, h19, hm⟩ := bs hm
      refine scR it3 S0 (nsetM_lt h19) (fun (a6 : Str) => a6) rfl (fun _ _ _ Z e _ => e.tr Z.sub) (fun D4 o5 a6 x7 B16 B17 H8 ma9 S10 s11 s12 h13 RR14 kk15 => ?_) ?_
      · refine w_turn ?_
        cases h13
        refine w_gname ?_
        refine w_wipe rfl ?_
        refine w_yes ?_
        refine iteT ?_
        refine w_ev (Ev.cb (EvA.cons (Ev.var rfl) EvA.nil) fun _ q => ⟨_, rfl, q⟩) ?_
        exact kk15
      · intro p20 B25 H21 S22 s23 n24
        refine w_nil ?_
        refine q_sortT S22 h19 fun v26 B31 H27 S28 s29 h30 => ?_
        refine w_nil ?_
        refine q_tupL (K := K) S28 h30 fun v32 B37 H33 S34 s35 h36 => ?_
        refine w_ev (Ev.var rfl) ?_
        refine q_sfld (i := 0) S34 rfl cl_NameSet nA_NameSet_members (by show 0 < 1000; decide) putF_nil fun H38 (S39 : Sit _ B37 H38 [(p_0, .ins C_NameSet dx [(Str.ofString "members", v32)])]) => ?_
        obtain rfl := Option.some.inj hm
        exact k _ _ _ S39 ⟨_, rfl, h36⟩
end
end Mm
namespace Mm
open PySem L2 Mf
section
variable {P : Program} {w : World} {K : PySem.W.Frag} {mg : Str → Option Value} {base : Heap} {cx : Nat → Addr}
abbrev n_least_unknown_q : List Str := ["names", "known", "name"]
theorem sc_least_unknown_q : FnScope n_least_unknown_q ["names", "known"] (defScope s_least_unknown) := ⟨rfl, rfl, rfl, by decide +kernel, rfl, by decide +kernel, by decide +kernel⟩
def m_least_unknown_q (x_0 : (List Str)) (x_1 : (List Str)) : Option (Option Str) :=
  (m_NameSet___init___q (x_0)).bind fun r3 =>
  (forC (R := (Option Str)) (fun (a16 : Str) (st17 : Unit) => if (!decide (a16 ∈ x_1)) = true then some (.ret (some a16)) else some (.nx ())) r3 ()).bind fun c37 =>
  c37.on (fun st45 => some (none : (Option Str))) (fun r => some r)
def sp_least_unknown_q (K : PySem.W.Frag) : Sp := fun vs H Q E => ∃ (B : Hp) (x_0 : (List Str)) (v_0 : V) (x_1 : (List Str)) (v_1 : V) (r : (Option Str)), vs = [v_0, v_1] ∧ Same B H ∧ (dSeq K dStr).rel B x_0 v_0 ∧ (dTup K dStr).rel B x_1 v_1 ∧ m_least_unknown_q x_0 x_1 = some r ∧ ∀ (v : V) (B' H' : Hp) , Sit ⟨B, H, []⟩ B' H' [] → (dOpt dStr).rel B' r v → Q v H'
theorem use_least_unknown_q {K : PySem.W.Frag} {Φ : Fr} {B H : Hp} {cs : List (Addr × HO)} {Q : VK} {E : XK} {r : (Option Str)} {x_0 : (List Str)} {v_0 : V} {x_1 : (List Str)} {v_1 : V} (Z : Sit Φ B H cs) (h_0 : (dSeq K dStr).rel B x_0 v_0) (h_1 : (dTup K dStr).rel B x_1 v_1) (hm : m_least_unknown_q x_0 x_1 = some r) (k : ∀ (v : V) (B' H' : Hp) , Sit Φ B' H' cs → Same B B' → (dOpt dStr).rel B' r v → Q v H') : sp_least_unknown_q K ([v_0, v_1] ++ []) H Q E := by
  exact ⟨B, x_0, v_0, x_1, v_1, r, rfl, Z.sub, h_0, h_1, hm, fun v B' H'  Z' h  => k v B' H'  (Z.call0 Z') Z'.grow h ⟩
theorem ok_least_unknown_q {C_NameSet : Addr} (A0 : DefAt K mg "least_unknown" s_least_unknown ["names", "known"]) (T_NameSet : ClsF K mg "NameSet" C_NameSet) (nA_NameSet_members : NoAttr K C_NameSet "members") (D_NameSet___init___q_n2 : MkDoes P w K mg base CX0 1 "NameSet" C_NameSet ["self", "names"] [] (sp_NameSet___init___q K C_NameSet )) : Does P w K mg base CX0 3 "least_unknown" ["names", "known"] (sp_least_unknown_q K ) := by
  obtain ⟨f, fd, F, gm, bd⟩ := A0
  have cl_NameSet := T_NameSet.ic.cl
  have g_NameSet := T_NameSet.g
  obtain ⟨f_NameSet___init___q_n2, fd_NameSet___init___q_n2, ds_NameSet___init___q_n2, M_NameSet___init___q_n2, G_NameSet___init___q_n2, bd_NameSet___init___q_n2, vd_NameSet___init___q_n2, g_NameSet___init___q_n2⟩ := D_NameSet___init___q_n2
  refine ⟨f, fd, ?_, gm, F.kp, bd⟩
  refine F.ok sc_least_unknown_q (fun vs H Q E h => ?_) (fun cdv A outer s H vs Q E hr h => ?_)
  · obtain ⟨_, _, _, _, _, _, rfl, _⟩ := h
    rfl
  · obtain ⟨B, x_0, v_0, x_1, v_1, r, rfl, sB, hx_0, hx_1, hm, k⟩ := h
    have hu := hu_of hr
    refine ⟨_, (pss_cons (ps_for PassesOwn.never rfl (k_iT K (k_fld K (pe_make M_NameSet___init___q_n2 G_NameSet___init___q_n2 (hr.mono (by decide)) rfl g_NameSet___init___q_n2 bd_NameSet___init___q_n2 vd_NameSet___init___q_n2 pass0 (pa_cons (pv 0) pa_nil)) rfl)) (pg_name (i := 2) sc_least_unknown_q.nd rfl (Or.inl rfl))
  (pss_one (ps_if (pt_cmpR (k_ni K) (pv 2) (pv 1) (by rfl)) (pss_one (ps_ret (pv 2))) pss_nil)))
  (pss_one (ps_ret pe_non))), ?_⟩
    obtain ⟨B0, hB0⟩ : ∃ B0 : Hp, B0 = B := ⟨_, rfl⟩
    subst hB0
    have S0 := Sit.start0 sB
    unfold m_least_unknown_q at hm
    refine w_sig (σ' := [(some v_0), (some v_1), none]) rfl ?_
    refine w_seq ?_
    refine w_for ?_
    refine x_iT ?_
    refine x_fld ?_
    refine w_make ?_
    refine w_evA (EvA.cons (Ev.var rfl) EvA.nil) ?_
    obtain ⟨r3, h4, hm⟩ := bs hm
    refine mk_NameSet___init___q S0 hx_0 h4 fun v5 B10 H6 S7 s8 h9 => ?_
    obtain ⟨w12, h13, r11⟩ := fld_NameSet_members T_NameSet.ic.cl nA_NameSet_members h9
    refine q_fld (r11 _ S7.sub) ?_
    refine w_itT h13 S7.sub fun J1 it2 => ?_
    obtain ⟨c37, hl47, hm⟩ := bs hm
    refine forK (s0 := ()) it2 S7 (fun (st14 : Unit) b σ' cs' => ∃ (e15 : Option V), σ' = [(some v_0), (some v_1), e15] ∧ cs' = [] ∧ True) ⟨_, rfl, rfl, trivial⟩ hl47 (fun _ _ _ _ _ Z e _ => e.tr Z.sub) (fun a16 st17 o18 x19 B29 B31 H20 _ cs21 ma22 S23 s24 s25 hI26 h27 hf28 hret32 hbrk33 => ?_) ?_
    · obtain ⟨e30, rfl, rfl, -⟩ := hI26
      cases h27
      refine w_gname ?_
      refine w_nx (σ' := [(some v_0), (some v_1), (some (V.str a16))]) rfl ?_
      refine w_ifS ?_
      refine w_evT (EvT.test (Ev.op (Ev.var rfl) (Ev.var rfl) (rni_s (sqT (K := K) (Rl.mono _ (s8.tr (s24.tr s25)) hx_1) S23.sub)))) ?_
      refine w_ifb (fun h38 => ?_) (fun h38 => ?_)
      · rw [ifT h38] at hf28
        refine w_ret ?_
        refine w_ev (Ev.var rfl) ?_
        obtain rfl := Option.some.inj hf28
        cases hret32 _ rfl
        obtain rfl := Option.some.inj hm
        exact k _ _ _  S23 (show (dOpt dStr).rel _ (some a16) (V.str a16) from ⟨rfl, by intro z; cases z⟩)
      · rw [ifF h38] at hf28
        refine w_next ?_
        obtain rfl := Option.some.inj hf28
        exact ⟨_, rfl, _, _, S23, (s24.tr s25), _, rfl, rfl, trivial⟩
    · intro st45 B44 H39 _ cs40 ec48 S41 s42 hI43
      cases ec48
      obtain ⟨e46, rfl, rfl, -⟩ := hI43
      refine w_ret ?_
      refine w_ev Ev.c ?_
      obtain rfl := Option.some.inj hm
      exact k _ _ _  S41 (show (dOpt dStr).rel _ none V.non from rfl)
abbrev n_check_procedures_q : List Str := ["program", "names", "unknown"]
theorem sc_check_procedures_q : FnScope n_check_procedures_q ["program", "names"] (defScope s_check_procedures) := ⟨rfl, rfl, rfl, by decide +kernel, rfl, by decide +kernel, by decide +kernel⟩
def m_check_procedures_q (x_0 : O_Program) (x_1 : (List Str)) : Option Unit :=
  (m_least_unknown_q (x_1) (x_0.1)).bind fun r4 =>
  if (!r4.isNone) = true then (r4).bind fun o13 =>
  none else some ()
def sp_check_procedures_q (K : PySem.W.Frag) (C_Program : Addr) : Sp := fun vs H Q E => ∃ (B : Hp) (x_0 : O_Program) (v_0 : V) (x_1 : (List Str)) (v_1 : V) (r : Unit), vs = [v_0, v_1] ∧ Same B H ∧ (dO_Program K C_Program).rel B x_0 v_0 ∧ (dSeq K dStr).rel B x_1 v_1 ∧ m_check_procedures_q x_0 x_1 = some r ∧ ∀ (v : V) (B' H' : Hp) , Sit ⟨B, H, []⟩ B' H' [] → dNone.rel B' r v → Q v H'
theorem use_check_procedures_q {K : PySem.W.Frag} {C_Program : Addr} {Φ : Fr} {B H : Hp} {cs : List (Addr × HO)} {Q : VK} {E : XK} {r : Unit} {x_0 : O_Program} {v_0 : V} {x_1 : (List Str)} {v_1 : V} (Z : Sit Φ B H cs) (h_0 : (dO_Program K C_Program).rel B x_0 v_0) (h_1 : (dSeq K dStr).rel B x_1 v_1) (hm : m_check_procedures_q x_0 x_1 = some r) (k : ∀ (v : V) (B' H' : Hp) , Sit Φ B' H' cs → Same B B' → dNone.rel B' r v → Q v H') : sp_check_procedures_q K C_Program ([v_0, v_1] ++ []) H Q E := by
  exact ⟨B, x_0, v_0, x_1, v_1, r, rfl, Z.sub, h_0, h_1, hm, fun v B' H'  Z' h  => k v B' H'  (Z.call0 Z') Z'.grow h ⟩
theorem ok_check_procedures_q {C_Program : Addr} (A0 : DefAt K mg "check_procedures" s_check_procedures ["program", "names"]) (T_Program : ClsF K mg "Program" C_Program) (nA_Program_names : NoAttr K C_Program "names") (D_least_unknown_q : Does P w K mg base CX0 3 "least_unknown" ["names", "known"] (sp_least_unknown_q K )) : Does P w K mg base CX0 4 "check_procedures" ["program", "names"] (sp_check_procedures_q K C_Program ) := by
  obtain ⟨f, fd, F, gm, bd⟩ := A0
  have cl_Program := T_Program.ic.cl
  have g_Program := T_Program.g
  obtain ⟨f_least_unknown_q, fd_least_unknown_q, G_least_unknown_q, g_least_unknown_q, kp_least_unknown_q, bd_least_unknown_q⟩ := D_least_unknown_q
  refine ⟨f, fd, ?_, gm, F.kp, bd⟩
  refine F.ok sc_check_procedures_q (fun vs H Q E h => ?_) (fun cdv A outer s H vs Q E hr h => ?_)
  · obtain ⟨_, _, _, _, _, _, rfl, _⟩ := h
    rfl
  · obtain ⟨B, x_0, v_0, x_1, v_1, r, rfl, sB, hx_0, hx_1, hm, k⟩ := h
    have hu := hu_of hr
    refine ⟨_, (pss_cons (ps_set (i := 2) sc_check_procedures_q.nd rfl (Or.inl rfl) (pe_call G_least_unknown_q (hr.mono (by decide)) rfl g_least_unknown_q kp_least_unknown_q bd_least_unknown_q .nil pass0 (pa_cons (pv 1) (pa_cons (k_fld K (pv 0) rfl) pa_nil))))
  (pss_one (ps_if (pt_cmpR o_notN (pv 2) pe_non (nomark _)) (pss_one ps_dead) pss_nil))), ?_⟩
    obtain ⟨B0, hB0⟩ : ∃ B0 : Hp, B0 = B := ⟨_, rfl⟩
    subst hB0
    have S0 := Sit.start0 sB
    unfold m_check_procedures_q at hm
    refine w_sig (σ' := [(some v_0), (some v_1), none]) rfl ?_
    refine w_seq ?_
    refine w_asg ?_
    refine w_call ?_
    obtain ⟨w2, h3, r1⟩ := fld_Program_names T_Program.ic.cl nA_Program_names hx_0
    refine w_evA (EvA.cons (Ev.var rfl) (EvA.cons (Ev.fld (Ev.var rfl) (r1 _ S0.sub)) EvA.nil)) ?_
    obtain ⟨r4, h5, hm⟩ := bs hm
    refine use_least_unknown_q S0 hx_1 h3 h5 fun v6 B10 H7  (S8 : Sit _ B10 H7 []) s9 h11  => ?_
    refine w_gname ?_
    refine w_nx (σ' := [(some v_0), (some v_1), (some v6)]) rfl ?_
    refine w_ifS ?_
    refine w_evT (EvT.test (Ev.op (Ev.var rfl) Ev.c (rv_notN h11))) ?_
    refine w_ifb (fun h12 => ?_) (fun h12 => ?_)
    · rw [ifT h12] at hm
      obtain ⟨o13, h14, hm⟩ := bs hm
      have h15 := opt_some h11 h14
      cases h15
      cases hm
    · rw [ifF h12] at hm
      refine w_next ?_
      obtain rfl := Option.some.inj hm
      exact k _ _ _  S8 (show dNone.rel _ () V.non from rfl)
abbrev n_check_places : List Str := ["program", "places", "unknown"]
theorem sc_check_places : FnScope n_check_places ["program", "places"] (defScope s_check_places) := ⟨rfl, rfl, rfl, by decide +kernel, rfl, by decide +kernel, by decide +kernel⟩
def m_check_places (x_0 : O_Program) (x_1 : (List Str)) : Option Unit :=
  (m_least_unknown_q (x_1) (x_0.2.2)).bind fun r4 =>
  if (!r4.isNone) = true then (r4).bind fun o13 =>
  none else some ()
def sp_check_places (K : PySem.W.Frag) (C_Program : Addr) : Sp := fun vs H Q E => ∃ (B : Hp) (x_0 : O_Program) (v_0 : V) (x_1 : (List Str)) (v_1 : V) (r : Unit), vs = [v_0, v_1] ∧ Same B H ∧ (dO_Program K C_Program).rel B x_0 v_0 ∧ (dSeq K dStr).rel B x_1 v_1 ∧ m_check_places x_0 x_1 = some r ∧ ∀ (v : V) (B' H' : Hp) , Sit ⟨B, H, []⟩ B' H' [] → dNone.rel B' r v → Q v H'
theorem use_check_places {K : PySem.W.Frag} {C_Program : Addr} {Φ : Fr} {B H : Hp} {cs : List (Addr × HO)} {Q : VK} {E : XK} {r : Unit} {x_0 : O_Program} {v_0 : V} {x_1 : (List Str)} {v_1 : V} (Z : Sit Φ B H cs) (h_0 : (dO_Program K C_Program).rel B x_0 v_0) (h_1 : (dSeq K dStr).rel B x_1 v_1) (hm : m_check_places x_0 x_1 = some r) (k : ∀ (v : V) (B' H' : Hp) , Sit Φ B' H' cs → Same B B' → dNone.rel B' r v → Q v H') : sp_check_places K C_Program ([v_0, v_1] ++ []) H Q E := by
  exact ⟨B, x_0, v_0, x_1, v_1, r, rfl, Z.sub, h_0, h_1, hm, fun v B' H'  Z' h  => k v B' H'  (Z.call0 Z') Z'.grow h ⟩
theorem ok_check_places {C_Program : Addr} (A0 : DefAt K mg "check_places" s_check_places ["program", "places"]) (T_Program : ClsF K mg "Program" C_Program) (nA_Program_places : NoAttr K C_Program "places") (D_least_unknown_q : Does P w K mg base CX0 3 "least_unknown" ["names", "known"] (sp_least_unknown_q K )) : Does P w K mg base CX0 4 "check_places" ["program", "places"] (sp_check_places K C_Program ) := by
  obtain ⟨f, fd, F, gm, bd⟩ := A0
  have cl_Program := T_Program.ic.cl
  have g_Program := T_Program.g
  obtain ⟨f_least_unknown_q, fd_least_unknown_q, G_least_unknown_q, g_least_unknown_q, kp_least_unknown_q, bd_least_unknown_q⟩ := D_least_unknown_q
  refine ⟨f, fd, ?_, gm, F.kp, bd⟩
  refine F.ok sc_check_places (fun vs H Q E h => ?_) (fun cdv A outer s H vs Q E hr h => ?_)
  · obtain ⟨_, _, _, _, _, _, rfl, _⟩ := h
    rfl
  · obtain ⟨B, x_0, v_0, x_1, v_1, r, rfl, sB, hx_0, hx_1, hm, k⟩ := h
    have hu := hu_of hr
    refine ⟨_, (pss_cons (ps_set (i := 2) sc_check_places.nd rfl (Or.inl rfl) (pe_call G_least_unknown_q (hr.mono (by decide)) rfl g_least_unknown_q kp_least_unknown_q bd_least_unknown_q .nil pass0 (pa_cons (pv 1) (pa_cons (k_fld K (pv 0) rfl) pa_nil))))
  (pss_one (ps_if (pt_cmpR o_notN (pv 2) pe_non (nomark _)) (pss_one ps_dead) pss_nil))), ?_⟩
    obtain ⟨B0, hB0⟩ : ∃ B0 : Hp, B0 = B := ⟨_, rfl⟩
    subst hB0
    have S0 := Sit.start0 sB
    unfold m_check_places at hm
    refine w_sig (σ' := [(some v_0), (some v_1), none]) rfl ?_
    refine w_seq ?_
    refine w_asg ?_
    refine w_call ?_
    obtain ⟨w2, h3, r1⟩ := fld_Program_places T_Program.ic.cl nA_Program_places hx_0
    refine w_evA (EvA.cons (Ev.var rfl) (EvA.cons (Ev.fld (Ev.var rfl) (r1 _ S0.sub)) EvA.nil)) ?_
    obtain ⟨r4, h5, hm⟩ := bs hm
    refine use_least_unknown_q S0 hx_1 h3 h5 fun v6 B10 H7  (S8 : Sit _ B10 H7 []) s9 h11  => ?_
    refine w_gname ?_
    refine w_nx (σ' := [(some v_0), (some v_1), (some v6)]) rfl ?_
    refine w_ifS ?_
    refine w_evT (EvT.test (Ev.op (Ev.var rfl) Ev.c (rv_notN h11))) ?_
    refine w_ifb (fun h12 => ?_) (fun h12 => ?_)
    · rw [ifT h12] at hm
      obtain ⟨o13, h14, hm⟩ := bs hm
      have h15 := opt_some h11 h14
      cases h15
      cases hm
    · rw [ifF h12] at hm
      refine w_next ?_
      obtain rfl := Option.some.inj hm
      exact k _ _ _  S8 (show dNone.rel _ () V.non from rfl)
end
end Mm
namespace Mm
open PySem L2 Mf
section
variable {P : Program} {w : World} {K : PySem.W.Frag} {mg : Str → Option Value} {base : Heap} {cx : Nat → Addr}
abbrev n_callees : List Str := ["program", "name", "kinds", "kind", "word"]
theorem sc_callees : FnScope n_callees ["program", "name", "kinds"] (defScope s_callees) := ⟨rfl, rfl, rfl, by decide +kernel, rfl, by decide +kernel, by decide +kernel⟩
def m_callees (x_0 : O_Program) (x_1 : Str) (x_2 : (List Str)) : Option (List Str) :=
  (m_Program___getitem__ (x_0) (x_1)).bind fun r3 =>
  some (r3.filterMap (fun (a13 : (Str × Str)) => if (decide (a13.1 ∈ x_2)) = true then (some a13.2) else none))
def sp_callees (K : PySem.W.Frag) (C_Program : Addr) : Sp := fun vs H Q E => ∃ (B : Hp) (x_0 : O_Program) (v_0 : V) (x_1 : Str) (x_2 : (List Str)) (v_2 : V) (r : (List Str)), vs = [v_0, (V.str x_1), v_2] ∧ Same B H ∧ (dO_Program K C_Program).rel B x_0 v_0 ∧ (dTup K dStr).rel B x_2 v_2 ∧ m_callees x_0 x_1 x_2 = some r ∧ ∀ (v : V) (B' H' : Hp) , Sit ⟨B, H, []⟩ B' H' [] → (dList dStr).rel B' r v → Q v H'
theorem use_callees {K : PySem.W.Frag} {C_Program : Addr} {Φ : Fr} {B H : Hp} {cs : List (Addr × HO)} {Q : VK} {E : XK} {r : (List Str)} {x_0 : O_Program} {v_0 : V} {x_1 : Str} {v_1 : V} {x_2 : (List Str)} {v_2 : V} (Z : Sit Φ B H cs) (h_0 : (dO_Program K C_Program).rel B x_0 v_0) (h_1 : dStr.rel B x_1 v_1) (h_2 : (dTup K dStr).rel B x_2 v_2) (hm : m_callees x_0 x_1 x_2 = some r) (k : ∀ (v : V) (B' H' : Hp) , Sit Φ B' H' cs → Same B B' → (dList dStr).rel B' r v → Q v H') : sp_callees K C_Program ([v_0, v_1, v_2] ++ []) H Q E := by
  cases h_1
  exact ⟨B, x_0, v_0, x_1, x_2, v_2, r, rfl, Z.sub, h_0, h_2, hm, fun v B' H'  Z' h  => k v B' H'  (Z.call0 Z') Z'.grow h ⟩
theorem ok_callees {C_Program : Addr} (A0 : DefAt K mg "callees" s_callees ["program", "name", "kinds"]) (T_Program : ClsF K mg "Program" C_Program) (D_Program___getitem__ : MDoes P w K mg base CX0 1 C_Program "__getitem__" ["self", "name"] (sp_Program___getitem__ K C_Program )) : Does P w K mg base CX0 3 "callees" ["program", "name", "kinds"] (sp_callees K C_Program ) := by
  obtain ⟨f, fd, F, gm, bd⟩ := A0
  have cl_Program := T_Program.ic.cl
  have g_Program := T_Program.g
  obtain ⟨f_Program___getitem__, fd_Program___getitem__, G_Program___getitem__, m_Program___getitem__, bd_Program___getitem__, q_Program___getitem__⟩ := D_Program___getitem__
  refine ⟨f, fd, ?_, gm, F.kp, bd⟩
  refine F.ok sc_callees (fun vs H Q E h => ?_) (fun cdv A outer s H vs Q E hr h => ?_)
  · obtain ⟨_, _, _, _, _, _, _, rfl, _⟩ := h
    rfl
  · obtain ⟨B, x_0, v_0, x_1, x_2, v_2, r, rfl, sB, hx_0, hx_2, hm, k⟩ := h
    have hu := hu_of hr
    refine ⟨_, (pss_one (ps_ret (pe_lc (own := [("kind", 3), ("word", 4)]) rfl sc_callees.nd (k_iT K (e_getO m_Program___getitem__ q_Program___getitem__ G_Program___getitem__ (hr.mono (by decide)) bd_Program___getitem__ pass0 (pv 0) (pv 1))) (blkOk_by (own := [("kind", 3), ("word", 4)]) (N := n_callees) (sc := defScope s_callees) (by decide +kernel)) (fun _ _ _ _ _ => (k_gT K (n := 2) (by rfl) (pgs_cons (pg_name (i := 3) sc_callees.nd rfl (Or.inl rfl)) (pgs_cons (pg_name (i := 4) sc_callees.nd rfl (Or.inl rfl)) pgs_nil)))) (fun _ _ _ _ _ => pts_one (pt_cmpR (k_in K) (pv 3) (pv 2) (by rfl))) (fun _ _ _ _ _ => (pv 4))))), ?_⟩
    obtain ⟨B0, hB0⟩ : ∃ B0 : Hp, B0 = B := ⟨_, rfl⟩
    subst hB0
    have S0 := Sit.start0 sB
    unfold m_callees at hm
    refine w_sig (σ' := [(some v_0), (some (V.str x_1)), (some v_2), none, none]) rfl ?_
    refine w_ret ?_
    refine w_lc ?_
    refine x_iT ?_
    refine w_op ?_
    refine w_ev (Ev.var rfl) ?_
    refine w_ev (Ev.var rfl) ?_
    refine q_getO hx_0 S0.sub ?_
    obtain ⟨r3, h4, hm⟩ := bs hm
    refine use_Program___getitem__ S0 hx_0 (show dStr.rel _ x_1 (V.str x_1) from rfl) h4 fun v5 B9 H6  (S7 : Sit _ B9 H6 []) s8 h10  => ?_
    refine w_itT h10 S7.sub fun J1 it2 => ?_
    refine lcR (P := dStr) it2 S7 (dTup.le h10) (lcM_total (fun (a13 : (Str × Str)) => if (decide (a13.1 ∈ x_2)) = true then (some a13.2) else none) r3) (fun _ _ _ Z e _ => e.tr Z.sub) (fun D11 ac12 a13 o14 x15 B18 B19 H20 ma26 S21 s16 s17 h22 ho23 RR24 kk25 => ?_) ?_
    · refine w_turn ?_
      obtain ⟨w34, w36, h35, h37, hu38⟩ := un_p (K := K) h22
      refine w_gun (hu38 _ S21.sub) rfl ?_
      refine w_gcons ?_
      cases h35
      refine w_gname ?_
      refine w_gcons ?_
      cases h37
      refine w_gname ?_
      refine w_gnil ?_
      refine w_wipe rfl ?_
      refine w_evT (EvT.test (Ev.op (Ev.var rfl) (Ev.var rfl) (rin_s (sqT (K := K) (Rl.mono _ (s8.tr (s16.tr s17)) hx_2) S21.sub)))) ?_
      refine w_ifb (fun h39 => ?_) (fun h39 => ?_)
      · rw [ifT h39] at ho23
        refine w_ev (Ev.var rfl) ?_
        obtain rfl := Option.some.inj ho23
        exact kk25 _ _ _ S21 (Same.rf _) ⟨_, rfl, (show dStr.rel _ a13.2 (V.str a13.2) from rfl)⟩
      · rw [ifF h39] at ho23
        obtain rfl := Option.some.inj ho23
        exact kk25 _ _ _ S21 (Same.rf _) rfl
    · intro p41 B48 H42 o43 S44 s45 n46 h47
      obtain ⟨B51, S49, s50, h52⟩ : ∃ B', Sit _ B' H42 [] ∧ Same _ B' ∧ (dList dStr).rel B' (r3.filterMap (fun (a13 : (Str × Str)) => if (decide (a13.1 ∈ x_2)) = true then (some a13.2) else none)) (.ref p41) := ⟨_, S44.frz (i := 0) rfl n46, S44.frzS (i := 0) rfl, frzL h47 (S44.atB (i := 0) rfl)⟩
      obtain rfl := Option.some.inj hm
      exact k _ _ _  S49 h52
abbrev n_spread : List Str := ["program", "starts", "kinds", "stops", "found", "waiting", "name", "callee"]
theorem sc_spread : FnScope n_spread ["program", "starts", "kinds", "stops"] (defScope s_spread) := ⟨rfl, rfl, rfl, by decide +kernel, rfl, by decide +kernel, by decide +kernel⟩
def m_spread (x_0 : O_Program) (x_1 : (List Str)) (x_2 : (List Str)) (x_3 : (List Str)) : Option (List Str) :=
  (whC (S := ((List Str) × (List Str))) (R := (List Str)) (fun (st44 : ((List Str) × (List Str))) => if (decide ((0 : Int) < (st44.1.length : Int))) = true then (st44.1.getLast?).bind fun x69 =>
  if (!decide (x69 ∈ st44.2)) = true then (pushM st44.2 x69).bind fun x78 =>
  (m_callees (x_0) (x69) (x_2)).bind fun r86 =>
  (catM st44.1.dropLast (r86.filterMap (fun (a96 : Str) => if (!decide (a96 ∈ x_3)) = true then (some a96) else none))).bind fun x126 =>
  some (.nx (x126, x78)) else some (.nx (st44.1.dropLast, st44.2)) else some (.brk (st44.1, st44.2))) FUEL ((x_1.filterMap (fun (a11 : Str) => if (!decide (a11 ∈ x_3)) = true then (some a11) else none)), ([] : (List Str)))).bind fun c67 =>
  c67.on (fun st138 => some st138.2) (fun r => some r)
def sp_spread (K : PySem.W.Frag) (C_Program : Addr) : Sp := fun vs H Q E => ∃ (B : Hp) (x_0 : O_Program) (v_0 : V) (x_1 : (List Str)) (v_1 : V) (x_2 : (List Str)) (v_2 : V) (x_3 : (List Str)) (v_3 : V) (r : (List Str)), vs = [v_0, v_1, v_2, v_3] ∧ Same B H ∧ (dO_Program K C_Program).rel B x_0 v_0 ∧ (dTup K dStr).rel B x_1 v_1 ∧ (dTup K dStr).rel B x_2 v_2 ∧ (dTup K dStr).rel B x_3 v_3 ∧ m_spread x_0 x_1 x_2 x_3 = some r ∧ ∀ (v : V) (B' H' : Hp) , Sit ⟨B, H, []⟩ B' H' [] → (dList dStr).rel B' r v → Q v H'
theorem use_spread {K : PySem.W.Frag} {C_Program : Addr} {Φ : Fr} {B H : Hp} {cs : List (Addr × HO)} {Q : VK} {E : XK} {r : (List Str)} {x_0 : O_Program} {v_0 : V} {x_1 : (List Str)} {v_1 : V} {x_2 : (List Str)} {v_2 : V} {x_3 : (List Str)} {v_3 : V} (Z : Sit Φ B H cs) (h_0 : (dO_Program K C_Program).rel B x_0 v_0) (h_1 : (dTup K dStr).rel B x_1 v_1) (h_2 : (dTup K dStr).rel B x_2 v_2) (h_3 : (dTup K dStr).rel B x_3 v_3) (hm : m_spread x_0 x_1 x_2 x_3 = some r) (k : ∀ (v : V) (B' H' : Hp) , Sit Φ B' H' cs → Same B B' → (dList dStr).rel B' r v → Q v H') : sp_spread K C_Program ([v_0, v_1, v_2, v_3] ++ []) H Q E := by
  exact ⟨B, x_0, v_0, x_1, v_1, x_2, v_2, x_3, v_3, r, rfl, Z.sub, h_0, h_1, h_2, h_3, hm, fun v B' H'  Z' h  => k v B' H'  (Z.call0 Z') Z'.grow h ⟩
theorem ok_spread {C_Program : Addr} {T3 : Addr} (hT3 : ∀ H, SqT K H T3 []) (A0 : DefAtD K mg "spread" s_spread [.ref T3] []) (T_Program : ClsF K mg "Program" C_Program) (b_len : mg "len" = none) (D_callees : Does P w K mg base CX0 3 "callees" ["program", "name", "kinds"] (sp_callees K C_Program )) : CoreD P w K mg base CX0 4 "spread" s_spread [.ref T3] [] ["program", "starts", "kinds", "stops"] (sp_spread K C_Program ) := by
  obtain ⟨f, fd, F, gm⟩ := A0
  have cl_Program := T_Program.ic.cl
  have g_Program := T_Program.g
  obtain ⟨f_callees, fd_callees, G_callees, g_callees, kp_callees, bd_callees⟩ := D_callees
  refine ⟨f, fd, ?_, F, gm⟩
  refine FunD.okN F sc_spread (fun vs H Q E h => ?_) (fun cdv A outer s H vs Q E hr h => ?_)
  · obtain ⟨_, _, _, _, _, _, _, _, _, _, rfl, _⟩ := h
    rfl
  · obtain ⟨B, x_0, v_0, x_1, v_1, x_2, v_2, x_3, v_3, r, rfl, sB, hx_0, hx_1, hx_2, hx_3, hm, k⟩ := h
    have hu := hu_of hr
    refine ⟨_, (pss_cons (ps_set (i := 4) sc_spread.nd rfl (Or.inl rfl) (pe_lst pa_nil))
  (pss_cons (ps_setLc (i := 5) (own := [("name", 6)]) rfl sc_spread.nd rfl rfl (sw_true rfl rfl rfl (by decide +kernel)) (k_iT K (pv 1)) (blkOk_by (own := [("name", 6)]) (N := n_spread) (sc := defScope s_spread) (by decide +kernel)) (fun _ _ _ _ _ => (pg_name (i := 6) sc_spread.nd rfl (Or.inl rfl))) (fun _ _ _ _ _ => pts_one (pt_cmpR (k_ni K) (pv 6) (pv 3) (by rfl))) (fun _ _ _ _ _ => (pv 6)))
  (pss_cons (ps_while PassesOwn.never (pt_cmpR op_gt (pe_callB (k_len K) (by rfl) b_len (by decide +kernel) (pa_cons (pv 5) pa_nil)) pe_int (nomark _))
  (pss_cons (ps_set (i := 6) sc_spread.nd rfl (Or.inl rfl) (k_bm0 K PySem.F.plainAttrs_list PySem.F.slot_list_pop PySem.F.type_list_pop mt_pop (pv 5)))
  (pss_one (ps_if (pt_cmpR (k_ni K) (pv 6) (pv 4) (by rfl)) (pss_cons (ps_expr (k_bm K PySem.F.plainAttrs_list PySem.F.slot_list_append PySem.F.type_list_append mt_append (pv 4) (pa_cons (pv 6) pa_nil)))
  (pss_one (ps_expr (k_bm K PySem.F.plainAttrs_list PySem.F.slot_list_extend PySem.F.type_list_extend mt_extend (pv 5) (pa_cons (pe_lc (own := [("callee", 7)]) rfl sc_spread.nd (k_iL K (pe_call G_callees (hr.mono (by decide)) rfl g_callees kp_callees bd_callees .nil pass0 (pa_cons (pv 0) (pa_cons (pv 6) (pa_cons (pv 2) pa_nil))))) (blkOk_by (own := [("callee", 7)]) (N := n_spread) (sc := defScope s_spread) (by decide +kernel)) (fun _ _ _ _ _ => (pg_name (i := 7) sc_spread.nd rfl (Or.inl rfl))) (fun _ _ _ _ _ => pts_one (pt_cmpR (k_ni K) (pv 7) (pv 3) (by rfl))) (fun _ _ _ _ _ => (pv 7))) pa_nil))))) pss_nil))))
  (pss_one (ps_ret (pv 4)))))), ?_⟩
    obtain ⟨B0, hB0⟩ : ∃ B0 : Hp, B0 = B := ⟨_, rfl⟩
    subst hB0
    have S0 := Sit.start0 sB
    unfold m_spread at hm
    refine w_sig (σ' := [(some v_0), (some v_1), (some v_2), (some v_3), none, none, none, none]) rfl ?_
    refine w_seq ?_
    refine w_asg ?_
    refine x_lst ?_
    refine w_nil ?_
    refine mkO (R := dStr) (xs := []) S0 .nil (by show 0 ≤ BIG; decide) fun p1 o2 H3 S4 n5 h6 => ?_
    refine w_gname ?_
    refine w_nx (σ' := [(some v_0), (some v_1), (some v_2), (some v_3), (some (.ref p1)), none, none, none]) rfl ?_
    refine w_seq ?_
    refine w_asg ?_
    refine w_lc ?_
    refine x_iT ?_
    refine w_ev (Ev.var rfl) ?_
    refine w_itT hx_1 S4.sub fun J7 it8 => ?_
    refine lcR (P := dStr) it8 S4 (dTup.le hx_1) (lcM_total (fun (a11 : Str) => if (!decide (a11 ∈ x_3)) = true then (some a11) else none) x_1) (fun _ _ _ Z e _ => e.tr Z.sub) (fun D9 ac10 a11 o12 x13 B16 B17 H18 ma24 S19 s14 s15 h20 ho21 RR22 kk23 => ?_) ?_
    · refine w_turn ?_
      cases h20
      refine w_gname ?_
      refine w_wipe rfl ?_
      refine w_evT (EvT.test (Ev.op (Ev.var rfl) (Ev.var rfl) (rni_s (sqT (K := K) (Rl.mono _ (s14.tr s15) hx_3) S19.sub)))) ?_
      refine w_ifb (fun h27 => ?_) (fun h27 => ?_)
      · rw [ifT h27] at ho21
        refine w_ev (Ev.var rfl) ?_
        obtain rfl := Option.some.inj ho21
        exact kk23 _ _ _ S19 (Same.rf _) ⟨_, rfl, (show dStr.rel _ a11 (V.str a11) from rfl)⟩
      · rw [ifF h27] at ho21
        obtain rfl := Option.some.inj ho21
        exact kk23 _ _ _ S19 (Same.rf _) rfl
    · intro p29 B36 H30 o31 S32 s33 n34 h35
      refine w_gname ?_
      refine w_nx (σ' := [(some v_0), (some v_1), (some v_2), (some v_3), (some (.ref p1)), (some (.ref p29)), none, none]) rfl ?_
      refine w_seq ?_
      obtain ⟨c67, hl152, hm⟩ := bs hm
      refine whK (s0 := ((x_1.filterMap (fun (a11 : Str) => if (!decide (a11 ∈ x_3)) = true then (some a11) else none)), ([] : (List Str)))) S32 (fun (st37 : ((List Str) × (List Str))) b σ' cs' => ∃ (e38 : Option V) (o39 : HO) (o41 : HO), σ' = [(some v_0), (some v_1), (some v_2), (some v_3), (some (.ref p1)), (some (.ref p29)), e38, none] ∧ cs' = [(p29, o39), (p1, o41)] ∧ (cList dStr).rel b st37.1 o39 ∧ (cList dStr).rel b st37.2 o41 ∧ True) ⟨_, _, _, rfl, rfl, h35, (Cl.mono _ s33 h6), trivial⟩ hl152 (fun st44 o45 B56 H47 _ cs48 W65 m66 S50 s51 hI53 hf55 hret62 hbrk63 hW64 => ?_) ?_
      · obtain ⟨e57, o58, o60, rfl, rfl, h59, h61, -⟩ := hI53
        refine w_evT (EvT.test (Ev.op (Ev.cb (EvA.cons (Ev.var rfl) EvA.nil) (rlen_q (sqC (K := K) h59 (S50.at' (i := 0) rfl)))) Ev.c rv_I0)) ?_
        refine w_ifb (fun h68 => ?_) (fun h68 => ?_)
        · rw [ifT h68] at hf55
          refine ⟨_, hW64, ?_⟩
          refine w_seq ?_
          refine w_asg ?_
          refine w_bm0 ?_
          refine w_ev (Ev.var rfl) ?_
          refine w_tyC h59 (S50.at' (i := 0) rfl) ?_
          obtain ⟨x69, h70, hf55⟩ := bs hf55
          refine q_pop (k := 0) S50 rfl h59 h70 fun w71 o73 H74 (S75 : Sit _ B56 H74 [(p29, o73), (p1, o60)]) h76 h72 => ?_
          cases h72
          refine w_gname ?_
          refine w_nx (σ' := [(some v_0), (some v_1), (some v_2), (some v_3), (some (.ref p1)), (some (.ref p29)), (some (V.str x69)), none]) rfl ?_
          refine w_ifS ?_
          refine w_evT (EvT.test (Ev.op (Ev.var rfl) (Ev.var rfl) (rni_s (sqC (K := K) h61 (S75.at' (i := 1) rfl))))) ?_
          refine w_ifb (fun h77 => ?_) (fun h77 => ?_)
          · rw [ifT h77] at hf55
            refine w_seq ?_
            refine w_drop ?_
            refine w_bm ?_
            refine w_ev (Ev.var rfl) ?_
            refine w_tyC h61 (S75.at' (i := 1) rfl) ?_
            refine w_evA (EvA.cons (Ev.var rfl) EvA.nil) ?_
            obtain ⟨x78, h79, hf55⟩ := bs hf55
            refine q_append (k := 1) S75 rfl h61 (show dStr.rel _ x69 (V.str x69) from rfl) h79 fun o80 H81 (S82 : Sit _ B56 H81 [(p29, o73), (p1, o80)]) h83 => ?_
            refine w_drop ?_
            refine w_bm ?_
            refine w_ev (Ev.var rfl) ?_
            refine w_tyC h76 (S82.at' (i := 0) rfl) ?_
            refine w_cons ?_
            refine w_lc ?_
            refine x_iL ?_
            refine w_call ?_
            refine w_evA (EvA.cons (Ev.var rfl) (EvA.cons (Ev.var rfl) (EvA.cons (Ev.var rfl) EvA.nil))) ?_
            obtain ⟨r86, h87, hf55⟩ := bs hf55
            refine use_callees S82 (Rl.mono _ (s33.tr s51) hx_0) (show dStr.rel _ x69 (V.str x69) from rfl) (Rl.mono _ (s33.tr s51) hx_2) h87 fun v88 B92 H89  (S90 : Sit _ B92 H89 [(p29, o73), (p1, o80)]) s91 h93  => ?_
            refine w_itL h93 S90.sub fun J84 it85 => ?_
            refine lcR (P := dStr) it85 S90 (dList.le h93) (lcM_total (fun (a96 : Str) => if (!decide (a96 ∈ x_3)) = true then (some a96) else none) r86) (fun _ _ _ Z e _ => e.tr Z.sub) (fun D94 ac95 a96 o97 x98 B101 B102 H103 ma109 S104 s99 s100 h105 ho106 RR107 kk108 => ?_) ?_
            · refine w_turn ?_
              cases h105
              refine w_gname ?_
              refine w_wipe rfl ?_
              refine w_evT (EvT.test (Ev.op (Ev.var rfl) (Ev.var rfl) (rni_s (sqT (K := K) (Rl.mono _ (s33.tr (s51.tr (s91.tr (s99.tr s100)))) hx_3) S104.sub)))) ?_
              refine w_ifb (fun h112 => ?_) (fun h112 => ?_)
              · rw [ifT h112] at ho106
                refine w_ev (Ev.var rfl) ?_
                obtain rfl := Option.some.inj ho106
                exact kk108 _ _ _ S104 (Same.rf _) ⟨_, rfl, (show dStr.rel _ a96 (V.str a96) from rfl)⟩
              · rw [ifF h112] at ho106
                obtain rfl := Option.some.inj ho106
                exact kk108 _ _ _ S104 (Same.rf _) rfl
            · intro p114 B121 H115 o116 S117 s118 n119 h120
              obtain ⟨B124, S122, s123, h125⟩ : ∃ B', Sit _ B' H115 [(p29, o73), (p1, o80)] ∧ Same _ B' ∧ (dList dStr).rel B' (r86.filterMap (fun (a96 : Str) => if (!decide (a96 ∈ x_3)) = true then (some a96) else none)) (.ref p114) := ⟨_, S117.frz (i := 0) rfl n119, S117.frzS (i := 0) rfl, frzL h120 (S117.atB (i := 0) rfl)⟩
              refine w_nil ?_
              obtain ⟨x126, h127, hf55⟩ := bs hf55
              refine q_extend (k := 0) S122 rfl (Cl.mono _ (s91.tr (s118.tr s123)) h76) h125 h127 fun o128 H129 (S130 : Sit _ B124 H129 [(p29, o128), (p1, o80)]) h131 => ?_
              obtain rfl := Option.some.inj hf55
              exact ⟨_, rfl, _, _, S130, (s51.tr (s91.tr (s118.tr s123))), _, _, _, rfl, rfl, h131, (Cl.mono _ (s91.tr (s118.tr s123)) h83), trivial⟩
          · rw [ifF h77] at hf55
            refine w_next ?_
            obtain rfl := Option.some.inj hf55
            exact ⟨_, rfl, _, _, S75, s51, _, _, _, rfl, rfl, h76, h61, trivial⟩
        · rw [ifF h68] at hf55
          obtain rfl := Option.some.inj hf55
          exact hbrk63 _ _ _ rfl ⟨_, _, S50, s51, _, _, _, rfl, rfl, h59, h61, trivial⟩
      · intro st138 B137 H132 _ cs133 ec153 S134 s135 hI136
        cases ec153
        obtain ⟨e139, o140, o142, rfl, rfl, h141, h143, -⟩ := hI136
        obtain ⟨B146, S144, s145, h147⟩ : ∃ B', Sit _ B' H132 [(p1, o142)] ∧ Same _ B' ∧ (dList dStr).rel B' st138.1 (.ref p29) := ⟨_, S134.frz (i := 0) rfl n34, S134.frzS (i := 0) rfl, frzL h141 (S134.atB (i := 0) rfl)⟩
        obtain ⟨B150, S148, s149, h151⟩ : ∃ B', Sit _ B' H132 [] ∧ Same _ B' ∧ (dList dStr).rel B' st138.2 (.ref p1) := ⟨_, S144.frz (i := 0) rfl n5, S144.frzS (i := 0) rfl, frzL (Cl.mono _ s145 h143) (S144.atB (i := 0) rfl)⟩
        refine w_ret ?_
        refine w_ev (Ev.var rfl) ?_
        obtain rfl := Option.some.inj hm
        exact k _ _ _  S148 h151
abbrev n_places_read : List Str := ["program", "name", "kind", "word"]
theorem sc_places_read : FnScope n_places_read ["program", "name"] (defScope s_places_read) := ⟨rfl, rfl, rfl, by decide +kernel, rfl, by decide +kernel, by decide +kernel⟩
def m_places_read (x_0 : O_Program) (x_1 : Str) : Option (List Str) :=
  (m_Program___getitem__ (x_0) (x_1)).bind fun r3 =>
  some (r3.filterMap (fun (a13 : (Str × Str)) => if (decide (a13.1 = (Str.ofString "read"))) = true then (some a13.2) else none))
def sp_places_read (K : PySem.W.Frag) (C_Program : Addr) : Sp := fun vs H Q E => ∃ (B : Hp) (x_0 : O_Program) (v_0 : V) (x_1 : Str) (r : (List Str)), vs = [v_0, (V.str x_1)] ∧ Same B H ∧ (dO_Program K C_Program).rel B x_0 v_0 ∧ m_places_read x_0 x_1 = some r ∧ ∀ (v : V) (B' H' : Hp) , Sit ⟨B, H, []⟩ B' H' [] → (dList dStr).rel B' r v → Q v H'
theorem use_places_read {K : PySem.W.Frag} {C_Program : Addr} {Φ : Fr} {B H : Hp} {cs : List (Addr × HO)} {Q : VK} {E : XK} {r : (List Str)} {x_0 : O_Program} {v_0 : V} {x_1 : Str} {v_1 : V} (Z : Sit Φ B H cs) (h_0 : (dO_Program K C_Program).rel B x_0 v_0) (h_1 : dStr.rel B x_1 v_1) (hm : m_places_read x_0 x_1 = some r) (k : ∀ (v : V) (B' H' : Hp) , Sit Φ B' H' cs → Same B B' → (dList dStr).rel B' r v → Q v H') : sp_places_read K C_Program ([v_0, v_1] ++ []) H Q E := by
  cases h_1
  exact ⟨B, x_0, v_0, x_1, r, rfl, Z.sub, h_0, hm, fun v B' H'  Z' h  => k v B' H'  (Z.call0 Z') Z'.grow h ⟩
theorem ok_places_read {C_Program : Addr} (A0 : DefAt K mg "places_read" s_places_read ["program", "name"]) (T_Program : ClsF K mg "Program" C_Program) (D_Program___getitem__ : MDoes P w K mg base CX0 1 C_Program "__getitem__" ["self", "name"] (sp_Program___getitem__ K C_Program )) : Does P w K mg base CX0 3 "places_read" ["program", "name"] (sp_places_read K C_Program ) := by
  obtain ⟨f, fd, F, gm, bd⟩ := A0
  have cl_Program := T_Program.ic.cl
  have g_Program := T_Program.g
  obtain ⟨f_Program___getitem__, fd_Program___getitem__, G_Program___getitem__, m_Program___getitem__, bd_Program___getitem__, q_Program___getitem__⟩ := D_Program___getitem__
  refine ⟨f, fd, ?_, gm, F.kp, bd⟩
  refine F.ok sc_places_read (fun vs H Q E h => ?_) (fun cdv A outer s H vs Q E hr h => ?_)
  · obtain ⟨_, _, _, _, _, rfl, _⟩ := h
    rfl
  · obtain ⟨B, x_0, v_0, x_1, r, rfl, sB, hx_0, hm, k⟩ := h
    have hu := hu_of hr
    refine ⟨_, (pss_one (ps_ret (pe_lc (own := [("kind", 2), ("word", 3)]) rfl sc_places_read.nd (k_iT K (e_getO m_Program___getitem__ q_Program___getitem__ G_Program___getitem__ (hr.mono (by decide)) bd_Program___getitem__ pass0 (pv 0) (pv 1))) (blkOk_by (own := [("kind", 2), ("word", 3)]) (N := n_places_read) (sc := defScope s_places_read) (by decide +kernel)) (fun _ _ _ _ _ => (k_gT K (n := 2) (by rfl) (pgs_cons (pg_name (i := 2) sc_places_read.nd rfl (Or.inl rfl)) (pgs_cons (pg_name (i := 3) sc_places_read.nd rfl (Or.inl rfl)) pgs_nil)))) (fun _ _ _ _ _ => pts_one (pt_cmpR op_eq (pv 2) pe_str (nomark _))) (fun _ _ _ _ _ => (pv 3))))), ?_⟩
    obtain ⟨B0, hB0⟩ : ∃ B0 : Hp, B0 = B := ⟨_, rfl⟩
    subst hB0
    have S0 := Sit.start0 sB
    unfold m_places_read at hm
    refine w_sig (σ' := [(some v_0), (some (V.str x_1)), none, none]) rfl ?_
    refine w_ret ?_
    refine w_lc ?_
    refine x_iT ?_
    refine w_op ?_
    refine w_ev (Ev.var rfl) ?_
    refine w_ev (Ev.var rfl) ?_
    refine q_getO hx_0 S0.sub ?_
    obtain ⟨r3, h4, hm⟩ := bs hm
    refine use_Program___getitem__ S0 hx_0 (show dStr.rel _ x_1 (V.str x_1) from rfl) h4 fun v5 B9 H6  (S7 : Sit _ B9 H6 []) s8 h10  => ?_
    refine w_itT h10 S7.sub fun J1 it2 => ?_
    refine lcR (P := dStr) it2 S7 (dTup.le h10) (lcM_total (fun (a13 : (Str × Str)) => if (decide (a13.1 = (Str.ofString "read"))) = true then (some a13.2) else none) r3) (fun _ _ _ Z e _ => e.tr Z.sub) (fun D11 ac12 a13 o14 x15 B18 B19 H20 ma26 S21 s16 s17 h22 ho23 RR24 kk25 => ?_) ?_
    · refine w_turn ?_
      obtain ⟨w34, w36, h35, h37, hu38⟩ := un_p (K := K) h22
      refine w_gun (hu38 _ S21.sub) rfl ?_
      refine w_gcons ?_
      cases h35
      refine w_gname ?_
      refine w_gcons ?_
      cases h37
      refine w_gname ?_
      refine w_gnil ?_
      refine w_wipe rfl ?_
      refine w_evT (EvT.test (Ev.op (Ev.var rfl) Ev.c rv_eqS)) ?_
      refine w_ifb (fun h39 => ?_) (fun h39 => ?_)
      · rw [ifT h39] at ho23
        refine w_ev (Ev.var rfl) ?_
        obtain rfl := Option.some.inj ho23
        exact kk25 _ _ _ S21 (Same.rf _) ⟨_, rfl, (show dStr.rel _ a13.2 (V.str a13.2) from rfl)⟩
      · rw [ifF h39] at ho23
        obtain rfl := Option.some.inj ho23
        exact kk25 _ _ _ S21 (Same.rf _) rfl
    · intro p41 B48 H42 o43 S44 s45 n46 h47
      obtain ⟨B51, S49, s50, h52⟩ : ∃ B', Sit _ B' H42 [] ∧ Same _ B' ∧ (dList dStr).rel B' (r3.filterMap (fun (a13 : (Str × Str)) => if (decide (a13.1 = (Str.ofString "read"))) = true then (some a13.2) else none)) (.ref p41) := ⟨_, S44.frz (i := 0) rfl n46, S44.frzS (i := 0) rfl, frzL h47 (S44.atB (i := 0) rfl)⟩
      obtain rfl := Option.some.inj hm
      exact k _ _ _  S49 h52
end
end Mm
namespace Mm
open PySem L2 Mf
section
variable {P : Program} {w : World} {K : PySem.W.Frag} {mg : Str → Option Value} {base : Heap} {cx : Nat → Addr}
abbrev n_is_number_a : List Str := ["value"]
theorem sc_is_number_a : FnScope n_is_number_a ["value"] (defScope s_is_number) := ⟨rfl, rfl, rfl, by decide +kernel, rfl, by decide +kernel, by decide +kernel⟩
def m_is_number_a (x_0 : PyData) : Option Bool :=
  (if (isInt x_0) = true then if (!(isBool x_0)) = true then (asI x_0).bind fun i7 =>
  some ((decide ((-(1000000000000000000000000000000000000000000000000000000000000 : Int)) < i7)) && (decide (i7 < (1000000000000000000000000000000000000000000000000000000000000 : Int)))) else some false else some false).bind fun c2 =>
  some c2
def sp_is_number_a (K : PySem.W.Frag) : Sp := fun vs H Q E => ∃ (B : Hp) (x_0 : PyData) (v_0 : V) (r : Bool), vs = [v_0] ∧ Same B H ∧ (dAny K).rel B x_0 v_0 ∧ m_is_number_a x_0 = some r ∧ ∀ (v : V) (B' H' : Hp) , Sit ⟨B, H, []⟩ B' H' [] → dBool.rel B' r v → Q v H'
theorem use_is_number_a {K : PySem.W.Frag} {Φ : Fr} {B H : Hp} {cs : List (Addr × HO)} {Q : VK} {E : XK} {r : Bool} {x_0 : PyData} {v_0 : V} (Z : Sit Φ B H cs) (h_0 : (dAny K).rel B x_0 v_0) (hm : m_is_number_a x_0 = some r) (k : ∀ (v : V) (B' H' : Hp) , Sit Φ B' H' cs → Same B B' → dBool.rel B' r v → Q v H') : sp_is_number_a K ([v_0] ++ []) H Q E := by
  exact ⟨B, x_0, v_0, r, rfl, Z.sub, h_0, hm, fun v B' H'  Z' h  => k v B' H'  (Z.call0 Z') Z'.grow h ⟩
theorem ok_is_number_a (A0 : DefAt K mg "is_number" s_is_number ["value"]) (b_bool : mg "bool" = none) (b_int : mg "int" = none) (b_isinstance : mg "isinstance" = none) (e_BEYOND : ∃ t, mg "BEYOND" = some (.int 1000000000000000000000000000000000000000000000000000000000000 t)) : Does P w K mg base CX0 1 "is_number" ["value"] (sp_is_number_a K ) := by
  obtain ⟨f, fd, F, gm, bd⟩ := A0
  obtain ⟨t_BEYOND, g_BEYOND⟩ := e_BEYOND
  refine ⟨f, fd, ?_, gm, F.kp, bd⟩
  refine F.ok sc_is_number_a (fun vs H Q E h => ?_) (fun cdv A outer s H vs Q E hr h => ?_)
  · obtain ⟨_, _, _, _, rfl, _⟩ := h
    rfl
  · obtain ⟨B, x_0, v_0, r, rfl, sB, hx_0, hm, k⟩ := h
    have hu := hu_of hr
    refine ⟨_, (pss_one (ps_ret (pe_and (pe_callB (k_isi K) (by rfl) b_isinstance (by decide +kernel) (pa_cons (pv 0) (pa_cons (pe_bltn (v := .ty "int") (by rfl) b_int (by decide +kernel) rfl) pa_nil))) (pe_and (pe_not (pe_callB (k_isi K) (by rfl) b_isinstance (by decide +kernel) (pa_cons (pv 0) (pa_cons (pe_bltn (v := .ty "bool") (by rfl) b_bool (by decide +kernel) rfl) pa_nil)))) (pe_one (pe_chain op_lt op_lt (pe_un un_neg (pe_glob (v := .int 1000000000000000000000000000000000000000000000000000000000000) rfl g_BEYOND ⟨_, rfl⟩)) (pv 0) (pe_glob (v := .int 1000000000000000000000000000000000000000000000000000000000000) rfl g_BEYOND ⟨_, rfl⟩))))))), ?_⟩
    obtain ⟨B0, hB0⟩ : ∃ B0 : Hp, B0 = B := ⟨_, rfl⟩
    subst hB0
    have S0 := Sit.start0 sB
    unfold m_is_number_a at hm
    refine w_sig (σ' := [(some v_0)]) rfl ?_
    refine w_ret ?_
    obtain ⟨c2, hc3, hm⟩ := bs hm
    refine cutE (fun v H' => v = V.bl c2 ∧ ∃ (B' : Hp), Sit (Fr.mk B0 H []) B' H' [] ∧ Same B0 B') (fun kk4 => ?_) ?_
    · refine w_andV ?_
      refine w_ev (Ev.cb (EvA.cons (Ev.var rfl) (EvA.cons Ev.c EvA.nil)) (isi_aI (Rl.mono _ S0.sub hx_0))) ?_
      refine w_bl ?_
      refine w_ifb (fun h5 => ?_) (fun h5 => ?_)
      · rw [ifT h5] at hc3
        refine w_andV ?_
        refine w_ev (Ev.not (Ev.cb (EvA.cons (Ev.var rfl) (EvA.cons Ev.c EvA.nil)) (isi_aB (Rl.mono _ S0.sub hx_0)))) ?_
        refine w_bl ?_
        refine w_ifb (fun h6 => ?_) (fun h6 => ?_)
        · rw [ifT h6] at hc3
          obtain ⟨i7, hi7, hc3⟩ := bs hc3
          refine w_ev (Ev.chain (Ev.un Ev.c fun _ q => ⟨_, rfl, q⟩) (Ev.cast (Ev.var rfl) (asI_v hx_0 hi7)) Ev.c rv_I0 rv_I0) ?_
          obtain rfl := Option.some.inj hc3
          exact kk4 _ _ ⟨rfl, _, S0, (Same.rf _)⟩
        · rw [ifF h6] at hc3
          obtain rfl := Option.some.inj hc3
          exact kk4 _ _ ⟨rfl, _, S0, (Same.rf _)⟩
      · rw [ifF h5] at hc3
        obtain rfl := Option.some.inj hc3
        exact kk4 _ _ ⟨rfl, _, S0, (Same.rf _)⟩
    · rintro _ H8 ⟨rfl, B11, S9, s10⟩
      obtain rfl := Option.some.inj hm
      exact k _ _ _  S9 (show dBool.rel _ c2 (V.bl c2) from rfl)
abbrev n_is_name_a : List Str := ["value", "char"]
theorem sc_is_name_a : FnScope n_is_name_a ["value"] (defScope s_is_name) := ⟨rfl, rfl, rfl, by decide +kernel, rfl, by decide +kernel, by decide +kernel⟩
def m_is_name_a (x_0 : PyData) : Option Bool :=
  (if (!(isStr x_0)) = true then some true else (asS x_0).bind fun i7 =>
  (lenS i7).bind fun n8 =>
  some (!((decide ((1 : Int) ≤ n8)) && (decide (n8 ≤ (8 : Int)))))).bind fun c3 =>
  if c3 = true then some false else (asS x_0).bind fun i16 =>
  (charsM i16).bind fun z18 =>
  some ((z18.map (fun (a22 : Str) => (decide (a22 ∈ chars (Str.ofString "abcdefghijklmnopqrstuvwxyz"))))).all id)
def sp_is_name_a (K : PySem.W.Frag) : Sp := fun vs H Q E => ∃ (B : Hp) (x_0 : PyData) (v_0 : V) (r : Bool), vs = [v_0] ∧ Same B H ∧ (dAny K).rel B x_0 v_0 ∧ m_is_name_a x_0 = some r ∧ ∀ (v : V) (B' H' : Hp) , Sit ⟨B, H, []⟩ B' H' [] → dBool.rel B' r v → Q v H'
theorem use_is_name_a {K : PySem.W.Frag} {Φ : Fr} {B H : Hp} {cs : List (Addr × HO)} {Q : VK} {E : XK} {r : Bool} {x_0 : PyData} {v_0 : V} (Z : Sit Φ B H cs) (h_0 : (dAny K).rel B x_0 v_0) (hm : m_is_name_a x_0 = some r) (k : ∀ (v : V) (B' H' : Hp) , Sit Φ B' H' cs → Same B B' → dBool.rel B' r v → Q v H') : sp_is_name_a K ([v_0] ++ []) H Q E := by
  exact ⟨B, x_0, v_0, r, rfl, Z.sub, h_0, hm, fun v B' H'  Z' h  => k v B' H'  (Z.call0 Z') Z'.grow h ⟩
theorem ok_is_name_a (A0 : DefAt K mg "is_name" s_is_name ["value"]) (b_all : mg "all" = none) (b_isinstance : mg "isinstance" = none) (b_len : mg "len" = none) (b_str : mg "str" = none) (e_LETTERS : ∃ t, mg "LETTERS" = some (.str "abcdefghijklmnopqrstuvwxyz" t)) : Does P w K mg base CX0 1 "is_name" ["value"] (sp_is_name_a K ) := by
  obtain ⟨f, fd, F, gm, bd⟩ := A0
  obtain ⟨t_LETTERS, g_LETTERS⟩ := e_LETTERS
  refine ⟨f, fd, ?_, gm, F.kp, bd⟩
  refine F.ok sc_is_name_a (fun vs H Q E h => ?_) (fun cdv A outer s H vs Q E hr h => ?_)
  · obtain ⟨_, _, _, _, rfl, _⟩ := h
    rfl
  · obtain ⟨B, x_0, v_0, r, rfl, sB, hx_0, hm, k⟩ := h
    have hu := hu_of hr
    refine ⟨_, (pss_cons (ps_if (PW.pt (pw_or (pt_not (pt_val (pe_callB (k_isi K) (by rfl) b_isinstance (by decide +kernel) (pa_cons (pv 0) (pa_cons (pe_bltn (v := .ty "str") (by rfl) b_str (by decide +kernel) rfl) pa_nil))))) (pw_or1 (pt_not (pt_chain op_le op_le pe_int (pe_callB c_lenS (by rfl) b_len (by decide +kernel) (pa_cons (pv 0) pa_nil)) pe_int))))) (pss_one (ps_ret pe_bl)) pss_nil)
  (pss_one (ps_ret (pe_callB (k_all K rfl) (by rfl) b_all (by decide +kernel) (pa_cons (pe_lc (own := [("char", 1)]) (tt := tYes) rfl sc_is_name_a.nd (pi_str (pv 0)) (blkOk_by (own := [("char", 1)]) (N := n_is_name_a) (sc := defScope s_is_name) (by decide +kernel)) (fun _ _ _ _ _ => (pg_name (i := 1) sc_is_name_a.nd rfl (Or.inl rfl))) (fun _ _ _ _ _ => pts_nil) (fun _ _ _ _ _ => (pe_cmpR o_inC (pv 1) (pe_glob (v := .str "abcdefghijklmnopqrstuvwxyz") rfl g_LETTERS ⟨_, rfl⟩) (by rfl)))) pa_nil))))), ?_⟩
    obtain ⟨B0, hB0⟩ : ∃ B0 : Hp, B0 = B := ⟨_, rfl⟩
    subst hB0
    have S0 := Sit.start0 sB
    unfold m_is_name_a at hm
    refine w_sig (σ' := [(some v_0), none]) rfl ?_
    refine w_seq ?_
    refine w_ifS ?_
    obtain ⟨c3, hc4, hm⟩ := bs hm
    refine cutT (fun b H' => c3 = b ∧ ∃ (B' : Hp), Sit (Fr.mk B0 H []) B' H' [] ∧ Same B0 B') (fun kk5 => ?_) ?_
    · refine w_or ?_
      refine w_evT (EvT.not (EvT.tB (Ev.cb (EvA.cons (Ev.var rfl) (EvA.cons Ev.c EvA.nil)) (isi_aS (Rl.mono _ S0.sub hx_0))))) ?_
      refine w_ifb (fun h6 => ?_) (fun h6 => ?_)
      · rw [ifT h6] at hc4
        obtain rfl := Option.some.inj hc4
        exact kk5 _ _ ⟨rfl, _, S0, (Same.rf _)⟩
      · rw [ifF h6] at hc4
        obtain ⟨i7, hi7, hc4⟩ := bs hc4
        obtain ⟨n8, hn8, hc4⟩ := bs hc4
        refine w_evT (EvT.not (EvT.test (Ev.chain Ev.c (Ev.cb (EvA.cons (Ev.cast (Ev.var rfl) (asS_v hx_0 hi7)) EvA.nil) (len_str hn8)) Ev.c rv_I0 rv_I0))) ?_
        obtain rfl := Option.some.inj hc4
        exact kk5 _ _ ⟨rfl, _, S0, (Same.rf _)⟩
    · rintro _ H9 ⟨rfl, B12, S10, s11⟩
      refine w_ifb (fun h13 => ?_) (fun h13 => ?_)
      · rw [ifT h13] at hm
        refine w_ret ?_
        refine w_ev Ev.c ?_
        obtain rfl := Option.some.inj hm
        exact k _ _ _  S10 (show dBool.rel _ false (V.bl false) from rfl)
      · rw [ifF h13] at hm
        refine w_next ?_
        refine w_ret ?_
        refine w_cb ?_
        refine w_cons ?_
        refine w_lc ?_
        refine x_iS ?_
        refine w_ev (Ev.var rfl) ?_
        obtain ⟨i16, h17, hm⟩ := bs hm
        obtain rfl := asS_v (Rl.mono _ s11 hx_0) h17
        obtain ⟨z18, h19, hm⟩ := bs hm
        have h19l := charsM_le h19
        refine w_itSM (B := B12) h19 fun J14 it15 => ?_
        refine lcR (P := dBool) it15 S10 h19l (lcM_map (fun (a22 : Str) => (decide (a22 ∈ chars (Str.ofString "abcdefghijklmnopqrstuvwxyz")))) z18) (fun _ _ _ Z e _ => e.tr Z.sub) (fun D20 ac21 a22 o23 x24 B27 B28 H29 ma35 S30 s25 s26 h31 ho32 RR33 kk34 => ?_) ?_
        · refine w_turn ?_
          obtain ⟨rfl, h38⟩ := h31
          refine w_gname ?_
          refine w_wipe rfl ?_
          refine w_yes ?_
          refine iteT ?_
          refine w_ev (Ev.op (Ev.var rfl) Ev.c (rv_inC h38)) ?_
          obtain rfl := Option.some.inj ho32
          exact kk34 _ _ _ S30 (Same.rf _) ⟨_, rfl, (show dBool.rel _ (decide (a22 ∈ chars (Str.ofString "abcdefghijklmnopqrstuvwxyz"))) (V.bl (decide (a22 ∈ chars (Str.ofString "abcdefghijklmnopqrstuvwxyz")))) from rfl)⟩
        · intro p40 B47 H41 o42 S43 s44 n45 h46
          obtain ⟨B50, S48, s49, h51⟩ : ∃ B', Sit _ B' H41 [] ∧ Same _ B' ∧ (dList dBool).rel B' (z18.map (fun (a22 : Str) => (decide (a22 ∈ chars (Str.ofString "abcdefghijklmnopqrstuvwxyz"))))) (.ref p40) := ⟨_, S43.frz (i := 0) rfl n45, S43.frzS (i := 0) rfl, frzL h46 (S43.atB (i := 0) rfl)⟩
          refine w_nil ?_
          refine rall (Rl.mono _ S48.sub h51) _ ?_
          obtain rfl := Option.some.inj hm
          exact k _ _ _  S48 (show dBool.rel _ ((z18.map (fun (a22 : Str) => (decide (a22 ∈ chars (Str.ofString "abcdefghijklmnopqrstuvwxyz"))))).all id) (V.bl ((z18.map (fun (a22 : Str) => (decide (a22 ∈ chars (Str.ofString "abcdefghijklmnopqrstuvwxyz"))))).all id)) from rfl)
abbrev n_is_item : List Str := ["item", "many", "kind", "value"]
theorem sc_is_item : FnScope n_is_item ["item", "many"] (defScope s_is_item) := ⟨rfl, rfl, rfl, by decide +kernel, rfl, by decide +kernel, by decide +kernel⟩
def m_is_item (x_0 : (List PyData)) (x_1 : Int) : Option Bool :=
  if ((!true) || (!((decide ((1 : Int) ≤ (x_0.length : Int))) && (decide ((x_0.length : Int) ≤ (2 : Int)))))) = true then some false else if (decide ((x_0.length : Int) = (1 : Int))) = true then (atI x_0 (0 : Int)).bind fun x3 =>
  (eqD x3 (PyData.str (Str.ofString "gap"))).bind fun b7 =>
  some b7 else (un2 x_0).bind fun x8 =>
  (eqD x8.1 (PyData.str (Str.ofString "number"))).bind fun b15 =>
  if b15 = true then (m_is_number_a (x8.2)).bind fun r17 =>
  some r17 else (eqD x8.1 (PyData.str (Str.ofString "word"))).bind fun b25 =>
  if b25 = true then (m_is_name_a (x8.2)).bind fun r27 =>
  some r27 else ((eqD x8.1 (PyData.str (Str.ofString "node"))).bind fun b39 =>
  if b39 = true then (m_is_number_a (x8.2)).bind fun r41 =>
  if r41 = true then (asI x8.2).bind fun i50 =>
  some ((decide ((0 : Int) ≤ i50)) && (decide (i50 < x_1))) else some false else some false).bind fun c36 =>
  some c36
def sp_is_item (K : PySem.W.Frag) : Sp := fun vs H Q E => ∃ (B : Hp) (x_0 : (List PyData)) (v_0 : V) (x_1 : Int) (r : Bool), vs = [v_0, (V.int x_1)] ∧ Same B H ∧ (dTup K (dAny K)).rel B x_0 v_0 ∧ m_is_item x_0 x_1 = some r ∧ ∀ (v : V) (B' H' : Hp) , Sit ⟨B, H, []⟩ B' H' [] → dBool.rel B' r v → Q v H'
theorem use_is_item {K : PySem.W.Frag} {Φ : Fr} {B H : Hp} {cs : List (Addr × HO)} {Q : VK} {E : XK} {r : Bool} {x_0 : (List PyData)} {v_0 : V} {x_1 : Int} {v_1 : V} (Z : Sit Φ B H cs) (h_0 : (dTup K (dAny K)).rel B x_0 v_0) (h_1 : dInt.rel B x_1 v_1) (hm : m_is_item x_0 x_1 = some r) (k : ∀ (v : V) (B' H' : Hp) , Sit Φ B' H' cs → Same B B' → dBool.rel B' r v → Q v H') : sp_is_item K ([v_0, v_1] ++ []) H Q E := by
  cases h_1
  exact ⟨B, x_0, v_0, x_1, r, rfl, Z.sub, h_0, hm, fun v B' H'  Z' h  => k v B' H'  (Z.call0 Z') Z'.grow h ⟩
theorem ok_is_item (A0 : DefAt K mg "is_item" s_is_item ["item", "many"]) (b_isinstance : mg "isinstance" = none) (b_len : mg "len" = none) (b_tuple : mg "tuple" = none) (D_is_number_a : Does P w K mg base CX0 1 "is_number" ["value"] (sp_is_number_a K )) (D_is_name_a : Does P w K mg base CX0 1 "is_name" ["value"] (sp_is_name_a K )) : Does P w K mg base CX0 2 "is_item" ["item", "many"] (sp_is_item K ) := by
  obtain ⟨f, fd, F, gm, bd⟩ := A0
  obtain ⟨f_is_number_a, fd_is_number_a, G_is_number_a, g_is_number_a, kp_is_number_a, bd_is_number_a⟩ := D_is_number_a
  obtain ⟨f_is_name_a, fd_is_name_a, G_is_name_a, g_is_name_a, kp_is_name_a, bd_is_name_a⟩ := D_is_name_a
  refine ⟨f, fd, ?_, gm, F.kp, bd⟩
  refine F.ok sc_is_item (fun vs H Q E h => ?_) (fun cdv A outer s H vs Q E hr h => ?_)
  · obtain ⟨_, _, _, _, _, rfl, _⟩ := h
    rfl
  · obtain ⟨B, x_0, v_0, x_1, r, rfl, sB, hx_0, hm, k⟩ := h
    have hu := hu_of hr
    refine ⟨_, (pss_cons (ps_if (PW.pt (pw_or (pt_not (pt_val (pe_callB (k_isi K) (by rfl) b_isinstance (by decide +kernel) (pa_cons (pv 0) (pa_cons (pe_bltn (v := .ty "tuple") (by rfl) b_tuple (by decide +kernel) rfl) pa_nil))))) (pw_or1 (pt_not (pt_chain op_le op_le pe_int (pe_callB (k_len K) (by rfl) b_len (by decide +kernel) (pa_cons (pv 0) pa_nil)) pe_int))))) (pss_one (ps_ret pe_bl)) pss_nil)
  (pss_cons (ps_if (pt_cmpR op_eq (pe_callB (k_len K) (by rfl) b_len (by decide +kernel) (pa_cons (pv 0) pa_nil)) pe_int (nomark _)) (pss_one (ps_ret (pe_cmpR (k_eqD K hr.units) (pe_ix (k_ixT K) (pv 0) pe_int (fun _ _ => rfl)) pe_str (nomark _)))) pss_nil)
  (pss_cons (ps_asg (pv 0) (k_gT K (n := 2) (by rfl) (pgs_cons (pg_name (i := 2) sc_is_item.nd rfl (Or.inl rfl)) (pgs_cons (pg_name (i := 3) sc_is_item.nd rfl (Or.inl rfl)) pgs_nil))))
  (pss_cons (ps_if (pt_cmpR (k_eqD K hr.units) (pv 2) pe_str (nomark _)) (pss_one (ps_ret (pe_call G_is_number_a (hr.mono (by decide)) rfl g_is_number_a kp_is_number_a bd_is_number_a .nil pass0 (pa_cons (pv 3) pa_nil)))) pss_nil)
  (pss_cons (ps_if (pt_cmpR (k_eqD K hr.units) (pv 2) pe_str (nomark _)) (pss_one (ps_ret (pe_call G_is_name_a (hr.mono (by decide)) rfl g_is_name_a kp_is_name_a bd_is_name_a .nil pass0 (pa_cons (pv 3) pa_nil)))) pss_nil)
  (pss_one (ps_ret (pe_and (pe_cmpR (k_eqD K hr.units) (pv 2) pe_str (nomark _)) (pe_and (pe_call G_is_number_a (hr.mono (by decide)) rfl g_is_number_a kp_is_number_a bd_is_number_a .nil pass0 (pa_cons (pv 3) pa_nil)) (pe_one (pe_chain op_le op_lt pe_int (pv 3) (pv 1)))))))))))), ?_⟩
    obtain ⟨B0, hB0⟩ : ∃ B0 : Hp, B0 = B := ⟨_, rfl⟩
    subst hB0
    have S0 := Sit.start0 sB
    unfold m_is_item at hm
    refine w_sig (σ' := [(some v_0), (some (V.int x_1)), none, none]) rfl ?_
    refine w_seq ?_
    refine w_ifS ?_
    refine w_evT (EvT.or (EvT.not (EvT.tB (Ev.cb (EvA.cons (Ev.var rfl) (EvA.cons Ev.c EvA.nil)) (isi_xT (b := true) hx_0 S0.sub (kit_ty (r := true) (by decide +kernel)))))) fun _ => (EvT.not (EvT.test (Ev.chain Ev.c (Ev.cb (EvA.cons (Ev.var rfl) EvA.nil) (rlen_q (sqT (K := K) hx_0 S0.sub))) Ev.c rv_I0 rv_I0)))) ?_
    refine w_ifb (fun h1 => ?_) (fun h1 => ?_)
    · rw [ifT h1] at hm
      refine w_ret ?_
      refine w_ev Ev.c ?_
      obtain rfl := Option.some.inj hm
      exact k _ _ _  S0 (show dBool.rel _ false (V.bl false) from rfl)
    · rw [ifF h1] at hm
      refine w_next ?_
      refine w_seq ?_
      refine w_ifS ?_
      refine w_evT (EvT.test (Ev.op (Ev.cb (EvA.cons (Ev.var rfl) EvA.nil) (rlen_q (sqT (K := K) hx_0 S0.sub))) Ev.c rv_eqI)) ?_
      refine w_ifb (fun h2 => ?_) (fun h2 => ?_)
      · rw [ifT h2] at hm
        refine w_ret ?_
        obtain ⟨x3, hx3, hm⟩ := bs hm
        obtain ⟨w5, h6, r4⟩ := ix_T (K := K) hx_0 hx3
        obtain ⟨b7, hb7, hm⟩ := bs hm
        refine w_ev (Ev.op (Ev.op (Ev.var rfl) Ev.c (r4 _ S0.sub)) Ev.c (rv_eqD drAny drStr (Rl.mono _ S0.sub h6) (Rl.mono _ S0.sub (show dStr.rel _ (Str.ofString "gap") (V.str (Str.ofString "gap")) from rfl)) hb7)) ?_
        obtain rfl := Option.some.inj hm
        exact k _ _ _  S0 (show dBool.rel _ b7 (V.bl b7) from rfl)
      · rw [ifF h2] at hm
        refine w_next ?_
        refine w_seq ?_
        refine w_asg ?_
        refine w_ev (Ev.var rfl) ?_
        obtain ⟨x8, h9, hm⟩ := bs hm
        obtain ⟨w10, w11, h12, h13, hu14⟩ := un_T2 (K := K) hx_0 h9
        refine w_gun (hu14 _ S0.sub) rfl ?_
        refine w_gcons ?_
        refine w_gname ?_
        refine w_gcons ?_
        refine w_gname ?_
        refine w_gnil ?_
        refine w_nx (σ' := [(some v_0), (some (V.int x_1)), (some w10), (some w11)]) rfl ?_
        refine w_seq ?_
        refine w_ifS ?_
        obtain ⟨b15, hb15, hm⟩ := bs hm
        refine w_evT (EvT.test (Ev.op (Ev.var rfl) Ev.c (rv_eqD drAny drStr (Rl.mono _ S0.sub h12) (Rl.mono _ S0.sub (show dStr.rel _ (Str.ofString "number") (V.str (Str.ofString "number")) from rfl)) hb15))) ?_
        refine w_ifb (fun h16 => ?_) (fun h16 => ?_)
        · rw [ifT h16] at hm
          refine w_ret ?_
          refine w_call ?_
          refine w_evA (EvA.cons (Ev.var rfl) EvA.nil) ?_
          obtain ⟨r17, h18, hm⟩ := bs hm
          refine use_is_number_a S0 h13 h18 fun v19 B23 H20  (S21 : Sit _ B23 H20 []) s22 h24  => ?_
          cases h24
          obtain rfl := Option.some.inj hm
          exact k _ _ _  S21 (show dBool.rel _ r17 (V.bl r17) from rfl)
        · rw [ifF h16] at hm
          refine w_next ?_
          refine w_seq ?_
          refine w_ifS ?_
          obtain ⟨b25, hb25, hm⟩ := bs hm
          refine w_evT (EvT.test (Ev.op (Ev.var rfl) Ev.c (rv_eqD drAny drStr (Rl.mono _ S0.sub h12) (Rl.mono _ S0.sub (show dStr.rel _ (Str.ofString "word") (V.str (Str.ofString "word")) from rfl)) hb25))) ?_
          refine w_ifb (fun h26 => ?_) (fun h26 => ?_)
          · rw [ifT h26] at hm
            refine w_ret ?_
            refine w_call ?_
            refine w_evA (EvA.cons (Ev.var rfl) EvA.nil) ?_
            obtain ⟨r27, h28, hm⟩ := bs hm
            refine use_is_name_a S0 h13 h28 fun v29 B33 H30  (S31 : Sit _ B33 H30 []) s32 h34  => ?_
            cases h34
            obtain rfl := Option.some.inj hm
            exact k _ _ _  S31 (show dBool.rel _ r27 (V.bl r27) from rfl)
          · rw [ifF h26] at hm
            refine w_next ?_
            refine w_ret ?_
            obtain ⟨c36, hc37, hm⟩ := bs hm
            refine cutE (fun v H' => v = V.bl c36 ∧ ∃ (B' : Hp), Sit (Fr.mk B0 H []) B' H' [] ∧ Same B0 B') (fun kk38 => ?_) ?_
            · refine w_andV ?_
              obtain ⟨b39, hb39, hc37⟩ := bs hc37
              refine w_ev (Ev.op (Ev.var rfl) Ev.c (rv_eqD drAny drStr (Rl.mono _ S0.sub h12) (Rl.mono _ S0.sub (show dStr.rel _ (Str.ofString "node") (V.str (Str.ofString "node")) from rfl)) hb39)) ?_
              refine w_bl ?_
              refine w_ifb (fun h40 => ?_) (fun h40 => ?_)
              · rw [ifT h40] at hc37
                refine w_andV ?_
                refine w_call ?_
                refine w_evA (EvA.cons (Ev.var rfl) EvA.nil) ?_
                obtain ⟨r41, h42, hc37⟩ := bs hc37
                refine use_is_number_a S0 h13 h42 fun v43 B47 H44  (S45 : Sit _ B47 H44 []) s46 h48  => ?_
                cases h48
                refine w_bl ?_
                refine w_ifb (fun h49 => ?_) (fun h49 => ?_)
                · rw [ifT h49] at hc37
                  obtain ⟨i50, hi50, hc37⟩ := bs hc37
                  refine w_ev (Ev.chain Ev.c (Ev.cast (Ev.var rfl) (asI_v (Rl.mono _ s46 h13) hi50)) (Ev.var rfl) rv_I0 rv_I0) ?_
                  obtain rfl := Option.some.inj hc37
                  exact kk38 _ _ ⟨rfl, _, S45, s46⟩
                · rw [ifF h49] at hc37
                  obtain rfl := Option.some.inj hc37
                  exact kk38 _ _ ⟨rfl, _, S45, s46⟩
              · rw [ifF h40] at hc37
                obtain rfl := Option.some.inj hc37
                exact kk38 _ _ ⟨rfl, _, S0, (Same.rf _)⟩
            · rintro _ H51 ⟨rfl, B54, S52, s53⟩
              obtain rfl := Option.some.inj hm
              exact k _ _ _  S52 (show dBool.rel _ c36 (V.bl c36) from rfl)
end
end Mm
namespace Mm
open PySem L2 Mf
section
variable {P : Program} {w : World} {K : PySem.W.Frag} {mg : Str → Option Value} {base : Heap} {cx : Nat → Addr}
abbrev n_check_rows : List Str := ["rows", "number", "row", "item"]
theorem sc_check_rows : FnScope n_check_rows ["rows"] (defScope s_check_rows) := ⟨rfl, rfl, rfl, by decide +kernel, rfl, by decide +kernel, by decide +kernel⟩
def m_check_rows (x_0 : (List (List (List PyData)))) : Option Unit :=
  if (decide ((x_0.length : Int) = (0 : Int))) = true then none else (forL (fun (a7 : (Int × (List (List PyData)))) (st8 : Unit) => if ((decide ((40 : Int) < a7.1)) || (decide ((12 : Int) < (a7.2.length : Int)))) = true then none else (lcM (fun (a40 : (List PyData)) => (m_is_item (a40) ((x_0.length : Int))).bind fun r55 =>
  some (some r55)) a7.2).bind fun ys64 =>
  if (!(ys64.all id)) = true then none else some ()) (enumM 1 x_0) ()).bind fun st85 =>
  some ()
def sp_check_rows (K : PySem.W.Frag) : Sp := fun vs H Q E => ∃ (B : Hp) (x_0 : (List (List (List PyData)))) (v_0 : V) (r : Unit), vs = [v_0] ∧ Same B H ∧ (dList (dList (dTup K (dAny K)))).rel B x_0 v_0 ∧ m_check_rows x_0 = some r ∧ ∀ (v : V) (B' H' : Hp) , Sit ⟨B, H, []⟩ B' H' [] → dNone.rel B' r v → Q v H'
theorem use_check_rows {K : PySem.W.Frag} {Φ : Fr} {B H : Hp} {cs : List (Addr × HO)} {Q : VK} {E : XK} {r : Unit} {x_0 : (List (List (List PyData)))} {v_0 : V} (Z : Sit Φ B H cs) (h_0 : (dList (dList (dTup K (dAny K)))).rel B x_0 v_0) (hm : m_check_rows x_0 = some r) (k : ∀ (v : V) (B' H' : Hp) , Sit Φ B' H' cs → Same B B' → dNone.rel B' r v → Q v H') : sp_check_rows K ([v_0] ++ []) H Q E := by
  exact ⟨B, x_0, v_0, r, rfl, Z.sub, h_0, hm, fun v B' H'  Z' h  => k v B' H'  (Z.call0 Z') Z'.grow h ⟩
theorem ok_check_rows (A0 : DefAt K mg "check_rows" s_check_rows ["rows"]) (b_all : mg "all" = none) (b_enumerate : mg "enumerate" = none) (b_len : mg "len" = none) (e_MOST_ITEMS : ∃ t, mg "MOST_ITEMS" = some (.int 12 t)) (e_MOST_ROWS : ∃ t, mg "MOST_ROWS" = some (.int 40 t)) (D_is_item : Does P w K mg base CX0 2 "is_item" ["item", "many"] (sp_is_item K )) : Does P w K mg base CX0 3 "check_rows" ["rows"] (sp_check_rows K ) := by
  obtain ⟨f, fd, F, gm, bd⟩ := A0
  obtain ⟨t_MOST_ITEMS, g_MOST_ITEMS⟩ := e_MOST_ITEMS
  obtain ⟨t_MOST_ROWS, g_MOST_ROWS⟩ := e_MOST_ROWS
  obtain ⟨f_is_item, fd_is_item, G_is_item, g_is_item, kp_is_item, bd_is_item⟩ := D_is_item
  refine ⟨f, fd, ?_, gm, F.kp, bd⟩
  refine F.ok sc_check_rows (fun vs H Q E h => ?_) (fun cdv A outer s H vs Q E hr h => ?_)
  · obtain ⟨_, _, _, _, rfl, _⟩ := h
    rfl
  · obtain ⟨B, x_0, v_0, r, rfl, sB, hx_0, hm, k⟩ := h
    have hu := hu_of hr
    refine ⟨_, (pss_cons (ps_if (pt_cmpR op_eq (pe_callB (k_len K) (by rfl) b_len (by decide +kernel) (pa_cons (pv 0) pa_nil)) pe_int (nomark _)) (pss_one ps_dead) pss_nil)
  (pss_one (ps_for PassesOwn.never rfl (k_iES K (by rfl) b_enumerate (pa_cons (pv 0) pa_nil) (pk_cons pe_int pk_nil)) (k_gT K (n := 2) (by rfl) (pgs_cons (pg_name (i := 1) sc_check_rows.nd rfl (Or.inl rfl)) (pgs_cons (pg_name (i := 2) sc_check_rows.nd rfl (Or.inl rfl)) pgs_nil)))
  (pss_cons (ps_if (PW.pt (pw_or (pt_cmpR op_gt (pv 1) (pe_glob (v := .int 40) rfl g_MOST_ROWS ⟨_, rfl⟩) (nomark _)) (pw_or1 (pt_cmpR op_gt (pe_callB (k_len K) (by rfl) b_len (by decide +kernel) (pa_cons (pv 2) pa_nil)) (pe_glob (v := .int 12) rfl g_MOST_ITEMS ⟨_, rfl⟩) (nomark _))))) (pss_one ps_dead) pss_nil)
  (pss_one (ps_if (pt_not (pt_val (pe_callB (k_all K rfl) (by rfl) b_all (by decide +kernel) (pa_cons (pe_lc (own := [("item", 3)]) (tt := tYes) rfl sc_check_rows.nd (k_iL K (pv 2)) (blkOk_by (own := [("item", 3)]) (N := n_check_rows) (sc := defScope s_check_rows) (by decide +kernel)) (fun _ _ _ _ _ => (pg_name (i := 3) sc_check_rows.nd rfl (Or.inl rfl))) (fun _ _ _ _ _ => pts_nil) (fun _ _ _ _ _ => (pe_call G_is_item (hr.mono (by decide)) rfl g_is_item kp_is_item bd_is_item .nil pass0 (pa_cons (pv 3) (pa_cons (pe_callB (k_len K) (by rfl) b_len (by decide +kernel) (pa_cons (pv 0) pa_nil)) pa_nil))))) pa_nil)))) (pss_one ps_dead) pss_nil)))))), ?_⟩
    obtain ⟨B0, hB0⟩ : ∃ B0 : Hp, B0 = B := ⟨_, rfl⟩
    subst hB0
    have S0 := Sit.start0 sB
    unfold m_check_rows at hm
    refine w_sig (σ' := [(some v_0), none, none, none]) rfl ?_
    refine w_seq ?_
    refine w_ifS ?_
    refine w_evT (EvT.test (Ev.op (Ev.cb (EvA.cons (Ev.var rfl) EvA.nil) (rlen_q (sqL (K := K) hx_0 S0.sub))) Ev.c rv_eqI)) ?_
    refine w_ifb (fun h1 => ?_) (fun h1 => ?_)
    · rw [ifT h1] at hm
      cases hm
    · rw [ifF h1] at hm
      refine w_next ?_
      refine w_for ?_
      refine x_iES ?_
      refine w_evA (EvA.cons (Ev.var rfl) EvA.nil) ?_
      refine w_evA (EvA.cons Ev.c EvA.nil) ?_
      refine w_itES (by decide) ((subLQ subR) hx_0) S0.sub fun J2 it3 => ?_
      obtain ⟨st85, hl88, hm⟩ := bs hm
      refine forS (s0 := ()) it3 S0 (fun (st4 : Unit) b σ' cs' => ∃ (e5 : Option V) (e6 : Option V), σ' = [(some v_0), e5, e6, none] ∧ cs' = [] ∧ True) ⟨_, _, rfl, rfl, trivial⟩ hl88 (fun _ _ _ _ _ Z e _ => e.tr Z.sub) (fun a7 st8 o9 x10 B20 B23 H11 _ cs12 ma13 S14 s15 s16 hI17 h18 hf19 => ?_) ?_
      · obtain ⟨e21, e22, rfl, rfl, -⟩ := hI17
        obtain ⟨w30, w32, h31, h33, hu34⟩ := un_p (K := K) h18
        refine w_gun (hu34 _ S14.sub) rfl ?_
        refine w_gcons ?_
        cases h31
        refine w_gname ?_
        refine w_gcons ?_
        refine w_gname ?_
        refine w_gnil ?_
        refine w_nx (σ' := [(some v_0), (some (V.int a7.1)), (some w32), none]) rfl ?_
        refine w_seq ?_
        refine w_ifS ?_
        refine w_evT (EvT.or (EvT.test (Ev.op (Ev.var rfl) Ev.c rv_I0)) fun _ => (EvT.test (Ev.op (Ev.cb (EvA.cons (Ev.var rfl) EvA.nil) (rlen_q (sqL (K := K) h33 S14.sub))) Ev.c rv_I0))) ?_
        refine w_ifb (fun h35 => ?_) (fun h35 => ?_)
        · rw [ifT h35] at hf19
          cases hf19
        · rw [ifF h35] at hf19
          refine w_next ?_
          refine w_ifS ?_
          refine w_not ?_
          refine w_tb ?_
          refine w_cb ?_
          refine w_cons ?_
          refine w_lc ?_
          refine x_iL ?_
          refine w_ev (Ev.var rfl) ?_
          refine w_itL h33 S14.sub fun J36 it37 => ?_
          obtain ⟨ys64, h65, hf19⟩ := bs hf19
          refine lcR (P := dBool) it37 S14 (dList.le h33) h65 (fun _ _ _ Z e _ => e.tr Z.sub) (fun D38 ac39 a40 o41 x42 B45 B46 H47 ma53 S48 s43 s44 h49 ho50 RR51 kk52 => ?_) ?_
          · refine w_turn ?_
            refine w_gname ?_
            refine w_wipe rfl ?_
            refine w_yes ?_
            refine iteT ?_
            refine w_call ?_
            refine w_evA (EvA.cons (Ev.var rfl) (EvA.cons (Ev.cb (EvA.cons (Ev.var rfl) EvA.nil) (rlen_q (sqL (K := K) (Rl.mono _ (s15.tr (s16.tr (s43.tr s44))) hx_0) S48.sub))) EvA.nil)) ?_
            obtain ⟨r55, h56, ho50⟩ := bs ho50
            refine use_is_item S48 h49 (show dInt.rel _ (x_0.length : Int) (V.int (x_0.length : Int)) from rfl) h56 fun v57 B61 H58  (S59 : Sit _ B61 H58 [(D38, (.lst ac39))]) s60 h62  => ?_
            cases h62
            obtain rfl := Option.some.inj ho50
            exact kk52 _ _ _ S59 s60 ⟨_, rfl, (show dBool.rel _ r55 (V.bl r55) from rfl)⟩
          · intro p66 B73 H67 o68 S69 s70 n71 h72
            obtain ⟨B76, S74, s75, h77⟩ : ∃ B', Sit _ B' H67 [] ∧ Same _ B' ∧ (dList dBool).rel B' ys64 (.ref p66) := ⟨_, S69.frz (i := 0) rfl n71, S69.frzS (i := 0) rfl, frzL h72 (S69.atB (i := 0) rfl)⟩
            refine w_nil ?_
            refine rall (Rl.mono _ S74.sub h77) _ ?_
            refine w_bl ?_
            refine w_ifb (fun h78 => ?_) (fun h78 => ?_)
            · rw [ifT h78] at hf19
              cases hf19
            · rw [ifF h78] at hf19
              refine w_next ?_
              obtain rfl := Option.some.inj hf19
              exact ⟨_, _, S74, (s15.tr (s16.tr (s70.tr s75))), _, _, rfl, rfl, trivial⟩
      · intro B84 H79 _ cs80 S81 s82 hI83
        obtain ⟨e86, e87, rfl, rfl, -⟩ := hI83
        obtain rfl := Option.some.inj hm
        exact k _ _ _  S81 (show dNone.rel _ () V.non from rfl)
abbrev n_row_shape : List Str := ["row", "classes", "item"]
theorem sc_row_shape : FnScope n_row_shape ["row", "classes"] (defScope s_row_shape) := ⟨rfl, rfl, rfl, by decide +kernel, rfl, by decide +kernel, by decide +kernel⟩
def m_row_shape (x_0 : (List (List PyData))) (x_1 : (List Int)) : Option (List (List PyData)) :=
  (lcM (fun (a5 : (List PyData)) => ((atI a5 (0 : Int)).bind fun x47 =>
  (eqD x47 (PyData.str (Str.ofString "node"))).bind fun b51 =>
  if b51 = true then (atI a5 (1 : Int)).bind fun x53 =>
  (asI x53).bind fun i57 =>
  (atI x_1 i57).bind fun x58 =>
  some ([(PyData.str (Str.ofString "node")), (PyData.int x58)] : (List PyData)) else some a5).bind fun j25 =>
  some (some j25)) x_0).bind fun ys73 =>
  some ys73
def sp_row_shape (K : PySem.W.Frag) : Sp := fun vs H Q E => ∃ (B : Hp) (x_0 : (List (List PyData))) (v_0 : V) (x_1 : (List Int)) (v_1 : V) (r : (List (List PyData))), vs = [v_0, v_1] ∧ Same B H ∧ (dList (dTup K (dAny K))).rel B x_0 v_0 ∧ (dList dInt).rel B x_1 v_1 ∧ m_row_shape x_0 x_1 = some r ∧ ∀ (v : V) (B' H' : Hp) , Sit ⟨B, H, []⟩ B' H' [] → (dTup K (dTup K (dAny K))).rel B' r v → Q v H'
theorem use_row_shape {K : PySem.W.Frag} {Φ : Fr} {B H : Hp} {cs : List (Addr × HO)} {Q : VK} {E : XK} {r : (List (List PyData))} {x_0 : (List (List PyData))} {v_0 : V} {x_1 : (List Int)} {v_1 : V} (Z : Sit Φ B H cs) (h_0 : (dList (dTup K (dAny K))).rel B x_0 v_0) (h_1 : (dList dInt).rel B x_1 v_1) (hm : m_row_shape x_0 x_1 = some r) (k : ∀ (v : V) (B' H' : Hp) , Sit Φ B' H' cs → Same B B' → (dTup K (dTup K (dAny K))).rel B' r v → Q v H') : sp_row_shape K ([v_0, v_1] ++ []) H Q E := by
  exact ⟨B, x_0, v_0, x_1, v_1, r, rfl, Z.sub, h_0, h_1, hm, fun v B' H'  Z' h  => k v B' H'  (Z.call0 Z') Z'.grow h ⟩
theorem ok_row_shape (A0 : DefAt K mg "row_shape" s_row_shape ["row", "classes"]) (b_tuple : mg "tuple" = none) : Does P w K mg base CX0 1 "row_shape" ["row", "classes"] (sp_row_shape K ) := by
  obtain ⟨f, fd, F, gm, bd⟩ := A0
  refine ⟨f, fd, ?_, gm, F.kp, bd⟩
  refine F.ok sc_row_shape (fun vs H Q E h => ?_) (fun cdv A outer s H vs Q E hr h => ?_)
  · obtain ⟨_, _, _, _, _, _, rfl, _⟩ := h
    rfl
  · obtain ⟨B, x_0, v_0, x_1, v_1, r, rfl, sB, hx_0, hx_1, hm, k⟩ := h
    have hu := hu_of hr
    refine ⟨_, (pss_one (ps_ret (pe_callTy (k_tupL K) (by rfl) b_tuple (by decide +kernel) (pa_cons (pe_lc (own := [("item", 2)]) (tt := tYes) rfl sc_row_shape.nd (k_iL K (pv 0)) (blkOk_by (own := [("item", 2)]) (N := n_row_shape) (sc := defScope s_row_shape) (by decide +kernel)) (fun _ _ _ _ _ => (pg_name (i := 2) sc_row_shape.nd rfl (Or.inl rfl))) (fun _ _ _ _ _ => pts_nil) (fun _ _ _ _ _ => (pe_ifExp (pt_cmpR (k_eqD K hr.units) (pe_ix (k_ixT K) (pv 2) pe_int (fun _ _ => rfl)) pe_str (nomark _)) (pe_tup (pa_cons pe_str (pa_cons (pe_ix (k_ixL K) (pv 1) (pe_ix (k_ixT K) (pv 2) pe_int (fun _ _ => rfl)) (fun _ _ => rfl)) pa_nil))) (pv 2)))) pa_nil)))), ?_⟩
    obtain ⟨B0, hB0⟩ : ∃ B0 : Hp, B0 = B := ⟨_, rfl⟩
    subst hB0
    have S0 := Sit.start0 sB
    unfold m_row_shape at hm
    refine w_sig (σ' := [(some v_0), (some v_1), none]) rfl ?_
    refine w_ret ?_
    refine w_cb ?_
    refine w_cons ?_
    refine w_lc ?_
    refine x_iL ?_
    refine w_ev (Ev.var rfl) ?_
    refine w_itL hx_0 S0.sub fun J1 it2 => ?_
    obtain ⟨ys73, h74, hm⟩ := bs hm
    refine lcR (P := (dTup K (dAny K))) it2 S0 (dList.le hx_0) h74 (fun _ _ _ Z e _ => e.tr Z.sub) (fun D3 ac4 a5 o6 x7 B10 B11 H12 ma18 S13 s8 s9 h14 ho15 RR16 kk17 => ?_) ?_
    · refine w_turn ?_
      refine w_gname ?_
      refine w_wipe rfl ?_
      refine w_yes ?_
      refine iteT ?_
      obtain ⟨j25, hj26, ho15⟩ := bs ho15
      refine cutE (fun v H' => ∃ (B' : Hp), Sit (Fr.mk B0 H []) B' H' [(D3, (.lst ac4))] ∧ Same B11 B' ∧ (dTup K (dAny K)).rel B' j25 v) (fun kk27 => ?_) ?_
      · refine w_ifE ?_
        obtain ⟨x47, hx47, hj26⟩ := bs hj26
        obtain ⟨w49, h50, r48⟩ := ix_T (K := K) h14 hx47
        obtain ⟨b51, hb51, hj26⟩ := bs hj26
        refine w_evT (EvT.test (Ev.op (Ev.op (Ev.var rfl) Ev.c (r48 _ S13.sub)) Ev.c (rv_eqD drAny drStr (Rl.mono _ S13.sub h50) (Rl.mono _ S13.sub (show dStr.rel _ (Str.ofString "node") (V.str (Str.ofString "node")) from rfl)) hb51))) ?_
        refine w_ifb (fun h52 => ?_) (fun h52 => ?_)
        · rw [ifT h52] at hj26
          refine x_tup ?_
          obtain ⟨x53, hx53, hj26⟩ := bs hj26
          obtain ⟨w55, h56, r54⟩ := ix_T (K := K) h14 hx53
          obtain ⟨i57, hi57, hj26⟩ := bs hj26
          obtain ⟨x58, hx58, hj26⟩ := bs hj26
          obtain ⟨_, rfl, r59⟩ := ix_L (K := K) (Rl.mono _ (s8.tr s9) hx_1) hx58
          refine w_evA (EvA.cons Ev.c (EvA.cons (Ev.op (Ev.var rfl) (Ev.cast (Ev.op (Ev.var rfl) Ev.c (r54 _ S13.sub)) (asI_v h56 hi57)) (r59 _ S13.sub)) EvA.nil)) ?_
          refine mk2 (K := K)   S13 (show dStr.rel _ (Str.ofString "node") (V.str (Str.ofString "node")) from rfl) (show dInt.rel _ x58 (V.int x58) from rfl) fun v60 B65 H61 S62 s63 h64 => ?_
          obtain rfl := Option.some.inj hj26
          exact kk27 _ _ ⟨_, S62, s63, (show (dTup K (dAny K)).rel _ ([(PyData.str (Str.ofString "node")), (PyData.int x58)] : (List PyData)) v60 from (mp2 (mpA drStr) (mpA drInt)) h64)⟩
        · rw [ifF h52] at hj26
          refine w_ev (Ev.var rfl) ?_
          obtain rfl := Option.some.inj hj26
          exact kk27 _ _ ⟨_, S13, (Same.rf _), h14⟩
      · rintro v69 H66 ⟨B71, S67, s68, h70⟩
        obtain rfl := Option.some.inj ho15
        exact kk17 _ _ _ S67 s68 ⟨_, rfl, h70⟩
    · intro p75 B82 H76 o77 S78 s79 n80 h81
      obtain ⟨B85, S83, s84, h86⟩ : ∃ B', Sit _ B' H76 [] ∧ Same _ B' ∧ (dList (dTup K (dAny K))).rel B' ys73 (.ref p75) := ⟨_, S78.frz (i := 0) rfl n80, S78.frzS (i := 0) rfl, frzL h81 (S78.atB (i := 0) rfl)⟩
      refine w_nil ?_
      refine q_tupL (K := K) S83 h86 fun v87 B92 H88 S89 s90 h91 => ?_
      obtain rfl := Option.some.inj hm
      exact k _ _ _  S89 h91
abbrev n_classes_of : List Str := ["table", "classes", "many", "shapes", "different", "shape", "row"]
theorem sc_classes_of : FnScope n_classes_of ["table"] (defScope s_classes_of) := ⟨rfl, rfl, rfl, by decide +kernel, rfl, by decide +kernel, by decide +kernel⟩
def m_classes_of (x_0 : (List (List (List PyData)))) : Option (List Int) :=
  (repM ([(0 : Int)] : (List Int)) (x_0.length : Int)).bind fun x7 =>
  (whC (S := ((List Int) × Int)) (R := (List Int)) (fun (st24 : ((List Int) × Int)) => if true = true then (lcM (fun (a55 : (List (List PyData))) => (m_row_shape (a55) (st24.1)).bind fun r70 =>
  some (some r70)) x_0).bind fun ys79 =>
  (forL (fun (a105 : (List (List PyData))) (st106 : (List (List (List PyData)))) => (inD ((fun xs => PyData.tuple (xs.map (fun xs => PyData.tuple (xs.map id)))) (a105)) ((st106).map (fun xs => PyData.tuple (xs.map (fun xs => PyData.tuple (xs.map id)))))).bind fun b129 =>
  if (!b129) = true then (pushM st106 a105).bind fun x131 =>
  some x131 else some st106) ys79 ([] : (List (List (List PyData))))).bind fun st143 =>
  (lcM (fun (a151 : (List (List PyData))) => (ixD ((fun xs => PyData.tuple (xs.map (fun xs => PyData.tuple (xs.map id)))) (a151)) (st143.map (fun xs => PyData.tuple (xs.map (fun xs => PyData.tuple (xs.map id)))))).bind fun j166 =>
  some (some j166)) ys79).bind fun ys169 =>
  if (decide ((st143.length : Int) = st24.2)) = true then some (.ret ys169) else some (.nx (ys169, (st143.length : Int))) else none) FUEL (x7, (0 : Int))).bind fun c49 =>
  c49.on (fun st191 => none) (fun r => some r)
def sp_classes_of (K : PySem.W.Frag) : Sp := fun vs H Q E => ∃ (B : Hp) (x_0 : (List (List (List PyData)))) (v_0 : V) (r : (List Int)), vs = [v_0] ∧ Same B H ∧ (dList (dList (dTup K (dAny K)))).rel B x_0 v_0 ∧ m_classes_of x_0 = some r ∧ ∀ (v : V) (B' H' : Hp) , Sit ⟨B, H, []⟩ B' H' [] → (dList dInt).rel B' r v → Q v H'
theorem use_classes_of {K : PySem.W.Frag} {Φ : Fr} {B H : Hp} {cs : List (Addr × HO)} {Q : VK} {E : XK} {r : (List Int)} {x_0 : (List (List (List PyData)))} {v_0 : V} (Z : Sit Φ B H cs) (h_0 : (dList (dList (dTup K (dAny K)))).rel B x_0 v_0) (hm : m_classes_of x_0 = some r) (k : ∀ (v : V) (B' H' : Hp) , Sit Φ B' H' cs → Same B B' → (dList dInt).rel B' r v → Q v H') : sp_classes_of K ([v_0] ++ []) H Q E := by
  exact ⟨B, x_0, v_0, r, rfl, Z.sub, h_0, hm, fun v B' H'  Z' h  => k v B' H'  (Z.call0 Z') Z'.grow h ⟩
theorem ok_classes_of (A0 : DefAt K mg "classes_of" s_classes_of ["table"]) (b_len : mg "len" = none) (D_row_shape : Does P w K mg base CX0 1 "row_shape" ["row", "classes"] (sp_row_shape K )) : Does P w K mg base CX0 2 "classes_of" ["table"] (sp_classes_of K ) := by
  obtain ⟨f, fd, F, gm, bd⟩ := A0
  obtain ⟨f_row_shape, fd_row_shape, G_row_shape, g_row_shape, kp_row_shape, bd_row_shape⟩ := D_row_shape
  refine ⟨f, fd, ?_, gm, F.kp, bd⟩
  refine F.ok sc_classes_of (fun vs H Q E h => ?_) (fun cdv A outer s H vs Q E hr h => ?_)
  · obtain ⟨_, _, _, _, rfl, _⟩ := h
    rfl
  · obtain ⟨B, x_0, v_0, r, rfl, sB, hx_0, hm, k⟩ := h
    have hu := hu_of hr
    refine ⟨_, (pss_cons (ps_set (i := 1) sc_classes_of.nd rfl (Or.inr rfl) (pe_op op_rep (pe_lst (pa_cons pe_int pa_nil)) (pe_callB (k_len K) (by rfl) b_len (by decide +kernel) (pa_cons (pv 0) pa_nil))))
  (pss_cons (ps_set (i := 2) sc_classes_of.nd rfl (Or.inl rfl) pe_int)
  (pss_one (ps_while PassesOwn.never (pt_val pe_bl)
  (pss_cons (ps_setLc (i := 3) (own := [("row", 6)]) (tt := tYes) rfl sc_classes_of.nd rfl rfl (sw_true rfl rfl rfl (by decide +kernel)) (k_iL K (pv 0)) (blkOk_by (own := [("row", 6)]) (N := n_classes_of) (sc := defScope s_classes_of) (by decide +kernel)) (fun _ _ _ _ _ => (pg_name (i := 6) sc_classes_of.nd rfl (Or.inl rfl))) (fun _ _ _ _ _ => pts_nil) (fun _ _ _ _ _ => (pe_call G_row_shape (hr.mono (by decide)) rfl g_row_shape kp_row_shape bd_row_shape .nil pass0 (pa_cons (pv 6) (pa_cons (pv 1) pa_nil)))))
  (pss_cons (ps_set (i := 4) sc_classes_of.nd rfl (Or.inr rfl) (pe_lst pa_nil))
  (pss_cons (ps_for PassesOwn.never rfl (k_iL K (pv 3)) (pg_name (i := 5) sc_classes_of.nd rfl (Or.inl rfl))
  (pss_one (ps_if (pt_cmpR (k_niD K (u65 hr)) (pv 5) (pv 4) (by rfl)) (pss_one (ps_expr (k_bm K PySem.F.plainAttrs_list PySem.F.slot_list_append PySem.F.type_list_append mt_append (pv 4) (pa_cons (pv 5) pa_nil)))) pss_nil)))
  (pss_cons (ps_set (i := 1) sc_classes_of.nd rfl (Or.inr rfl) (pe_lc (own := [("shape", 5)]) (tt := tYes) rfl sc_classes_of.nd (k_iL K (pv 3)) (blkOk_by (own := [("shape", 5)]) (N := n_classes_of) (sc := defScope s_classes_of) (by decide +kernel)) (fun _ _ _ _ _ => (pg_name (i := 5) sc_classes_of.nd rfl (Or.inl rfl))) (fun _ _ _ _ _ => pts_nil) (fun _ _ _ _ _ => (k_bm K PySem.F.plainAttrs_list PySem.F.slot_list_index PySem.F.type_list_index (k_indexD K (u65 hr)) (pv 4) (pa_cons (pv 5) pa_nil)))))
  (pss_cons (ps_if (pt_cmpR op_eq (pe_callB (k_len K) (by rfl) b_len (by decide +kernel) (pa_cons (pv 4) pa_nil)) (pv 2) (nomark _)) (pss_one (ps_ret (pv 1))) pss_nil)
  (pss_one (ps_set (i := 2) sc_classes_of.nd rfl (Or.inl rfl) (pe_callB (k_len K) (by rfl) b_len (by decide +kernel) (pa_cons (pv 4) pa_nil))))))))))))), ?_⟩
    obtain ⟨B0, hB0⟩ : ∃ B0 : Hp, B0 = B := ⟨_, rfl⟩
    subst hB0
    have S0 := Sit.start0 sB
    unfold m_classes_of at hm
    refine w_sig (σ' := [(some v_0), none, none, none, none, none, none]) rfl ?_
    refine w_seq ?_
    refine w_asg ?_
    refine w_op ?_
    refine x_lst ?_
    refine w_evA (EvA.cons Ev.c EvA.nil) ?_
    refine mkL (R := dInt) (xs := [(0 : Int)]) S0 (.cons (show dInt.rel _ (0 : Int) (V.int 0) from rfl) .nil) (by show 1 ≤ BIG; decide) fun v1 B6 H2 S3 s4 h5 => ?_
    refine w_ev (Ev.cb (EvA.cons (Ev.var rfl) EvA.nil) (rlen_q (sqL (K := K) (Rl.mono _ s4 hx_0) S3.sub))) ?_
    obtain ⟨x7, h8, hm⟩ := bs hm
    refine q_rep S3 h5 h8 fun v9 B14 H10 S11 s12 h13 => ?_
    refine w_gname ?_
    refine w_nx (σ' := [(some v_0), (some v9), none, none, none, none, none]) rfl ?_
    refine w_seq ?_
    refine w_asg ?_
    refine w_ev Ev.c ?_
    refine w_gname ?_
    refine w_nx (σ' := [(some v_0), (some v9), (some (V.int 0)), none, none, none, none]) rfl ?_
    obtain ⟨c49, hl199, hm⟩ := bs hm
    refine whK (s0 := (x7, (0 : Int))) S11 (fun (st15 : ((List Int) × Int)) b σ' cs' => ∃ (e16 : V) (e17 : V) (e18 : Option V) (e19 : Option V) (e20 : Option V), σ' = [(some v_0), (some e16), (some e17), e18, e19, e20, none] ∧ cs' = [] ∧ (dList dInt).rel b st15.1 e16 ∧ dInt.rel b st15.2 e17 ∧ True) ⟨_, _, _, _, _, rfl, rfl, h13, (show dInt.rel _ (0 : Int) (V.int 0) from rfl), trivial⟩ hl199 (fun st24 o25 B36 H27 _ cs28 W47 m48 S30 s31 hI33 hf35 hret44 hbrk45 hW46 => ?_) ?_
    · obtain ⟨e37, e38, e39, e40, e41, rfl, rfl, h42, h43, -⟩ := hI33
      cases h43
      refine w_evT (EvT.tB Ev.c) ?_
      refine w_ifb (fun h50 => ?_) (fun h50 => ?_)
      · rw [ifT h50] at hf35
        refine ⟨_, hW46, ?_⟩
        refine w_seq ?_
        refine w_asg ?_
        refine w_lc ?_
        refine x_iL ?_
        refine w_ev (Ev.var rfl) ?_
        refine w_itL (Rl.mono _ (s4.tr (s12.tr s31)) hx_0) S30.sub fun J51 it52 => ?_
        obtain ⟨ys79, h80, hf35⟩ := bs hf35
        refine lcR (P := (dTup K (dTup K (dAny K)))) it52 S30 (dList.le (Rl.mono _ (s4.tr (s12.tr s31)) hx_0)) h80 (fun _ _ _ Z e _ => e.tr Z.sub) (fun D53 ac54 a55 o56 x57 B60 B61 H62 ma68 S63 s58 s59 h64 ho65 RR66 kk67 => ?_) ?_
        · refine w_turn ?_
          refine w_gname ?_
          refine w_wipe rfl ?_
          refine w_yes ?_
          refine iteT ?_
          refine w_call ?_
          refine w_evA (EvA.cons (Ev.var rfl) (EvA.cons (Ev.var rfl) EvA.nil)) ?_
          obtain ⟨r70, h71, ho65⟩ := bs ho65
          refine use_row_shape S63 h64 (Rl.mono _ (s58.tr s59) h42) h71 fun v72 B76 H73  (S74 : Sit _ B76 H73 [(D53, (.lst ac54))]) s75 h77  => ?_
          obtain rfl := Option.some.inj ho65
          exact kk67 _ _ _ S74 s75 ⟨_, rfl, h77⟩
        · intro p81 B88 H82 o83 S84 s85 n86 h87
          obtain ⟨B91, S89, s90, h92⟩ : ∃ B', Sit _ B' H82 [] ∧ Same _ B' ∧ (dList (dTup K (dTup K (dAny K)))).rel B' ys79 (.ref p81) := ⟨_, S84.frz (i := 0) rfl n86, S84.frzS (i := 0) rfl, frzL h87 (S84.atB (i := 0) rfl)⟩
          refine w_gname ?_
          refine w_nx (σ' := [(some v_0), (some e37), (some (V.int st24.2)), (some (.ref p81)), e40, e41, none]) rfl ?_
          refine w_seq ?_
          refine w_asg ?_
          refine x_lst ?_
          refine w_nil ?_
          refine mkO (R := (dTup K (dTup K (dAny K)))) (xs := []) S89 .nil (by show 0 ≤ BIG; decide) fun p93 o94 H95 S96 n97 h98 => ?_
          refine w_gname ?_
          refine w_nx (σ' := [(some v_0), (some e37), (some (V.int st24.2)), (some (.ref p81)), (some (.ref p93)), e41, none]) rfl ?_
          refine w_seq ?_
          refine w_for ?_
          refine x_iL ?_
          refine w_ev (Ev.var rfl) ?_
          refine w_itL h92 S96.sub fun J99 it100 => ?_
          obtain ⟨st143, hl184, hf35⟩ := bs hf35
          refine forS (s0 := ([] : (List (List (List PyData))))) it100 S96 (fun (st101 : (List (List (List PyData)))) b σ' cs' => ∃ (e102 : Option V) (o103 : HO), σ' = [(some v_0), (some e37), (some (V.int st24.2)), (some (.ref p81)), (some (.ref p93)), e102, none] ∧ cs' = [(p93, o103)] ∧ (cList (dTup K (dTup K (dAny K)))).rel b st101 o103 ∧ True) ⟨_, _, rfl, rfl, h98, trivial⟩ hl184 (fun _ _ _ _ _ Z e _ => e.tr Z.sub) (fun a105 st106 o107 x108 B118 B122 H109 _ cs110 ma111 S112 s113 s114 hI115 h116 hf117 => ?_) ?_
          · obtain ⟨e119, o120, rfl, rfl, h121, -⟩ := hI115
            refine w_gname ?_
            refine w_nx (σ' := [(some v_0), (some e37), (some (V.int st24.2)), (some (.ref p81)), (some (.ref p93)), (some x108), none]) rfl ?_
            refine w_ifS ?_
            obtain ⟨b129, hb129, hf117⟩ := bs hf117
            refine w_evT (EvT.test (Ev.op (Ev.var rfl) (Ev.var rfl) (rv_niD (drT (drT drAny)) (drL (drT (drT drAny))) (Rl.mono _ S112.sub h116) (cL_d (Cl.mono _ s114 h121) (S112.at' (i := 0) rfl) S112.sub) hb129))) ?_
            refine w_ifb (fun h130 => ?_) (fun h130 => ?_)
            · rw [ifT h130] at hf117
              refine w_drop ?_
              refine w_bm ?_
              refine w_ev (Ev.var rfl) ?_
              refine w_tyC (Cl.mono _ s114 h121) (S112.at' (i := 0) rfl) ?_
              refine w_evA (EvA.cons (Ev.var rfl) EvA.nil) ?_
              obtain ⟨x131, h132, hf117⟩ := bs hf117
              refine q_append (k := 0) S112 rfl (Cl.mono _ s114 h121) h116 h132 fun o133 H134 (S135 : Sit _ B122 H134 [(p93, o133)]) h136 => ?_
              obtain rfl := Option.some.inj hf117
              exact ⟨_, _, S135, (s113.tr s114), _, _, rfl, rfl, h136, trivial⟩
            · rw [ifF h130] at hf117
              refine w_next ?_
              obtain rfl := Option.some.inj hf117
              exact ⟨_, _, S112, (s113.tr s114), _, _, rfl, rfl, (Cl.mono _ s114 h121), trivial⟩
          · intro B142 H137 _ cs138 S139 s140 hI141
            obtain ⟨e144, o145, rfl, rfl, h146, -⟩ := hI141
            refine w_seq ?_
            refine w_asg ?_
            refine w_lc ?_
            refine x_iL ?_
            refine w_ev (Ev.var rfl) ?_
            refine w_itL (Rl.mono _ s140 h92) S139.sub fun J147 it148 => ?_
            obtain ⟨ys169, h170, hf35⟩ := bs hf35
            refine lcR (P := dInt) it148 S139 (dList.le (Rl.mono _ s140 h92)) h170 (fun _ _ _ Z e _ => e.tr Z.sub) (fun D149 ac150 a151 o152 x153 B156 B157 H158 ma164 S159 s154 s155 h160 ho161 RR162 kk163 => ?_) ?_
            · refine w_turn ?_
              refine w_gname ?_
              refine w_wipe rfl ?_
              refine w_yes ?_
              refine iteT ?_
              refine w_bm ?_
              refine w_ev (Ev.var rfl) ?_
              refine w_tyC (Cl.mono _ (s154.tr s155) h146) (S159.at' (i := 1) rfl) ?_
              refine w_evA (EvA.cons (Ev.var rfl) EvA.nil) ?_
              obtain ⟨j166, h167, ho161⟩ := bs ho161
              refine r_ixD (drT (drT drAny)) (drT (drT drAny)) (cL_d (Cl.mono _ (s154.tr s155) h146) (S159.at' (i := 1) rfl) S159.sub) (Rl.mono _ S159.sub h160) h167 ?_
              obtain rfl := Option.some.inj ho161
              exact kk163 _ _ _ S159 (Same.rf _) ⟨_, rfl, (show dInt.rel _ j166 (V.int j166) from rfl)⟩
            · intro p171 B178 H172 o173 S174 s175 n176 h177
              obtain ⟨B181, S179, s180, h182⟩ : ∃ B', Sit _ B' H172 [(p93, o145)] ∧ Same _ B' ∧ (dList dInt).rel B' ys169 (.ref p171) := ⟨_, S174.frz (i := 0) rfl n176, S174.frzS (i := 0) rfl, frzL h177 (S174.atB (i := 0) rfl)⟩
              refine w_gname ?_
              refine w_nx (σ' := [(some v_0), (some (.ref p171)), (some (V.int st24.2)), (some (.ref p81)), (some (.ref p93)), e144, none]) rfl ?_
              refine w_seq ?_
              refine w_ifS ?_
              refine w_evT (EvT.test (Ev.op (Ev.cb (EvA.cons (Ev.var rfl) EvA.nil) (rlen_q (sqC (K := K) (Cl.mono _ (s175.tr s180) h146) (S179.at' (i := 0) rfl)))) (Ev.var rfl) rv_eqI)) ?_
              refine w_ifb (fun h183 => ?_) (fun h183 => ?_)
              · rw [ifT h183] at hf35
                refine w_ret ?_
                refine w_ev (Ev.var rfl) ?_
                obtain rfl := Option.some.inj hf35
                cases hret44 _ rfl
                obtain rfl := Option.some.inj hm
                exact k _ _ _  S179.tl h182
              · rw [ifF h183] at hf35
                refine w_next ?_
                refine w_asg ?_
                refine w_ev (Ev.cb (EvA.cons (Ev.var rfl) EvA.nil) (rlen_q (sqC (K := K) (Cl.mono _ (s175.tr s180) h146) (S179.at' (i := 0) rfl)))) ?_
                refine w_gname ?_
                refine w_nx (σ' := [(some v_0), (some (.ref p171)), (some (V.int (st143.length : Int))), (some (.ref p81)), (some (.ref p93)), e144, none]) rfl ?_
                obtain rfl := Option.some.inj hf35
                exact ⟨_, rfl, _, _, S179.tl, (s31.tr (s85.tr (s90.tr (s140.tr (s175.tr s180))))), _, _, _, _, _, rfl, rfl, h182, (show dInt.rel _ (st143.length : Int) (V.int (st143.length : Int)) from rfl), trivial⟩
      · rw [ifF h50] at hf35
        cases hf35
    · intro st191 B190 H185 _ cs186 ec200 S187 s188 hI189
      cases ec200
      obtain ⟨e192, e193, e194, e195, e196, rfl, rfl, h197, h198, -⟩ := hI189
      cases h198
      cases hm
end
end Mm
namespace Mm
open PySem L2 Mf
section
variable {P : Program} {w : World} {K : PySem.W.Frag} {mg : Str → Option Value} {base : Heap} {cx : Nat → Addr}
abbrev n_canonical_rows : List Str := ["table", "start", "classes", "order", "known", "rows", "described", "row", "item"]
theorem sc_canonical_rows : FnScope n_canonical_rows ["table", "start"] (defScope s_canonical_rows) := ⟨rfl, rfl, rfl, by decide +kernel, rfl, by decide +kernel, by decide +kernel⟩
def m_canonical_rows (x_0 : (List (List (List PyData)))) (x_1 : Int) : Option (List (List (List PyData))) :=
  (m_classes_of (x_0)).bind fun r1 =>
  (atI r1 x_1).bind fun x15 =>
  (whC (S := ((List (List (List PyData))) × (List Int) × (List Int))) (R := (List (List (List PyData)))) (fun (st40 : ((List (List (List PyData))) × (List Int) × (List Int))) => if (decide ((st40.1.length : Int) < (st40.2.2.length : Int))) = true then (atI st40.2.2 (st40.1.length : Int)).bind fun x69 =>
  (atI x_0 x69).bind fun x71 =>
  (forL (fun (a91 : (List PyData)) (st92 : ((List (List PyData)) × (List Int) × (List Int))) => (atI a91 (0 : Int)).bind fun x119 =>
  (eqD x119 (PyData.str (Str.ofString "node"))).bind fun b123 =>
  if (!b123) = true then (pushM st92.1 a91).bind fun x125 =>
  some (x125, st92.2.1, st92.2.2) else ((atI a91 (1 : Int)).bind fun x140 =>
  (asI x140).bind fun i144 =>
  (atI r1 i144).bind fun x145 =>
  if (!decide (x145 ∈ st92.2.1)) = true then (atI a91 (1 : Int)).bind fun x148 =>
  (asI x148).bind fun i152 =>
  (atI r1 i152).bind fun x153 =>
  (pushM st92.2.1 x153).bind fun x155 =>
  (atI a91 (1 : Int)).bind fun x161 =>
  (asI x161).bind fun i165 =>
  (pushM st92.2.2 i165).bind fun x167 =>
  some (x155, x167) else some (st92.2.1, st92.2.2)).bind fun j138 =>
  (atI a91 (1 : Int)).bind fun x181 =>
  (asI x181).bind fun i185 =>
  (atI r1 i185).bind fun x186 =>
  (ixOf x186 j138.1).bind fun j188 =>
  (pushM st92.1 ([(PyData.str (Str.ofString "node")), (PyData.int j188)] : (List PyData))).bind fun x196 =>
  some (x196, j138.1, j138.2)) x71 (([] : (List (List PyData))), st40.2.1, st40.2.2)).bind fun st208 =>
  (pushM st40.1 st208.1).bind fun x220 =>
  some (.nx (x220, st208.2.1, st208.2.2)) else some (.brk (st40.1, st40.2.1, st40.2.2))) FUEL (([] : (List (List (List PyData)))), ([x15] : (List Int)), ([x_1] : (List Int)))).bind fun c67 =>
  c67.on (fun st233 => some st233.1) (fun r => some r)
def sp_canonical_rows (K : PySem.W.Frag) : Sp := fun vs H Q E => ∃ (B : Hp) (x_0 : (List (List (List PyData)))) (v_0 : V) (x_1 : Int) (r : (List (List (List PyData)))), vs = [v_0, (V.int x_1)] ∧ Same B H ∧ (dList (dList (dTup K (dAny K)))).rel B x_0 v_0 ∧ m_canonical_rows x_0 x_1 = some r ∧ ∀ (v : V) (B' H' : Hp) , Sit ⟨B, H, []⟩ B' H' [] → (dList (dList (dTup K (dAny K)))).rel B' r v → Q v H'
theorem use_canonical_rows {K : PySem.W.Frag} {Φ : Fr} {B H : Hp} {cs : List (Addr × HO)} {Q : VK} {E : XK} {r : (List (List (List PyData)))} {x_0 : (List (List (List PyData)))} {v_0 : V} {x_1 : Int} {v_1 : V} (Z : Sit Φ B H cs) (h_0 : (dList (dList (dTup K (dAny K)))).rel B x_0 v_0) (h_1 : dInt.rel B x_1 v_1) (hm : m_canonical_rows x_0 x_1 = some r) (k : ∀ (v : V) (B' H' : Hp) , Sit Φ B' H' cs → Same B B' → (dList (dList (dTup K (dAny K)))).rel B' r v → Q v H') : sp_canonical_rows K ([v_0, v_1] ++ []) H Q E := by
  cases h_1
  exact ⟨B, x_0, v_0, x_1, r, rfl, Z.sub, h_0, hm, fun v B' H'  Z' h  => k v B' H'  (Z.call0 Z') Z'.grow h ⟩
theorem ok_canonical_rows (A0 : DefAt K mg "canonical_rows" s_canonical_rows ["table", "start"]) (b_len : mg "len" = none) (D_classes_of : Does P w K mg base CX0 2 "classes_of" ["table"] (sp_classes_of K )) : Does P w K mg base CX0 3 "canonical_rows" ["table", "start"] (sp_canonical_rows K ) := by
  obtain ⟨f, fd, F, gm, bd⟩ := A0
  obtain ⟨f_classes_of, fd_classes_of, G_classes_of, g_classes_of, kp_classes_of, bd_classes_of⟩ := D_classes_of
  refine ⟨f, fd, ?_, gm, F.kp, bd⟩
  refine F.ok sc_canonical_rows (fun vs H Q E h => ?_) (fun cdv A outer s H vs Q E hr h => ?_)
  · obtain ⟨_, _, _, _, _, rfl, _⟩ := h
    rfl
  · obtain ⟨B, x_0, v_0, x_1, r, rfl, sB, hx_0, hm, k⟩ := h
    have hu := hu_of hr
    refine ⟨_, (pss_cons (ps_set (i := 2) sc_canonical_rows.nd rfl (Or.inl rfl) (pe_call G_classes_of (hr.mono (by decide)) rfl g_classes_of kp_classes_of bd_classes_of .nil pass0 (pa_cons (pv 0) pa_nil)))
  (pss_cons (ps_set (i := 3) sc_canonical_rows.nd rfl (Or.inl rfl) (pe_lst (pa_cons (pv 1) pa_nil)))
  (pss_cons (ps_set (i := 4) sc_canonical_rows.nd rfl (Or.inl rfl) (pe_lst (pa_cons (pe_ix (k_ixL K) (pv 2) (pv 1) (fun _ _ => rfl)) pa_nil)))
  (pss_cons (ps_set (i := 5) sc_canonical_rows.nd rfl (Or.inl rfl) (pe_lst pa_nil))
  (pss_cons (ps_while PassesOwn.never (pt_cmpR op_lt (pe_callB (k_len K) (by rfl) b_len (by decide +kernel) (pa_cons (pv 5) pa_nil)) (pe_callB (k_len K) (by rfl) b_len (by decide +kernel) (pa_cons (pv 3) pa_nil)) (nomark _))
  (pss_cons (ps_set (i := 6) sc_canonical_rows.nd rfl (Or.inl rfl) (pe_ix (k_ixL K) (pv 0) (pe_ix (k_ixL K) (pv 3) (pe_callB (k_len K) (by rfl) b_len (by decide +kernel) (pa_cons (pv 5) pa_nil)) (fun _ _ => rfl)) (fun _ _ => rfl)))
  (pss_cons (ps_set (i := 7) sc_canonical_rows.nd rfl (Or.inl rfl) (pe_lst pa_nil))
  (pss_cons (ps_for PassesOwn.never rfl (k_iL K (pv 6)) (pg_name (i := 8) sc_canonical_rows.nd rfl (Or.inl rfl))
  (pss_cons (ps_if (pt_cmpR (k_neD K hr.units) (pe_ix (k_ixT K) (pv 8) pe_int (fun _ _ => rfl)) pe_str (nomark _)) (pss_cons (ps_expr (k_bm K PySem.F.plainAttrs_list PySem.F.slot_list_append PySem.F.type_list_append mt_append (pv 7) (pa_cons (pv 8) pa_nil)))
  (pss_one ps_continue)) pss_nil)
  (C8.pss_cut (ps_if (pt_cmpR (k_ni K) (pe_ix (k_ixL K) (pv 2) (pe_ix (k_ixT K) (pv 8) pe_int (fun _ _ => rfl)) (fun _ _ => rfl)) (pv 4) (by rfl)) (pss_cons (ps_expr (k_bm K PySem.F.plainAttrs_list PySem.F.slot_list_append PySem.F.type_list_append mt_append (pv 4) (pa_cons (pe_ix (k_ixL K) (pv 2) (pe_ix (k_ixT K) (pv 8) pe_int (fun _ _ => rfl)) (fun _ _ => rfl)) pa_nil)))
  (pss_one (ps_expr (k_bm K PySem.F.plainAttrs_list PySem.F.slot_list_append PySem.F.type_list_append mt_append (pv 3) (pa_cons (pe_ix (k_ixT K) (pv 8) pe_int (fun _ _ => rfl)) pa_nil))))) pss_nil)
  (pss_one (ps_expr (k_bm K PySem.F.plainAttrs_list PySem.F.slot_list_append PySem.F.type_list_append mt_append (pv 7) (pa_cons (pe_tup (pa_cons pe_str (pa_cons (k_bm K PySem.F.plainAttrs_list PySem.F.slot_list_index PySem.F.type_list_index (k_index K) (pv 4) (pa_cons (pe_ix (k_ixL K) (pv 2) (pe_ix (k_ixT K) (pv 8) pe_int (fun _ _ => rfl)) (fun _ _ => rfl)) pa_nil)) pa_nil))) pa_nil)))))))
  (pss_one (ps_expr (k_bm K PySem.F.plainAttrs_list PySem.F.slot_list_append PySem.F.type_list_append mt_append (pv 5) (pa_cons (pv 7) pa_nil))))))))
  (pss_one (ps_ret (pv 5)))))))), ?_⟩
    obtain ⟨B0, hB0⟩ : ∃ B0 : Hp, B0 = B := ⟨_, rfl⟩
    subst hB0
    have S0 := Sit.start0 sB
    unfold m_canonical_rows at hm
    refine w_sig (σ' := [(some v_0), (some (V.int x_1)), none, none, none, none, none, none, none]) rfl ?_
    refine w_seq ?_
    refine w_asg ?_
    refine w_call ?_
    refine w_evA (EvA.cons (Ev.var rfl) EvA.nil) ?_
    obtain ⟨r1, h2, hm⟩ := bs hm
    refine use_classes_of S0 hx_0 h2 fun v3 B7 H4  (S5 : Sit _ B7 H4 []) s6 h8  => ?_
    refine w_gname ?_
    refine w_nx (σ' := [(some v_0), (some (V.int x_1)), (some v3), none, none, none, none, none, none]) rfl ?_
    refine w_seq ?_
    refine w_asg ?_
    refine x_lst ?_
    refine w_evA (EvA.cons (Ev.var rfl) EvA.nil) ?_
    refine mkO (R := dInt) (xs := [x_1]) S5 (.cons (show dInt.rel _ x_1 (V.int x_1) from rfl) .nil) (by show 1 ≤ BIG; decide) fun p9 o10 H11 S12 n13 h14 => ?_
    refine w_gname ?_
    refine w_nx (σ' := [(some v_0), (some (V.int x_1)), (some v3), (some (.ref p9)), none, none, none, none, none]) rfl ?_
    refine w_seq ?_
    refine w_asg ?_
    refine x_lst ?_
    obtain ⟨x15, hx15, hm⟩ := bs hm
    obtain ⟨_, rfl, r16⟩ := ix_L (K := K) h8 hx15
    refine w_evA (EvA.cons (Ev.op (Ev.var rfl) (Ev.var rfl) (r16 _ S12.sub)) EvA.nil) ?_
    refine mkO (R := dInt) (xs := [x15]) S12 (.cons (show dInt.rel _ x15 (V.int x15) from rfl) .nil) (by show 1 ≤ BIG; decide) fun p17 o18 H19 S20 n21 h22 => ?_
    refine w_gname ?_
    refine w_nx (σ' := [(some v_0), (some (V.int x_1)), (some v3), (some (.ref p9)), (some (.ref p17)), none, none, none, none]) rfl ?_
    refine w_seq ?_
    refine w_asg ?_
    refine x_lst ?_
    refine w_nil ?_
    refine mkO (R := (dList (dTup K (dAny K)))) (xs := []) S20 .nil (by show 0 ≤ BIG; decide) fun p23 o24 H25 S26 n27 h28 => ?_
    refine w_gname ?_
    refine w_nx (σ' := [(some v_0), (some (V.int x_1)), (some v3), (some (.ref p9)), (some (.ref p17)), (some (.ref p23)), none, none, none]) rfl ?_
    refine w_seq ?_
    obtain ⟨c67, hl255, hm⟩ := bs hm
    refine whK (s0 := (([] : (List (List (List PyData)))), ([x15] : (List Int)), ([x_1] : (List Int)))) S26 (fun (st29 : ((List (List (List PyData))) × (List Int) × (List Int))) b σ' cs' => ∃ (e30 : Option V) (e31 : Option V) (e32 : Option V) (o33 : HO) (o35 : HO) (o37 : HO), σ' = [(some v_0), (some (V.int x_1)), (some v3), (some (.ref p9)), (some (.ref p17)), (some (.ref p23)), e30, e31, e32] ∧ cs' = [(p23, o33), (p17, o35), (p9, o37)] ∧ (cList (dList (dTup K (dAny K)))).rel b st29.1 o33 ∧ (cList dInt).rel b st29.2.1 o35 ∧ (cList dInt).rel b st29.2.2 o37 ∧ True) ⟨_, _, _, _, _, _, rfl, rfl, h28, h22, h14, trivial⟩ hl255 (fun st40 o41 B52 H43 _ cs44 W65 m66 S46 s47 hI49 hf51 hret62 hbrk63 hW64 => ?_) ?_
    · obtain ⟨e53, e54, e55, o56, o58, o60, rfl, rfl, h57, h59, h61, -⟩ := hI49
      refine w_evT (EvT.test (Ev.op (Ev.cb (EvA.cons (Ev.var rfl) EvA.nil) (rlen_q (sqC (K := K) h57 (S46.at' (i := 0) rfl)))) (Ev.cb (EvA.cons (Ev.var rfl) EvA.nil) (rlen_q (sqC (K := K) h61 (S46.at' (i := 2) rfl)))) rv_I0)) ?_
      refine w_ifb (fun h68 => ?_) (fun h68 => ?_)
      · rw [ifT h68] at hf51
        refine ⟨_, hW64, ?_⟩
        refine w_seq ?_
        refine w_asg ?_
        obtain ⟨x69, hx69, hf51⟩ := bs hf51
        obtain ⟨_, rfl, r70⟩ := ix_C (K := K) h61 hx69
        obtain ⟨x71, hx71, hf51⟩ := bs hf51
        obtain ⟨w73, h74, r72⟩ := ix_L (K := K) (Rl.mono _ (s6.tr s47) hx_0) hx71
        refine w_ev (Ev.op (Ev.var rfl) (Ev.op (Ev.var rfl) (Ev.cb (EvA.cons (Ev.var rfl) EvA.nil) (rlen_q (sqC (K := K) h57 (S46.at' (i := 0) rfl)))) (r70 _ (S46.at' (i := 2) rfl))) (r72 _ S46.sub)) ?_
        refine w_gname ?_
        refine w_nx (σ' := [(some v_0), (some (V.int x_1)), (some v3), (some (.ref p9)), (some (.ref p17)), (some (.ref p23)), (some w73), e54, e55]) rfl ?_
        refine w_seq ?_
        refine w_asg ?_
        refine x_lst ?_
        refine w_nil ?_
        refine mkO (R := (dTup K (dAny K))) (xs := []) S46 .nil (by show 0 ≤ BIG; decide) fun p75 o76 H77 S78 n79 h80 => ?_
        refine w_gname ?_
        refine w_nx (σ' := [(some v_0), (some (V.int x_1)), (some v3), (some (.ref p9)), (some (.ref p17)), (some (.ref p23)), (some w73), (some (.ref p75)), e55]) rfl ?_
        refine w_seq ?_
        refine w_for ?_
        refine x_iL ?_
        refine w_ev (Ev.var rfl) ?_
        refine w_itL h74 S78.sub fun J81 it82 => ?_
        obtain ⟨st208, hl226, hf51⟩ := bs hf51
        refine forS (s0 := (([] : (List (List PyData))), st40.2.1, st40.2.2)) it82 S78 (fun (st83 : ((List (List PyData)) × (List Int) × (List Int))) b σ' cs' => ∃ (e84 : Option V) (o85 : HO) (o87 : HO) (o89 : HO), σ' = [(some v_0), (some (V.int x_1)), (some v3), (some (.ref p9)), (some (.ref p17)), (some (.ref p23)), (some w73), (some (.ref p75)), e84] ∧ cs' = [(p75, o85), (p23, o56), (p17, o87), (p9, o89)] ∧ (cList (dTup K (dAny K))).rel b st83.1 o85 ∧ (cList dInt).rel b st83.2.1 o87 ∧ (cList dInt).rel b st83.2.2 o89 ∧ True) ⟨_, _, _, _, rfl, rfl, h80, h59, h61, trivial⟩ hl226 (fun _ _ _ _ _ Z e _ => e.tr Z.sub) (fun a91 st92 o93 x94 B104 B112 H95 _ cs96 ma97 S98 s99 s100 hI101 h102 hf103 => ?_) ?_
        · obtain ⟨e105, o106, o108, o110, rfl, rfl, h107, h109, h111, -⟩ := hI101
          refine w_gname ?_
          refine w_nx (σ' := [(some v_0), (some (V.int x_1)), (some v3), (some (.ref p9)), (some (.ref p17)), (some (.ref p23)), (some w73), (some (.ref p75)), (some x94)]) rfl ?_
          refine w_seq ?_
          refine w_ifS ?_
          obtain ⟨x119, hx119, hf103⟩ := bs hf103
          obtain ⟨w121, h122, r120⟩ := ix_T (K := K) h102 hx119
          obtain ⟨b123, hb123, hf103⟩ := bs hf103
          refine w_evT (EvT.test (Ev.op (Ev.op (Ev.var rfl) Ev.c (r120 _ S98.sub)) Ev.c (rv_neD drAny drStr (Rl.mono _ S98.sub h122) (Rl.mono _ S98.sub (show dStr.rel _ (Str.ofString "node") (V.str (Str.ofString "node")) from rfl)) hb123))) ?_
          refine w_ifb (fun h124 => ?_) (fun h124 => ?_)
          · rw [ifT h124] at hf103
            refine w_seq ?_
            refine w_drop ?_
            refine w_bm ?_
            refine w_ev (Ev.var rfl) ?_
            refine w_tyC (Cl.mono _ s100 h107) (S98.at' (i := 0) rfl) ?_
            refine w_evA (EvA.cons (Ev.var rfl) EvA.nil) ?_
            obtain ⟨x125, h126, hf103⟩ := bs hf103
            refine q_append (k := 0) S98 rfl (Cl.mono _ s100 h107) h102 h126 fun o127 H128 (S129 : Sit _ B112 H128 [(p75, o127), (p23, o56), (p17, o108), (p9, o110)]) h130 => ?_
            refine w_cont ?_
            obtain rfl := Option.some.inj hf103
            exact ⟨_, _, S129, (s99.tr s100), _, _, _, _, rfl, rfl, h130, (Cl.mono _ s100 h109), (Cl.mono _ s100 h111), trivial⟩
          · rw [ifF h124] at hf103
            refine w_next ?_
            obtain ⟨j138, hj139, hf103⟩ := bs hf103
            refine w_cut (MidD (fun σ' H' => ∃ (B' : Hp)  (o177 : HO) (o179 : HO), σ' = [(some v_0), (some (V.int x_1)), (some v3), (some (.ref p9)), (some (.ref p17)), (some (.ref p23)), (some w73), (some (.ref p75)), (some x94)] ∧ Sit (Fr.mk B0 H []) B' H' [(p75, o106), (p23, o56), (p17, o177), (p9, o179)] ∧ Same B112 B' ∧ (cList dInt).rel B' j138.1 o177 ∧ (cList dInt).rel B' j138.2 o179 ∧ True)) ?_ ?_
            · refine w_ifS ?_
              obtain ⟨x140, hx140, hj139⟩ := bs hj139
              obtain ⟨w142, h143, r141⟩ := ix_T (K := K) h102 hx140
              obtain ⟨i144, hi144, hj139⟩ := bs hj139
              obtain ⟨x145, hx145, hj139⟩ := bs hj139
              obtain ⟨_, rfl, r146⟩ := ix_L (K := K) (Rl.mono _ (s47.tr (s99.tr s100)) h8) hx145
              refine w_evT (EvT.test (Ev.op (Ev.op (Ev.var rfl) (Ev.cast (Ev.op (Ev.var rfl) Ev.c (r141 _ S98.sub)) (asI_v h143 hi144)) (r146 _ S98.sub)) (Ev.var rfl) (rni_i (sqC (K := K) (Cl.mono _ s100 h109) (S98.at' (i := 2) rfl))))) ?_
              refine w_ifb (fun h147 => ?_) (fun h147 => ?_)
              · rw [ifT h147] at hj139
                refine w_seq ?_
                refine w_drop ?_
                refine w_bm ?_
                refine w_ev (Ev.var rfl) ?_
                refine w_tyC (Cl.mono _ s100 h109) (S98.at' (i := 2) rfl) ?_
                obtain ⟨x148, hx148, hj139⟩ := bs hj139
                obtain ⟨w150, h151, r149⟩ := ix_T (K := K) h102 hx148
                obtain ⟨i152, hi152, hj139⟩ := bs hj139
                obtain ⟨x153, hx153, hj139⟩ := bs hj139
                obtain ⟨_, rfl, r154⟩ := ix_L (K := K) (Rl.mono _ (s47.tr (s99.tr s100)) h8) hx153
                refine w_evA (EvA.cons (Ev.op (Ev.var rfl) (Ev.cast (Ev.op (Ev.var rfl) Ev.c (r149 _ S98.sub)) (asI_v h151 hi152)) (r154 _ S98.sub)) EvA.nil) ?_
                obtain ⟨x155, h156, hj139⟩ := bs hj139
                refine q_append (k := 2) S98 rfl (Cl.mono _ s100 h109) (show dInt.rel _ x153 (V.int x153) from rfl) h156 fun o157 H158 (S159 : Sit _ B112 H158 [(p75, o106), (p23, o56), (p17, o157), (p9, o110)]) h160 => ?_
                refine w_drop ?_
                refine w_bm ?_
                refine w_ev (Ev.var rfl) ?_
                refine w_tyC (Cl.mono _ s100 h111) (S159.at' (i := 3) rfl) ?_
                obtain ⟨x161, hx161, hj139⟩ := bs hj139
                obtain ⟨w163, h164, r162⟩ := ix_T (K := K) h102 hx161
                refine w_evA (EvA.cons (Ev.op (Ev.var rfl) Ev.c (r162 _ S159.sub)) EvA.nil) ?_
                obtain ⟨i165, h166, hj139⟩ := bs hj139
                obtain rfl := asI_v h164 h166
                obtain ⟨x167, h168, hj139⟩ := bs hj139
                refine q_append (k := 3) S159 rfl (Cl.mono _ s100 h111) (show dInt.rel _ i165 (V.int i165) from rfl) h168 fun o169 H170 (S171 : Sit _ B112 H170 [(p75, o106), (p23, o56), (p17, o157), (p9, o169)]) h172 => ?_
                obtain rfl := Option.some.inj hj139
                exact ⟨_, _, _, rfl, S171, (Same.rf _), h160, h172, trivial⟩
              · rw [ifF h147] at hj139
                refine w_next ?_
                obtain rfl := Option.some.inj hj139
                exact ⟨_, _, _, rfl, S98, (Same.rf _), (Cl.mono _ s100 h109), (Cl.mono _ s100 h111), trivial⟩
            · rintro _ H173 ⟨B176, o177, o179, rfl, S174, s175, h178, h180, -⟩
              refine w_drop ?_
              refine w_bm ?_
              refine w_ev (Ev.var rfl) ?_
              refine w_tyC (Cl.mono _ (s100.tr s175) h107) (S174.at' (i := 0) rfl) ?_
              refine w_cons ?_
              refine x_tup ?_
              refine w_cons ?_
              refine w_ev Ev.c ?_
              refine w_cons ?_
              refine w_bm ?_
              refine w_ev (Ev.var rfl) ?_
              refine w_tyC h178 (S174.at' (i := 2) rfl) ?_
              obtain ⟨x181, hx181, hf103⟩ := bs hf103
              obtain ⟨w183, h184, r182⟩ := ix_T (K := K) (Rl.mono _ s175 h102) hx181
              obtain ⟨i185, hi185, hf103⟩ := bs hf103
              obtain ⟨x186, hx186, hf103⟩ := bs hf103
              obtain ⟨_, rfl, r187⟩ := ix_L (K := K) (Rl.mono _ (s47.tr (s99.tr (s100.tr s175))) h8) hx186
              refine w_evA (EvA.cons (Ev.op (Ev.var rfl) (Ev.cast (Ev.op (Ev.var rfl) Ev.c (r182 _ S174.sub)) (asI_v h184 hi185)) (r187 _ S174.sub)) EvA.nil) ?_
              obtain ⟨j188, h189, hf103⟩ := bs hf103
              refine r_ixI (cL_d h178 (S174.at' (i := 2) rfl) S174.sub) h189 ?_
              refine w_nil ?_
              refine mk2 (K := K)   S174 (show dStr.rel _ (Str.ofString "node") (V.str (Str.ofString "node")) from rfl) (show dInt.rel _ j188 (V.int j188) from rfl) fun v190 B195 H191 S192 s193 h194 => ?_
              refine w_nil ?_
              obtain ⟨x196, h197, hf103⟩ := bs hf103
              refine q_append (k := 0) S192 rfl (Cl.mono _ (s100.tr (s175.tr s193)) h107) (show (dTup K (dAny K)).rel _ ([(PyData.str (Str.ofString "node")), (PyData.int j188)] : (List PyData)) v190 from (mp2 (mpA drStr) (mpA drInt)) h194) h197 fun o198 H199 (S200 : Sit _ B195 H199 [(p75, o198), (p23, o56), (p17, o177), (p9, o179)]) h201 => ?_
              obtain rfl := Option.some.inj hf103
              exact ⟨_, _, S200, (s99.tr (s100.tr (s175.tr s193))), _, _, _, _, rfl, rfl, h201, (Cl.mono _ s193 h178), (Cl.mono _ s193 h180), trivial⟩
        · intro B207 H202 _ cs203 S204 s205 hI206
          obtain ⟨e209, o210, o212, o214, rfl, rfl, h211, h213, h215, -⟩ := hI206
          refine w_drop ?_
          refine w_bm ?_
          refine w_ev (Ev.var rfl) ?_
          refine w_tyC (Cl.mono _ s205 h57) (S204.at' (i := 1) rfl) ?_
          refine w_evA (EvA.cons (Ev.var rfl) EvA.nil) ?_
          obtain ⟨B218, S216, s217, h219⟩ : ∃ B', Sit _ B' H202 [(p23, o56), (p17, o212), (p9, o214)] ∧ Same _ B' ∧ (dList (dTup K (dAny K))).rel B' st208.1 (.ref p75) := ⟨_, S204.frz (i := 0) rfl n79, S204.frzS (i := 0) rfl, frzL h211 (S204.atB (i := 0) rfl)⟩
          obtain ⟨x220, h221, hf51⟩ := bs hf51
          refine q_append (k := 0) S216 rfl (Cl.mono _ (s205.tr s217) h57) h219 h221 fun o222 H223 (S224 : Sit _ B218 H223 [(p23, o222), (p17, o212), (p9, o214)]) h225 => ?_
          obtain rfl := Option.some.inj hf51
          exact ⟨_, rfl, _, _, S224, (s47.tr (s205.tr s217)), _, _, _, _, _, _, rfl, rfl, h225, (Cl.mono _ s217 h213), (Cl.mono _ s217 h215), trivial⟩
      · rw [ifF h68] at hf51
        obtain rfl := Option.some.inj hf51
        exact hbrk63 _ _ _ rfl ⟨_, _, S46, s47, _, _, _, _, _, _, rfl, rfl, h57, h59, h61, trivial⟩
    · intro st233 B232 H227 _ cs228 ec256 S229 s230 hI231
      cases ec256
      obtain ⟨e234, e235, e236, o237, o239, o241, rfl, rfl, h238, h240, h242, -⟩ := hI231
      obtain ⟨B245, S243, s244, h246⟩ : ∃ B', Sit _ B' H227 [(p17, o239), (p9, o241)] ∧ Same _ B' ∧ (dList (dList (dTup K (dAny K)))).rel B' st233.1 (.ref p23) := ⟨_, S229.frz (i := 0) rfl n27, S229.frzS (i := 0) rfl, frzL h238 (S229.atB (i := 0) rfl)⟩
      obtain ⟨B249, S247, s248, h250⟩ : ∃ B', Sit _ B' H227 [(p9, o241)] ∧ Same _ B' ∧ (dList dInt).rel B' st233.2.1 (.ref p17) := ⟨_, S243.frz (i := 0) rfl n21, S243.frzS (i := 0) rfl, frzL (Cl.mono _ s244 h240) (S243.atB (i := 0) rfl)⟩
      obtain ⟨B253, S251, s252, h254⟩ : ∃ B', Sit _ B' H227 [] ∧ Same _ B' ∧ (dList dInt).rel B' st233.2.2 (.ref p9) := ⟨_, S247.frz (i := 0) rfl n13, S247.frzS (i := 0) rfl, frzL (Cl.mono _ (s244.tr s248) h242) (S247.atB (i := 0) rfl)⟩
      refine w_ret ?_
      refine w_ev (Ev.var rfl) ?_
      obtain rfl := Option.some.inj hm
      exact k _ _ _  S251 (Rl.mono _ (s248.tr s252) h246)
end
end Mm
namespace Mm
open PySem L2 Mf
section
variable {P : Program} {w : World} {K : PySem.W.Frag} {mg : Str → Option Value} {base : Heap} {cx : Nat → Addr}
abbrev n_Result___init__ : List Str := ["self", "rows", "table", "row"]
theorem sc_Result___init__ : FnScope n_Result___init__ ["self", "rows"] (defScope s_Result___init__) := ⟨rfl, rfl, rfl, by decide +kernel, rfl, by decide +kernel, by decide +kernel⟩
def m_Result___init__ (x_1 : (List (List (List PyData)))) : Option O_Result :=
  (m_check_rows ((x_1.map (fun (a5 : (List (List PyData))) => a5)))).bind fun r45 =>
  (m_canonical_rows ((x_1.map (fun (a5 : (List (List PyData))) => a5))) ((0 : Int))).bind fun r53 =>
  some r53
def sp_Result___init__ (K : PySem.W.Frag) (C_Result : Addr) : Sp := fun vs H Q E => ∃ (x_1 : (List (List (List PyData)))) (r : O_Result), m_Result___init__ x_1 = some r ∧ SpI C_Result (fun B ws => ∃ v_1, ws = [v_1] ∧ (dSeq K (dSeq K (dTup K (dAny K)))).rel B x_1 v_1) (fun B' fs => (F_Result K C_Result).rel B' r fs) vs H Q E
theorem mk_Result___init__ {K : PySem.W.Frag} {C_Result : Addr} {Φ : Fr} {B H : Hp} {cs : List (Addr × HO)} {Q : VK} {E : XK} {r : O_Result} {x_1 : (List (List (List PyData)))} {v_1 : V} (Z : Sit Φ B H cs) (h_1 : (dSeq K (dSeq K (dTup K (dAny K)))).rel B x_1 v_1) (hm : m_Result___init__ x_1 = some r) (k : ∀ v B' H', Sit Φ B' H' cs → Same B B' → (dO_Result K C_Result).rel B' r v → Q v H') : MkB C_Result (sp_Result___init__ K C_Result ) E Q ([v_1] ++ []) H := by
  exact fun x dx nx ndx ne => ⟨x_1, r, hm, mkObj Z (fun B' e => ⟨v_1, rfl, (dSeq K (dSeq K (dTup K (dAny K)))).mono e h_1⟩) (fun _ _ q => q) k x dx nx ndx ne⟩
theorem mo_Result___init__ {K : PySem.W.Frag} {C_Result : Addr} {Φ : Fr} {B H : Hp} {cs : List (Addr × HO)} {Q : VK} {E : XK} {r : O_Result} {x_1 : (List (List (List PyData)))} {v_1 : V} (Z : Sit Φ B H cs) (h_1 : (dSeq K (dSeq K (dTup K (dAny K)))).rel B x_1 v_1) (hm : m_Result___init__ x_1 = some r) (k : ∀ p dx fs B' H', Sit Φ B' H' ((p, .ins C_Result dx fs) :: cs) → Same B B' → Φ.H p = none → (F_Result K C_Result).rel B' r fs → Q (.ref p) H') : MkB C_Result (sp_Result___init__ K C_Result ) E Q ([v_1] ++ []) H := by
  exact fun x dx nx ndx ne => ⟨x_1, r, hm, mkObjO Z (fun B' e => ⟨v_1, rfl, (dSeq K (dSeq K (dTup K (dAny K)))).mono e h_1⟩) (fun _ _ q => q) k x dx nx ndx ne⟩
theorem ok_Result___init__ {C_Result : Addr} (A0 : MkAt K C_Result "Result.__init__" s_Result___init__ ["self", "rows"]) (T_Result : ClsF K mg "Result" C_Result) (b_list : mg "list" = none) (nA_Result_table : NoAttr K C_Result "table") (D_check_rows : Does P w K mg base CX0 3 "check_rows" ["rows"] (sp_check_rows K )) (D_canonical_rows : Does P w K mg base CX0 3 "canonical_rows" ["table", "start"] (sp_canonical_rows K )) : MkDoes P w K mg base CX0 4 "Result" C_Result ["self", "rows"] [] (sp_Result___init__ K C_Result ) := by
  obtain ⟨f, fd, F, mk, bd⟩ := A0
  have cl_Result := T_Result.ic.cl
  have g_Result := T_Result.g
  obtain ⟨f_check_rows, fd_check_rows, G_check_rows, g_check_rows, kp_check_rows, bd_check_rows⟩ := D_check_rows
  obtain ⟨f_canonical_rows, fd_canonical_rows, G_canonical_rows, g_canonical_rows, kp_canonical_rows, bd_canonical_rows⟩ := D_canonical_rows
  refine ⟨f, fd, [], mk, ?_, bd, .nil, T_Result.g⟩
  refine F.ok sc_Result___init__ (fun vs H Q E h => ?_) (fun cdv A outer s H vs Q E hr h => ?_)
  · obtain ⟨_, _, _, _, _, _, _, rfl, _, _, _, ⟨_, rfl, _⟩, _⟩ := h
    rfl
  · obtain ⟨x_1, r, hm, B, p_0, dx, ws, rfl, sB, hp_0, hb_0, ⟨v_1, rfl, hx_1⟩, k⟩ := h
    have hu := hu_of hr
    refine ⟨_, (pss_cons (ps_setLc (i := 2) (own := [("row", 3)]) (tt := tYes) rfl sc_Result___init__.nd rfl rfl (sw_true rfl rfl rfl (by decide +kernel)) (k_iQ K (pv 1)) (blkOk_by (own := [("row", 3)]) (N := n_Result___init__) (sc := defScope s_Result___init__) (by decide +kernel)) (fun _ _ _ _ _ => (pg_name (i := 3) sc_Result___init__.nd rfl (Or.inl rfl))) (fun _ _ _ _ _ => pts_nil) (fun _ _ _ _ _ => (pe_callTy (k_list K) (by rfl) b_list (by decide +kernel) (pa_cons (pv 3) pa_nil))))
  (pss_cons (ps_expr (pe_call G_check_rows (hr.mono (by decide)) rfl g_check_rows kp_check_rows bd_check_rows .nil pass0 (pa_cons (pv 2) pa_nil)))
  (pss_one (k_sfld K (pv 0) (pe_call G_canonical_rows (hr.mono (by decide)) rfl g_canonical_rows kp_canonical_rows bd_canonical_rows .nil pass0 (pa_cons (pv 2) (pa_cons pe_int pa_nil))) rfl)))), ?_⟩
    obtain ⟨B0, hB0⟩ : ∃ B0 : Hp, B0 = B := ⟨_, rfl⟩
    subst hB0
    have S0 := Sit.start1 sB hp_0 hb_0
    unfold m_Result___init__ at hm
    refine w_sig (σ' := [(some (.ref p_0)), (some v_1), none, none]) rfl ?_
    refine w_seq ?_
    refine w_asg ?_
    refine w_lc ?_
    refine x_iQ ?_
    refine w_ev (Ev.var rfl) ?_
    refine w_itQ hx_1 S0.sub fun J1 it2 => ?_
    refine lcR (P := (dList (dTup K (dAny K)))) it2 S0 (dSeq.le hx_1) (lcM_map (fun (a5 : (List (List PyData))) => a5) x_1) (fun _ _ _ Z e _ => e.tr Z.sub) (fun D3 ac4 a5 o6 x7 B10 B11 H12 ma18 S13 s8 s9 h14 ho15 RR16 kk17 => ?_) ?_
    · refine w_turn ?_
      refine w_gname ?_
      refine w_wipe rfl ?_
      refine w_yes ?_
      refine iteT ?_
      refine w_cb ?_
      refine w_evA (EvA.cons (Ev.var rfl) EvA.nil) ?_
      refine q_list S13 (sqQ (K := K) h14 S13.sub) fun v26 B31 H27 S28 s29 h30 => ?_
      obtain rfl := Option.some.inj ho15
      exact kk17 _ _ _ S28 s29 ⟨_, rfl, h30⟩
    · intro p33 B40 H34 o35 S36 s37 n38 h39
      obtain ⟨B43, S41, s42, h44⟩ : ∃ B', Sit _ B' H34 [(p_0, .ins C_Result dx [])] ∧ Same _ B' ∧ (dList (dList (dTup K (dAny K)))).rel B' (x_1.map (fun (a5 : (List (List PyData))) => a5)) (.ref p33) := ⟨_, S36.frz (i := 0) rfl n38, S36.frzS (i := 0) rfl, frzL h39 (S36.atB (i := 0) rfl)⟩
      refine w_gname ?_
      refine w_nx (σ' := [(some (.ref p_0)), (some v_1), (some (.ref p33)), none]) rfl ?_
      refine w_seq ?_
      refine w_drop ?_
      refine w_call ?_
      refine w_evA (EvA.cons (Ev.var rfl) EvA.nil) ?_
      obtain ⟨r45, h46, hm⟩ := bs hm
      refine use_check_rows S41 h44 h46 fun v47 B51 H48  (S49 : Sit _ B51 H48 [(p_0, .ins C_Result dx [])]) s50 h52  => ?_
      cases h52
      refine w_sfld ?_
      refine w_call ?_
      refine w_evA (EvA.cons (Ev.var rfl) (EvA.cons Ev.c EvA.nil)) ?_
      obtain ⟨r53, h54, hm⟩ := bs hm
      refine use_canonical_rows S49 (Rl.mono _ s50 h44) (show dInt.rel _ (0 : Int) (V.int 0) from rfl) h54 fun v55 B59 H56  (S57 : Sit _ B59 H56 [(p_0, .ins C_Result dx [])]) s58 h60  => ?_
      refine w_ev (Ev.var rfl) ?_
      refine q_sfld (i := 0) S57 rfl cl_Result nA_Result_table (by show 0 < 1000; decide) putF_nil fun H61 (S62 : Sit _ B59 H61 [(p_0, .ins C_Result dx [(Str.ofString "table", v55)])]) => ?_
      obtain rfl := Option.some.inj hm
      exact k _ _ _ S62 ⟨_, rfl, h60⟩
abbrev n_Result_rows : List Str := ["self", "row"]
theorem sc_Result_rows : FnScope n_Result_rows ["self"] (defScope s_Result_rows) := ⟨rfl, rfl, rfl, by decide +kernel, rfl, by decide +kernel, by decide +kernel⟩
def m_Result_rows (x_0 : O_Result) : Option (List (List (List PyData))) :=
  some (x_0.map (fun (a11 : (List (List PyData))) => a11))
def sp_Result_rows (K : PySem.W.Frag) (C_Result : Addr) : Sp := fun vs H Q E => ∃ (B : Hp) (x_0 : O_Result) (v_0 : V) (r : (List (List (List PyData)))), vs = [v_0] ∧ Same B H ∧ (dO_Result K C_Result).rel B x_0 v_0 ∧ m_Result_rows x_0 = some r ∧ ∀ (v : V) (B' H' : Hp) , Sit ⟨B, H, []⟩ B' H' [] → (dList (dList (dTup K (dAny K)))).rel B' r v → Q v H'
theorem use_Result_rows {K : PySem.W.Frag} {C_Result : Addr} {Φ : Fr} {B H : Hp} {cs : List (Addr × HO)} {Q : VK} {E : XK} {r : (List (List (List PyData)))} {x_0 : O_Result} {v_0 : V} (Z : Sit Φ B H cs) (h_0 : (dO_Result K C_Result).rel B x_0 v_0) (hm : m_Result_rows x_0 = some r) (k : ∀ (v : V) (B' H' : Hp) , Sit Φ B' H' cs → Same B B' → (dList (dList (dTup K (dAny K)))).rel B' r v → Q v H') : sp_Result_rows K C_Result ([v_0] ++ []) H Q E := by
  exact ⟨B, x_0, v_0, r, rfl, Z.sub, h_0, hm, fun v B' H'  Z' h  => k v B' H'  (Z.call0 Z') Z'.grow h ⟩
theorem ok_Result_rows {C_Result : Addr} (A0 : MethAt K C_Result "rows" "Result.rows" s_Result_rows ["self"]) (T_Result : ClsF K mg "Result" C_Result) (b_list : mg "list" = none) (nA_Result_table : NoAttr K C_Result "table") : MDoes P w K mg base CX0 1 C_Result "rows" ["self"] (sp_Result_rows K C_Result ) := by
  obtain ⟨f, fd, F, me, bd⟩ := A0
  have cl_Result := T_Result.ic.cl
  have g_Result := T_Result.g
  refine ⟨f, fd, ?_, me, bd, F.isIn⟩
  refine F.ok sc_Result_rows (fun vs H Q E h => ?_) (fun cdv A outer s H vs Q E hr h => ?_)
  · obtain ⟨_, _, _, _, rfl, _⟩ := h
    rfl
  · obtain ⟨B, x_0, v_0, r, rfl, sB, hx_0, hm, k⟩ := h
    have hu := hu_of hr
    refine ⟨_, (pss_one (ps_ret (pe_lc (own := [("row", 1)]) (tt := tYes) rfl sc_Result_rows.nd (k_iL K (k_fld K (pv 0) rfl)) (blkOk_by (own := [("row", 1)]) (N := n_Result_rows) (sc := defScope s_Result_rows) (by decide +kernel)) (fun _ _ _ _ _ => (pg_name (i := 1) sc_Result_rows.nd rfl (Or.inl rfl))) (fun _ _ _ _ _ => pts_nil) (fun _ _ _ _ _ => (pe_callTy (k_list K) (by rfl) b_list (by decide +kernel) (pa_cons (pv 1) pa_nil)))))), ?_⟩
    obtain ⟨B0, hB0⟩ : ∃ B0 : Hp, B0 = B := ⟨_, rfl⟩
    subst hB0
    have S0 := Sit.start0 sB
    unfold m_Result_rows at hm
    refine w_sig (σ' := [(some v_0), none]) rfl ?_
    refine w_ret ?_
    refine w_lc ?_
    refine x_iL ?_
    obtain ⟨w7, h8, r6⟩ := fld_Result_table T_Result.ic.cl nA_Result_table hx_0
    refine w_ev (Ev.fld (Ev.var rfl) (r6 _ S0.sub)) ?_
    refine w_itL h8 S0.sub fun J1 it2 => ?_
    refine lcR (P := (dList (dTup K (dAny K)))) it2 S0 (dList.le h8) (lcM_map (fun (a11 : (List (List PyData))) => a11) x_0) (fun _ _ _ Z e _ => e.tr Z.sub) (fun D9 ac10 a11 o12 x13 B16 B17 H18 ma24 S19 s14 s15 h20 ho21 RR22 kk23 => ?_) ?_
    · refine w_turn ?_
      refine w_gname ?_
      refine w_wipe rfl ?_
      refine w_yes ?_
      refine iteT ?_
      refine w_cb ?_
      refine w_evA (EvA.cons (Ev.var rfl) EvA.nil) ?_
      refine q_list S19 (sqL (K := K) h20 S19.sub) fun v32 B37 H33 S34 s35 h36 => ?_
      obtain rfl := Option.some.inj ho21
      exact kk23 _ _ _ S34 s35 ⟨_, rfl, h36⟩
    · intro p39 B46 H40 o41 S42 s43 n44 h45
      obtain ⟨B49, S47, s48, h50⟩ : ∃ B', Sit _ B' H40 [] ∧ Same _ B' ∧ (dList (dList (dTup K (dAny K)))).rel B' (x_0.map (fun (a11 : (List (List PyData))) => a11)) (.ref p39) := ⟨_, S42.frz (i := 0) rfl n44, S42.frzS (i := 0) rfl, frzL h45 (S42.atB (i := 0) rfl)⟩
      obtain rfl := Option.some.inj hm
      exact k _ _ _  S47 h50
abbrev n_make_result : List Str := ["rows", "start", "result"]
theorem sc_make_result : FnScope n_make_result ["rows", "start"] (defScope s_make_result) := ⟨rfl, rfl, rfl, by decide +kernel, rfl, by decide +kernel, by decide +kernel⟩
def m_make_result (x_0 : (List (List (List PyData)))) (x_1 : Int) : Option O_Result :=
  (m_Result___init__ (([([] : (List (List PyData)))] : (List (List (List PyData)))))).bind fun r13 =>
  (m_canonical_rows (x_0) (x_1)).bind fun r26 =>
  some r26
def sp_make_result (K : PySem.W.Frag) (C_Result : Addr) : Sp := fun vs H Q E => ∃ (B : Hp) (x_0 : (List (List (List PyData)))) (v_0 : V) (x_1 : Int) (r : O_Result), vs = [v_0, (V.int x_1)] ∧ Same B H ∧ (dList (dList (dTup K (dAny K)))).rel B x_0 v_0 ∧ m_make_result x_0 x_1 = some r ∧ ∀ (v : V) (B' H' : Hp) , Sit ⟨B, H, []⟩ B' H' [] → (dO_Result K C_Result).rel B' r v → Q v H'
theorem use_make_result {K : PySem.W.Frag} {C_Result : Addr} {Φ : Fr} {B H : Hp} {cs : List (Addr × HO)} {Q : VK} {E : XK} {r : O_Result} {x_0 : (List (List (List PyData)))} {v_0 : V} {x_1 : Int} {v_1 : V} (Z : Sit Φ B H cs) (h_0 : (dList (dList (dTup K (dAny K)))).rel B x_0 v_0) (h_1 : dInt.rel B x_1 v_1) (hm : m_make_result x_0 x_1 = some r) (k : ∀ (v : V) (B' H' : Hp) , Sit Φ B' H' cs → Same B B' → (dO_Result K C_Result).rel B' r v → Q v H') : sp_make_result K C_Result ([v_0, v_1] ++ []) H Q E := by
  cases h_1
  exact ⟨B, x_0, v_0, x_1, r, rfl, Z.sub, h_0, hm, fun v B' H'  Z' h  => k v B' H'  (Z.call0 Z') Z'.grow h ⟩
theorem ok_make_result {C_Result : Addr} (A0 : DefAtD K mg "make_result" s_make_result [.int 0] []) (T_Result : ClsF K mg "Result" C_Result) (nA_Result_table : NoAttr K C_Result "table") (D_Result___init__ : MkDoes P w K mg base CX0 4 "Result" C_Result ["self", "rows"] [] (sp_Result___init__ K C_Result )) (D_canonical_rows : Does P w K mg base CX0 3 "canonical_rows" ["table", "start"] (sp_canonical_rows K )) : CoreD P w K mg base CX0 6 "make_result" s_make_result [.int 0] [] ["rows", "start"] (sp_make_result K C_Result ) := by
  obtain ⟨f, fd, F, gm⟩ := A0
  have cl_Result := T_Result.ic.cl
  have g_Result := T_Result.g
  obtain ⟨f_canonical_rows, fd_canonical_rows, G_canonical_rows, g_canonical_rows, kp_canonical_rows, bd_canonical_rows⟩ := D_canonical_rows
  obtain ⟨f_Result___init__, fd_Result___init__, ds_Result___init__, M_Result___init__, G_Result___init__, bd_Result___init__, vd_Result___init__, g_Result___init__⟩ := D_Result___init__
  cases vd_Result___init__
  refine ⟨f, fd, ?_, F, gm⟩
  refine FunD.okN F sc_make_result (fun vs H Q E h => ?_) (fun cdv A outer s H vs Q E hr h => ?_)
  · obtain ⟨_, _, _, _, _, rfl, _⟩ := h
    rfl
  · obtain ⟨B, x_0, v_0, x_1, r, rfl, sB, hx_0, hm, k⟩ := h
    have hu := hu_of hr
    refine ⟨_, (pss_cons (ps_set (i := 2) sc_make_result.nd rfl (Or.inl rfl) (pe_make M_Result___init__ G_Result___init__ (hr.mono (by decide)) rfl g_Result___init__ bd_Result___init__ .nil pass0 (pa_cons (pe_lst (pa_cons (pe_lst pa_nil) pa_nil)) pa_nil)))
  (pss_cons (k_sfld K (pv 2) (pe_call G_canonical_rows (hr.mono (by decide)) rfl g_canonical_rows kp_canonical_rows bd_canonical_rows .nil pass0 (pa_cons (pv 0) (pa_cons (pv 1) pa_nil))) rfl)
  (pss_one (ps_ret (pv 2))))), ?_⟩
    obtain ⟨B0, hB0⟩ : ∃ B0 : Hp, B0 = B := ⟨_, rfl⟩
    subst hB0
    have S0 := Sit.start0 sB
    unfold m_make_result at hm
    refine w_sig (σ' := [(some v_0), (some (V.int x_1)), none]) rfl ?_
    refine w_seq ?_
    refine w_asg ?_
    refine w_make ?_
    refine w_cons ?_
    refine x_lst ?_
    refine w_cons ?_
    refine x_lst ?_
    refine w_nil ?_
    refine mkL (R := (dTup K (dAny K))) (xs := []) S0 .nil (by show 0 ≤ BIG; decide) fun v1 B6 H2 S3 s4 h5 => ?_
    refine w_nil ?_
    refine mkL (R := (dList (dTup K (dAny K)))) (xs := [([] : (List (List PyData)))]) S3 (.cons h5 .nil) (by show 1 ≤ BIG; decide) fun v7 B12 H8 S9 s10 h11 => ?_
    refine w_nil ?_
    obtain ⟨r13, h14, hm⟩ := bs hm
    refine mo_Result___init__ S9 ((subLQ (subLQ subR)) h11) h14 fun p15 dx16 fs17 B23 H18 S19 s20 n21 h22 => ?_
    obtain ⟨a24, rfl, h25⟩ := h22
    refine w_gname ?_
    refine w_nx (σ' := [(some v_0), (some (V.int x_1)), (some (.ref p15))]) rfl ?_
    refine w_seq ?_
    refine w_sfld ?_
    refine w_call ?_
    refine w_evA (EvA.cons (Ev.var rfl) (EvA.cons (Ev.var rfl) EvA.nil)) ?_
    obtain ⟨r26, h27, hm⟩ := bs hm
    refine use_canonical_rows S19 (Rl.mono _ (s4.tr (s10.tr s20)) hx_0) (show dInt.rel _ x_1 (V.int x_1) from rfl) h27 fun v28 B32 H29  (S30 : Sit _ B32 H29 [(p15, .ins C_Result dx16 [(Str.ofString "table", a24)])]) s31 h33  => ?_
    refine w_ev (Ev.var rfl) ?_
    refine q_sfld (i := 0) S30 rfl cl_Result nA_Result_table (by show 1 < 1000; decide) putF_hit fun H34 (S35 : Sit _ B32 H34 [(p15, .ins C_Result dx16 [(Str.ofString "table", v28)])]) => ?_
    refine w_ret ?_
    refine w_ev (Ev.var rfl) ?_
    obtain ⟨B39, S36, s37, h38⟩ : ∃ B', Sit _ B' H34 [] ∧ Same _ B' ∧ (dO_Result K C_Result).rel B' r26 (.ref p15) := ⟨_, S35.frz (i := 0) rfl n21, S35.frzS (i := 0) rfl, frzO (F := F_Result K C_Result) (x := r26) ⟨_, rfl, h33⟩ (S35.atB (i := 0) rfl)⟩
    obtain rfl := Option.some.inj hm
    exact k _ _ _  S36 h38
end
end Mm
namespace Mm
open PySem L2 Mf
section
variable {P : Program} {w : World} {K : PySem.W.Frag} {mg : Str → Option Value} {base : Heap} {cx : Nat → Addr}
abbrev n_bad_procedures : List Str := ["program", "broken", "spared", "bad", "name", "required", "each", "place"]
theorem sc_bad_procedures : FnScope n_bad_procedures ["program", "broken", "spared"] (defScope s_bad_procedures) := ⟨rfl, rfl, rfl, by decide +kernel, rfl, by decide +kernel, by decide +kernel⟩
def m_bad_procedures (x_0 : O_Program) (x_1 : (List Str)) (x_2 : (List Str)) : Option (List Str) :=
  (forL (fun (a20 : Str) (st21 : (List Str)) => (m_spread (x_0) (([a20] : (List Str))) (([(Str.ofString "call")] : List Str)) (x_2)).bind fun r51 =>
  (lc2M (γ := Str) (fun (a64 : Str) => (m_places_read (x_0) (a64)).bind fun r84 =>
  some r84) (fun (a64 : Str) (a93 : Str) => some (some (decide (a93 ∈ x_1)))) r51).bind fun ys113 =>
  if (ys113.any id) = true then (pushM st21 a20).bind fun x128 =>
  some x128 else some st21) x_0.1 ([] : (List Str))).bind fun st140 =>
  some st140
def sp_bad_procedures (K : PySem.W.Frag) (C_Program : Addr) : Sp := fun vs H Q E => ∃ (B : Hp) (x_0 : O_Program) (v_0 : V) (x_1 : (List Str)) (v_1 : V) (x_2 : (List Str)) (v_2 : V) (r : (List Str)), vs = [v_0, v_1, v_2] ∧ Same B H ∧ (dO_Program K C_Program).rel B x_0 v_0 ∧ (dTup K dStr).rel B x_1 v_1 ∧ (dTup K dStr).rel B x_2 v_2 ∧ m_bad_procedures x_0 x_1 x_2 = some r ∧ ∀ (v : V) (B' H' : Hp) , Sit ⟨B, H, []⟩ B' H' [] → (dList dStr).rel B' r v → Q v H'
theorem use_bad_procedures {K : PySem.W.Frag} {C_Program : Addr} {Φ : Fr} {B H : Hp} {cs : List (Addr × HO)} {Q : VK} {E : XK} {r : (List Str)} {x_0 : O_Program} {v_0 : V} {x_1 : (List Str)} {v_1 : V} {x_2 : (List Str)} {v_2 : V} (Z : Sit Φ B H cs) (h_0 : (dO_Program K C_Program).rel B x_0 v_0) (h_1 : (dTup K dStr).rel B x_1 v_1) (h_2 : (dTup K dStr).rel B x_2 v_2) (hm : m_bad_procedures x_0 x_1 x_2 = some r) (k : ∀ (v : V) (B' H' : Hp) , Sit Φ B' H' cs → Same B B' → (dList dStr).rel B' r v → Q v H') : sp_bad_procedures K C_Program ([v_0, v_1, v_2] ++ []) H Q E := by
  exact ⟨B, x_0, v_0, x_1, v_1, x_2, v_2, r, rfl, Z.sub, h_0, h_1, h_2, hm, fun v B' H'  Z' h  => k v B' H'  (Z.call0 Z') Z'.grow h ⟩
theorem ok_bad_procedures {C_Program : Addr} (A0 : DefAt K mg "bad_procedures" s_bad_procedures ["program", "broken", "spared"]) (T_Program : ClsF K mg "Program" C_Program) (b_any : mg "any" = none) (e_HARD_CALLS : ∃ a, mg "HARD_CALLS" = some (.ref a) ∧ ∀ H, SqT K H a (([Str.ofString "call"] : List Str).map V.str)) (nA_Program_names : NoAttr K C_Program "names") (D_spread_n4 : DoesD P w K mg base CX0 4 "spread" ["program", "starts", "kinds", "stops"] [] (sp_spread K C_Program )) (D_places_read : Does P w K mg base CX0 3 "places_read" ["program", "name"] (sp_places_read K C_Program )) : Does P w K mg base CX0 5 "bad_procedures" ["program", "broken", "spared"] (sp_bad_procedures K C_Program ) := by
  obtain ⟨f, fd, F, gm, bd⟩ := A0
  have cl_Program := T_Program.ic.cl
  have g_Program := T_Program.g
  obtain ⟨a_HARD_CALLS, g_HARD_CALLS, hk_HARD_CALLS⟩ := e_HARD_CALLS
  obtain ⟨f_spread_n4, fd_spread_n4, ds_spread_n4, G_spread_n4, g_spread_n4, kp_spread_n4, bd_spread_n4, vd_spread_n4⟩ := D_spread_n4
  obtain ⟨f_places_read, fd_places_read, G_places_read, g_places_read, kp_places_read, bd_places_read⟩ := D_places_read
  refine ⟨f, fd, ?_, gm, F.kp, bd⟩
  refine F.ok sc_bad_procedures (fun vs H Q E h => ?_) (fun cdv A outer s H vs Q E hr h => ?_)
  · obtain ⟨_, _, _, _, _, _, _, _, rfl, _⟩ := h
    rfl
  · obtain ⟨B, x_0, v_0, x_1, v_1, x_2, v_2, r, rfl, sB, hx_0, hx_1, hx_2, hm, k⟩ := h
    have hu := hu_of hr
    refine ⟨_, (pss_cons (ps_set (i := 3) sc_bad_procedures.nd rfl (Or.inl rfl) (pe_lst pa_nil))
  (pss_cons (ps_for PassesOwn.never rfl (k_iT K (k_fld K (pv 0) rfl)) (pg_name (i := 4) sc_bad_procedures.nd rfl (Or.inl rfl))
  (pss_cons (ps_set (i := 5) sc_bad_procedures.nd rfl (Or.inl rfl) (pe_call G_spread_n4 (hr.mono (by decide)) rfl g_spread_n4 kp_spread_n4 bd_spread_n4 vd_spread_n4 pass0 (pa_cons (pv 0) (pa_cons (pe_tup (pa_cons (pv 4) pa_nil)) (pa_cons (pe_glob (v := .ref a_HARD_CALLS) rfl g_HARD_CALLS rfl) (pa_cons (pv 2) pa_nil))))))
  (pss_one (ps_if (pt_val (pe_callB (k_any K rfl) (by rfl) b_any (by decide +kernel) (pa_cons (pe_lc2 (own := [("each", 6), ("place", 7)]) (vs1 := [7]) (tt := tYes) (tt1 := tYes) rfl sc_bad_procedures.nd (k_iL K (pv 5)) (blkOk_by (own := [("each", 6), ("place", 7)]) (N := n_bad_procedures) (sc := defScope s_bad_procedures) (by decide +kernel)) (by decide) (fun _ _ _ _ _ => (pg_name (i := 6) sc_bad_procedures.nd rfl (Or.inl rfl))) (fun _ _ _ _ _ => pts_nil) (fun _ _ _ _ _ => (k_iL K (pe_call G_places_read (hr.mono (by decide)) rfl g_places_read kp_places_read bd_places_read .nil pass0 (pa_cons (pv 0) (pa_cons (pv 6) pa_nil))))) (fun _ _ _ _ _ => (pg_name (i := 7) sc_bad_procedures.nd rfl (Or.inl rfl))) (fun _ _ _ _ _ => pts_nil) (fun _ _ _ _ _ => (pe_cmpR (k_in K) (pv 7) (pv 1) (by rfl)))) pa_nil))) (pss_one (ps_expr (k_bm K PySem.F.plainAttrs_list PySem.F.slot_list_append PySem.F.type_list_append mt_append (pv 3) (pa_cons (pv 4) pa_nil)))) pss_nil))))
  (pss_one (ps_ret (pv 3))))), ?_⟩
    obtain ⟨B0, hB0⟩ : ∃ B0 : Hp, B0 = B := ⟨_, rfl⟩
    subst hB0
    have S0 := Sit.start0 sB
    unfold m_bad_procedures at hm
    refine w_sig (σ' := [(some v_0), (some v_1), (some v_2), none, none, none, none, none]) rfl ?_
    refine w_seq ?_
    refine w_asg ?_
    refine x_lst ?_
    refine w_nil ?_
    refine mkO (R := dStr) (xs := []) S0 .nil (by show 0 ≤ BIG; decide) fun p1 o2 H3 S4 n5 h6 => ?_
    refine w_gname ?_
    refine w_nx (σ' := [(some v_0), (some v_1), (some v_2), (some (.ref p1)), none, none, none, none]) rfl ?_
    refine w_seq ?_
    refine w_for ?_
    refine x_iT ?_
    obtain ⟨w13, h14, r12⟩ := fld_Program_names T_Program.ic.cl nA_Program_names hx_0
    refine w_ev (Ev.fld (Ev.var rfl) (r12 _ S4.sub)) ?_
    refine w_itT h14 S4.sub fun J7 it8 => ?_
    obtain ⟨st140, hl149, hm⟩ := bs hm
    refine forS (s0 := ([] : (List Str))) it8 S4 (fun (st15 : (List Str)) b σ' cs' => ∃ (e16 : Option V) (e17 : Option V) (o18 : HO), σ' = [(some v_0), (some v_1), (some v_2), (some (.ref p1)), e16, e17, none, none] ∧ cs' = [(p1, o18)] ∧ (cList dStr).rel b st15 o18 ∧ True) ⟨_, _, _, rfl, rfl, h6, trivial⟩ hl149 (fun _ _ _ _ _ Z e _ => e.tr Z.sub) (fun a20 st21 o22 x23 B33 B38 H24 _ cs25 ma26 S27 s28 s29 hI30 h31 hf32 => ?_) ?_
    · obtain ⟨e34, e35, o36, rfl, rfl, h37, -⟩ := hI30
      cases h31
      refine w_gname ?_
      refine w_nx (σ' := [(some v_0), (some v_1), (some v_2), (some (.ref p1)), (some (V.str a20)), e35, none, none]) rfl ?_
      refine w_seq ?_
      refine w_asg ?_
      refine w_call ?_
      refine w_cons ?_
      refine w_ev (Ev.var rfl) ?_
      refine w_cons ?_
      refine x_tup ?_
      refine w_evA (EvA.cons (Ev.var rfl) EvA.nil) ?_
      refine mkT (K := K) (R := dStr) (xs := [a20]) S27 (.cons rfl .nil) (by show 1 ≤ BIG; decide) fun v45 B50 H46 S47 s48 h49 => ?_
      refine w_evA (EvA.cons Ev.c (EvA.cons (Ev.var rfl) EvA.nil)) ?_
      obtain ⟨r51, h52, hf32⟩ := bs hf32
      refine use_spread S47 (Rl.mono _ (s28.tr (s29.tr s48)) hx_0) h49 (tupC hk_HARD_CALLS (by decide)) (Rl.mono _ (s28.tr (s29.tr s48)) hx_2) h52 fun v53 B57 H54  (S55 : Sit _ B57 H54 [(p1, o36)]) s56 h58  => ?_
      refine w_gname ?_
      refine w_nx (σ' := [(some v_0), (some v_1), (some v_2), (some (.ref p1)), (some (V.str a20)), (some v53), none, none]) rfl ?_
      refine w_ifS ?_
      refine w_tb ?_
      refine w_cb ?_
      refine w_cons ?_
      refine w_lc2 ?_
      refine x_iL ?_
      refine w_ev (Ev.var rfl) ?_
      refine w_itL h58 S55.sub fun J59 it60 => ?_
      obtain ⟨ys113, h114, hf32⟩ := bs hf32
      refine lc2R (P := dBool) it60 S55 h114 (fun _ _ _ Z e _ => e.tr Z.sub) (fun D61 zs62 ac63 a64 zs65 ws66 x67 B80 B81 H68 ma69 S70 s71 s72 hF73 h74 hz75 hw76 hl77 Nx78 kk79 => ?_) ?_
      · refine w_turnO ?_
        cases h74
        refine w_gname ?_
        refine w_wipe rfl ?_
        refine w_yes ?_
        refine iteT ?_
        refine x_iL ?_
        refine w_call ?_
        refine w_evA (EvA.cons (Ev.var rfl) (EvA.cons (Ev.var rfl) EvA.nil)) ?_
        obtain ⟨r84, h85, hz75⟩ := bs hz75
        refine use_places_read S70 (Rl.mono _ (s28.tr (s29.tr (s48.tr (s56.tr (s71.tr s72))))) hx_0) (show dStr.rel _ a64 (V.str a64) from rfl) h85 fun v86 B90 H87  (S88 : Sit _ B90 H87 [(D61, (.lst ac63)), (p1, o36)]) s89 h91  => ?_
        refine w_itL h91 S88.sub fun J82 it83 => ?_
        obtain rfl := Option.some.inj hz75
        refine lc2In (P := dBool) it83 S88 (fa_mono s89 hF73) (big_lt2 hl77 (dList.le h91)) hw76 (fun _ _ _ Z e _ => e.tr Z.sub) (fun ac92 a93 o94 x95 B105 B106 H96 ma97 S98 s99 s100 h101 ho102 RR103 kk104 => ?_) ?_
        · refine w_turn2 ?_
          cases h101
          refine w_gname ?_
          refine w_wipe rfl ?_
          refine w_yes ?_
          refine iteT ?_
          refine w_ev (Ev.op (Ev.var rfl) (Ev.var rfl) (rin_s (sqT (K := K) (Rl.mono _ (s28.tr (s29.tr (s48.tr (s56.tr (s71.tr (s72.tr (s89.tr (s99.tr s100)))))))) hx_1) S98.sub))) ?_
          obtain rfl := Option.some.inj ho102
          exact kk104 _ _ _ S98 (Same.rf _) ⟨_, rfl, (show dBool.rel _ (decide (a93 ∈ x_1)) (V.bl (decide (a93 ∈ x_1))) from rfl)⟩
        · intro B111 H107 ac112 S108 s109 hF110
          exact kk79 _ _ _ S108 (s89.tr s109) hF110
      · intro p115 B122 H116 o117 S118 s119 n120 h121
        obtain ⟨B125, S123, s124, h126⟩ : ∃ B', Sit _ B' H116 [(p1, o36)] ∧ Same _ B' ∧ (dList dBool).rel B' ys113 (.ref p115) := ⟨_, S118.frz (i := 0) rfl n120, S118.frzS (i := 0) rfl, frzL h121 (S118.atB (i := 0) rfl)⟩
        refine w_nil ?_
        refine rany (Rl.mono _ S123.sub h126) _ ?_
        refine w_bl ?_
        refine w_ifb (fun h127 => ?_) (fun h127 => ?_)
        · rw [ifT h127] at hf32
          refine w_drop ?_
          refine w_bm ?_
          refine w_ev (Ev.var rfl) ?_
          refine w_tyC (Cl.mono _ (s29.tr (s48.tr (s56.tr (s119.tr s124)))) h37) (S123.at' (i := 0) rfl) ?_
          refine w_evA (EvA.cons (Ev.var rfl) EvA.nil) ?_
          obtain ⟨x128, h129, hf32⟩ := bs hf32
          refine q_append (k := 0) S123 rfl (Cl.mono _ (s29.tr (s48.tr (s56.tr (s119.tr s124)))) h37) (show dStr.rel _ a20 (V.str a20) from rfl) h129 fun o130 H131 (S132 : Sit _ B125 H131 [(p1, o130)]) h133 => ?_
          obtain rfl := Option.some.inj hf32
          exact ⟨_, _, S132, (s28.tr (s29.tr (s48.tr (s56.tr (s119.tr s124))))), _, _, _, rfl, rfl, h133, trivial⟩
        · rw [ifF h127] at hf32
          refine w_next ?_
          obtain rfl := Option.some.inj hf32
          exact ⟨_, _, S123, (s28.tr (s29.tr (s48.tr (s56.tr (s119.tr s124))))), _, _, _, rfl, rfl, (Cl.mono _ (s29.tr (s48.tr (s56.tr (s119.tr s124)))) h37), trivial⟩
    · intro B139 H134 _ cs135 S136 s137 hI138
      obtain ⟨e141, e142, o143, rfl, rfl, h144, -⟩ := hI138
      obtain ⟨B147, S145, s146, h148⟩ : ∃ B', Sit _ B' H134 [] ∧ Same _ B' ∧ (dList dStr).rel B' st140 (.ref p1) := ⟨_, S136.frz (i := 0) rfl n5, S136.frzS (i := 0) rfl, frzL h144 (S136.atB (i := 0) rfl)⟩
      refine w_ret ?_
      refine w_ev (Ev.var rfl) ?_
      obtain rfl := Option.some.inj hm
      exact k _ _ _  S145 h148
abbrev n_failing_path : List Str := ["program", "name", "broken", "spared", "waiting", "seen", "path", "place", "callee"]
theorem sc_failing_path : FnScope n_failing_path ["program", "name", "broken", "spared"] (defScope s_failing_path) := ⟨rfl, rfl, rfl, by decide +kernel, rfl, by decide +kernel, by decide +kernel⟩
def m_failing_path (x_0 : O_Program) (x_1 : Str) (x_2 : (List Str)) (x_3 : (List Str)) : Option (Option ((List Str) × Str)) :=
  (capM ((x_1 :: (x_3 ++ [])) : (List Str))).bind fun r15 =>
  (whC (S := ((List Str) × (List (List Str)))) (R := (Option ((List Str) × Str))) (fun (st32 : ((List Str) × (List (List Str)))) => if (decide ((0 : Int) < (st32.2.length : Int))) = true then (popM st32.2 (0 : Int)).bind fun x59 =>
  (atI x59.1 (-(1 : Int))).bind fun x69 =>
  (m_places_read (x_0) (x69)).bind fun r71 =>
  (forC (R := (Option ((List Str) × Str))) (fun (a81 : Str) (st82 : Unit) => if (decide (a81 ∈ x_2)) = true then some (.ret (some (x59.1, a81))) else some (.nx ())) r71 ()).bind fun c102 =>
  c102.on (fun st116 => (atI x59.1 (-(1 : Int))).bind fun x120 =>
  (m_callees (x_0) (x120) (([(Str.ofString "call")] : List Str))).bind fun r122 =>
  (forL (fun (a136 : Str) (st137 : ((List Str) × (List (List Str)))) => if (!decide (a136 ∈ st137.1)) = true then (pushM st137.1 a136).bind fun x163 =>
  (capM ((x59.1 ++ (a136 :: [])) : (List Str))).bind fun r171 =>
  (pushM st137.2 r171).bind fun x179 =>
  some (x163, x179) else some (st137.1, st137.2)) r122 (st32.1, x59.2)).bind fun st191 =>
  some (.nx (st191.1, st191.2))) (fun r => some (.ret r)) else some (.brk (st32.1, st32.2))) FUEL (r15, ([([x_1] : (List Str))] : (List (List Str))))).bind fun c57 =>
  c57.on (fun st206 => some (none : (Option ((List Str) × Str)))) (fun r => some r)
def sp_failing_path (K : PySem.W.Frag) (C_Program : Addr) : Sp := fun vs H Q E => ∃ (B : Hp) (x_0 : O_Program) (v_0 : V) (x_1 : Str) (x_2 : (List Str)) (v_2 : V) (x_3 : (List Str)) (v_3 : V) (r : (Option ((List Str) × Str))), vs = [v_0, (V.str x_1), v_2, v_3] ∧ Same B H ∧ (dO_Program K C_Program).rel B x_0 v_0 ∧ (dTup K dStr).rel B x_2 v_2 ∧ (dTup K dStr).rel B x_3 v_3 ∧ m_failing_path x_0 x_1 x_2 x_3 = some r ∧ ∀ (v : V) (B' H' : Hp) , Sit ⟨B, H, []⟩ B' H' [] → (dOpt (dPair K (dTup K dStr) dStr)).rel B' r v → Q v H'
theorem use_failing_path {K : PySem.W.Frag} {C_Program : Addr} {Φ : Fr} {B H : Hp} {cs : List (Addr × HO)} {Q : VK} {E : XK} {r : (Option ((List Str) × Str))} {x_0 : O_Program} {v_0 : V} {x_1 : Str} {v_1 : V} {x_2 : (List Str)} {v_2 : V} {x_3 : (List Str)} {v_3 : V} (Z : Sit Φ B H cs) (h_0 : (dO_Program K C_Program).rel B x_0 v_0) (h_1 : dStr.rel B x_1 v_1) (h_2 : (dTup K dStr).rel B x_2 v_2) (h_3 : (dTup K dStr).rel B x_3 v_3) (hm : m_failing_path x_0 x_1 x_2 x_3 = some r) (k : ∀ (v : V) (B' H' : Hp) , Sit Φ B' H' cs → Same B B' → (dOpt (dPair K (dTup K dStr) dStr)).rel B' r v → Q v H') : sp_failing_path K C_Program ([v_0, v_1, v_2, v_3] ++ []) H Q E := by
  cases h_1
  exact ⟨B, x_0, v_0, x_1, x_2, v_2, x_3, v_3, r, rfl, Z.sub, h_0, h_2, h_3, hm, fun v B' H'  Z' h  => k v B' H'  (Z.call0 Z') Z'.grow h ⟩
theorem ok_failing_path {C_Program : Addr} (A0 : DefAt K mg "failing_path" s_failing_path ["program", "name", "broken", "spared"]) (T_Program : ClsF K mg "Program" C_Program) (b_len : mg "len" = none) (e_HARD_CALLS : ∃ a, mg "HARD_CALLS" = some (.ref a) ∧ ∀ H, SqT K H a (([Str.ofString "call"] : List Str).map V.str)) (D_places_read : Does P w K mg base CX0 3 "places_read" ["program", "name"] (sp_places_read K C_Program )) (D_callees : Does P w K mg base CX0 3 "callees" ["program", "name", "kinds"] (sp_callees K C_Program )) : Does P w K mg base CX0 4 "failing_path" ["program", "name", "broken", "spared"] (sp_failing_path K C_Program ) := by
  obtain ⟨f, fd, F, gm, bd⟩ := A0
  have cl_Program := T_Program.ic.cl
  have g_Program := T_Program.g
  obtain ⟨a_HARD_CALLS, g_HARD_CALLS, hk_HARD_CALLS⟩ := e_HARD_CALLS
  obtain ⟨f_places_read, fd_places_read, G_places_read, g_places_read, kp_places_read, bd_places_read⟩ := D_places_read
  obtain ⟨f_callees, fd_callees, G_callees, g_callees, kp_callees, bd_callees⟩ := D_callees
  refine ⟨f, fd, ?_, gm, F.kp, bd⟩
  refine F.ok sc_failing_path (fun vs H Q E h => ?_) (fun cdv A outer s H vs Q E hr h => ?_)
  · obtain ⟨_, _, _, _, _, _, _, _, _, rfl, _⟩ := h
    rfl
  · obtain ⟨B, x_0, v_0, x_1, x_2, v_2, x_3, v_3, r, rfl, sB, hx_0, hx_2, hx_3, hm, k⟩ := h
    have hu := hu_of hr
    refine ⟨_, (pss_cons (ps_set (i := 4) sc_failing_path.nd rfl (Or.inl rfl) (pe_lst (pa_cons (pe_tup (pa_cons (pv 1) pa_nil)) pa_nil)))
  (pss_cons (ps_set (i := 5) sc_failing_path.nd rfl (Or.inl rfl) (pe_lst (pa_cons (pv 1) (k_star K (pv 3) pa_nil))))
  (pss_cons (ps_while PassesOwn.never (pt_cmpR op_gt (pe_callB (k_len K) (by rfl) b_len (by decide +kernel) (pa_cons (pv 4) pa_nil)) pe_int (nomark _))
  (pss_cons (ps_set (i := 6) sc_failing_path.nd rfl (Or.inl rfl) (k_bm K PySem.F.plainAttrs_list PySem.F.slot_list_pop PySem.F.type_list_pop mt_popAt (pv 4) (pa_cons pe_int pa_nil)))
  (pss_cons (ps_for PassesOwn.never rfl (k_iL K (pe_call G_places_read (hr.mono (by decide)) rfl g_places_read kp_places_read bd_places_read .nil pass0 (pa_cons (pv 0) (pa_cons (pe_ix (k_ixT K) (pv 6) (pe_un un_neg pe_int) (fun _ _ => rfl)) pa_nil)))) (pg_name (i := 7) sc_failing_path.nd rfl (Or.inl rfl))
  (pss_one (ps_if (pt_cmpR (k_in K) (pv 7) (pv 2) (by rfl)) (pss_one (ps_ret (pe_tup (pa_cons (pv 6) (pa_cons (pv 7) pa_nil))))) pss_nil)))
  (pss_one (ps_for PassesOwn.never rfl (k_iL K (pe_call G_callees (hr.mono (by decide)) rfl g_callees kp_callees bd_callees .nil pass0 (pa_cons (pv 0) (pa_cons (pe_ix (k_ixT K) (pv 6) (pe_un un_neg pe_int) (fun _ _ => rfl)) (pa_cons (pe_glob (v := .ref a_HARD_CALLS) rfl g_HARD_CALLS rfl) pa_nil))))) (pg_name (i := 8) sc_failing_path.nd rfl (Or.inl rfl))
  (pss_one (ps_if (pt_cmpR (k_ni K) (pv 8) (pv 5) (by rfl)) (pss_cons (ps_expr (k_bm K PySem.F.plainAttrs_list PySem.F.slot_list_append PySem.F.type_list_append mt_append (pv 5) (pa_cons (pv 8) pa_nil)))
  (pss_one (ps_expr (k_bm K PySem.F.plainAttrs_list PySem.F.slot_list_append PySem.F.type_list_append mt_append (pv 4) (pa_cons (pe_tup (k_star K (pv 6) (pa_cons (pv 8) pa_nil))) pa_nil))))) pss_nil)))))))
  (pss_one (ps_ret pe_non))))), ?_⟩
    obtain ⟨B0, hB0⟩ : ∃ B0 : Hp, B0 = B := ⟨_, rfl⟩
    subst hB0
    have S0 := Sit.start0 sB
    unfold m_failing_path at hm
    refine w_sig (σ' := [(some v_0), (some (V.str x_1)), (some v_2), (some v_3), none, none, none, none, none]) rfl ?_
    refine w_seq ?_
    refine w_asg ?_
    refine x_lst ?_
    refine w_cons ?_
    refine x_tup ?_
    refine w_evA (EvA.cons (Ev.var rfl) EvA.nil) ?_
    refine mkT (K := K) (R := dStr) (xs := [x_1]) S0 (.cons rfl .nil) (by show 1 ≤ BIG; decide) fun v1 B6 H2 S3 s4 h5 => ?_
    refine w_nil ?_
    refine mkO (R := (dTup K dStr)) (xs := [([x_1] : (List Str))]) S3 (.cons h5 .nil) (by show 1 ≤ BIG; decide) fun p7 o8 H9 S10 n11 h12 => ?_
    refine w_gname ?_
    refine w_nx (σ' := [(some v_0), (some (V.str x_1)), (some v_2), (some v_3), (some (.ref p7)), none, none, none, none]) rfl ?_
    refine w_seq ?_
    refine w_asg ?_
    refine x_lst ?_
    refine w_cons ?_
    refine w_ev (Ev.var rfl) ?_
    refine x_star ?_
    refine w_ev (Ev.var rfl) ?_
    refine q_star (sqT (K := K) (Rl.mono _ s4 hx_3) S10.sub) fun vs13 hF14 => ?_
    refine w_nil ?_
    obtain ⟨r15, h16, hm⟩ := bs hm
    refine mkO S10 (R := dStr) (capM_fa h16 (Fa.cons (show dStr.rel _ x_1 (V.str x_1) from rfl) (Fa.app hF14 .nil))) (capM_le h16) fun p17 o18 H19 S20 n21 h22 => ?_
    refine w_gname ?_
    refine w_nx (σ' := [(some v_0), (some (V.str x_1)), (some v_2), (some v_3), (some (.ref p7)), (some (.ref p17)), none, none, none]) rfl ?_
    refine w_seq ?_
    obtain ⟨c57, hl222, hm⟩ := bs hm
    refine whK (s0 := (r15, ([([x_1] : (List Str))] : (List (List Str))))) S20 (fun (st23 : ((List Str) × (List (List Str)))) b σ' cs' => ∃ (e24 : Option V) (e25 : Option V) (e26 : Option V) (o27 : HO) (o29 : HO), σ' = [(some v_0), (some (V.str x_1)), (some v_2), (some v_3), (some (.ref p7)), (some (.ref p17)), e24, e25, e26] ∧ cs' = [(p17, o27), (p7, o29)] ∧ (cList dStr).rel b st23.1 o27 ∧ (cList (dTup K dStr)).rel b st23.2 o29 ∧ True) ⟨_, _, _, _, _, rfl, rfl, h22, h12, trivial⟩ hl222 (fun st32 o33 B44 H35 _ cs36 W55 m56 S38 s39 hI41 hf43 hret52 hbrk53 hW54 => ?_) ?_
    · obtain ⟨e45, e46, e47, o48, o50, rfl, rfl, h49, h51, -⟩ := hI41
      refine w_evT (EvT.test (Ev.op (Ev.cb (EvA.cons (Ev.var rfl) EvA.nil) (rlen_q (sqC (K := K) h51 (S38.at' (i := 1) rfl)))) Ev.c rv_I0)) ?_
      refine w_ifb (fun h58 => ?_) (fun h58 => ?_)
      · rw [ifT h58] at hf43
        refine ⟨_, hW54, ?_⟩
        refine w_seq ?_
        refine w_asg ?_
        refine w_bm ?_
        refine w_ev (Ev.var rfl) ?_
        refine w_tyC h51 (S38.at' (i := 1) rfl) ?_
        refine w_evA (EvA.cons Ev.c EvA.nil) ?_
        obtain ⟨x59, h60, hf43⟩ := bs hf43
        refine q_popAt (k := 1) S38 rfl h51 (show popM _ _ = some (x59.1, x59.2) from h60) fun w61 o63 H64 (S65 : Sit _ B44 H64 [(p17, o48), (p7, o63)]) h66 h62 => ?_
        refine w_gname ?_
        refine w_nx (σ' := [(some v_0), (some (V.str x_1)), (some v_2), (some v_3), (some (.ref p7)), (some (.ref p17)), (some w61), e46, e47]) rfl ?_
        refine w_seq ?_
        refine w_for ?_
        refine x_iL ?_
        refine w_call ?_
        obtain ⟨x69, hx69, hf43⟩ := bs hf43
        obtain ⟨_, rfl, r70⟩ := ix_T (K := K) h62 hx69
        refine w_evA (EvA.cons (Ev.var rfl) (EvA.cons (Ev.op (Ev.var rfl) (Ev.un Ev.c fun _ q => ⟨_, rfl, q⟩) (r70 _ S65.sub)) EvA.nil)) ?_
        obtain ⟨r71, h72, hf43⟩ := bs hf43
        refine use_places_read S65 (Rl.mono _ (s4.tr s39) hx_0) (show dStr.rel _ x69 (V.str x69) from rfl) h72 fun v73 B77 H74  (S75 : Sit _ B77 H74 [(p17, o48), (p7, o63)]) s76 h78  => ?_
        refine w_itL h78 S75.sub fun J67 it68 => ?_
        obtain ⟨c102, hl198, hf43⟩ := bs hf43
        refine forK (s0 := ()) it68 S75 (fun (st79 : Unit) b σ' cs' => ∃ (e80 : Option V), σ' = [(some v_0), (some (V.str x_1)), (some v_2), (some v_3), (some (.ref p7)), (some (.ref p17)), (some w61), e80, e47] ∧ cs' = [(p17, o48), (p7, o63)] ∧ True) ⟨_, rfl, rfl, trivial⟩ hl198 (fun _ _ _ _ _ Z e _ => e.tr Z.sub) (fun a81 st82 o83 x84 B94 B96 H85 _ cs86 ma87 S88 s89 s90 hI91 h92 hf93 hret97 hbrk98 => ?_) ?_
        · obtain ⟨e95, rfl, rfl, -⟩ := hI91
          cases h92
          refine w_gname ?_
          refine w_nx (σ' := [(some v_0), (some (V.str x_1)), (some v_2), (some v_3), (some (.ref p7)), (some (.ref p17)), (some w61), (some (V.str a81)), e47]) rfl ?_
          refine w_ifS ?_
          refine w_evT (EvT.test (Ev.op (Ev.var rfl) (Ev.var rfl) (rin_s (sqT (K := K) (Rl.mono _ (s4.tr (s39.tr (s76.tr (s89.tr s90)))) hx_2) S88.sub)))) ?_
          refine w_ifb (fun h103 => ?_) (fun h103 => ?_)
          · rw [ifT h103] at hf93
            refine w_ret ?_
            refine x_tup ?_
            refine w_evA (EvA.cons (Ev.var rfl) (EvA.cons (Ev.var rfl) EvA.nil)) ?_
            refine mk2 (K := K)   S88 (Rl.mono _ (s76.tr (s89.tr s90)) h62) (show dStr.rel _ a81 (V.str a81) from rfl) fun v104 B109 H105 S106 s107 h108 => ?_
            obtain rfl := Option.some.inj hf93
            cases hret97 _ rfl
            obtain rfl := Option.some.inj hf43
            cases hret52 _ rfl
            obtain rfl := Option.some.inj hm
            exact k _ _ _  S106.tl.tl (someN h108 (nn2 h108))
          · rw [ifF h103] at hf93
            refine w_next ?_
            obtain rfl := Option.some.inj hf93
            exact ⟨_, rfl, _, _, S88, (s89.tr s90), _, rfl, rfl, trivial⟩
        · intro st116 B115 H110 _ cs111 ec199 S112 s113 hI114
          cases ec199
          obtain ⟨e117, rfl, rfl, -⟩ := hI114
          refine w_for ?_
          refine x_iL ?_
          refine w_call ?_
          obtain ⟨x120, hx120, hf43⟩ := bs hf43
          obtain ⟨_, rfl, r121⟩ := ix_T (K := K) (Rl.mono _ (s76.tr s113) h62) hx120
          refine w_evA (EvA.cons (Ev.var rfl) (EvA.cons (Ev.op (Ev.var rfl) (Ev.un Ev.c fun _ q => ⟨_, rfl, q⟩) (r121 _ S112.sub)) (EvA.cons Ev.c EvA.nil))) ?_
          obtain ⟨r122, h123, hf43⟩ := bs hf43
          refine use_callees S112 (Rl.mono _ (s4.tr (s39.tr (s76.tr s113))) hx_0) (show dStr.rel _ x120 (V.str x120) from rfl) (tupC hk_HARD_CALLS (by decide)) h123 fun v124 B128 H125  (S126 : Sit _ B128 H125 [(p17, o48), (p7, o63)]) s127 h129  => ?_
          refine w_itL h129 S126.sub fun J118 it119 => ?_
          obtain ⟨st191, hl197, hf43⟩ := bs hf43
          refine forS (s0 := (st32.1, x59.2)) it119 S126 (fun (st130 : ((List Str) × (List (List Str)))) b σ' cs' => ∃ (e131 : Option V) (o132 : HO) (o134 : HO), σ' = [(some v_0), (some (V.str x_1)), (some v_2), (some v_3), (some (.ref p7)), (some (.ref p17)), (some w61), e117, e131] ∧ cs' = [(p17, o132), (p7, o134)] ∧ (cList dStr).rel b st130.1 o132 ∧ (cList (dTup K dStr)).rel b st130.2 o134 ∧ True) ⟨_, _, _, rfl, rfl, (Cl.mono _ (s76.tr (s113.tr s127)) h49), (Cl.mono _ (s76.tr (s113.tr s127)) h66), trivial⟩ hl197 (fun _ _ _ _ _ Z e _ => e.tr Z.sub) (fun a136 st137 o138 x139 B149 B155 H140 _ cs141 ma142 S143 s144 s145 hI146 h147 hf148 => ?_) ?_
          · obtain ⟨e150, o151, o153, rfl, rfl, h152, h154, -⟩ := hI146
            cases h147
            refine w_gname ?_
            refine w_nx (σ' := [(some v_0), (some (V.str x_1)), (some v_2), (some v_3), (some (.ref p7)), (some (.ref p17)), (some w61), e117, (some (V.str a136))]) rfl ?_
            refine w_ifS ?_
            refine w_evT (EvT.test (Ev.op (Ev.var rfl) (Ev.var rfl) (rni_s (sqC (K := K) (Cl.mono _ s145 h152) (S143.at' (i := 0) rfl))))) ?_
            refine w_ifb (fun h162 => ?_) (fun h162 => ?_)
            · rw [ifT h162] at hf148
              refine w_seq ?_
              refine w_drop ?_
              refine w_bm ?_
              refine w_ev (Ev.var rfl) ?_
              refine w_tyC (Cl.mono _ s145 h152) (S143.at' (i := 0) rfl) ?_
              refine w_evA (EvA.cons (Ev.var rfl) EvA.nil) ?_
              obtain ⟨x163, h164, hf148⟩ := bs hf148
              refine q_append (k := 0) S143 rfl (Cl.mono _ s145 h152) (show dStr.rel _ a136 (V.str a136) from rfl) h164 fun o165 H166 (S167 : Sit _ B155 H166 [(p17, o165), (p7, o153)]) h168 => ?_
              refine w_drop ?_
              refine w_bm ?_
              refine w_ev (Ev.var rfl) ?_
              refine w_tyC (Cl.mono _ s145 h154) (S167.at' (i := 1) rfl) ?_
              refine w_cons ?_
              refine x_tup ?_
              refine x_star ?_
              refine w_ev (Ev.var rfl) ?_
              refine q_star (sqT (K := K) (Rl.mono _ (s76.tr (s113.tr (s127.tr (s144.tr s145)))) h62) S167.sub) fun vs169 hF170 => ?_
              refine w_cons ?_
              refine w_ev (Ev.var rfl) ?_
              refine w_nil ?_
              obtain ⟨r171, h172, hf148⟩ := bs hf148
              refine mkT (K := K) S167 (R := dStr) (capM_fa h172 (Fa.app hF170 (Fa.cons (show dStr.rel _ a136 (V.str a136) from rfl) .nil))) (capM_le h172) fun v173 B178 H174 S175 s176 h177 => ?_
              refine w_nil ?_
              obtain ⟨x179, h180, hf148⟩ := bs hf148
              refine q_append (k := 1) S175 rfl (Cl.mono _ (s145.tr s176) h154) h177 h180 fun o181 H182 (S183 : Sit _ B178 H182 [(p17, o165), (p7, o181)]) h184 => ?_
              obtain rfl := Option.some.inj hf148
              exact ⟨_, _, S183, (s144.tr (s145.tr s176)), _, _, _, rfl, rfl, (Cl.mono _ s176 h168), h184, trivial⟩
            · rw [ifF h162] at hf148
              refine w_next ?_
              obtain rfl := Option.some.inj hf148
              exact ⟨_, _, S143, (s144.tr s145), _, _, _, rfl, rfl, (Cl.mono _ s145 h152), (Cl.mono _ s145 h154), trivial⟩
          · intro B190 H185 _ cs186 S187 s188 hI189
            obtain ⟨e192, o193, o195, rfl, rfl, h194, h196, -⟩ := hI189
            obtain rfl := Option.some.inj hf43
            exact ⟨_, rfl, _, _, S187, (s39.tr (s76.tr (s113.tr (s127.tr s188)))), _, _, _, _, _, rfl, rfl, h194, h196, trivial⟩
      · rw [ifF h58] at hf43
        obtain rfl := Option.some.inj hf43
        exact hbrk53 _ _ _ rfl ⟨_, _, S38, s39, _, _, _, _, _, rfl, rfl, h49, h51, trivial⟩
    · intro st206 B205 H200 _ cs201 ec223 S202 s203 hI204
      cases ec223
      obtain ⟨e207, e208, e209, o210, o212, rfl, rfl, h211, h213, -⟩ := hI204
      obtain ⟨B216, S214, s215, h217⟩ : ∃ B', Sit _ B' H200 [(p7, o212)] ∧ Same _ B' ∧ (dList dStr).rel B' st206.1 (.ref p17) := ⟨_, S202.frz (i := 0) rfl n21, S202.frzS (i := 0) rfl, frzL h211 (S202.atB (i := 0) rfl)⟩
      obtain ⟨B220, S218, s219, h221⟩ : ∃ B', Sit _ B' H200 [] ∧ Same _ B' ∧ (dList (dTup K dStr)).rel B' st206.2 (.ref p7) := ⟨_, S214.frz (i := 0) rfl n11, S214.frzS (i := 0) rfl, frzL (Cl.mono _ s215 h213) (S214.atB (i := 0) rfl)⟩
      refine w_ret ?_
      refine w_ev Ev.c ?_
      obtain rfl := Option.some.inj hm
      exact k _ _ _  S218 (show (dOpt (dPair K (dTup K dStr) dStr)).rel _ none V.non from rfl)
abbrev n_plain_rows : List Str := ["program", "name", "numbers", "bad", "spared", "owners", "rows", "owner", "calm", "row", "kind", "word", "callee"]
theorem sc_plain_rows : FnScope n_plain_rows ["program", "name", "numbers", "bad", "spared"] (defScope s_plain_rows) := ⟨rfl, rfl, rfl, by decide +kernel, rfl, by decide +kernel, by decide +kernel⟩
def m_plain_rows (x_0 : O_Program) (x_1 : Str) (x_2 : (List (Str × Int))) (x_3 : (List Str)) (x_4 : (List Str)) : Option (List (List (List PyData))) :=
  (whC (S := ((List (List (List PyData))) × (List (Str × Bool)))) (R := (List (List (List PyData)))) (fun (st31 : ((List (List (List PyData))) × (List (Str × Bool)))) => if (decide ((st31.1.length : Int) < (st31.2.length : Int))) = true then (atI st31.2 (st31.1.length : Int)).bind fun x61 =>
  (m_Program___getitem__ (x_0) (x61.1)).bind fun r78 =>
  (forL (fun (a94 : (Str × Str)) (st95 : ((List (List PyData)) × (List (Str × Bool)))) => if (decide (a94.1 = (Str.ofString "read"))) = true then (pushM st95.1 ([(PyData.str (Str.ofString "number")), (PyData.int ((gGet x_2 a94.2).getD (0 : Int)))] : (List PyData))).bind fun x136 =>
  some (x136, st95.2) else if (decide (a94.1 = (Str.ofString "say"))) = true then (pushM st95.1 ([(PyData.str (Str.ofString "word")), (PyData.str a94.2)] : (List PyData))).bind fun x149 =>
  some (x149, st95.2) else if ((decide (a94.2 ∈ x_3)) && (!x61.2)) = true then (pushM st95.1 ([(PyData.str (Str.ofString "gap"))] : (List PyData))).bind fun x162 =>
  some (x162, st95.2) else ((inD (PyData.tuple [(PyData.str a94.2), (PyData.bool (x61.2 || (decide (a94.2 ∈ x_4))))]) ((st95.2).map (fun x => PyData.tuple [PyData.str x.1, PyData.bool x.2]))).bind fun b177 =>
  if (!b177) = true then (pushM st95.2 (a94.2, (x61.2 || (decide (a94.2 ∈ x_4))))).bind fun x179 =>
  some x179 else some st95.2).bind fun j175 =>
  (ixD (PyData.tuple [(PyData.str a94.2), (PyData.bool (x61.2 || (decide (a94.2 ∈ x_4))))]) (j175.map (fun x => PyData.tuple [PyData.str x.1, PyData.bool x.2]))).bind fun j191 =>
  (pushM st95.1 ([(PyData.str (Str.ofString "node")), (PyData.int j191)] : (List PyData))).bind fun x199 =>
  some (x199, j175)) r78 (([] : (List (List PyData))), st31.2)).bind fun st211 =>
  (pushM st31.1 st211.1).bind fun x223 =>
  some (.nx (x223, st211.2)) else some (.brk (st31.1, st31.2))) FUEL (([] : (List (List (List PyData)))), ([(x_1, (decide (x_1 ∈ x_4)))] : (List (Str × Bool))))).bind fun c59 =>
  c59.on (fun st236 => some st236.1) (fun r => some r)
def sp_plain_rows (K : PySem.W.Frag) (C_Program : Addr) : Sp := fun vs H Q E => ∃ (B : Hp) (x_0 : O_Program) (v_0 : V) (x_1 : Str) (x_2 : (List (Str × Int))) (v_2 : V) (x_3 : (List Str)) (v_3 : V) (x_4 : (List Str)) (v_4 : V) (r : (List (List (List PyData)))), vs = [v_0, (V.str x_1), v_2, v_3, v_4] ∧ Same B H ∧ (dO_Program K C_Program).rel B x_0 v_0 ∧ (dDict dInt).rel B x_2 v_2 ∧ (dList dStr).rel B x_3 v_3 ∧ (dTup K dStr).rel B x_4 v_4 ∧ m_plain_rows x_0 x_1 x_2 x_3 x_4 = some r ∧ ∀ (v : V) (B' H' : Hp) , Sit ⟨B, H, []⟩ B' H' [] → (dList (dList (dTup K (dAny K)))).rel B' r v → Q v H'
theorem use_plain_rows {K : PySem.W.Frag} {C_Program : Addr} {Φ : Fr} {B H : Hp} {cs : List (Addr × HO)} {Q : VK} {E : XK} {r : (List (List (List PyData)))} {x_0 : O_Program} {v_0 : V} {x_1 : Str} {v_1 : V} {x_2 : (List (Str × Int))} {v_2 : V} {x_3 : (List Str)} {v_3 : V} {x_4 : (List Str)} {v_4 : V} (Z : Sit Φ B H cs) (h_0 : (dO_Program K C_Program).rel B x_0 v_0) (h_1 : dStr.rel B x_1 v_1) (h_2 : (dDict dInt).rel B x_2 v_2) (h_3 : (dList dStr).rel B x_3 v_3) (h_4 : (dTup K dStr).rel B x_4 v_4) (hm : m_plain_rows x_0 x_1 x_2 x_3 x_4 = some r) (k : ∀ (v : V) (B' H' : Hp) , Sit Φ B' H' cs → Same B B' → (dList (dList (dTup K (dAny K)))).rel B' r v → Q v H') : sp_plain_rows K C_Program ([v_0, v_1, v_2, v_3, v_4] ++ []) H Q E := by
  cases h_1
  exact ⟨B, x_0, v_0, x_1, x_2, v_2, x_3, v_3, x_4, v_4, r, rfl, Z.sub, h_0, h_2, h_3, h_4, hm, fun v B' H'  Z' h  => k v B' H'  (Z.call0 Z') Z'.grow h ⟩
theorem ok_plain_rows {C_Program : Addr} (A0 : DefAt K mg "plain_rows" s_plain_rows ["program", "name", "numbers", "bad", "spared"]) (T_Program : ClsF K mg "Program" C_Program) (b_len : mg "len" = none) (D_Program___getitem__ : MDoes P w K mg base CX0 1 C_Program "__getitem__" ["self", "name"] (sp_Program___getitem__ K C_Program )) : Does P w K mg base CX0 3 "plain_rows" ["program", "name", "numbers", "bad", "spared"] (sp_plain_rows K C_Program ) := by
  obtain ⟨f, fd, F, gm, bd⟩ := A0
  have cl_Program := T_Program.ic.cl
  have g_Program := T_Program.g
  obtain ⟨f_Program___getitem__, fd_Program___getitem__, G_Program___getitem__, m_Program___getitem__, bd_Program___getitem__, q_Program___getitem__⟩ := D_Program___getitem__
  refine ⟨f, fd, ?_, gm, F.kp, bd⟩
  refine F.ok sc_plain_rows (fun vs H Q E h => ?_) (fun cdv A outer s H vs Q E hr h => ?_)
  · obtain ⟨_, _, _, _, _, _, _, _, _, _, _, rfl, _⟩ := h
    rfl
  · obtain ⟨B, x_0, v_0, x_1, x_2, v_2, x_3, v_3, x_4, v_4, r, rfl, sB, hx_0, hx_2, hx_3, hx_4, hm, k⟩ := h
    have hu := hu_of hr
    refine ⟨_, (pss_cons (ps_set (i := 5) sc_plain_rows.nd rfl (Or.inl rfl) (pe_lst (pa_cons (pe_tup (pa_cons (pv 1) (pa_cons (pe_cmpR (k_in K) (pv 1) (pv 4) (by rfl)) pa_nil))) pa_nil)))
  (pss_cons (ps_set (i := 6) sc_plain_rows.nd rfl (Or.inl rfl) (pe_lst pa_nil))
  (pss_cons (ps_while PassesOwn.never (pt_cmpR op_lt (pe_callB (k_len K) (by rfl) b_len (by decide +kernel) (pa_cons (pv 6) pa_nil)) (pe_callB (k_len K) (by rfl) b_len (by decide +kernel) (pa_cons (pv 5) pa_nil)) (nomark _))
  (pss_cons (ps_asg (pe_ix (k_ixL K) (pv 5) (pe_callB (k_len K) (by rfl) b_len (by decide +kernel) (pa_cons (pv 6) pa_nil)) (fun _ _ => rfl)) (k_gT K (n := 2) (by rfl) (pgs_cons (pg_name (i := 7) sc_plain_rows.nd rfl (Or.inl rfl)) (pgs_cons (pg_name (i := 8) sc_plain_rows.nd rfl (Or.inl rfl)) pgs_nil))))
  (pss_cons (ps_set (i := 9) sc_plain_rows.nd rfl (Or.inl rfl) (pe_lst pa_nil))
  (pss_cons (ps_for PassesOwn.never rfl (k_iT K (e_getO m_Program___getitem__ q_Program___getitem__ G_Program___getitem__ (hr.mono (by decide)) bd_Program___getitem__ pass0 (pv 0) (pv 7))) (k_gT K (n := 2) (by rfl) (pgs_cons (pg_name (i := 10) sc_plain_rows.nd rfl (Or.inl rfl)) (pgs_cons (pg_name (i := 11) sc_plain_rows.nd rfl (Or.inl rfl)) pgs_nil)))
  (pss_one (ps_if (pt_cmpR op_eq (pv 10) pe_str (nomark _)) (pss_one (ps_expr (k_bm K PySem.F.plainAttrs_list PySem.F.slot_list_append PySem.F.type_list_append mt_append (pv 9) (pa_cons (pe_tup (pa_cons pe_str (pa_cons (pe_dget2 hu (pv 2) (pv 11) pe_int ⟨rfl, rfl, rfl, rfl⟩) pa_nil))) pa_nil)))) (pss_one (ps_if (pt_cmpR op_eq (pv 10) pe_str (nomark _)) (pss_one (ps_expr (k_bm K PySem.F.plainAttrs_list PySem.F.slot_list_append PySem.F.type_list_append mt_append (pv 9) (pa_cons (pe_tup (pa_cons pe_str (pa_cons (pv 11) pa_nil))) pa_nil)))) (pss_one (ps_if (PW.pt (pw_and (pt_cmpR (k_in K) (pv 11) (pv 3) (by rfl)) (pw_and1 (pt_not (pt_val (pv 8)))))) (pss_one (ps_expr (k_bm K PySem.F.plainAttrs_list PySem.F.slot_list_append PySem.F.type_list_append mt_append (pv 9) (pa_cons (pe_tup (pa_cons pe_str pa_nil)) pa_nil)))) (pss_cons (ps_set (i := 12) sc_plain_rows.nd rfl (Or.inl rfl) (pe_tup (pa_cons (pv 11) (pa_cons (pe_or (pv 8) (pe_one (pe_cmpR (k_in K) (pv 11) (pv 4) (by rfl)))) pa_nil))))
  (C8.pss_cut (ps_if (pt_cmpR (k_niD K (u65 hr)) (pv 12) (pv 5) (by rfl)) (pss_one (ps_expr (k_bm K PySem.F.plainAttrs_list PySem.F.slot_list_append PySem.F.type_list_append mt_append (pv 5) (pa_cons (pv 12) pa_nil)))) pss_nil)
  (pss_one (ps_expr (k_bm K PySem.F.plainAttrs_list PySem.F.slot_list_append PySem.F.type_list_append mt_append (pv 9) (pa_cons (pe_tup (pa_cons pe_str (pa_cons (k_bm K PySem.F.plainAttrs_list PySem.F.slot_list_index PySem.F.type_list_index (k_indexD K (u65 hr)) (pv 5) (pa_cons (pv 12) pa_nil)) pa_nil))) pa_nil)))))))))))))
  (pss_one (ps_expr (k_bm K PySem.F.plainAttrs_list PySem.F.slot_list_append PySem.F.type_list_append mt_append (pv 6) (pa_cons (pv 9) pa_nil))))))))
  (pss_one (ps_ret (pv 6)))))), ?_⟩
    obtain ⟨B0, hB0⟩ : ∃ B0 : Hp, B0 = B := ⟨_, rfl⟩
    subst hB0
    have S0 := Sit.start0 sB
    unfold m_plain_rows at hm
    refine w_sig (σ' := [(some v_0), (some (V.str x_1)), (some v_2), (some v_3), (some v_4), none, none, none, none, none, none, none, none]) rfl ?_
    refine w_seq ?_
    refine w_asg ?_
    refine x_lst ?_
    refine w_cons ?_
    refine x_tup ?_
    refine w_evA (EvA.cons (Ev.var rfl) (EvA.cons (Ev.op (Ev.var rfl) (Ev.var rfl) (rin_s (sqT (K := K) hx_4 S0.sub))) EvA.nil)) ?_
    refine mk2 (K := K)   S0 (show dStr.rel _ x_1 (V.str x_1) from rfl) (show dBool.rel _ (decide (x_1 ∈ x_4)) (V.bl (decide (x_1 ∈ x_4))) from rfl) fun v1 B6 H2 S3 s4 h5 => ?_
    refine w_nil ?_
    refine mkO (R := (dPair K dStr dBool)) (xs := [(x_1, (decide (x_1 ∈ x_4)))]) S3 (.cons h5 .nil) (by show 1 ≤ BIG; decide) fun p7 o8 H9 S10 n11 h12 => ?_
    refine w_gname ?_
    refine w_nx (σ' := [(some v_0), (some (V.str x_1)), (some v_2), (some v_3), (some v_4), (some (.ref p7)), none, none, none, none, none, none, none]) rfl ?_
    refine w_seq ?_
    refine w_asg ?_
    refine x_lst ?_
    refine w_nil ?_
    refine mkO (R := (dList (dTup K (dAny K)))) (xs := []) S10 .nil (by show 0 ≤ BIG; decide) fun p13 o14 H15 S16 n17 h18 => ?_
    refine w_gname ?_
    refine w_nx (σ' := [(some v_0), (some (V.str x_1)), (some v_2), (some v_3), (some v_4), (some (.ref p7)), (some (.ref p13)), none, none, none, none, none, none]) rfl ?_
    refine w_seq ?_
    obtain ⟨c59, hl255, hm⟩ := bs hm
    refine whK (s0 := (([] : (List (List (List PyData)))), ([(x_1, (decide (x_1 ∈ x_4)))] : (List (Str × Bool))))) S16 (fun (st19 : ((List (List (List PyData))) × (List (Str × Bool)))) b σ' cs' => ∃ (e20 : Option V) (e21 : Option V) (e22 : Option V) (e23 : Option V) (e24 : Option V) (e25 : Option V) (o26 : HO) (o28 : HO), σ' = [(some v_0), (some (V.str x_1)), (some v_2), (some v_3), (some v_4), (some (.ref p7)), (some (.ref p13)), e20, e21, e22, e23, e24, e25] ∧ cs' = [(p13, o26), (p7, o28)] ∧ (cList (dList (dTup K (dAny K)))).rel b st19.1 o26 ∧ (cList (dPair K dStr dBool)).rel b st19.2 o28 ∧ True) ⟨_, _, _, _, _, _, _, _, rfl, rfl, h18, h12, trivial⟩ hl255 (fun st31 o32 B43 H34 _ cs35 W57 m58 S37 s38 hI40 hf42 hret54 hbrk55 hW56 => ?_) ?_
    · obtain ⟨e44, e45, e46, e47, e48, e49, o50, o52, rfl, rfl, h51, h53, -⟩ := hI40
      refine w_evT (EvT.test (Ev.op (Ev.cb (EvA.cons (Ev.var rfl) EvA.nil) (rlen_q (sqC (K := K) h51 (S37.at' (i := 0) rfl)))) (Ev.cb (EvA.cons (Ev.var rfl) EvA.nil) (rlen_q (sqC (K := K) h53 (S37.at' (i := 1) rfl)))) rv_I0)) ?_
      refine w_ifb (fun h60 => ?_) (fun h60 => ?_)
      · rw [ifT h60] at hf42
        refine ⟨_, hW56, ?_⟩
        refine w_seq ?_
        refine w_asg ?_
        obtain ⟨x61, hx61, hf42⟩ := bs hf42
        obtain ⟨w63, h64, r62⟩ := ix_C (K := K) h53 hx61
        refine w_ev (Ev.op (Ev.var rfl) (Ev.cb (EvA.cons (Ev.var rfl) EvA.nil) (rlen_q (sqC (K := K) h51 (S37.at' (i := 0) rfl)))) (r62 _ (S37.at' (i := 1) rfl))) ?_
        obtain ⟨w65, w67, h66, h68, hu69⟩ := un_p (K := K) h64
        refine w_gun (hu69 _ S37.sub) rfl ?_
        refine w_gcons ?_
        cases h66
        refine w_gname ?_
        refine w_gcons ?_
        cases h68
        refine w_gname ?_
        refine w_gnil ?_
        refine w_nx (σ' := [(some v_0), (some (V.str x_1)), (some v_2), (some v_3), (some v_4), (some (.ref p7)), (some (.ref p13)), (some (V.str x61.1)), (some (V.bl x61.2)), e46, e47, e48, e49]) rfl ?_
        refine w_seq ?_
        refine w_asg ?_
        refine x_lst ?_
        refine w_nil ?_
        refine mkO (R := (dTup K (dAny K))) (xs := []) S37 .nil (by show 0 ≤ BIG; decide) fun p70 o71 H72 S73 n74 h75 => ?_
        refine w_gname ?_
        refine w_nx (σ' := [(some v_0), (some (V.str x_1)), (some v_2), (some v_3), (some v_4), (some (.ref p7)), (some (.ref p13)), (some (V.str x61.1)), (some (V.bl x61.2)), (some (.ref p70)), e47, e48, e49]) rfl ?_
        refine w_seq ?_
        refine w_for ?_
        refine x_iT ?_
        refine w_op ?_
        refine w_ev (Ev.var rfl) ?_
        refine w_ev (Ev.var rfl) ?_
        refine q_getO (Rl.mono _ (s4.tr s38) hx_0) S73.sub ?_
        obtain ⟨r78, h79, hf42⟩ := bs hf42
        refine use_Program___getitem__ S73 (Rl.mono _ (s4.tr s38) hx_0) (show dStr.rel _ x61.1 (V.str x61.1) from rfl) h79 fun v80 B84 H81  (S82 : Sit _ B84 H81 [(p70, o71), (p13, o50), (p7, o52)]) s83 h85  => ?_
        refine w_itT h85 S82.sub fun J76 it77 => ?_
        obtain ⟨st211, hl229, hf42⟩ := bs hf42
        refine forS (s0 := (([] : (List (List PyData))), st31.2)) it77 S82 (fun (st86 : ((List (List PyData)) × (List (Str × Bool)))) b σ' cs' => ∃ (e87 : Option V) (e88 : Option V) (e89 : Option V) (o90 : HO) (o92 : HO), σ' = [(some v_0), (some (V.str x_1)), (some v_2), (some v_3), (some v_4), (some (.ref p7)), (some (.ref p13)), (some (V.str x61.1)), (some (V.bl x61.2)), (some (.ref p70)), e87, e88, e89] ∧ cs' = [(p70, o90), (p13, o50), (p7, o92)] ∧ (cList (dTup K (dAny K))).rel b st86.1 o90 ∧ (cList (dPair K dStr dBool)).rel b st86.2 o92 ∧ True) ⟨_, _, _, _, _, rfl, rfl, (Cl.mono _ s83 h75), (Cl.mono _ s83 h53), trivial⟩ hl229 (fun _ _ _ _ _ Z e _ => e.tr Z.sub) (fun a94 st95 o96 x97 B107 B115 H98 _ cs99 ma100 S101 s102 s103 hI104 h105 hf106 => ?_) ?_
        · obtain ⟨e108, e109, e110, o111, o113, rfl, rfl, h112, h114, -⟩ := hI104
          obtain ⟨w122, w124, h123, h125, hu126⟩ := un_p (K := K) h105
          refine w_gun (hu126 _ S101.sub) rfl ?_
          refine w_gcons ?_
          cases h123
          refine w_gname ?_
          refine w_gcons ?_
          cases h125
          refine w_gname ?_
          refine w_gnil ?_
          refine w_nx (σ' := [(some v_0), (some (V.str x_1)), (some v_2), (some v_3), (some v_4), (some (.ref p7)), (some (.ref p13)), (some (V.str x61.1)), (some (V.bl x61.2)), (some (.ref p70)), (some (V.str a94.1)), (some (V.str a94.2)), e110]) rfl ?_
          refine w_ifS ?_
          refine w_evT (EvT.test (Ev.op (Ev.var rfl) Ev.c rv_eqS)) ?_
          refine w_ifb (fun h127 => ?_) (fun h127 => ?_)
          · rw [ifT h127] at hf106
            refine w_drop ?_
            refine w_bm ?_
            refine w_ev (Ev.var rfl) ?_
            refine w_tyC (Cl.mono _ s103 h112) (S101.at' (i := 0) rfl) ?_
            refine w_cons ?_
            refine x_tup ?_
            refine w_cons ?_
            refine w_ev Ev.c ?_
            refine w_cons ?_
            refine w_get2 inrI (Ev.var rfl) (dqxD (Rl.mono _ (s4.tr (s38.tr (s83.tr (s102.tr s103)))) hx_2) S101.sub) (Ev.var rfl) Ev.c (k := a94.2) (show dInt.rel _ (0 : Int) (V.int 0) from rfl) fun w128 h129 => ?_
            cases h129
            refine w_nil ?_
            refine mk2 (K := K)   S101 (show dStr.rel _ (Str.ofString "number") (V.str (Str.ofString "number")) from rfl) (show dInt.rel _ ((gGet x_2 a94.2).getD (0 : Int)) (V.int ((gGet x_2 a94.2).getD (0 : Int))) from rfl) fun v130 B135 H131 S132 s133 h134 => ?_
            refine w_nil ?_
            obtain ⟨x136, h137, hf106⟩ := bs hf106
            refine q_append (k := 0) S132 rfl (Cl.mono _ (s103.tr s133) h112) (show (dTup K (dAny K)).rel _ ([(PyData.str (Str.ofString "number")), (PyData.int ((gGet x_2 a94.2).getD (0 : Int)))] : (List PyData)) v130 from (mp2 (mpA drStr) (mpA drInt)) h134) h137 fun o138 H139 (S140 : Sit _ B135 H139 [(p70, o138), (p13, o50), (p7, o113)]) h141 => ?_
            obtain rfl := Option.some.inj hf106
            exact ⟨_, _, S140, (s102.tr (s103.tr s133)), _, _, _, _, _, rfl, rfl, h141, (Cl.mono _ (s103.tr s133) h114), trivial⟩
          · rw [ifF h127] at hf106
            refine w_ifS ?_
            refine w_evT (EvT.test (Ev.op (Ev.var rfl) Ev.c rv_eqS)) ?_
            refine w_ifb (fun h142 => ?_) (fun h142 => ?_)
            · rw [ifT h142] at hf106
              refine w_drop ?_
              refine w_bm ?_
              refine w_ev (Ev.var rfl) ?_
              refine w_tyC (Cl.mono _ s103 h112) (S101.at' (i := 0) rfl) ?_
              refine w_cons ?_
              refine x_tup ?_
              refine w_evA (EvA.cons Ev.c (EvA.cons (Ev.var rfl) EvA.nil)) ?_
              refine mk2 (K := K)   S101 (show dStr.rel _ (Str.ofString "word") (V.str (Str.ofString "word")) from rfl) (show dStr.rel _ a94.2 (V.str a94.2) from rfl) fun v143 B148 H144 S145 s146 h147 => ?_
              refine w_nil ?_
              obtain ⟨x149, h150, hf106⟩ := bs hf106
              refine q_append (k := 0) S145 rfl (Cl.mono _ (s103.tr s146) h112) (show (dTup K (dAny K)).rel _ ([(PyData.str (Str.ofString "word")), (PyData.str a94.2)] : (List PyData)) v143 from (mp2 (mpA drStr) (mpA drStr)) h147) h150 fun o151 H152 (S153 : Sit _ B148 H152 [(p70, o151), (p13, o50), (p7, o113)]) h154 => ?_
              obtain rfl := Option.some.inj hf106
              exact ⟨_, _, S153, (s102.tr (s103.tr s146)), _, _, _, _, _, rfl, rfl, h154, (Cl.mono _ (s103.tr s146) h114), trivial⟩
            · rw [ifF h142] at hf106
              refine w_ifS ?_
              refine w_evT (EvT.and (EvT.test (Ev.op (Ev.var rfl) (Ev.var rfl) (rin_s (sqL (K := K) (Rl.mono _ (s4.tr (s38.tr (s83.tr (s102.tr s103)))) hx_3) S101.sub)))) fun _ => (EvT.not (EvT.tB (Ev.var rfl)))) ?_
              refine w_ifb (fun h155 => ?_) (fun h155 => ?_)
              · rw [ifT h155] at hf106
                refine w_drop ?_
                refine w_bm ?_
                refine w_ev (Ev.var rfl) ?_
                refine w_tyC (Cl.mono _ s103 h112) (S101.at' (i := 0) rfl) ?_
                refine w_cons ?_
                refine x_tup ?_
                refine w_evA (EvA.cons Ev.c EvA.nil) ?_
                refine mk1 (K := K)  S101 (show dStr.rel _ (Str.ofString "gap") (V.str (Str.ofString "gap")) from rfl) fun v156 B161 H157 S158 s159 h160 => ?_
                refine w_nil ?_
                obtain ⟨x162, h163, hf106⟩ := bs hf106
                refine q_append (k := 0) S158 rfl (Cl.mono _ (s103.tr s159) h112) (show (dTup K (dAny K)).rel _ ([(PyData.str (Str.ofString "gap"))] : (List PyData)) v156 from (mp1 (mpA drStr)) h160) h163 fun o164 H165 (S166 : Sit _ B161 H165 [(p70, o164), (p13, o50), (p7, o113)]) h167 => ?_
                obtain rfl := Option.some.inj hf106
                exact ⟨_, _, S166, (s102.tr (s103.tr s159)), _, _, _, _, _, rfl, rfl, h167, (Cl.mono _ (s103.tr s159) h114), trivial⟩
              · rw [ifF h155] at hf106
                refine w_seq ?_
                refine w_asg ?_
                refine x_tup ?_
                refine w_evA (EvA.cons (Ev.var rfl) (EvA.cons (Ev.or (Ev.var rfl) fun _ => (Ev.op (Ev.var rfl) (Ev.var rfl) (rin_s (sqT (K := K) (Rl.mono _ (s4.tr (s38.tr (s83.tr (s102.tr s103)))) hx_4) S101.sub)))) EvA.nil)) ?_
                refine mk2 (K := K)   S101 (show dStr.rel _ a94.2 (V.str a94.2) from rfl) (show dBool.rel _ (x61.2 || (decide (a94.2 ∈ x_4))) (V.bl (x61.2 || (decide (a94.2 ∈ x_4)))) from rfl) fun v168 B173 H169 S170 s171 h172 => ?_
                refine w_gname ?_
                refine w_nx (σ' := [(some v_0), (some (V.str x_1)), (some v_2), (some v_3), (some v_4), (some (.ref p7)), (some (.ref p13)), (some (V.str x61.1)), (some (V.bl x61.2)), (some (.ref p70)), (some (V.str a94.1)), (some (V.str a94.2)), (some v168)]) rfl ?_
                obtain ⟨j175, hj176, hf106⟩ := bs hf106
                refine w_cut (MidD (fun σ' H' => ∃ (B' : Hp)  (o189 : HO), σ' = [(some v_0), (some (V.str x_1)), (some v_2), (some v_3), (some v_4), (some (.ref p7)), (some (.ref p13)), (some (V.str x61.1)), (some (V.bl x61.2)), (some (.ref p70)), (some (V.str a94.1)), (some (V.str a94.2)), (some v168)] ∧ Sit (Fr.mk B0 H []) B' H' [(p70, o111), (p13, o50), (p7, o189)] ∧ Same B173 B' ∧ (cList (dPair K dStr dBool)).rel B' j175 o189 ∧ True)) ?_ ?_
                · refine w_ifS ?_
                  obtain ⟨b177, hb177, hj176⟩ := bs hj176
                  refine w_evT (EvT.test (Ev.op (Ev.var rfl) (Ev.var rfl) (rv_niD (dr2 drStr drBool) (drL (dr2 drStr drBool)) (Rl.mono _ S170.sub h172) (cL_d (Cl.mono _ (s103.tr s171) h114) (S170.at' (i := 2) rfl) S170.sub) hb177))) ?_
                  refine w_ifb (fun h178 => ?_) (fun h178 => ?_)
                  · rw [ifT h178] at hj176
                    refine w_drop ?_
                    refine w_bm ?_
                    refine w_ev (Ev.var rfl) ?_
                    refine w_tyC (Cl.mono _ (s103.tr s171) h114) (S170.at' (i := 2) rfl) ?_
                    refine w_evA (EvA.cons (Ev.var rfl) EvA.nil) ?_
                    obtain ⟨x179, h180, hj176⟩ := bs hj176
                    refine q_append (k := 2) S170 rfl (Cl.mono _ (s103.tr s171) h114) h172 h180 fun o181 H182 (S183 : Sit _ B173 H182 [(p70, o111), (p13, o50), (p7, o181)]) h184 => ?_
                    obtain rfl := Option.some.inj hj176
                    exact ⟨_, _, rfl, S183, (Same.rf _), h184, trivial⟩
                  · rw [ifF h178] at hj176
                    refine w_next ?_
                    obtain rfl := Option.some.inj hj176
                    exact ⟨_, _, rfl, S170, (Same.rf _), (Cl.mono _ (s103.tr s171) h114), trivial⟩
                · rintro _ H185 ⟨B188, o189, rfl, S186, s187, h190, -⟩
                  refine w_drop ?_
                  refine w_bm ?_
                  refine w_ev (Ev.var rfl) ?_
                  refine w_tyC (Cl.mono _ (s103.tr (s171.tr s187)) h112) (S186.at' (i := 0) rfl) ?_
                  refine w_cons ?_
                  refine x_tup ?_
                  refine w_cons ?_
                  refine w_ev Ev.c ?_
                  refine w_cons ?_
                  refine w_bm ?_
                  refine w_ev (Ev.var rfl) ?_
                  refine w_tyC h190 (S186.at' (i := 2) rfl) ?_
                  refine w_evA (EvA.cons (Ev.var rfl) EvA.nil) ?_
                  obtain ⟨j191, h192, hf106⟩ := bs hf106
                  refine r_ixD (dr2 drStr drBool) (dr2 drStr drBool) (cL_d h190 (S186.at' (i := 2) rfl) S186.sub) (Rl.mono _ S186.sub (Rl.mono _ s187 h172)) h192 ?_
                  refine w_nil ?_
                  refine mk2 (K := K)   S186 (show dStr.rel _ (Str.ofString "node") (V.str (Str.ofString "node")) from rfl) (show dInt.rel _ j191 (V.int j191) from rfl) fun v193 B198 H194 S195 s196 h197 => ?_
                  refine w_nil ?_
                  obtain ⟨x199, h200, hf106⟩ := bs hf106
                  refine q_append (k := 0) S195 rfl (Cl.mono _ (s103.tr (s171.tr (s187.tr s196))) h112) (show (dTup K (dAny K)).rel _ ([(PyData.str (Str.ofString "node")), (PyData.int j191)] : (List PyData)) v193 from (mp2 (mpA drStr) (mpA drInt)) h197) h200 fun o201 H202 (S203 : Sit _ B198 H202 [(p70, o201), (p13, o50), (p7, o189)]) h204 => ?_
                  obtain rfl := Option.some.inj hf106
                  exact ⟨_, _, S203, (s102.tr (s103.tr (s171.tr (s187.tr s196)))), _, _, _, _, _, rfl, rfl, h204, (Cl.mono _ s196 h190), trivial⟩
        · intro B210 H205 _ cs206 S207 s208 hI209
          obtain ⟨e212, e213, e214, o215, o217, rfl, rfl, h216, h218, -⟩ := hI209
          refine w_drop ?_
          refine w_bm ?_
          refine w_ev (Ev.var rfl) ?_
          refine w_tyC (Cl.mono _ (s83.tr s208) h51) (S207.at' (i := 1) rfl) ?_
          refine w_evA (EvA.cons (Ev.var rfl) EvA.nil) ?_
          obtain ⟨B221, S219, s220, h222⟩ : ∃ B', Sit _ B' H205 [(p13, o50), (p7, o217)] ∧ Same _ B' ∧ (dList (dTup K (dAny K))).rel B' st211.1 (.ref p70) := ⟨_, S207.frz (i := 0) rfl n74, S207.frzS (i := 0) rfl, frzL h216 (S207.atB (i := 0) rfl)⟩
          obtain ⟨x223, h224, hf42⟩ := bs hf42
          refine q_append (k := 0) S219 rfl (Cl.mono _ (s83.tr (s208.tr s220)) h51) h222 h224 fun o225 H226 (S227 : Sit _ B221 H226 [(p13, o225), (p7, o217)]) h228 => ?_
          obtain rfl := Option.some.inj hf42
          exact ⟨_, rfl, _, _, S227, (s38.tr (s83.tr (s208.tr s220))), _, _, _, _, _, _, _, _, rfl, rfl, h228, (Cl.mono _ s220 h218), trivial⟩
      · rw [ifF h60] at hf42
        obtain rfl := Option.some.inj hf42
        exact hbrk55 _ _ _ rfl ⟨_, _, S37, s38, _, _, _, _, _, _, _, _, rfl, rfl, h51, h53, trivial⟩
    · intro st236 B235 H230 _ cs231 ec256 S232 s233 hI234
      cases ec256
      obtain ⟨e237, e238, e239, e240, e241, e242, o243, o245, rfl, rfl, h244, h246, -⟩ := hI234
      obtain ⟨B249, S247, s248, h250⟩ : ∃ B', Sit _ B' H230 [(p7, o245)] ∧ Same _ B' ∧ (dList (dList (dTup K (dAny K)))).rel B' st236.1 (.ref p13) := ⟨_, S232.frz (i := 0) rfl n17, S232.frzS (i := 0) rfl, frzL h244 (S232.atB (i := 0) rfl)⟩
      obtain ⟨B253, S251, s252, h254⟩ : ∃ B', Sit _ B' H230 [] ∧ Same _ B' ∧ (dList (dPair K dStr dBool)).rel B' st236.2 (.ref p7) := ⟨_, S247.frz (i := 0) rfl n11, S247.frzS (i := 0) rfl, frzL (Cl.mono _ s248 h246) (S247.atB (i := 0) rfl)⟩
      refine w_ret ?_
      refine w_ev (Ev.var rfl) ?_
      obtain rfl := Option.some.inj hm
      exact k _ _ _  S251 (Rl.mono _ s252 h250)
end
end Mm
namespace Mm
open PySem L2 Mf
section
variable {P : Program} {w : World} {K : PySem.W.Frag} {mg : Str → Option Value} {base : Heap} {cx : Nat → Addr}
abbrev n_plain_result : List Str := ["program", "name", "numbers", "broken", "spared", "known_numbers", "places", "safe", "bad", "path", "place"]
theorem sc_plain_result : FnScope n_plain_result ["program", "name", "numbers", "broken", "spared"] (defScope s_plain_result) := ⟨rfl, rfl, rfl, by decide +kernel, rfl, by decide +kernel, by decide +kernel⟩
def m_plain_result (x_0 : O_Program) (x_1 : Str) (x_2 : (Option (List (Str × Int)))) (x_3 : (List Str)) (x_4 : (List Str)) : Option O_Result :=
  (if (x_2.isNone) = true then some ([] : (List (Str × Int))) else (x_2).bind fun o29 =>
  some o29).bind fun j1 =>
  (m_check_procedures_q (x_0) (([x_1] : (List Str)))).bind fun r64 =>
  (m_check_procedures_q (x_0) (x_4)).bind fun r72 =>
  (m_check_places (x_0) ((j1.map Prod.fst))).bind fun r86 =>
  (m_check_places (x_0) (x_3)).bind fun r94 =>
  (m_NameSet___init___q (x_3)).bind fun r102 =>
  (m_NameSet___init___q (x_4)).bind fun r113 =>
  (m_bad_procedures (x_0) (r102) (r113)).bind fun r124 =>
  if (decide (x_1 ∈ r124)) = true then (m_failing_path (x_0) (x_1) (r102) (r113)).bind fun r133 =>
  (r133).bind fun o141 =>
  none else (m_plain_rows (x_0) (x_1) (j1) (r124) (r113)).bind fun r149 =>
  (m_make_result (r149) (0)).bind fun r157 =>
  some r157
def sp_plain_result (K : PySem.W.Frag) (C_Program : Addr) (C_Result : Addr) : Sp := fun vs H Q E => ∃ (B : Hp) (x_0 : O_Program) (v_0 : V) (x_1 : Str) (x_2 : (Option (List (Str × Int)))) (v_2 : V) (x_3 : (List Str)) (v_3 : V) (x_4 : (List Str)) (v_4 : V) (r : O_Result), vs = [v_0, (V.str x_1), v_2, v_3, v_4] ∧ Same B H ∧ (dO_Program K C_Program).rel B x_0 v_0 ∧ (dOpt (dDict dInt)).rel B x_2 v_2 ∧ (dSeq K dStr).rel B x_3 v_3 ∧ (dSeq K dStr).rel B x_4 v_4 ∧ m_plain_result x_0 x_1 x_2 x_3 x_4 = some r ∧ ∀ (v : V) (B' H' : Hp) , Sit ⟨B, H, []⟩ B' H' [] → (dO_Result K C_Result).rel B' r v → Q v H'
theorem use_plain_result {K : PySem.W.Frag} {C_Program : Addr} {C_Result : Addr} {Φ : Fr} {B H : Hp} {cs : List (Addr × HO)} {Q : VK} {E : XK} {r : O_Result} {x_0 : O_Program} {v_0 : V} {x_1 : Str} {v_1 : V} {x_2 : (Option (List (Str × Int)))} {v_2 : V} {x_3 : (List Str)} {v_3 : V} {x_4 : (List Str)} {v_4 : V} (Z : Sit Φ B H cs) (h_0 : (dO_Program K C_Program).rel B x_0 v_0) (h_1 : dStr.rel B x_1 v_1) (h_2 : (dOpt (dDict dInt)).rel B x_2 v_2) (h_3 : (dSeq K dStr).rel B x_3 v_3) (h_4 : (dSeq K dStr).rel B x_4 v_4) (hm : m_plain_result x_0 x_1 x_2 x_3 x_4 = some r) (k : ∀ (v : V) (B' H' : Hp) , Sit Φ B' H' cs → Same B B' → (dO_Result K C_Result).rel B' r v → Q v H') : sp_plain_result K C_Program C_Result ([v_0, v_1, v_2, v_3, v_4] ++ []) H Q E := by
  cases h_1
  exact ⟨B, x_0, v_0, x_1, x_2, v_2, x_3, v_3, x_4, v_4, r, rfl, Z.sub, h_0, h_2, h_3, h_4, hm, fun v B' H'  Z' h  => k v B' H'  (Z.call0 Z') Z'.grow h ⟩
theorem ok_plain_result {C_NameSet : Addr} {C_Program : Addr} {C_Result : Addr} {T3 : Addr} (hT3 : ∀ H, SqT K H T3 []) {T4 : Addr} (hT4 : ∀ H, SqT K H T4 []) (A0 : DefAtD K mg "plain_result" s_plain_result [] [("numbers", .non), ("broken", .ref T3), ("spared", .ref T4)]) (T_NameSet : ClsF K mg "NameSet" C_NameSet) (T_Program : ClsF K mg "Program" C_Program) (T_Result : ClsF K mg "Result" C_Result) (b_dict : mg "dict" = none) (b_list : mg "list" = none) (nA_NameSet_members : NoAttr K C_NameSet "members") (D_NameSet___init___q_n2 : MkDoes P w K mg base CX0 1 "NameSet" C_NameSet ["self", "names"] [] (sp_NameSet___init___q K C_NameSet )) (D_check_procedures_q : Does P w K mg base CX0 4 "check_procedures" ["program", "names"] (sp_check_procedures_q K C_Program )) (D_check_places : Does P w K mg base CX0 4 "check_places" ["program", "places"] (sp_check_places K C_Program )) (D_bad_procedures : Does P w K mg base CX0 5 "bad_procedures" ["program", "broken", "spared"] (sp_bad_procedures K C_Program )) (D_failing_path : Does P w K mg base CX0 4 "failing_path" ["program", "name", "broken", "spared"] (sp_failing_path K C_Program )) (D_make_result_n1 : DoesD P w K mg base CX0 6 "make_result" ["rows", "start"] [.int 0] (sp_make_result K C_Result )) (D_plain_rows : Does P w K mg base CX0 3 "plain_rows" ["program", "name", "numbers", "bad", "spared"] (sp_plain_rows K C_Program )) : CoreD P w K mg base CX0 7 "plain_result" s_plain_result [] [("numbers", .non), ("broken", .ref T3), ("spared", .ref T4)] ["program", "name", "numbers", "broken", "spared"] (sp_plain_result K C_Program C_Result ) := by
  obtain ⟨f, fd, F, gm⟩ := A0
  have cl_NameSet := T_NameSet.ic.cl
  have g_NameSet := T_NameSet.g
  have cl_Program := T_Program.ic.cl
  have g_Program := T_Program.g
  have cl_Result := T_Result.ic.cl
  have g_Result := T_Result.g
  obtain ⟨f_check_procedures_q, fd_check_procedures_q, G_check_procedures_q, g_check_procedures_q, kp_check_procedures_q, bd_check_procedures_q⟩ := D_check_procedures_q
  obtain ⟨f_check_places, fd_check_places, G_check_places, g_check_places, kp_check_places, bd_check_places⟩ := D_check_places
  obtain ⟨f_bad_procedures, fd_bad_procedures, G_bad_procedures, g_bad_procedures, kp_bad_procedures, bd_bad_procedures⟩ := D_bad_procedures
  obtain ⟨f_failing_path, fd_failing_path, G_failing_path, g_failing_path, kp_failing_path, bd_failing_path⟩ := D_failing_path
  obtain ⟨f_make_result_n1, fd_make_result_n1, ds_make_result_n1, G_make_result_n1, g_make_result_n1, kp_make_result_n1, bd_make_result_n1, vd_make_result_n1⟩ := D_make_result_n1
  obtain ⟨f_plain_rows, fd_plain_rows, G_plain_rows, g_plain_rows, kp_plain_rows, bd_plain_rows⟩ := D_plain_rows
  obtain ⟨f_NameSet___init___q_n2, fd_NameSet___init___q_n2, ds_NameSet___init___q_n2, M_NameSet___init___q_n2, G_NameSet___init___q_n2, bd_NameSet___init___q_n2, vd_NameSet___init___q_n2, g_NameSet___init___q_n2⟩ := D_NameSet___init___q_n2
  refine ⟨f, fd, ?_, F, gm⟩
  refine FunD.okN F sc_plain_result (fun vs H Q E h => ?_) (fun cdv A outer s H vs Q E hr h => ?_)
  · obtain ⟨_, _, _, _, _, _, _, _, _, _, _, rfl, _⟩ := h
    rfl
  · obtain ⟨B, x_0, v_0, x_1, x_2, v_2, x_3, v_3, x_4, v_4, r, rfl, sB, hx_0, hx_2, hx_3, hx_4, hm, k⟩ := h
    have hu := hu_of hr
    refine ⟨_, (pss_cons (ps_set (i := 5) sc_plain_result.nd rfl (Or.inl rfl) (pe_ifExp (pt_cmpR o_isN (pv 2) pe_non (nomark _)) pe_dnewK (pe_callTy c_dictD (by rfl) b_dict (by decide +kernel) (pa_cons (pv 2) pa_nil))))
  (pss_cons (ps_expr (pe_call G_check_procedures_q (hr.mono (by decide)) rfl g_check_procedures_q kp_check_procedures_q bd_check_procedures_q .nil pass0 (pa_cons (pv 0) (pa_cons (pe_tup (pa_cons (pv 1) pa_nil)) pa_nil))))
  (pss_cons (ps_expr (pe_call G_check_procedures_q (hr.mono (by decide)) rfl g_check_procedures_q kp_check_procedures_q bd_check_procedures_q .nil pass0 (pa_cons (pv 0) (pa_cons (pv 4) pa_nil))))
  (pss_cons (ps_expr (pe_call G_check_places (hr.mono (by decide)) rfl g_check_places kp_check_places bd_check_places .nil pass0 (pa_cons (pv 0) (pa_cons (pe_callTy (c_listD rfl) (by rfl) b_list (by decide +kernel) (pa_cons (pv 5) pa_nil)) pa_nil))))
  (pss_cons (ps_expr (pe_call G_check_places (hr.mono (by decide)) rfl g_check_places kp_check_places bd_check_places .nil pass0 (pa_cons (pv 0) (pa_cons (pv 3) pa_nil))))
  (pss_cons (ps_set (i := 6) sc_plain_result.nd rfl (Or.inl rfl) (k_fld K (pe_make M_NameSet___init___q_n2 G_NameSet___init___q_n2 (hr.mono (by decide)) rfl g_NameSet___init___q_n2 bd_NameSet___init___q_n2 vd_NameSet___init___q_n2 pass0 (pa_cons (pv 3) pa_nil)) rfl))
  (pss_cons (ps_set (i := 7) sc_plain_result.nd rfl (Or.inl rfl) (k_fld K (pe_make M_NameSet___init___q_n2 G_NameSet___init___q_n2 (hr.mono (by decide)) rfl g_NameSet___init___q_n2 bd_NameSet___init___q_n2 vd_NameSet___init___q_n2 pass0 (pa_cons (pv 4) pa_nil)) rfl))
  (pss_cons (ps_set (i := 8) sc_plain_result.nd rfl (Or.inl rfl) (pe_call G_bad_procedures (hr.mono (by decide)) rfl g_bad_procedures kp_bad_procedures bd_bad_procedures .nil pass0 (pa_cons (pv 0) (pa_cons (pv 6) (pa_cons (pv 7) pa_nil)))))
  (pss_cons (ps_if (pt_cmpR (k_in K) (pv 1) (pv 8) (by rfl)) (pss_cons (ps_asg (pe_call G_failing_path (hr.mono (by decide)) rfl g_failing_path kp_failing_path bd_failing_path .nil pass0 (pa_cons (pv 0) (pa_cons (pv 1) (pa_cons (pv 6) (pa_cons (pv 7) pa_nil))))) (k_gT K (n := 2) (by rfl) (pgs_cons (pg_name (i := 9) sc_plain_result.nd rfl (Or.inl rfl)) (pgs_cons (pg_name (i := 10) sc_plain_result.nd rfl (Or.inl rfl)) pgs_nil))))
  (pss_one ps_dead)) pss_nil)
  (pss_one (ps_ret (pe_call G_make_result_n1 (hr.mono (by decide)) rfl g_make_result_n1 kp_make_result_n1 bd_make_result_n1 vd_make_result_n1 pass0 (pa_cons (pe_call G_plain_rows (hr.mono (by decide)) rfl g_plain_rows kp_plain_rows bd_plain_rows .nil pass0 (pa_cons (pv 0) (pa_cons (pv 1) (pa_cons (pv 5) (pa_cons (pv 8) (pa_cons (pv 7) pa_nil)))))) pa_nil))))))))))))), ?_⟩
    obtain ⟨B0, hB0⟩ : ∃ B0 : Hp, B0 = B := ⟨_, rfl⟩
    subst hB0
    have S0 := Sit.start0 sB
    unfold m_plain_result at hm
    refine w_sig (σ' := [(some v_0), (some (V.str x_1)), (some v_2), (some v_3), (some v_4), none, none, none, none, none, none]) rfl ?_
    refine w_seq ?_
    refine w_asg ?_
    obtain ⟨j1, hj2, hm⟩ := bs hm
    refine cutE (fun v H' => ∃ (B' : Hp), Sit (Fr.mk B0 H []) B' H' [] ∧ Same B0 B' ∧ (dDict dInt).rel B' j1 v) (fun kk3 => ?_) ?_
    · refine w_ifE ?_
      refine w_evT (EvT.test (Ev.op (Ev.var rfl) Ev.c (rv_isN hx_2))) ?_
      refine w_ifb (fun h28 => ?_) (fun h28 => ?_)
      · rw [ifT h28] at hj2
        refine q_dnew (R := dInt) S0 fun p32 o33 H34 S35 n36 h37 => ?_
        obtain ⟨B40, S38, s39, h41⟩ : ∃ B', Sit _ B' H34 [] ∧ Same _ B' ∧ (dDict dInt).rel B' ([] : (List (Str × Int))) (.ref p32) := ⟨_, S35.frz (i := 0) rfl n36, S35.frzS (i := 0) rfl, frzD h37 (S35.atB (i := 0) rfl)⟩
        obtain rfl := Option.some.inj hj2
        exact kk3 _ _ ⟨_, S38, s39, h41⟩
      · rw [ifF h28] at hj2
        obtain ⟨o29, h30, hj2⟩ := bs hj2
        have h31 := opt_some hx_2 h30
        refine w_cb ?_
        refine w_evA (EvA.cons (Ev.var rfl) EvA.nil) ?_
        refine q_dictO S0 (dqxD h31 S0.sub) fun p42 o43 H44 S45 n46 h47 => ?_
        obtain ⟨B50, S48, s49, h51⟩ : ∃ B', Sit _ B' H44 [] ∧ Same _ B' ∧ (dDict dInt).rel B' o29 (.ref p42) := ⟨_, S45.frz (i := 0) rfl n46, S45.frzS (i := 0) rfl, frzD h47 (S45.atB (i := 0) rfl)⟩
        obtain rfl := Option.some.inj hj2
        exact kk3 _ _ ⟨_, S48, s49, h51⟩
    · rintro v55 H52 ⟨B57, S53, s54, h56⟩
      refine w_gname ?_
      refine w_nx (σ' := [(some v_0), (some (V.str x_1)), (some v_2), (some v_3), (some v_4), (some v55), none, none, none, none, none]) rfl ?_
      refine w_seq ?_
      refine w_drop ?_
      refine w_call ?_
      refine w_cons ?_
      refine w_ev (Ev.var rfl) ?_
      refine w_cons ?_
      refine x_tup ?_
      refine w_evA (EvA.cons (Ev.var rfl) EvA.nil) ?_
      refine mkT (K := K) (R := dStr) (xs := [x_1]) S53 (.cons rfl .nil) (by show 1 ≤ BIG; decide) fun v58 B63 H59 S60 s61 h62 => ?_
      refine w_nil ?_
      obtain ⟨r64, h65, hm⟩ := bs hm
      refine use_check_procedures_q S60 (Rl.mono _ (s54.tr s61) hx_0) ((subTQ subR) h62) h65 fun v66 B70 H67  (S68 : Sit _ B70 H67 []) s69 h71  => ?_
      cases h71
      refine w_seq ?_
      refine w_drop ?_
      refine w_call ?_
      refine w_evA (EvA.cons (Ev.var rfl) (EvA.cons (Ev.var rfl) EvA.nil)) ?_
      obtain ⟨r72, h73, hm⟩ := bs hm
      refine use_check_procedures_q S68 (Rl.mono _ (s54.tr (s61.tr s69)) hx_0) (Rl.mono _ (s54.tr (s61.tr s69)) hx_4) h73 fun v74 B78 H75  (S76 : Sit _ B78 H75 []) s77 h79  => ?_
      cases h79
      refine w_seq ?_
      refine w_drop ?_
      refine w_call ?_
      refine w_cons ?_
      refine w_ev (Ev.var rfl) ?_
      refine w_cons ?_
      refine w_cb ?_
      refine w_evA (EvA.cons (Ev.var rfl) EvA.nil) ?_
      refine q_keysS S76 (dqxD (Rl.mono _ (s61.tr (s69.tr s77)) h56) S76.sub) fun v80 B85 H81 S82 s83 h84 => ?_
      refine w_nil ?_
      obtain ⟨r86, h87, hm⟩ := bs hm
      refine use_check_places S82 (Rl.mono _ (s54.tr (s61.tr (s69.tr (s77.tr s83)))) hx_0) ((subLQ subR) h84) h87 fun v88 B92 H89  (S90 : Sit _ B92 H89 []) s91 h93  => ?_
      cases h93
      refine w_seq ?_
      refine w_drop ?_
      refine w_call ?_
      refine w_evA (EvA.cons (Ev.var rfl) (EvA.cons (Ev.var rfl) EvA.nil)) ?_
      obtain ⟨r94, h95, hm⟩ := bs hm
      refine use_check_places S90 (Rl.mono _ (s54.tr (s61.tr (s69.tr (s77.tr (s83.tr s91))))) hx_0) (Rl.mono _ (s54.tr (s61.tr (s69.tr (s77.tr (s83.tr s91))))) hx_3) h95 fun v96 B100 H97  (S98 : Sit _ B100 H97 []) s99 h101  => ?_
      cases h101
      refine w_seq ?_
      refine w_asg ?_
      refine x_fld ?_
      refine w_make ?_
      refine w_evA (EvA.cons (Ev.var rfl) EvA.nil) ?_
      obtain ⟨r102, h103, hm⟩ := bs hm
      refine mk_NameSet___init___q S98 (Rl.mono _ (s54.tr (s61.tr (s69.tr (s77.tr (s83.tr (s91.tr s99)))))) hx_3) h103 fun v104 B109 H105 S106 s107 h108 => ?_
      obtain ⟨w111, h112, r110⟩ := fld_NameSet_members T_NameSet.ic.cl nA_NameSet_members h108
      refine q_fld (r110 _ S106.sub) ?_
      refine w_gname ?_
      refine w_nx (σ' := [(some v_0), (some (V.str x_1)), (some v_2), (some v_3), (some v_4), (some v55), (some w111), none, none, none, none]) rfl ?_
      refine w_seq ?_
      refine w_asg ?_
      refine x_fld ?_
      refine w_make ?_
      refine w_evA (EvA.cons (Ev.var rfl) EvA.nil) ?_
      obtain ⟨r113, h114, hm⟩ := bs hm
      refine mk_NameSet___init___q S106 (Rl.mono _ (s54.tr (s61.tr (s69.tr (s77.tr (s83.tr (s91.tr (s99.tr s107))))))) hx_4) h114 fun v115 B120 H116 S117 s118 h119 => ?_
      obtain ⟨w122, h123, r121⟩ := fld_NameSet_members T_NameSet.ic.cl nA_NameSet_members h119
      refine q_fld (r121 _ S117.sub) ?_
      refine w_gname ?_
      refine w_nx (σ' := [(some v_0), (some (V.str x_1)), (some v_2), (some v_3), (some v_4), (some v55), (some w111), (some w122), none, none, none]) rfl ?_
      refine w_seq ?_
      refine w_asg ?_
      refine w_call ?_
      refine w_evA (EvA.cons (Ev.var rfl) (EvA.cons (Ev.var rfl) (EvA.cons (Ev.var rfl) EvA.nil))) ?_
      obtain ⟨r124, h125, hm⟩ := bs hm
      refine use_bad_procedures S117 (Rl.mono _ (s54.tr (s61.tr (s69.tr (s77.tr (s83.tr (s91.tr (s99.tr (s107.tr s118)))))))) hx_0) (Rl.mono _ s118 h112) h123 h125 fun v126 B130 H127  (S128 : Sit _ B130 H127 []) s129 h131  => ?_
      refine w_gname ?_
      refine w_nx (σ' := [(some v_0), (some (V.str x_1)), (some v_2), (some v_3), (some v_4), (some v55), (some w111), (some w122), (some v126), none, none]) rfl ?_
      refine w_seq ?_
      refine w_ifS ?_
      refine w_evT (EvT.test (Ev.op (Ev.var rfl) (Ev.var rfl) (rin_s (sqL (K := K) h131 S128.sub)))) ?_
      refine w_ifb (fun h132 => ?_) (fun h132 => ?_)
      · rw [ifT h132] at hm
        refine w_seq ?_
        refine w_asg ?_
        refine w_call ?_
        refine w_evA (EvA.cons (Ev.var rfl) (EvA.cons (Ev.var rfl) (EvA.cons (Ev.var rfl) (EvA.cons (Ev.var rfl) EvA.nil)))) ?_
        obtain ⟨r133, h134, hm⟩ := bs hm
        refine use_failing_path S128 (Rl.mono _ (s54.tr (s61.tr (s69.tr (s77.tr (s83.tr (s91.tr (s99.tr (s107.tr (s118.tr s129))))))))) hx_0) (show dStr.rel _ x_1 (V.str x_1) from rfl) (Rl.mono _ (s118.tr s129) h112) (Rl.mono _ s129 h123) h134 fun v135 B139 H136  (S137 : Sit _ B139 H136 []) s138 h140  => ?_
        obtain ⟨o141, h142, hm⟩ := bs hm
        have h143 := opt_some h140 h142
        obtain ⟨w144, w146, h145, h147, hu148⟩ := un_p (K := K) h143
        refine w_gun (hu148 _ S137.sub) rfl ?_
        refine w_gcons ?_
        refine w_gname ?_
        refine w_gcons ?_
        cases h147
        refine w_gname ?_
        refine w_gnil ?_
        refine w_nx (σ' := [(some v_0), (some (V.str x_1)), (some v_2), (some v_3), (some v_4), (some v55), (some w111), (some w122), (some v126), (some w144), (some (V.str o141.2))]) rfl ?_
        cases hm
      · rw [ifF h132] at hm
        refine w_next ?_
        refine w_ret ?_
        refine w_call ?_
        refine w_cons ?_
        refine w_call ?_
        refine w_evA (EvA.cons (Ev.var rfl) (EvA.cons (Ev.var rfl) (EvA.cons (Ev.var rfl) (EvA.cons (Ev.var rfl) (EvA.cons (Ev.var rfl) EvA.nil))))) ?_
        obtain ⟨r149, h150, hm⟩ := bs hm
        refine use_plain_rows S128 (Rl.mono _ (s54.tr (s61.tr (s69.tr (s77.tr (s83.tr (s91.tr (s99.tr (s107.tr (s118.tr s129))))))))) hx_0) (show dStr.rel _ x_1 (V.str x_1) from rfl) (Rl.mono _ (s61.tr (s69.tr (s77.tr (s83.tr (s91.tr (s99.tr (s107.tr (s118.tr s129)))))))) h56) h131 (Rl.mono _ s129 h123) h150 fun v151 B155 H152  (S153 : Sit _ B155 H152 []) s154 h156  => ?_
        refine w_nil ?_
        obtain ⟨r157, h158, hm⟩ := bs hm
        refine use_make_result S153 h156 (show dInt.rel _ 0 (V.int 0) from rfl) h158 fun v159 B163 H160  (S161 : Sit _ B163 H160 []) s162 h164  => ?_
        obtain rfl := Option.some.inj hm
        exact k _ _ _  S161 h164
end
end Mm
namespace Mm
open PySem L2 Mf
theorem wp_drawB {s : Src3} {n m : Int} (h : s.ok n) (hn : n < 1000000000) (h0 : 0 < m) (h1 : m < 2 ^ 1000) : Wp (m_draw s m) (fun r => 0 ≤ r.1 ∧ r.1 < m ∧ r.2.ok (n + 1)) := by
  obtain ⟨v, s', e, a, b, c⟩ := draw_ok h hn h0 h1
  exact ⟨_, e, a, b, c⟩
theorem GoodI.word' {n : Nat} {s : Str} (h : IsName s) : GoodI n (.word s) := ⟨fun j e => (by cases e), fun t e => (by cases e; exact h), fun t e => (by cases e)⟩
theorem GoodI.gap' {n : Nat} : GoodI n .gap := ⟨fun j e => (by cases e), fun t e => (by cases e), fun t e => (by cases e)⟩
theorem GoodI.node' {n k : Nat} (h : k < n) : GoodI n (.node k) := ⟨fun j e => (by cases e; exact h), fun t e => (by cases e), fun t e => (by cases e)⟩
theorem GoodI.num' {n : Nat} {i : Int} (h : -(1000000000000000000000000000000000000000000000000000000000000 : Int) < i ∧ i < 1000000000000000000000000000000000000000000000000000000000000) : GoodI n (.num i) := ⟨fun j e => (by cases e), fun t e => (by cases e), fun t e => (by cases e; exact h)⟩
theorem GoodI.le {n m : Nat} {x : Item} (h : GoodI n x) (e : n ≤ m) : GoodI m x := ⟨fun k q => Nat.lt_of_lt_of_le (h.node k q) e, h.word, h.num⟩
theorem gGet_mem {κ α : Type} [DecidableEq κ] {kvs : List (κ × α)} {k : κ} {v : α} (h : gGet kvs k = some v) : (k, v) ∈ kvs := by
  unfold gGet at h
  cases e : kvs.find? (fun x => decide (x.1 = k)) with
  | none => rw [e] at h; cases h
  | some z =>
    rw [e] at h
    cases h
    have h1 := List.mem_of_find?_eq_some e
    have h2 := List.find?_some e
    have : z.1 = k := by simpa using h2
    rw [← this]
    exact h1
theorem gPut_mem {κ α : Type} [DecidableEq κ] {kvs : List (κ × α)} {k : κ} {v : α} {z : κ × α} (h : z ∈ gPut kvs k v) : z ∈ kvs ∨ z = (k, v) := by
  unfold gPut at h
  split at h
  · obtain ⟨y, hy, e⟩ := List.mem_map.mp h
    by_cases c : y.1 = k
    · rw [if_pos c] at e
      exact .inr (by rw [← e, c])
    · rw [if_neg c] at e
      exact .inl (e ▸ hy)
  · rcases List.mem_append.mp h with q | q
    · exact .inl q
    · exact .inr (List.mem_singleton.mp q)
theorem putM_eq {κ α : Type} [DecidableEq κ] {kvs : List (κ × α)} {k : κ} {v : α} (h : kvs.length < 1000000) : putM kvs k v = some (gPut kvs k v) := by
  unfold putM BIG
  rw [if_pos (by omega)]
theorem rng2M_eq {i j : Int} (h0 : 0 ≤ i) (h1 : j ≤ 1000000) (h2 : i ≤ 1000000) (h3 : -1000000 ≤ j) : rng2M i j = some ((List.range (j - i).toNat).map fun k => i + ((k : Nat) : Int)) := by
  unfold rng2M BIG
  rw [if_pos ⟨⟨by omega, by omega, by omega, by omega⟩, by omega⟩]
/-- an order of the rows, the first one first -/
structure Perm0 (n : Nat) (o : List Nat) : Prop where
  nd : o.Nodup
  mem : ∀ k, k ∈ o ↔ k < n
  fst : o.head? = some 0
theorem Perm0.len {n : Nat} {o : List Nat} (h : Perm0 n o) : o.length = n := by
  have h1 := nd_le (m := List.range n) h.nd fun z hz => List.mem_range.mpr ((h.mem z).mp hz)
  have h2 := nd_le (l := List.range n) (m := o) List.nodup_range fun z hz => (h.mem z).mpr (List.mem_range.mp hz)
  simp only [List.length_range] at h1 h2
  omega
def turnT (o : List Nat) (t : Tbl) : Tbl := o.map fun k => (t.getD k []).map (Item.ren fun j => pos o j)
theorem ixD_ints {l : List Nat} {k : Nat} (h : k ∈ l) : ixD (.int (k : Int)) ((nI l).map PyData.int) = some ((pos l k : Nat) : Int) := by
  unfold ixD
  rw [if_pos ⟨(ints_ly (xs := nI l)).shaped (by decide), (Ly.int (n := 0)).shaped (by decide)⟩]
  unfold nI
  rw [List.map_map, fIx_on, ← fIx_mem h]
  congr 1
  funext a
  refine eqv_dec rfl rfl ?_
  show PyData.int (a : Int) = PyData.int (k : Int) ↔ a = k
  rw [PyData.int.injEq]
  omega
theorem order_wp {s : Src3} {n : Int} {m : Nat} (ok : s.ok n) (hn : n + 1000 < 1000000000) (h0 : 0 < m) (h1 : m ≤ 40) (f : Int → (List Int × Src3) → Option (List Int × Src3)) (hf : f = fun (a18 : Int) (st19 : ((List Int) × Src3)) => (m_draw (st19.2) ((st19.1.length : Int))).bind fun r44 => (insM st19.1 ((1 : Int) + r44.1) a18).bind fun x54 => some (x54, r44.2)) :
    Wp (forL f ((List.range ((m : Int) - 1).toNat).map fun k => (1 : Int) + ((k : Nat) : Int)) ([0], s)) (fun r => ∃ o, r.1 = nI o ∧ Perm0 m o ∧ r.2.ok (n + 1000)) := by
  subst hf
  refine (wp_forL (fun i (z : List Int × Src3) => ∃ o, z.1 = nI o ∧ Perm0 (i + 1) o ∧ z.2.ok (n + i)) ⟨[0], rfl, ⟨by simp, fun k => by simp, rfl⟩, by simpa using ok⟩ ?_).mono ?_
  · rintro i a ⟨zs, s'⟩ ha ⟨o, e, ho, ok1⟩
    simp only at e ok1 ⊢
    subst e
    have hi := (List.getElem?_eq_some_iff.mp ha).1
    simp only [List.length_map, List.length_range] at hi
    have hai : a = ((i + 1 : Nat) : Int) := by
      rw [List.getElem?_map, List.getElem?_range (by simpa using hi)] at ha
      simp at ha
      omega
    subst hai
    have hl := ho.len
    refine (wp_draw ok1 (by omega) (by rw [nI_len]; omega) (by rw [nI_len]; omega)).bind fun u hu => ?_
    obtain ⟨u0, u1, ok2⟩ := hu
    rw [nI_len] at u1
    refine Wp.go (insM_eq (by omega) (by omega) (by rw [nI_len]; omega)) (Wp.some ?_)
    obtain ⟨j, hj⟩ : ∃ j : Nat, ((1 : Int) + u.1).toNat = j + 1 := ⟨u.1.toNat, by omega⟩
    rw [hj]
    refine ⟨o.take (j + 1) ++ [i + 1] ++ o.drop (j + 1), ?_, ⟨?_, fun k => ?_, ?_⟩, ok2.le (by push_cast; omega)⟩
    · unfold nI
      simp [List.map_append, List.map_take, List.map_drop]
    · have hnot : i + 1 ∉ o := fun z => by have := (ho.mem _).mp z; omega
      have hnd := ho.nd
      rw [← List.take_append_drop (j + 1) o] at hnd hnot
      rw [List.append_assoc, List.nodup_append] at *
      refine ⟨hnd.1, ?_, fun a ha b hb => ?_⟩
      · rw [List.singleton_append, List.nodup_cons]
        exact ⟨fun z => hnot (List.mem_append_right _ z), hnd.2.1⟩
      · rcases List.mem_append.mp hb with z | z
        · rw [List.mem_singleton.mp z]
          exact fun e => hnot (List.mem_append_left _ (e ▸ ha))
        · exact hnd.2.2 a ha b z
    · have : k ∈ o.take (j + 1) ++ [i + 1] ++ o.drop (j + 1) ↔ k ∈ o ∨ k = i + 1 := by
        rw [List.mem_append, List.mem_append, List.mem_singleton]
        conv => rhs; rw [← List.take_append_drop (j + 1) o, List.mem_append]
        constructor
        · rintro ((z | z) | z)
          · exact .inl (.inl z)
          · exact .inr z
          · exact .inl (.inr z)
        · rintro ((z | z) | z)
          · exact .inl (.inl z)
          · exact .inr z
          · exact .inl (.inr z)
      rw [this, ho.mem]
      omega
    · have := ho.fst
      cases o with
      | nil => cases this
      | cons y o => simpa using this
  · rintro ⟨zs, s'⟩ ⟨o, h1, h2, h3⟩
    have el : ((List.range ((m : Int) - 1).toNat).map fun k => (1 : Int) + ((k : Nat) : Int)).length = m - 1 := by simp
    rw [el] at h2 h3
    exact ⟨o, h1, by rw [show m - 1 + 1 = m by omega] at h2; exact h2, h3.le (by omega)⟩
theorem turn_good {t : Tbl} {o : List Nat} (h : GoodT t) (ho : Perm0 t.length o) : GoodT (turnT o t) := by
  have hl := ho.len
  have h1 := h.pos
  have h2 := h.few
  have el : (turnT o t).length = t.length := by unfold turnT; rw [List.length_map, hl]
  have hr : ∀ r ∈ turnT o t, ∃ r' ∈ t, r = r'.map (Item.ren fun j => pos o j) := fun r hr => by
    obtain ⟨k, hk, rfl⟩ := List.mem_map.mp hr
    have hk := (ho.mem k).mp hk
    exact ⟨t[k], List.getElem_mem hk, by simp [List.getD, hk]⟩
  refine ⟨by omega, by omega, fun r h => ?_, fun r h' x hx => ?_⟩
  · obtain ⟨r', hr', rfl⟩ := hr r h
    rw [List.length_map]
    exact GoodT.short ‹GoodT t› r' hr'
  · obtain ⟨r', hr', rfl⟩ := hr r h'
    obtain ⟨y, hy, rfl⟩ := List.mem_map.mp hx
    have hg := h.item r' hr' y hy
    cases y with
    | node j =>
      have hj := hg.node j rfl
      exact GoodI.node' (by rw [el, ← hl]; exact pos_lt ((ho.mem j).mpr hj))
    | gap => exact GoodI.gap'
    | word w => exact GoodI.word' (hg.word w rfl)
    | num w => exact GoodI.num' (hg.num w rfl)
theorem chars_letters (x : Str) : ((chars x).map (fun a => decide (a ∈ chars (Str.ofString "abcdefghijklmnopqrstuvwxyz")))).all id = decide (∀ c ∈ x.cps.toList, 97 ≤ c ∧ c ≤ 122) := by
  have e : ∀ c : Nat, decide ((⟨#[c]⟩ : Str) ∈ chars (Str.ofString "abcdefghijklmnopqrstuvwxyz")) = decide (97 ≤ c ∧ c ≤ 122) := fun c => by
    rw [← letters_mem]
    refine decide_eq_decide.mpr ⟨fun z => ?_, fun z => List.mem_map.mpr ⟨c, z, rfl⟩⟩
    obtain ⟨m, hm, e⟩ := List.mem_map.mp z
    injection e with e
    have : m = c := by simpa using e
    exact this ▸ hm
  rw [Bool.eq_iff_iff, decide_eq_true_iff, List.all_map, List.all_eq_true]
  unfold chars
  constructor
  · intro h c hc
    have := h _ (List.mem_map.mpr ⟨c, hc, rfl⟩)
    simp only [Function.comp, id] at this
    have e2 := e c
    unfold chars at e2
    rw [e2] at this
    exact of_decide_eq_true this
  · intro h a ha
    obtain ⟨c, hc, rfl⟩ := List.mem_map.mp ha
    have e2 := e c
    unfold chars at e2
    simp only [Function.comp, id]
    rw [e2]
    exact decide_eq_true (h c hc)
theorem is_name_eq {x : Str} (h : x.length < 1000000) : m_is_name x = some (decide (IsName x)) := by
  unfold m_is_name
  rw [if_neg (by decide), lenS_eq h, Option.bind_some, Option.bind_some, charsM_eq h, Option.bind_some, chars_letters]
  by_cases h1 : 1 ≤ x.length ∧ x.length ≤ 8
  · rw [if_neg (by simp; omega)]
    congr 1
    refine decide_eq_decide.mpr ⟨fun z => ⟨h1.1, h1.2, z⟩, fun z => z.2.2⟩
  · rw [if_pos (by simp; omega)]
    congr 1
    exact (decide_eq_false fun z => h1 ⟨z.1, z.2.1⟩).symm
theorem is_name_yes {x : Str} (h : IsName x) : m_is_name x = some true := by
  rw [is_name_eq (by have := h.2.1; omega), decide_eq_true h]
theorem is_step_eq {s : Stp} (h : s.2.length < 1000000) : m_is_step s = some (decide (s.1 ∈ kinds ∧ IsName s.2)) := by
  unfold m_is_step
  rw [is_name_eq h]
  by_cases c : s.1 ∈ kinds
  · rw [if_pos (by exact decide_eq_true c)]
    simp only [Option.bind_some]
    congr 1
    exact decide_eq_decide.mpr ⟨fun z => ⟨c, z⟩, fun z => z.2⟩
  · rw [if_neg (by intro z; exact c (of_decide_eq_true z))]
    simp only [Option.bind_some]
    congr 1
    exact (decide_eq_false fun z => c z.1).symm
theorem enum_at {α : Type} {k : Int} {xs : List α} {i : Nat} {a : Int × α} (h : (enumM k xs)[i]? = some a) : xs[i]? = some a.2 ∧ a.1 = k + i := by
  unfold enumM at h
  rw [List.getElem?_zipWith] at h
  cases e : xs[i]? with
  | none => rw [e] at h; cases e2 : (List.range xs.length)[i]? <;> rw [e2] at h <;> cases h
  | some x =>
    have hi := (List.getElem?_eq_some_iff.mp e).1
    rw [e, List.getElem?_range hi] at h
    cases h
    exact ⟨rfl, rfl⟩
theorem enum_len {α : Type} (k : Int) (xs : List α) : (enumM k xs).length = xs.length := by unfold enumM; simp
theorem invalid_line_good {ps : List Prc} (hg : Good ps) : m_invalid_line ps = some 0 := by
  refine Wp.eq ?_
  unfold m_invalid_line
  have h0 := hg.pos
  have h16 := hg.few
  refine Wp.no (by rw [decide_eq_false_iff_not]; omega) ?_
  refine Wp.bind (P := fun c => c = .nx (nms ps)) (wp_forC (fun i es => es = (nms ps).take i) rfl ?_ ?_) fun c hc => ?_
  · rintro i ⟨k, n, b⟩ es ha rfl
    obtain ⟨hp, hk⟩ := enum_at ha
    simp only at hp hk
    have hm := List.mem_of_getElem? hp
    have hi := (List.getElem?_eq_some_iff.mp hp).1
    have hb := hg.short _ hm
    have hn := hg.name _ hm
    simp only at hb hn
    have nin : n ∉ (nms ps).take i := fun z => by
      have nd := hg.nd
      have e2 : (nms ps)[i]? = some n := by unfold nms; rw [List.getElem?_map, hp]; rfl
      obtain ⟨j, hj⟩ := List.getElem?_of_mem z
      have hj2 : (nms ps)[j]? = some n := by
        rw [List.getElem?_take] at hj
        split at hj
        · exact hj
        · cases hj
      have := Sit.nodup_inj nd e2 hj2
      rw [List.getElem?_take] at hj
      split at hj
      · omega
      · cases hj
    refine Wp.bind (P := fun c => c = false) (Wp.no (by simp only; rw [decide_eq_false_iff_not]; omega) (Wp.go (is_name_yes hn) (Wp.no rfl (Wp.no (by simp only; rw [decide_eq_false_iff_not]; exact nin) (Wp.some (by simp only; rw [decide_eq_false_iff_not]; omega)))))) fun c hc => ?_
    subst hc
    refine Wp.no rfl ?_
    refine Wp.go (lcM_mapE (fun _ => true) fun s hs => ?_) ?_
    · have gs := hg.step _ hm s hs
      rw [is_step_eq (by have := gs.2.1.2.1; omega), decide_eq_true ⟨gs.1, gs.2.1⟩]
      rfl
    refine Wp.no (by simp) ?_
    refine Wp.go (pushM_eq (by rw [List.length_take]; omega)) ?_
    refine Wp.some ?_
    simp only
    exact (take_next (show (nms ps)[i]? = some n by unfold nms; rw [List.getElem?_map, hp]; rfl)).symm
  · intro s hs
    rw [enum_len] at hs
    subst hs
    rw [show ps.length = (nms ps).length by unfold nms; simp, List.take_length]
  · subst hc
    refine Wp.bind (P := fun c => c = .nx ()) (wp_forC (fun _ _ => True) trivial ?_ fun _ _ => rfl) fun c hc => ?_
    · rintro i ⟨k, n, b⟩ _ ha _
      obtain ⟨hp, hk⟩ := enum_at ha
      have hm := List.mem_of_getElem? hp
      simp only at hm
      refine Wp.bind (P := fun c => c = .nx ()) (wp_forC (fun _ _ => True) trivial ?_ fun _ _ => rfl) fun c hc => ?_
      · rintro j s _ hs _
        have gs := hg.step _ hm s (List.mem_of_getElem? hs)
        refine Wp.bind (P := fun c => c = false) (Wp.ite (fun h => Wp.some ?_) (fun _ => Wp.some rfl)) fun c hc => ?_
        · have := gs.2.2 (of_decide_eq_true h)
          simp [this]
        · subst hc
          exact Wp.no rfl (Wp.some trivial)
      · subst hc
        exact Wp.some trivial
    · subst hc
      exact Wp.some rfl
/-- the program of these procedures -/
def pgO (ps : List Prc) : O_Program := (nms ps, ps, places ps)
theorem dcL_id {β : Type} : ∀ (qs acc : List (Str × β)), ((acc ++ qs).map Prod.fst).Nodup → dcL (fun (a : Str × β) => some (some a)) qs acc = some (acc ++ qs)
  | [], acc, _ => by simp [dcL]
  | q :: qs, acc, nd => by
    unfold dcL
    have e : dPut acc q.1 q.2 = acc ++ [q] := by
      unfold dPut
      rw [if_neg]
      intro z
      rw [List.any_eq_true] at z
      obtain ⟨x, hx, e⟩ := z
      have e := of_decide_eq_true e
      rw [List.map_append, List.nodup_append] at nd
      exact nd.2.2 x.1 (List.mem_map.mpr ⟨x, hx, rfl⟩) q.1 (by simp) e
    simp only [Option.bind_some]
    rw [e, dcL_id qs (acc ++ [q]) (by simpa using nd)]
    simp
theorem lc2M_total {α β γ : Type} (F : α → List γ) (g : α → γ → Option β) : ∀ as : List α, (as.flatMap fun a => (F a).filterMap (g a)).length < 1000000 → lc2M (fun a => some (F a)) (fun a c => some (g a c)) as = some (as.flatMap fun a => (F a).filterMap (g a))
  | [], _ => rfl
  | a :: as, h => by
    unfold lc2M
    rw [List.flatMap_cons, List.length_append] at h
    simp only [Option.bind_some]
    rw [lcM_total, Option.bind_some, lc2M_total F g as (by omega), Option.bind_some, if_pos (by rw [List.length_append]; unfold BIG; omega), List.flatMap_cons]
theorem reads_len {ps : List Prc} (h : ∀ p ∈ ps, p.2.length ≤ 12) : (reads ps).length ≤ ps.length * 12 := by
  unfold reads
  induction ps with
  | nil => simp
  | cons p ps ih =>
    rw [List.flatMap_cons, List.length_append, List.length_cons]
    have h1 := ih fun q hq => h q (List.mem_cons_of_mem _ hq)
    have h2 := h p List.mem_cons_self
    have h3 := List.length_filterMap_le rdOf p.2
    omega
theorem pinit {ps : List Prc} (hg : Good ps) : m_Program___init__ ps = some (pgO ps) := by
  unfold m_Program___init__
  rw [invalid_line_good hg, Option.bind_some, if_neg (by decide)]
  have e1 : (fun (a : Str × List (Str × Str)) => some (some (a.1, a.2.map fun (b : Str × Str) => (b.1, b.2)))) = fun (a : Prc) => some (some a) := by
    funext a
    simp
  rw [e1, dcL_id ps [] (by rw [List.nil_append]; exact hg.nd), Option.bind_some]
  have e2 : (fun (a : Str × List (Str × Str)) (b : Str × Str) => if (decide (b.1 = Str.ofString "read")) = true then some (some b.2) else some none) = fun (_ : Prc) (c : Stp) => some (rdOf c) := by
    funext a b
    unfold rdOf
    by_cases c : b.1 = Str.ofString "read"
    · rw [if_pos (decide_eq_true c), if_pos c]
    · rw [if_neg (by rw [decide_eq_false c]; decide), if_neg c]
  rw [e2]
  have hr := reads_len hg.short
  have h16 := hg.few
  have e3 : (ps.flatMap fun a => a.2.filterMap rdOf) = reads ps := rfl
  rw [lc2M_total (fun a : Prc => a.2) (fun _ c => rdOf c) ps (by rw [e3]; omega), Option.bind_some, e3]
  simp only [List.map_id']
  rw [nsetM_eq (by omega) hg.plc, Option.bind_some]
  rfl
theorem get_eq {ps : List Prc} {p : Prc} (hg : Good ps) (h : p ∈ ps) : m_Program___getitem__ (pgO ps) p.1 = some p.2 := by
  unfold m_Program___getitem__ pgO dHas
  simp only
  rw [dGet_mem hg.nd h, if_neg (by simp)]
  rfl
theorem nsq_eq {xs : List Str} (h : xs.length < 4000) (h2 : (addAll xs).length < 64) : m_NameSet___init___q xs = some (nset xs) := by
  unfold m_NameSet___init___q
  rw [List.map_id', nsetM_eq h h2]
  rfl
theorem known_loop {xs ns : List Str} (h : ∀ x ∈ xs, x ∈ ns) : forC (R := Option Str) (fun (a : Str) (_ : Unit) => if (!decide (a ∈ ns)) = true then some (.ret (some a)) else some (.nx ())) xs () = some (.nx ()) := by
  induction xs with
  | nil => rfl
  | cons x xs ih =>
    unfold forC
    rw [if_neg (by simp [h x List.mem_cons_self]), Option.bind_some]
    exact ih fun y hy => h y (List.mem_cons_of_mem _ hy)
theorem check_q {ps : List Prc} (hg : Good ps) {xs : List Str} (hl : xs.length < 4000) (h : ∀ x ∈ xs, x ∈ nms ps) : m_check_procedures_q (pgO ps) xs = some () := by
  unfold m_check_procedures_q m_least_unknown_q pgO
  have := names_few hg h
  rw [nsq_eq hl (by omega), Option.bind_some, known_loop (fun x hx => h x (mem_nset.mp hx)), Option.bind_some]
  rfl
theorem get_in {ps : List Prc} (hg : Good ps) {x : Str} (h : x ∈ nms ps) : m_Program___getitem__ (pgO ps) x = some (bodyOf ps x) := get_eq hg (body_of hg h).2
theorem callees_eq {ps : List Prc} (hg : Good ps) {x : Str} {ks : List Str} (h : x ∈ nms ps) : m_callees (pgO ps) x ks = some ((bodyOf ps x).filterMap fun (a : Str × Str) => if (decide (a.1 ∈ ks)) = true then some a.2 else none) := by
  unfold m_callees
  rw [get_in hg h, Option.bind_some]
theorem callees_next {ps : List Prc} {x : Str} {ks st : List Str} : (((bodyOf ps x).filterMap fun (a : Str × Str) => if (decide (a.1 ∈ ks)) = true then some a.2 else none).filterMap fun (a : Str) => if (!decide (a ∈ st)) = true then some a else none) = nexts ps ks st x := by
  unfold nexts
  rw [List.filterMap_filterMap]
  congr 1
  funext s
  by_cases c : s.1 ∈ ks
  · by_cases d : s.2 ∈ st
    · simp [c, d]
    · simp [c, d]
  · simp [c]
theorem spread_wp {ps : List Prc} (hg : Good ps) {S ks st : List Str} (hk : ∀ k ∈ ks, k ∈ calls) (hS : ∀ x ∈ S, x ∈ nms ps) (hl : S.length ≤ 16) : Wp (m_spread (pgO ps) S ks st) (Found ps ks st S) := by
  obtain ⟨f, hf, h⟩ := spr_found hg (st := st) hk hS hl
  unfold m_spread
  rw [fm_notin]
  refine Wp.go (h _ fun s hs => ?_) (Wp.some hf)
  exact spr_turn hg (F := fun x => m_callees (pgO ps) x ks) (G := fun r => r.filterMap fun (a : Str) => if (!decide (a ∈ st)) = true then some a else none) (fun x hx => ⟨_, callees_eq hg hx, callees_next⟩) hs
theorem places_read_eq {ps : List Prc} (hg : Good ps) {x : Str} (h : x ∈ nms ps) : m_places_read (pgO ps) x = some (rds ps x) := by
  unfold m_places_read
  rw [get_in hg h, Option.bind_some, rds_form]
  rfl
theorem check_pl {ps : List Prc} (hg : Good ps) {xs : List Str} (hl : xs.length < 4000) (h : ∀ x ∈ xs, x ∈ places ps) : m_check_places (pgO ps) xs = some () := by
  unfold m_check_places m_least_unknown_q pgO
  rw [nsq_eq hl (places_few hg h), Option.bind_some, known_loop (fun x hx => h x (mem_nset.mp hx)), Option.bind_some]
  rfl
theorem shape_eq {r : Row} {c : List Nat} (h : ∀ k, Item.node k ∈ r → k < c.length) : m_row_shape (rD r) (nI c) = some (rD (shape c r)) := by
  unfold m_row_shape
  refine Wp.eq (Wp.go (a := rD (shape c r)) ?_ (Wp.some rfl))
  unfold rD
  rw [lcM_on]
  rw [lcM_mapE (fun x => (Item.ren (cls c) x).d)]
  · unfold shape; rw [List.map_map]; rfl
  · intro x hx
    rw [it_node]
    cases x with
    | node k =>
      rw [ifT (show (Item.node k).isNode = true from rfl), it_ix, atI_nI (h k hx)]
      rfl
    | _ => rfl
theorem num_lt {α : Type} [DecidableEq α] {xs : List α} {k : Nat} (h : k ∈ num xs) : k < cnt xs := by
  unfold num at h
  obtain ⟨x, hx, rfl⟩ := List.mem_map.mp h
  exact pos_lt (mem_dis.mpr hx)
theorem cls_lt {c : List Nat} {n : Nat} (h : ∀ k ∈ c, k < n) (hn : 0 < n) (k : Nat) : cls c k < n := by
  unfold cls
  by_cases hk : k < c.length
  · simp only [List.getD, hk, List.getElem?_eq_getElem, Option.getD_some]
    exact h _ (List.getElem_mem hk)
  · simp only [List.getD]
    rw [List.getElem?_eq_none (by omega)]
    exact hn
theorem seq_lt {t : Tbl} (h0 : 0 < t.length) : ∀ k, ∀ z ∈ seqC t k, z < t.length
  | 0, z, hz => by
    have := (List.mem_replicate.mp hz).2
    omega
  | k + 1, z, hz => by
    have h1 := num_lt (xs := keysC t (seqC t k)) hz
    have h2 := cnt_le (keysC t (seqC t k))
    unfold keysC at h2
    rw [List.length_map] at h2
    unfold keysC at h1
    omega
theorem keys_good {t : Tbl} (h : GoodT t) (k : Nat) : ∀ r ∈ keysC t (seqC t k), ∀ x ∈ r, GoodI t.length x := by
  intro r hr x hx
  obtain ⟨r', hr', rfl⟩ := List.mem_map.mp hr
  obtain ⟨x', hx', rfl⟩ := List.mem_map.mp hx
  exact (h.item r' hr' x' hx').ren (cls_lt (seq_lt h.pos k) h.pos)
theorem classes_of_eq {t : Tbl} (h : GoodT t) : m_classes_of (tD t) = some (nI (C t)) := by
  have h40 := h.few
  have hpos := h.pos
  refine Wp.eq ?_
  unfold m_classes_of
  refine Wp.go (a := nI (seqC t 0)) ?_ ?_
  · unfold repM
    rw [tD_len, if_pos ⟨by omega, by omega, by simp; unfold BIG; omega⟩]
    congr 1
    show _ = (List.replicate t.length 0).map _
    rw [List.map_replicate]
    simp only [Int.toNat_natCast]
    rw [List.flatten_replicate_singleton]
    rfl
  refine Wp.bind (P := fun c => c = .ret (nI (C t))) (wp_whC (fun st => ∃ k, st = (nI (seqC t k), ((match k with | 0 => 0 | j + 1 => cntC t j : Nat) : Int)) ∧ ∀ j, j + 1 < k → cntC t j ≠ cntC t (j + 1)) (fun st => 100 - st.2.toNat) ⟨0, rfl, fun _ z => by omega⟩ (by unfold FUEL; omega) ?_) ?_
  · rintro st ⟨k, rfl, hinc⟩
    refine Wp.yes rfl ?_
    have hk := keys_good h k
    refine Wp.go (a := tD (keysC t (seqC t k))) ?_ ?_
    · unfold tD
      rw [lcM_on, lcM_mapE (fun r => rD (shape (seqC t k) r))]
      · unfold keysC; rw [List.map_map]; rfl
      · intro r hr
        rw [shape_eq fun j hj => by rw [seqC_len]; exact h.tok r hr j hj]
        rfl
    have kl : (keysC t (seqC t k)).length = t.length := by unfold keysC; simp
    refine Wp.go (a := tD (dis (keysC t (seqC t k)))) (dis_loop (F := rowT) (e := rD) (n := 2) (fun a b => rowT_inj) rowT_nb (fun a ha => rowT_ly (hk a ha)) (by decide) (by omega)) ?_
    refine Wp.go (a := nI (seqC t (k + 1))) ?_ ?_
    · unfold tD
      rw [lcM_on, lcM_mapE (fun r => ((pos (dis (keysC t (seqC t k))) r : Nat) : Int))]
      · show _ = some (nI (num (keysC t (seqC t k))))
        unfold nI num
        rw [List.map_map]
        rfl
      · intro r hr
        refine Wp.eq (Wp.go (ixD_dis (F := rowT) (e := rD) (n := 2) (fun a b => rowT_inj) rowT_nb (fun a ha => rowT_ly (hk a ha)) (by decide) hr) (Wp.some rfl))
    have el : ((tD (dis (keysC t (seqC t k)))).length : Int) = (cntC t k : Nat) := by rw [tD_len]; rfl
    rw [el]
    have top := cntC_top t k
    refine Wp.ite (fun c => Wp.some ?_) (fun c => Wp.some ?_)
    · have c := of_decide_eq_true c
      cases k with
      | zero =>
        exfalso
        have c : ((cntC t 0 : Nat) : Int) = ((0 : Nat) : Int) := c
        have hm : (keysC t (seqC t 0)) ≠ [] := by intro z; rw [z] at kl; simp at kl; omega
        obtain ⟨r, hr⟩ := List.exists_mem_of_ne_nil _ hm
        have := List.length_pos_of_mem (mem_dis.mpr hr)
        unfold cntC cnt at c
        omega
      | succ j =>
        have c : ((cntC t (j + 1) : Nat) : Int) = ((cntC t j : Nat) : Int) := c
        have e := cntC_eq h.tok (k := j) (by omega)
        show Ctl.ret (nI (seqC t (j + 1 + 1))) = _
        rw [← e, C_of h.tok h.pos e.symm]
    · have c := of_decide_eq_false c
      refine ⟨⟨k + 1, rfl, fun j hj => ?_⟩, ?_⟩
      · rcases Nat.lt_or_ge (j + 1) k with z | z
        · exact hinc j z
        · cases k with
          | zero => omega
          | succ i =>
            have : j = i := by omega
            subst this
            intro q
            exact c (by show ((cntC t (j + 1) : Nat) : Int) = ((cntC t j : Nat) : Int); omega)
      · simp only
        cases k with
        | zero =>
          have : 0 < cntC t 0 := by
            have hm : (keysC t (seqC t 0)) ≠ [] := by intro z; rw [z] at kl; simp at kl; omega
            obtain ⟨r, hr⟩ := List.exists_mem_of_ne_nil _ hm
            have := List.length_pos_of_mem (mem_dis.mpr hr)
            exact this
          show 100 - ((cntC t 0 : Nat) : Int).toNat < 100 - ((0 : Nat) : Int).toNat
          omega
        | succ j =>
          have h1 := cntC_le h.tok j
          have c : ¬ ((cntC t (j + 1) : Nat) : Int) = ((cntC t j : Nat) : Int) := c
          simp only at c ⊢
          omega
  · rintro c rfl
    exact Wp.some rfl
theorem canonical_rows_eq {t : Tbl} (h : GoodT t) {s : Nat} (hs : s < t.length) : m_canonical_rows (tD t) (s : Int) = some (tD (canonAt t s)) := by
  have h40 := h.few
  refine Wp.eq ?_
  unfold m_canonical_rows
  refine Wp.go (classes_of_eq h) ?_
  rw [atI_nI (by rw [C_len]; exact hs)]
  generalize hc : C t = c
  have hcl : c.length = t.length := by rw [← hc, C_len]
  have hcan : canonAt t s = cGo t c (t.length + 1) [] [s] := by unfold canonAt; rw [hc]
  refine Wp.bind (P := fun z => ∃ st : List (List (List PyData)) × List Int × List Int, z = .nx st ∧ st.1 = tD (canonAt t s)) (wp_whC (fun st => ∃ n acc o, st = (tD acc, nI (o.map (cls c)), nI o) ∧ Ord c t.length o ∧ acc.length ≤ o.length ∧ n + acc.length = t.length + 1 ∧ cGo t c n acc o = canonAt t s) (fun st => 100 - st.1.length) ?_ ?_ ?_) ?_
  · exact ⟨t.length + 1, [], [s], rfl, ⟨by simp, fun k hk => by rw [List.mem_singleton.mp hk]; exact hs⟩, by simp, by simp, hcan.symm⟩
  · simp only; unfold FUEL; omega
  · rintro st ⟨n, acc, o, rfl, ho, hle, hn, hgo⟩
    have hol := ho.len
    rw [tD_len, nI_len]
    refine Wp.ite (fun q => ?_) (fun q => Wp.some ⟨_, rfl, ?_⟩)
    · have q : acc.length < o.length := by have := of_decide_eq_true q; omega
      obtain ⟨k, hk⟩ : ∃ k, o[acc.length]? = some k := ⟨o[acc.length], by simp [q]⟩
      have hkn := ho.lt k (List.mem_of_getElem? hk)
      obtain ⟨r, hr⟩ : ∃ r, t[k]? = some r := ⟨t[k], by simp [hkn]⟩
      have hrt := List.mem_of_getElem? hr
      have hr12 := h.short r hrt
      rw [atI_get (nI_get hk), atI_get (tD_get hr)]
      have hnode : ∀ j, Item.node j ∈ r → j < t.length := fun j hj => h.tok r hrt j hj
      refine Wp.bind (P := fun z => z = (rD (cRow c o r).1, nI ((cRow c o r).2.map (cls c)), nI (cRow c o r).2)) ((wp_forL (fun i st => st = (rD (cRow c o (r.take i)).1, nI ((cRow c o (r.take i)).2.map (cls c)), nI (cRow c o (r.take i)).2)) rfl ?_).mono ?_) ?_
      · rintro i a st ha rfl
        unfold rD at ha
        rw [List.getElem?_map] at ha
        cases qa : r[i]? with
        | none => rw [qa] at ha; cases ha
        | some x =>
          rw [qa] at ha
          cases ha
          have hi := (List.getElem?_eq_some_iff.mp qa).1
          have hx := List.mem_of_getElem? qa
          obtain ⟨ho1, hle1⟩ := cRow_ord (r := r.take i) ho fun j hj => hnode j (List.mem_of_mem_take hj)
          have hl1 : (cRow c o (r.take i)).1.length < 1000 := by rw [cRow_len, List.length_take]; omega
          rw [take_next qa, cRow_snoc]
          generalize cRow c o (r.take i) = p at ho1 hle1 hl1
          obtain ⟨a1, o1⟩ := p
          simp only at ho1 hle1 hl1 ⊢
          have hol1 := ho1.len
          rw [it_node]
          cases x with
          | node j =>
            have hj := hnode j hx
            have hjc : j < c.length := by omega
            refine Wp.no rfl ?_
            refine Wp.bind (P := fun z => z = (nI ((addN c o1 j).map (cls c)), nI (addN c o1 j))) ?_ ?_
            · rw [it_ix, atI_nI hjc]
              refine Wp.ite (fun z => ?_) (fun z => Wp.some ?_)
              · have z : cls c j ∉ o1.map (cls c) := by
                  have : ¬ ((cls c j : Nat) : Int) ∈ nI (o1.map (cls c)) := by simpa using z
                  exact fun w => this (mem_nI.mpr w)
                rw [it_ix, atI_nI hjc]
                refine Wp.go (pushM_eq (by rw [nI_len, List.length_map]; omega)) ?_
                rw [it_ix]
                refine Wp.go (pushM_eq (by rw [nI_len]; omega)) (Wp.some ?_)
                unfold addN
                rw [if_neg z, List.map_append, List.map_singleton, nI_push, nI_push]
              · have z : cls c j ∈ o1.map (cls c) := by
                  have : ((cls c j : Nat) : Int) ∈ nI (o1.map (cls c)) := by simpa using z
                  exact mem_nI.mp this
                unfold addN
                rw [if_pos z]
            · rintro _ rfl
              rw [it_ix, atI_nI hjc]
              refine Wp.go (ixOf_nI addN_mem) ?_
              rw [node_d]
              refine Wp.go (pushM_eq (by rw [rD_len]; omega)) (Wp.some ?_)
              rw [← rD_push]
              rfl
          | gap => exact Wp.yes rfl (Wp.go (pushM_eq (by rw [rD_len]; omega)) (Wp.some (by rw [← rD_push]; rfl)))
          | word w => exact Wp.yes rfl (Wp.go (pushM_eq (by rw [rD_len]; omega)) (Wp.some (by rw [← rD_push]; rfl)))
          | num w => exact Wp.yes rfl (Wp.go (pushM_eq (by rw [rD_len]; omega)) (Wp.some (by rw [← rD_push]; rfl)))
      · rintro st rfl
        rw [rD_len, List.take_length]
      · rintro _ rfl
        refine Wp.go (pushM_eq (by rw [tD_len]; omega)) (Wp.some ⟨?_, ?_⟩)
        · obtain ⟨ho1, hle1⟩ := cRow_ord (r := r) ho hnode
          obtain ⟨n, rfl⟩ : ∃ m, n = m + 1 := ⟨n - 1, by omega⟩
          refine ⟨n, acc ++ [(cRow c o r).1], (cRow c o r).2, by rw [tD_push], ho1, by rw [List.length_append]; simp; omega, by rw [List.length_append]; simp; omega, ?_⟩
          have hgo : (if acc.length < o.length then cGo t c n (acc ++ [(cRow c o (t.getD (o.getD acc.length 0) [])).1]) (cRow c o (t.getD (o.getD acc.length 0) [])).2 else acc) = canonAt t s := hgo
          rw [if_pos q, show o.getD acc.length 0 = k by simp [List.getD, hk], show t.getD k [] = r by simp [List.getD, hr]] at hgo
          exact hgo
        · simp only [List.length_append, tD_len]
          simp
          omega
    · have q : ¬ acc.length < o.length := by have := of_decide_eq_false q; omega
      obtain ⟨n, rfl⟩ : ∃ m, n = m + 1 := ⟨n - 1, by omega⟩
      have hgo : (if acc.length < o.length then cGo t c n (acc ++ [(cRow c o (t.getD (o.getD acc.length 0) [])).1]) (cRow c o (t.getD (o.getD acc.length 0) [])).2 else acc) = canonAt t s := hgo
      rw [if_neg q] at hgo
      rw [hgo]
  · rintro _ ⟨st, rfl, e⟩
    exact Wp.some e
theorem is_number_yes {i : Int} (h : -(1000000000000000000000000000000000000000000000000000000000000 : Int) < i ∧ i < 1000000000000000000000000000000000000000000000000000000000000) : m_is_number_a (.int i) = some true := by
  unfold m_is_number_a
  show (some ((decide _) && (decide _))).bind some = _
  rw [decide_eq_true h.1, decide_eq_true h.2]
  rfl
theorem is_name_a_eq {x : Str} (h : x.length < 1000000) : m_is_name_a (.str x) = some (decide (IsName x)) := by
  unfold m_is_name_a
  show (((lenS x).bind fun n8 => some (!((decide ((1 : Int) ≤ n8)) && (decide (n8 ≤ (8 : Int)))))).bind fun c3 => if c3 = true then some false else (charsM x).bind fun z18 => some ((z18.map (fun (a22 : Str) => (decide (a22 ∈ chars (Str.ofString "abcdefghijklmnopqrstuvwxyz"))))).all id)) = _
  rw [lenS_eq h, Option.bind_some, Option.bind_some, charsM_eq h, Option.bind_some, chars_letters']
  by_cases h1 : 1 ≤ x.length ∧ x.length ≤ 8
  · rw [if_neg (by simp; omega)]
    exact congrArg some (decide_eq_decide.mpr ⟨fun z => ⟨h1.1, h1.2, z⟩, fun z => z.2.2⟩)
  · rw [if_pos (by simp; omega)]
    exact congrArg some (decide_eq_false fun z => h1 ⟨z.1, z.2.1⟩).symm
theorem is_item_yes {n : Nat} {x : Item} (h : GoodI n x) (hn : n ≤ 1000) : m_is_item x.d (n : Int) = some true := by
  refine Wp.eq ?_
  unfold m_is_item
  obtain ⟨k1, k2, k3, k4, k5, k6⟩ := kne
  cases x with
  | gap =>
    refine Wp.no rfl (Wp.yes rfl ?_)
    exact Wp.go (show atI (Item.gap).d 0 = some (.str (Str.ofString "gap")) from rfl) (Wp.go (eqS kok1 kok1) (Wp.some (by simp)))
  | word s =>
    refine Wp.no rfl (Wp.no rfl (Wp.go (show un2 (Item.word s).d = some (.str (Str.ofString "word"), .str s) from rfl) ?_))
    refine Wp.go (eqS kok2 kok3) (Wp.no (by simp [k4]) (Wp.go (eqS kok2 kok2) (Wp.yes (by simp) ?_)))
    have hs := h.word s rfl
    exact Wp.go (is_name_a_eq (by have := hs.2.1; omega)) (Wp.some (decide_eq_true hs))
  | num i =>
    refine Wp.no rfl (Wp.no rfl (Wp.go (show un2 (Item.num i).d = some (.str (Str.ofString "number"), .int i) from rfl) ?_))
    exact Wp.go (eqS kok3 kok3) (Wp.yes (by simp) (Wp.go (is_number_yes (h.num i rfl)) (Wp.some rfl)))
  | node k =>
    have hk := h.node k rfl
    refine Wp.no rfl (Wp.no rfl (Wp.go (show un2 (Item.node k).d = some (.str (Str.ofString "node"), .int (k : Int)) from rfl) ?_))
    refine Wp.go (eqS kok4 kok3) (Wp.no (by simp [Ne.symm k6]) (Wp.go (eqS kok4 kok2) (Wp.no (by simp [Ne.symm k5]) ?_)))
    refine Wp.bind (P := fun c => c = true) ?_ fun c hc => Wp.some hc
    refine Wp.go (eqS kok4 kok4) (Wp.yes (by simp) (Wp.go (is_number_yes ⟨by omega, by omega⟩) (Wp.yes rfl (Wp.go (show asI (.int (k : Int)) = some (k : Int) from rfl) (Wp.some ?_)))))
    simp
    omega
theorem check_rows_eq {t : Tbl} (h : GoodT t) : m_check_rows (tD t) = some () := by
  have h40 := h.few
  have hpos := h.pos
  refine Wp.eq ?_
  unfold m_check_rows
  refine Wp.no (decide_eq_false (by rw [tD_len]; omega)) ?_
  refine Wp.bind (P := fun _ => True) ((wp_forL (fun _ _ => True) trivial ?_).mono fun _ _ => trivial) fun _ _ => Wp.some rfl
  rintro i ⟨j, a⟩ _ ha _
  obtain ⟨hia, hij⟩ := enum_at ha
  simp only at hij hia
  unfold tD at hia
  rw [List.getElem?_map] at hia
  cases q : t[i]? with
  | none => rw [q] at hia; cases hia
  | some r =>
    rw [q] at hia
    cases hia
    have hr := List.mem_of_getElem? q
    have h12 := h.short r hr
    have hil := (List.getElem?_eq_some_iff.mp q).1
    refine Wp.no ?_ ?_
    · simp only
      rw [rD_len]
      simp only [Bool.or_eq_false_iff, decide_eq_false_iff_not]
      omega
    · simp only
      refine Wp.go (a := r.map fun _ => true) ?_ ?_
      · unfold rD
        rw [lcM_on, lcM_mapE (fun _ => true)]
        intro x hx
        rw [tD_len, is_item_yes (h.item r hr x hx) (by omega)]
        rfl
      · exact Wp.no (by simp) (Wp.some trivial)
theorem tD_id (t : Tbl) : ((tD t).map fun (a5 : List (List PyData)) => a5) = tD t := List.map_id' _
theorem result_eq {t : Tbl} (h : GoodT t) : m_Result___init__ (tD t) = some (tD (canon t)) := by
  unfold m_Result___init__
  rw [tD_id, check_rows_eq h, Option.bind_some, show (0 : Int) = ((0 : Nat) : Int) from rfl, canonical_rows_eq h h.pos]
  rfl
theorem cItem_good {c : List Nat} {n : Nat} {o : List Nat} {x : Item} (ho : Ord c n o) (hx : GoodI n x) : GoodI n (cItem c o x).1 := by
  cases x with
  | node k =>
    refine ⟨fun j e => ?_, fun s e => (by cases e), fun s e => (by cases e)⟩
    cases e
    have h1 := pos_lt (addN_mem (c := c) (o := o) (k := k))
    have h2 := (ho.add (hx.node k rfl)).len
    rw [List.length_map] at h1
    omega
  | gap => exact hx
  | word s => exact hx
  | num s => exact hx
theorem cRow_good {c : List Nat} {n : Nat} : ∀ {r : Row} {o : List Nat}, Ord c n o → (∀ x ∈ r, GoodI n x) → ∀ x ∈ (cRow c o r).1, GoodI n x
  | [], o, _, _, x, hx => by cases hx
  | y :: r, o, ho, hr, x, hx => by
    have hx : x ∈ (cItem c o y).1 :: (cRow c (cItem c o y).2 r).1 := hx
    rcases List.mem_cons.mp hx with rfl | hx
    · exact cItem_good ho (hr y List.mem_cons_self)
    · refine cRow_good (r := r) (o := (cItem c o y).2) ?_ (fun z hz => hr z (List.mem_cons_of_mem _ hz)) x hx
      cases y with
      | node k => exact ho.add ((hr _ List.mem_cons_self).node k rfl)
      | _ => exact ho
theorem cGo_good {t : Tbl} {c : List Nat} (ht : ∀ r ∈ t, ∀ x ∈ r, GoodI t.length x) : ∀ {n : Nat} {acc : Tbl} {o : List Nat}, Ord c t.length o → (∀ r ∈ acc, (∀ x ∈ r, GoodI t.length x)) → ∀ r ∈ cGo t c n acc o, ∀ x ∈ r, GoodI t.length x
  | 0, acc, o, _, ha, r, hr, x, hx => ha r hr x hx
  | n + 1, acc, o, ho, ha, r, hr, x, hx => by
    unfold cGo at hr
    by_cases q : acc.length < o.length
    · rw [if_pos q] at hr
      obtain ⟨k, hk⟩ : ∃ k, o[acc.length]? = some k := ⟨o[acc.length], by simp [q]⟩
      have hkn := ho.lt k (List.mem_of_getElem? hk)
      obtain ⟨r', hr'⟩ : ∃ r, t[k]? = some r := ⟨t[k], by simp [hkn]⟩
      rw [show o.getD acc.length 0 = k by simp [List.getD, hk], show t.getD k [] = r' by simp [List.getD, hr']] at hr
      have hg := ht r' (List.mem_of_getElem? hr')
      refine cGo_good ht (cRow_ord (r := r') ho fun j hj => (hg _ hj).node j rfl).1 (fun z hz => ?_) r hr x hx
      rcases List.mem_append.mp hz with w | w
      · exact ha z w
      · rw [List.mem_singleton.mp w]
        exact cRow_good ho hg
    · rw [if_neg q] at hr
      exact ha r hr x hx
theorem canon_good {t : Tbl} (h : GoodT t) {s : Nat} (hs : s < t.length) : ∀ r ∈ canonAt t s, ∀ x ∈ r, GoodI t.length x :=
  cGo_good h.item ⟨by simp, fun k hk => by rw [List.mem_singleton.mp hk]; exact hs⟩ (fun r hr => by cases hr)
theorem rows_eq (t : Tbl) : m_Result_rows (tD t) = some (tD t) := by
  unfold m_Result_rows
  rw [show (List.map (fun (a11 : List (List PyData)) => a11) (tD t)) = tD t from List.map_id' _]
theorem rdsall_eqG {ps : List Prc} (hg : Good ps) (g : Str → Bool) : ∀ {f : List Str}, (∀ x ∈ f, x ∈ nms ps) → f.length ≤ 1000 → lc2M (γ := Str) (fun (a53 : Str) => (m_places_read (pgO ps) (a53)).bind fun r73 => some r73) (fun (a53 : Str) (a82 : Str) => some (some (g a82))) f = some ((f.flatMap (rds ps)).map g) ∧ (f.flatMap (rds ps)).length ≤ f.length * 12
  | [], _, _ => ⟨rfl, by simp⟩
  | a :: f, hs, hl => by
    have ih := rdsall_eqG hg g (f := f) (fun y hy => hs y (List.mem_cons_of_mem _ hy)) (by rw [List.length_cons] at hl; omega)
    have h1 := rds_len hg (hs a List.mem_cons_self)
    have h2 : ((a :: f).flatMap (rds ps)).length ≤ (a :: f).length * 12 := by
      rw [List.flatMap_cons, List.length_append, List.length_cons]
      have := ih.2
      omega
    refine ⟨?_, h2⟩
    rw [List.flatMap_cons] at h2 ⊢
    unfold lc2M
    rw [ih.1, places_read_eq hg (hs a List.mem_cons_self)]
    simp only [Option.bind_some]
    rw [lcM_mapE g fun _ _ => rfl, Option.bind_some, ← List.map_append, if_pos (by rw [List.length_map]; unfold BIG; rw [List.length_cons] at *; omega)]
theorem bad_procedures_wp {ps : List Prc} (hg : Good ps) (hurt safe st : List Str) (hst : ∀ y, y ∈ st ↔ y ∈ safe) : Wp (m_bad_procedures (pgO ps) hurt st) (fun bd => ∀ x, x ∈ bd ↔ Bad ps hurt safe x) := by
  classical
  unfold m_bad_procedures
  have h16 := hg.few
  have hl : (nms ps).length = ps.length := by unfold nms; simp
  have e1 : (pgO ps).1 = nms ps := rfl
  rw [e1]
  refine Wp.bind (P := fun bd => ∀ x, x ∈ bd ↔ Bad ps hurt safe x) ((wp_forL (fun i (bd : List Str) => bd = ((nms ps).take i).filter fun x => decide (Bad ps hurt safe x)) (by simp) ?_).mono ?_) fun bd h => Wp.some h
  · rintro i a bd ha rfl
    have hi := (List.getElem?_eq_some_iff.mp ha).1
    have han := List.mem_of_getElem? ha
    refine (spread_wp hg (ks := HARDK) (st := st) hardk_calls (S := [a]) (fun y hy => by rw [List.mem_singleton.mp hy]; exact han) (by simp)).bind fun f hf => ?_
    have hfl := hf.len hg
    refine Wp.go (rdsall_eqG hg (fun z => decide (z ∈ hurt)) hf.sub (by omega)).1 ?_
    have key : ((f.flatMap (rds ps)).map fun z => decide (z ∈ hurt)).any id = decide (Bad ps hurt safe a) := by
      rw [Bool.eq_iff_iff, decide_eq_true_iff, List.any_map, List.any_eq_true, bad_iff hg han]
      constructor
      · rintro ⟨z, hz, h⟩
        obtain ⟨y, hy, hz⟩ := List.mem_flatMap.mp hz
        exact ⟨y, z, rch_stops' hst ((hf.mem y).mp hy), mem_rdOf.mp hz, by simpa using h⟩
      · rintro ⟨y, z, r, h1, h2⟩
        exact ⟨z, List.mem_flatMap.mpr ⟨y, (hf.mem y).mpr (rch_stops' (fun y => (hst y).symm) r), mem_rdOf.mpr h1⟩, by simpa using h2⟩
    rw [key]
    have hlen : (((nms ps).take i).filter fun x => decide (Bad ps hurt safe x)).length < 1000 := by
      have := List.length_filter_le (fun x => decide (Bad ps hurt safe x)) ((nms ps).take i)
      rw [List.length_take] at this
      omega
    refine Wp.ite (fun c => Wp.go (pushM_eq (by omega)) (Wp.some ?_)) (fun c => Wp.some ?_)
    · rw [take_next ha, List.filter_append]
      simp only [List.filter_cons, c, if_true, List.filter_nil]
    · rw [take_next ha, List.filter_append]
      simp only [List.filter_cons, c, Bool.false_eq_true, if_false, List.filter_nil, List.append_nil]
  · rintro bd rfl x
    rw [List.take_length, List.mem_filter, decide_eq_true_iff]
    exact ⟨fun h => h.2, fun h => ⟨h.out.1, h⟩⟩
theorem pIt_eq {nu : Str → Int} {bad safe : List Str} {c : Bool} {o : List Own} {s : Stp} {nums : List (Str × Int)} {acc : Row} {n : Nat} (hnu : ∀ z, nu z = (gGet nums z).getD 0) (ho : o.length ≤ 1000) (hacc : acc.length ≤ 1000) (hly : ∀ q ∈ o, PyData.strOk q.1 = true) (hs : PyData.strOk s.2 = true) :
    (if (decide (s.1 = (Str.ofString "read"))) = true then (pushM (rD acc) ([(PyData.str (Str.ofString "number")), (PyData.int ((gGet nums s.2).getD (0 : Int)))] : (List PyData))).bind fun x136 =>
  some (x136, o) else if (decide (s.1 = (Str.ofString "say"))) = true then (pushM (rD acc) ([(PyData.str (Str.ofString "word")), (PyData.str s.2)] : (List PyData))).bind fun x149 =>
  some (x149, o) else if ((decide (s.2 ∈ bad)) && (!c)) = true then (pushM (rD acc) ([(PyData.str (Str.ofString "gap"))] : (List PyData))).bind fun x162 =>
  some (x162, o) else ((inD (PyData.tuple [(PyData.str s.2), (PyData.bool (c || (decide (s.2 ∈ safe))))]) (o.map (fun x => PyData.tuple [PyData.str x.1, PyData.bool x.2]))).bind fun b177 =>
  if (!b177) = true then (pushM o (s.2, (c || (decide (s.2 ∈ safe))))).bind fun x179 =>
  some x179 else some o).bind fun j175 =>
  (ixD (PyData.tuple [(PyData.str s.2), (PyData.bool (c || (decide (s.2 ∈ safe))))]) (j175.map (fun x => PyData.tuple [PyData.str x.1, PyData.bool x.2]))).bind fun j191 =>
  (pushM (rD acc) ([(PyData.str (Str.ofString "node")), (PyData.int j191)] : (List PyData))).bind fun x199 =>
  some (x199, j175)) = some (rD (acc ++ [(pIt nu bad safe c o s).1]), (pIt nu bad safe c o s).2) := by
  refine Wp.eq ?_
  have hp : (rD acc).length < 1000000 := by rw [rD_len]; omega
  unfold pIt
  by_cases h1 : s.1 = Str.ofString "read"
  · rw [if_pos h1]
    refine Wp.yes (decide_eq_true h1) (Wp.go (pushM_eq hp) (Wp.some ?_))
    rw [rD_push, hnu]
    rfl
  rw [if_neg h1]
  refine Wp.no (decide_eq_false h1) ?_
  by_cases h2 : s.1 = Str.ofString "say"
  · rw [if_pos h2]
    refine Wp.yes (decide_eq_true h2) (Wp.go (pushM_eq hp) (Wp.some ?_))
    rw [rD_push]
    rfl
  rw [if_neg h2]
  refine Wp.no (decide_eq_false h2) ?_
  by_cases h3 : s.2 ∈ bad ∧ c = false
  · rw [if_pos h3]
    refine Wp.yes (by simp [h3.1, h3.2]) (Wp.go (pushM_eq hp) (Wp.some ?_))
    rw [rD_push]
    rfl
  rw [if_neg h3]
  refine Wp.no ?_ ?_
  · rw [Bool.and_eq_false_iff]
    by_cases z : s.2 ∈ bad
    · cases c with
      | true => exact .inr rfl
      | false => exact absurd ⟨z, rfl⟩ h3
    · exact .inl (decide_eq_false z)
  have lq : ∀ q : Own, PyData.strOk q.1 = true → Ly 1 (ownD q) := fun q h => Ly.t2 (Ly.str h) Ly.bool
  generalize (c || decide (s.2 ∈ safe)) = b
  refine Wp.bind (P := fun z => z = push1 o (s.2, b)) ?_ ?_
  · refine Wp.go (inD_of (F := ownD) (x := (s.2, b)) (n := 1) own_eqv (fun a ha => lq a (hly a ha)) (lq _ hs) (by decide)) ?_
    by_cases z : (s.2, b) ∈ o
    · rw [show push1 o (s.2, b) = o from if_pos z]
      exact Wp.no (by simp [z]) (Wp.some rfl)
    · rw [show push1 o (s.2, b) = o ++ [(s.2, b)] from if_neg z]
      exact Wp.yes (by simp [z]) (Wp.go (pushM_eq (by omega)) (Wp.some rfl))
  · rintro _ rfl
    refine Wp.go (ixD_of (F := ownD) (x := (s.2, b)) (n := 1) own_eqv (fun a ha => lq a ?_) (by decide) (push1_self _ _)) ?_
    · rcases push1_mem.mp ha with z | z
      · exact hly a z
      · rw [z]; exact hs
    · rw [node_d]
      refine Wp.go (pushM_eq hp) (Wp.some ?_)
      rw [rD_push]
theorem plain_rows_eq {ps : List Prc} (hg : Good ps) {x : Str} (hx : x ∈ nms ps) {nums : List (Str × Int)} {bad safe : List Str} : m_plain_rows (pgO ps) x nums bad safe = some (tD (plainT (bodyOf ps) (fun z => (gGet nums z).getD 0) bad safe x)) := by
  refine Wp.eq ?_
  unfold m_plain_rows
  generalize hnu : (fun z => (gGet nums z).getD 0) = nu
  have hnu' : ∀ z, nu z = (gGet nums z).getD 0 := fun z => by rw [← hnu]
  generalize hR : plainT (bodyOf ps) nu bad safe x = R
  refine Wp.bind (P := fun z => ∃ st : List (List (List PyData)) × List Own, z = .nx st ∧ st.1 = tD R) (wp_whC (fun st => ∃ n acc, st.1 = tD acc ∧ PO ps st.2 ∧ acc.length ≤ st.2.length ∧ n + acc.length = 33 ∧ pGo (bodyOf ps) nu bad safe n acc st.2 = R) (fun st => 100 - st.1.length) ?_ ?_ ?_) ?_
  · exact ⟨33, [], rfl, ⟨by simp, fun q hq => by rw [List.mem_singleton.mp hq]; exact hx⟩, by simp, rfl, hR⟩
  · simp only; unfold FUEL; omega
  · rintro ⟨rows, o⟩ ⟨n, acc, e, ho, hle, hn, hgo⟩
    simp only at e ho hle hgo ⊢
    subst e
    have h32 := ho.len hg
    rw [tD_len]
    refine Wp.ite (fun q => ?_) (fun q => Wp.some ⟨_, rfl, ?_⟩)
    · have q : acc.length < o.length := by have := of_decide_eq_true q; omega
      obtain ⟨k, hk⟩ : ∃ k, o[acc.length]? = some k := ⟨o[acc.length], by simp [q]⟩
      rw [atI_get hk]
      have hkn := ho.sub k (List.mem_of_getElem? hk)
      have hb := (body_of hg hkn).2
      have h12 : (bodyOf ps k.1).length ≤ 12 := hg.short _ hb
      refine Wp.go (get_in hg hkn) ?_
      have hs : ∀ s ∈ bodyOf ps k.1, GoodStp (nms ps) s := fun s h => hg.step _ hb s h
      refine Wp.bind (P := fun z => z = (rD (pRow nu bad safe k.2 o (bodyOf ps k.1)).1, (pRow nu bad safe k.2 o (bodyOf ps k.1)).2)) ((wp_forL (fun i st => st = (rD (pRow nu bad safe k.2 o ((bodyOf ps k.1).take i)).1, (pRow nu bad safe k.2 o ((bodyOf ps k.1).take i)).2)) rfl ?_).mono ?_) ?_
      · rintro i s st hsi rfl
        have hi := (List.getElem?_eq_some_iff.mp hsi).1
        have hsm := List.mem_of_getElem? hsi
        obtain ⟨ho1, hle1⟩ := pRow_po (b := (bodyOf ps k.1).take i) (nu := nu) (bad := bad) (safe := safe) (c := k.2) (fun z hz => hs z (List.mem_of_mem_take hz)) ho
        have hol := ho1.len hg
        have hl1 : (pRow nu bad safe k.2 o ((bodyOf ps k.1).take i)).1.length ≤ 1000 := by rw [pRow_len, List.length_take]; omega
        rw [take_next hsi, pRow_snoc]
        exact ⟨_, pIt_eq (n := 0) hnu' (show (pRow nu bad safe k.2 o ((bodyOf ps k.1).take i)).2.length ≤ 1000 by omega) hl1 (fun q hq => by
          obtain ⟨p, hp, e⟩ := List.mem_map.mp (ho1.sub q hq)
          rw [← e]; exact (hg.name p hp).ok) (hs s hsm).2.1.ok, rfl⟩
      · rintro st rfl
        rw [List.take_length]
      · rintro _ rfl
        refine Wp.go (pushM_eq (by rw [tD_len]; omega)) (Wp.some ⟨?_, ?_⟩)
        · obtain ⟨ho1, hle1⟩ := pRow_po (b := bodyOf ps k.1) (nu := nu) (bad := bad) (safe := safe) (c := k.2) hs ho
          obtain ⟨n, rfl⟩ : ∃ m, n = m + 1 := ⟨n - 1, by omega⟩
          refine ⟨n, acc ++ [(pRow nu bad safe k.2 o (bodyOf ps k.1)).1], by simp only; rw [tD_push], ho1, by rw [List.length_append]; simp; omega, by rw [List.length_append]; simp; omega, ?_⟩
          unfold pGo at hgo
          rw [hk] at hgo
          exact hgo
        · simp only [List.length_append, tD_len]
          simp
          omega
    · have q : ¬ acc.length < o.length := by have := of_decide_eq_false q; omega
      obtain ⟨n, rfl⟩ : ∃ m, n = m + 1 := ⟨n - 1, by omega⟩
      unfold pGo at hgo
      rw [List.getElem?_eq_none (by omega)] at hgo
      simp only at hgo ⊢
      rw [hgo]
  · rintro _ ⟨st, rfl, e⟩
    exact Wp.some e
theorem good1 : GoodT [[]] := ⟨by simp, by simp, by simp, by simp⟩
theorem make_result_eq {t : Tbl} (h : GoodT t) {s : Nat} (hs : s < t.length) : m_make_result (tD t) (s : Int) = some (tD (canonAt t s)) := by
  unfold m_make_result
  refine Wp.eq (Wp.go (show m_Result___init__ ([([] : (List (List PyData)))] : (List (List (List PyData)))) = some (tD (canon [[]])) from result_eq good1) (Wp.go (canonical_rows_eq h hs) (Wp.some rfl)))
/-- a plain run that does not fail -/
theorem plain_result_eq {ps : List Prc} (hg : Good ps) {x : Str} (hx : x ∈ nms ps) {nums : Option (List (Str × Int))} {hurt safe : List Str} (hsl : safe.length < 4000) (hhl : hurt.length < 4000) (hnl : ∀ d, nums = some d → d.length < 4000 ∧ (∀ z ∈ d, z.1 ∈ places ps) ∧ ∀ z ∈ d, numOk z.2) (hs : ∀ y ∈ safe, y ∈ nms ps) (hh : ∀ z ∈ hurt, z ∈ places ps) (hb : ¬ Bad ps hurt safe x) :
    ∃ bd : List Str, (∀ y, y ∈ bd ↔ Bad ps hurt safe y) ∧ m_plain_result (pgO ps) x nums hurt safe = some (tD (canon (plainT (bodyOf ps) (fun z => (gGet (nums.getD []) z).getD 0) bd (nset safe) x))) := by
  have hsf := names_few hg hs
  obtain ⟨bd, ebd, hbd⟩ := bad_procedures_wp hg (nset hurt) safe (nset safe) (fun y => mem_nset)
  have hbd' : ∀ y, y ∈ bd ↔ Bad ps hurt safe y := fun y => by
    rw [hbd]
    constructor
    · intro h
      induction h with
      | read h1 h2 h3 h4 => exact .read h1 h2 h3 (mem_nset.mp h4)
      | call h1 h2 h3 _ ih => exact .call h1 h2 h3 ih
    · intro h
      induction h with
      | read h1 h2 h3 h4 => exact .read h1 h2 h3 (mem_nset.mpr h4)
      | call h1 h2 h3 _ ih => exact .call h1 h2 h3 ih
  refine ⟨bd, hbd', Wp.eq ?_⟩
  unfold m_plain_result
  have hn : ∀ z, numOk ((gGet (nums.getD []) z).getD 0) := fun z => by
    cases nums with
    | none => exact (show numOk 0 from ⟨by decide, by decide⟩)
    | some d =>
      show numOk ((gGet d z).getD 0)
      cases e : gGet d z with
      | none => exact (show numOk 0 from ⟨by decide, by decide⟩)
      | some v =>
        refine (hnl d rfl).2.2 (z, v) ?_
        unfold gGet at e
        cases q : d.find? (fun x => decide (x.1 = z)) with
        | none => rw [q] at e; cases e
        | some w =>
          rw [q] at e
          cases e
          have h2 := List.find?_some q
          have : w.1 = z := by simpa using h2
          rw [← this]
          exact List.mem_of_find?_eq_some q
  refine Wp.bind (P := fun d => d = nums.getD []) ?_ ?_
  · cases nums with
    | none => exact Wp.yes rfl (Wp.some rfl)
    | some d => exact Wp.no rfl (Wp.go rfl (Wp.some rfl))
  · rintro _ rfl
    have hk : (nums.getD []).length < 4000 ∧ ∀ z ∈ (nums.getD []).map Prod.fst, z ∈ places ps := by
      cases nums with
      | none => exact ⟨by simp, by simp⟩
      | some d =>
        refine ⟨(hnl d rfl).1, fun z hz => ?_⟩
        obtain ⟨q, hq, rfl⟩ := List.mem_map.mp hz
        exact (hnl d rfl).2.1 q hq
    refine Wp.go (check_q hg (by simp) fun y hy => by rw [List.mem_singleton.mp hy]; exact hx) ?_
    refine Wp.go (check_q hg hsl hs) (Wp.go (check_pl hg (by rw [List.length_map]; exact hk.1) hk.2) (Wp.go (check_pl hg hhl hh) ?_))
    refine Wp.go (nsq_eq hhl (places_few hg hh)) (Wp.go (nsq_eq hsl (by omega)) (Wp.go ebd ?_))
    refine Wp.no (decide_eq_false fun z => hb ((hbd' x).mp z)) (Wp.go (plain_rows_eq hg hx) ?_)
    have gt := plain_good hg (bad := bd) (safe := nset safe) hx hn
    exact Wp.go (make_result_eq gt gt.pos) (Wp.some rfl)
end Mm
namespace Mm
open PySem L2 Mf
section
variable {P : Program} {w : World} {K : PySem.W.Frag} {mg : Str → Option Value} {base : Heap} {cx : Nat → Addr}
abbrev n_fresh : List Str := ["_law_taken", "_law_one", "_law_letter"]
theorem sc_fresh : FnScope n_fresh ["_law_taken"] (defScope s_fresh) := ⟨rfl, rfl, rfl, by decide +kernel, rfl, by decide +kernel, by decide +kernel⟩
def m_fresh (x_0 : (List Str)) : Option Str :=
  (charsM (Str.ofString "abcdefghijklmnopqrs")).bind fun z5 =>
  (lcM (fun (a9 : Str) => (addS (Str.ofString "y") a9).bind fun x25 =>
  some (some x25)) z5).bind fun ys27 =>
  (atI (ys27.filterMap (fun (a43 : Str) => if (!decide (a43 ∈ x_0)) = true then (some a43) else none)) (0 : Int)).bind fun x73 =>
  some x73
def sp_fresh (K : PySem.W.Frag) : Sp := fun vs H Q E => ∃ (B : Hp) (x_0 : (List Str)) (v_0 : V) (r : Str), vs = [v_0] ∧ Same B H ∧ (dList dStr).rel B x_0 v_0 ∧ m_fresh x_0 = some r ∧ ∀ (v : V) (B' H' : Hp) , Sit ⟨B, H, []⟩ B' H' [] → dStr.rel B' r v → Q v H'
theorem use_fresh {K : PySem.W.Frag} {Φ : Fr} {B H : Hp} {cs : List (Addr × HO)} {Q : VK} {E : XK} {r : Str} {x_0 : (List Str)} {v_0 : V} (Z : Sit Φ B H cs) (h_0 : (dList dStr).rel B x_0 v_0) (hm : m_fresh x_0 = some r) (k : ∀ (v : V) (B' H' : Hp) , Sit Φ B' H' cs → Same B B' → dStr.rel B' r v → Q v H') : sp_fresh K ([v_0] ++ []) H Q E := by
  exact ⟨B, x_0, v_0, r, rfl, Z.sub, h_0, hm, fun v B' H'  Z' h  => k v B' H'  (Z.call0 Z') Z'.grow h ⟩
theorem ok_fresh (A0 : DefAt K mg "_law_fresh" s_fresh ["_law_taken"]) : Does P w K mg base CX0 1 "_law_fresh" ["_law_taken"] (sp_fresh K ) := by
  obtain ⟨f, fd, F, gm, bd⟩ := A0
  refine ⟨f, fd, ?_, gm, F.kp, bd⟩
  refine F.ok sc_fresh (fun vs H Q E h => ?_) (fun cdv A outer s H vs Q E hr h => ?_)
  · obtain ⟨_, _, _, _, rfl, _⟩ := h
    rfl
  · obtain ⟨B, x_0, v_0, r, rfl, sB, hx_0, hm, k⟩ := h
    have hu := hu_of hr
    refine ⟨_, (pss_one (ps_ret (pe_ix (k_ixL K) (pe_lc (own := [("_law_one", 1)]) rfl sc_fresh.nd (k_iL K (pe_lc (own := [("_law_letter", 2)]) (tt := tYes) rfl sc_fresh.nd (pi_str pe_str) (blkOk_by (own := [("_law_letter", 2)]) (N := n_fresh) (sc := defScope s_fresh) (by decide +kernel)) (fun _ _ _ _ _ => (pg_name (i := 2) sc_fresh.nd rfl (Or.inl rfl))) (fun _ _ _ _ _ => pts_nil) (fun _ _ _ _ _ => (pe_op o_addS pe_str (pv 2))))) (blkOk_by (own := [("_law_one", 1)]) (N := n_fresh) (sc := defScope s_fresh) (by decide +kernel)) (fun _ _ _ _ _ => (pg_name (i := 1) sc_fresh.nd rfl (Or.inl rfl))) (fun _ _ _ _ _ => pts_one (pt_cmpR (k_ni K) (pv 1) (pv 0) (by rfl))) (fun _ _ _ _ _ => (pv 1))) pe_int (fun _ _ => rfl)))), ?_⟩
    obtain ⟨B0, hB0⟩ : ∃ B0 : Hp, B0 = B := ⟨_, rfl⟩
    subst hB0
    have S0 := Sit.start0 sB
    unfold m_fresh at hm
    refine w_sig (σ' := [(some v_0), none, none]) rfl ?_
    refine w_ret ?_
    refine w_op ?_
    refine w_lc ?_
    refine x_iL ?_
    refine w_lc ?_
    refine x_iS ?_
    refine w_ev Ev.c ?_
    obtain ⟨z5, h6, hm⟩ := bs hm
    have h6l := charsM_le h6
    refine w_itSM (B := B0) h6 fun J3 it4 => ?_
    obtain ⟨ys27, h28, hm⟩ := bs hm
    refine lcR (P := dStr) it4 S0 h6l h28 (fun _ _ _ Z e _ => e.tr Z.sub) (fun D7 ac8 a9 o10 x11 B14 B15 H16 ma22 S17 s12 s13 h18 ho19 RR20 kk21 => ?_) ?_
    · refine w_turn ?_
      obtain ⟨rfl, h24⟩ := h18
      refine w_gname ?_
      refine w_wipe rfl ?_
      refine w_yes ?_
      refine iteT ?_
      obtain ⟨x25, hx25, ho19⟩ := bs ho19
      refine w_ev (Ev.op Ev.c (Ev.var rfl) (rv_addS hx25)) ?_
      obtain rfl := Option.some.inj ho19
      exact kk21 _ _ _ S17 (Same.rf _) ⟨_, rfl, (show dStr.rel _ x25 (V.str x25) from rfl)⟩
    · intro p29 B36 H30 o31 S32 s33 n34 h35
      obtain ⟨B39, S37, s38, h40⟩ : ∃ B', Sit _ B' H30 [] ∧ Same _ B' ∧ (dList dStr).rel B' ys27 (.ref p29) := ⟨_, S32.frz (i := 0) rfl n34, S32.frzS (i := 0) rfl, frzL h35 (S32.atB (i := 0) rfl)⟩
      refine w_itL h40 S37.sub fun J1 it2 => ?_
      refine lcR (P := dStr) it2 S37 (dList.le h40) (lcM_total (fun (a43 : Str) => if (!decide (a43 ∈ x_0)) = true then (some a43) else none) ys27) (fun _ _ _ Z e _ => e.tr Z.sub) (fun D41 ac42 a43 o44 x45 B48 B49 H50 ma56 S51 s46 s47 h52 ho53 RR54 kk55 => ?_) ?_
      · refine w_turn ?_
        cases h52
        refine w_gname ?_
        refine w_wipe rfl ?_
        refine w_evT (EvT.test (Ev.op (Ev.var rfl) (Ev.var rfl) (rni_s (sqL (K := K) (Rl.mono _ (s33.tr (s38.tr (s46.tr s47))) hx_0) S51.sub)))) ?_
        refine w_ifb (fun h59 => ?_) (fun h59 => ?_)
        · rw [ifT h59] at ho53
          refine w_ev (Ev.var rfl) ?_
          obtain rfl := Option.some.inj ho53
          exact kk55 _ _ _ S51 (Same.rf _) ⟨_, rfl, (show dStr.rel _ a43 (V.str a43) from rfl)⟩
        · rw [ifF h59] at ho53
          obtain rfl := Option.some.inj ho53
          exact kk55 _ _ _ S51 (Same.rf _) rfl
      · intro p61 B68 H62 o63 S64 s65 n66 h67
        obtain ⟨B71, S69, s70, h72⟩ : ∃ B', Sit _ B' H62 [] ∧ Same _ B' ∧ (dList dStr).rel B' (ys27.filterMap (fun (a43 : Str) => if (!decide (a43 ∈ x_0)) = true then (some a43) else none)) (.ref p61) := ⟨_, S64.frz (i := 0) rfl n66, S64.frzS (i := 0) rfl, frzL h67 (S64.atB (i := 0) rfl)⟩
        refine w_ev Ev.c ?_
        obtain ⟨x73, hx73, hm⟩ := bs hm
        obtain ⟨_, rfl, r74⟩ := ix_L (K := K) h72 hx73
        refine w_rv (r74 _ S69.sub) ?_
        obtain rfl := Option.some.inj hm
        exact k _ _ _  S69 (show dStr.rel _ x73 (V.str x73) from rfl)
abbrev n_period : List Str := ["_law_words", "_law_many", "_law_fits", "_law_size", "_law_k"]
theorem sc_period : FnScope n_period ["_law_words"] (defScope s_period) := ⟨rfl, rfl, rfl, by decide +kernel, rfl, by decide +kernel, by decide +kernel⟩
def m_period (x_0 : (List Str)) : Option Int :=
  (rng2M (1 : Int) ((x_0.length : Int) + (1 : Int))).bind fun x3 =>
  (lcM (fun (a8 : Int) => (rngM (x_0.length : Int)).bind fun x25 =>
  (lcM (fun (a30 : Int) => (atI x_0 a30).bind fun x45 =>
  (modM (a30 + a8) (x_0.length : Int)).bind fun x47 =>
  (atI x_0 ((a30 + a8) % (x_0.length : Int))).bind fun x48 =>
  some (some (decide (x45 = x48)))) x25).bind fun ys51 =>
  if (ys51.all id) = true then some (some a8) else some none) x3).bind fun ys67 =>
  (atI ys67 (0 : Int)).bind fun x81 =>
  some x81
def sp_period (K : PySem.W.Frag) : Sp := fun vs H Q E => ∃ (B : Hp) (x_0 : (List Str)) (v_0 : V) (r : Int), vs = [v_0] ∧ Same B H ∧ (dList dStr).rel B x_0 v_0 ∧ m_period x_0 = some r ∧ ∀ (v : V) (B' H' : Hp) , Sit ⟨B, H, []⟩ B' H' [] → dInt.rel B' r v → Q v H'
theorem use_period {K : PySem.W.Frag} {Φ : Fr} {B H : Hp} {cs : List (Addr × HO)} {Q : VK} {E : XK} {r : Int} {x_0 : (List Str)} {v_0 : V} (Z : Sit Φ B H cs) (h_0 : (dList dStr).rel B x_0 v_0) (hm : m_period x_0 = some r) (k : ∀ (v : V) (B' H' : Hp) , Sit Φ B' H' cs → Same B B' → dInt.rel B' r v → Q v H') : sp_period K ([v_0] ++ []) H Q E := by
  exact ⟨B, x_0, v_0, r, rfl, Z.sub, h_0, hm, fun v B' H'  Z' h  => k v B' H'  (Z.call0 Z') Z'.grow h ⟩
theorem ok_period (A0 : DefAt K mg "_law_period" s_period ["_law_words"]) (b_all : mg "all" = none) (b_int : mg "int" = none) (b_len : mg "len" = none) (b_range : mg "range" = none) : Does P w K mg base CX0 1 "_law_period" ["_law_words"] (sp_period K ) := by
  obtain ⟨f, fd, F, gm, bd⟩ := A0
  refine ⟨f, fd, ?_, gm, F.kp, bd⟩
  refine F.ok sc_period (fun vs H Q E h => ?_) (fun cdv A outer s H vs Q E hr h => ?_)
  · obtain ⟨_, _, _, _, rfl, _⟩ := h
    rfl
  · obtain ⟨B, x_0, v_0, r, rfl, sB, hx_0, hm, k⟩ := h
    have hu := hu_of hr
    refine ⟨_, (pss_cons (ps_set (i := 1) sc_period.nd rfl (Or.inr rfl) (pe_callB (k_len K) (by rfl) b_len (by decide +kernel) (pa_cons (pv 0) pa_nil)))
  (pss_cons (ps_setLc (i := 2) (own := [("_law_size", 3)]) rfl sc_period.nd rfl rfl (sw_true rfl rfl rfl (by decide +kernel)) (pi_range2 (by rfl) b_range (pa_cons pe_int (pa_cons (pe_op op_add (pv 1) pe_int) pa_nil))) (blkOk_by (own := [("_law_size", 3)]) (N := n_period) (sc := defScope s_period) (by decide +kernel)) (fun _ _ _ _ _ => (pg_name (i := 3) sc_period.nd rfl (Or.inr rfl))) (fun _ _ _ _ _ => pts_one (pt_val (pe_callB (k_all K rfl) (by rfl) b_all (by decide +kernel) (pa_cons (pe_lc (own := [("_law_k", 4)]) (tt := tYes) rfl sc_period.nd (pi_range1 (by rfl) b_range (pa_cons (pv 1) pa_nil)) (by dsimp only [L2.Cx.blk, compEnvC]; exact blkOk_nest (own := [("_law_k", 4)]) (N := n_period) (sc := defScope s_period) rfl (by decide +kernel)) (fun _ _ _ _ _ => (pg_name (i := 4) sc_period.nd rfl (Or.inl rfl))) (fun _ _ _ _ _ => pts_nil) (fun _ _ _ _ _ => (pe_cmpR op_eq (pe_ix (k_ixL K) (pv 0) (pv 4) (fun _ _ => rfl)) (pe_ix (k_ixL K) (pv 0) (pe_op op_mod (pe_callTy c_int1 (by rfl) b_int (by decide +kernel) (pa_cons (pe_op op_add (pv 4) (pv 3)) pa_nil)) (pv 1)) (fun _ _ => rfl)) (nomark _)))) pa_nil)))) (fun _ _ _ _ _ => (pv 3)))
  (pss_one (ps_ret (pe_ix (k_ixL K) (pv 2) pe_int (fun _ _ => rfl)))))), ?_⟩
    obtain ⟨B0, hB0⟩ : ∃ B0 : Hp, B0 = B := ⟨_, rfl⟩
    subst hB0
    have S0 := Sit.start0 sB
    unfold m_period at hm
    refine w_sig (σ' := [(some v_0), none, none, none, none]) rfl ?_
    refine w_seq ?_
    refine w_asg ?_
    refine w_ev (Ev.cb (EvA.cons (Ev.var rfl) EvA.nil) (rlen_q (sqL (K := K) hx_0 S0.sub))) ?_
    refine w_gname ?_
    refine w_nx (σ' := [(some v_0), (some (V.int (x_0.length : Int))), none, none, none]) rfl ?_
    refine w_seq ?_
    refine w_asg ?_
    refine w_lc ?_
    refine x_iR2 ?_
    refine w_evA (EvA.cons Ev.c (EvA.cons (Ev.op (Ev.var rfl) Ev.c rv_I0) EvA.nil)) ?_
    obtain ⟨x3, h4, hm⟩ := bs hm
    refine w_itR2 (B := B0) h4 fun J1 it2 hl5 => ?_
    obtain ⟨ys67, h68, hm⟩ := bs hm
    refine lcR (P := dInt) it2 S0 hl5 h68 (fun _ _ _ Z e _ => e.tr Z.sub) (fun D6 ac7 a8 o9 x10 B13 B14 H15 ma21 S16 s11 s12 h17 ho18 RR19 kk20 => ?_) ?_
    · refine w_turn ?_
      cases h17
      refine w_gname ?_
      refine w_wipe rfl ?_
      refine w_tb ?_
      refine w_cb ?_
      refine w_cons ?_
      refine w_lc ?_
      refine x_iR1 ?_
      refine w_evA (EvA.cons (Ev.var rfl) EvA.nil) ?_
      obtain ⟨x25, h26, ho18⟩ := bs ho18
      refine w_itR1 (B := B14) h26 fun J23 it24 hl27 => ?_
      obtain ⟨ys51, h52, ho18⟩ := bs ho18
      refine lcR (P := dBool) it24 S16 hl27 h52 (fun _ _ _ Z e _ => e.tr Z.sub) (fun D28 ac29 a30 o31 x32 B35 B36 H37 ma43 S38 s33 s34 h39 ho40 RR41 kk42 => ?_) ?_
      · refine w_turn ?_
        cases h39
        refine w_gname ?_
        refine w_wipe rfl ?_
        refine w_yes ?_
        refine iteT ?_
        obtain ⟨x45, hx45, ho40⟩ := bs ho40
        obtain ⟨_, rfl, r46⟩ := ix_L (K := K) (Rl.mono _ (s11.tr (s12.tr (s33.tr s34))) hx_0) hx45
        obtain ⟨x47, hx47, ho40⟩ := bs ho40
        obtain ⟨hx47p, rfl⟩ := modM_some hx47
        obtain ⟨x48, hx48, ho40⟩ := bs ho40
        obtain ⟨_, rfl, r49⟩ := ix_L (K := K) (Rl.mono _ (s11.tr (s12.tr (s33.tr s34))) hx_0) hx48
        refine w_ev (Ev.op (Ev.op (Ev.var rfl) (Ev.var rfl) (r46 _ S38.sub)) (Ev.op (Ev.var rfl) (Ev.op (Ev.cb (EvA.cons (Ev.op (Ev.var rfl) (Ev.var rfl) rv_I0) EvA.nil) fun _ q => ⟨_, rfl, q⟩) (Ev.var rfl) (rv_I hx47p)) (r49 _ S38.sub)) rv_eqS) ?_
        obtain rfl := Option.some.inj ho40
        exact kk42 _ _ _ S38 (Same.rf _) ⟨_, rfl, (show dBool.rel _ (decide (x45 = x48)) (V.bl (decide (x45 = x48))) from rfl)⟩
      · intro p53 B60 H54 o55 S56 s57 n58 h59
        obtain ⟨B63, S61, s62, h64⟩ : ∃ B', Sit _ B' H54 [(D6, (.lst ac7))] ∧ Same _ B' ∧ (dList dBool).rel B' ys51 (.ref p53) := ⟨_, S56.frz (i := 0) rfl n58, S56.frzS (i := 0) rfl, frzL h59 (S56.atB (i := 0) rfl)⟩
        refine w_nil ?_
        refine rall (Rl.mono _ S61.sub h64) _ ?_
        refine w_bl ?_
        refine w_ifb (fun h65 => ?_) (fun h65 => ?_)
        · rw [ifT h65] at ho18
          refine w_ev (Ev.var rfl) ?_
          obtain rfl := Option.some.inj ho18
          exact kk20 _ _ _ S61 (s57.tr s62) ⟨_, rfl, (show dInt.rel _ a8 (V.int a8) from rfl)⟩
        · rw [ifF h65] at ho18
          obtain rfl := Option.some.inj ho18
          exact kk20 _ _ _ S61 (s57.tr s62) rfl
    · intro p69 B76 H70 o71 S72 s73 n74 h75
      obtain ⟨B79, S77, s78, h80⟩ : ∃ B', Sit _ B' H70 [] ∧ Same _ B' ∧ (dList dInt).rel B' ys67 (.ref p69) := ⟨_, S72.frz (i := 0) rfl n74, S72.frzS (i := 0) rfl, frzL h75 (S72.atB (i := 0) rfl)⟩
      refine w_gname ?_
      refine w_nx (σ' := [(some v_0), (some (V.int (x_0.length : Int))), (some (.ref p69)), none, none]) rfl ?_
      refine w_ret ?_
      obtain ⟨x81, hx81, hm⟩ := bs hm
      obtain ⟨_, rfl, r82⟩ := ix_L (K := K) h80 hx81
      refine w_ev (Ev.op (Ev.var rfl) Ev.c (r82 _ S77.sub)) ?_
      obtain rfl := Option.some.inj hm
      exact k _ _ _  S77 (show dInt.rel _ x81 (V.int x81) from rfl)
end
end Mm
namespace Mm
open PySem L2 Mf
section
variable {P : Program} {w : World} {K : PySem.W.Frag} {mg : Str → Option Value} {base : Heap} {cx : Nat → Addr}
abbrev n_law : List Str := ["_law_script", "_law_source_here", "_law_many", "_law_names_here", "_law_stock", "_law_pattern", "_law_words", "_law_ring", "_law_k", "_law_kind", "_law_program", "_law_size", "_law_start", "_law_due"]
theorem sc_law : FnScope n_law ["_law_script"] (defScope s_law) := ⟨rfl, rfl, rfl, by decide +kernel, rfl, by decide +kernel, by decide +kernel⟩
def m_law (x_s : Src3) : Option Bool :=
  (m_draw (x_s) ((8 : Int))).bind fun r1 =>
  (m_names (r1.2) (((1 : Int) + r1.1))).bind fun r11 =>
  (m_names (r11.2) ((2 : Int))).bind fun r21 =>
  (m_draw (r21.2) ((3 : Int))).bind fun r33 =>
  (rngM ((1 : Int) + r33.1)).bind fun x43 =>
  (lcS (fun (a48 : Int) (st62 : Src3) => (m_draw (st62) ((2 : Int))).bind fun r65 =>
  (atI r21.1 r65.1).bind fun x75 =>
  some ((some x75), r65.2)) x43 r33.2).bind fun r78 =>
  (rngM ((1 : Int) + r1.1)).bind fun x100 =>
  (lcM (fun (a105 : Int) => (modM a105 (r78.1.length : Int)).bind fun x120 =>
  (atI r78.1 (a105 % (r78.1.length : Int))).bind fun x121 =>
  some (some x121)) x100).bind fun ys124 =>
  ((m_draw (r78.2) ((2 : Int))).bind fun r140 =>
  if (decide (r140.1 = (1 : Int))) = true then (rngM ((1 : Int) + r1.1)).bind fun x153 =>
  (lcS (fun (a158 : Int) (st172 : Src3) => (m_draw (st172) ((2 : Int))).bind fun r175 =>
  (atI r21.1 r175.1).bind fun x185 =>
  some ((some x185), r175.2)) x153 r140.2).bind fun r188 =>
  some (r188.1, r188.2) else some (ys124, r140.2)).bind fun j138 =>
  (rngM ((1 : Int) + r1.1)).bind fun x224 =>
  (forL (fun (a234 : Int) (st235 : ((List (Str × (List (Str × Str)))) × Src3)) => (m_draw (st235.2) ((2 : Int))).bind fun r267 =>
  (atI ([(Str.ofString "call"), (Str.ofString "try")] : (List Str)) r267.1).bind fun x277 =>
  (atI r11.1 a234).bind fun x281 =>
  (atI j138.1 a234).bind fun x283 =>
  (modM (a234 + (1 : Int)) ((1 : Int) + r1.1)).bind fun x291 =>
  (atI r11.1 ((a234 + (1 : Int)) % ((1 : Int) + r1.1))).bind fun x292 =>
  (pushM st235.1 (x281, ([((Str.ofString "say"), x283), (x277, x292)] : (List (Str × Str))))).bind fun x312 =>
  some (x312, r267.2)) x224 (([] : (List (Str × (List (Str × Str))))), j138.2)).bind fun st324 =>
  (m_draw (st324.2) ((((1 : Int) + r1.1) + (1 : Int)))).bind fun r331 =>
  (m_fresh (r11.1)).bind fun r341 =>
  (insM st324.1 r331.1 (r341, ([((Str.ofString "read"), (Str.ofString "d"))] : (List (Str × Str))))).bind fun x367 =>
  (m_Program___init__ (x367)).bind fun r377 =>
  (m_period (j138.1)).bind fun r385 =>
  (rngM ((1 : Int) + r1.1)).bind fun x395 =>
  (forC (R := Bool) (fun (a402 : Int) (st403 : Unit) => (rngM r385).bind fun x434 =>
  (forL (fun (a441 : Int) (st442 : (List (List (List PyData)))) => (modM (a402 + a441) ((1 : Int) + r1.1)).bind fun x465 =>
  (atI j138.1 ((a402 + a441) % ((1 : Int) + r1.1))).bind fun x466 =>
  (modM (a441 + (1 : Int)) r385).bind fun x474 =>
  (pushM st442 ([([(PyData.str (Str.ofString "word")), (PyData.str x466)] : (List PyData)), ([(PyData.str (Str.ofString "node")), (PyData.int ((a441 + (1 : Int)) % r385))] : (List PyData))] : (List (List PyData)))).bind fun x487 =>
  some x487) x434 ([] : (List (List (List PyData))))).bind fun st499 =>
  (atI r11.1 a402).bind fun x503 =>
  (m_plain_result (r377) (x503) ((none : (Option (List (Str × Int))))) (([] : (List Str))) (([] : (List Str)))).bind fun r505 =>
  (m_Result_rows (r505)).bind fun r513 =>
  (eqD ((fun xs => PyData.list (xs.map (fun xs => PyData.list (xs.map (fun xs => PyData.tuple (xs.map id)))))) (r513)) ((fun xs => PyData.list (xs.map (fun xs => PyData.list (xs.map (fun xs => PyData.tuple (xs.map id)))))) (st499))).bind fun b521 =>
  if (!b521) = true then some (.ret false) else (atI r11.1 a402).bind fun x523 =>
  (m_plain_result (r377) (x523) ((none : (Option (List (Str × Int))))) (([(Str.ofString "d")] : (List Str))) (([] : (List Str)))).bind fun r531 =>
  (m_Result_rows (r531)).bind fun r539 =>
  (eqD ((fun xs => PyData.list (xs.map (fun xs => PyData.list (xs.map (fun xs => PyData.tuple (xs.map id)))))) (r539)) ((fun xs => PyData.list (xs.map (fun xs => PyData.list (xs.map (fun xs => PyData.tuple (xs.map id)))))) (st499))).bind fun b547 =>
  if (!b547) = true then some (.ret false) else some (.nx ())) x395 ()).bind fun c425 =>
  c425.on (fun st556 => some true) (fun r => some r)
theorem ok_law {C_Program : Addr} {C_Result : Addr} {f : Addr} {fd : FuncData} (F : Fun K "law" "law" s_law f fd) (T_Program : ClsF K mg "Program" C_Program) (T_Result : ClsF K mg "Result" C_Result) (b_int : mg "int" = none) (b_len : mg "len" = none) (b_range : mg "range" = none) (D_Program___init__ : MkDoes P w K mg base CX0 4 "Program" C_Program ["self", "procedures"] [] (sp_Program___init__ K C_Program )) (D_Result_rows : MDoes P w K mg base CX0 1 C_Result "rows" ["self"] (sp_Result_rows K C_Result )) (D_source : Does P w K mg base CX0 1 "_law_source" ["_law_script"] (sp_source K)) (D_draw : Does P w K mg base CX0 1 "_law_draw" ["_law_source_here", "_law_many"] sp_drawM) (D_names : Does P w K mg base CX0 3 "_law_names" ["_law_source_here", "_law_many"] (sp_names K )) (D_fresh : Does P w K mg base CX0 1 "_law_fresh" ["_law_taken"] (sp_fresh K )) (D_period : Does P w K mg base CX0 1 "_law_period" ["_law_words"] (sp_period K )) (D_plain_result_n2 : ∃ T3, (∀ H, SqT K H T3 []) ∧ ∃ T4, (∀ H, SqT K H T4 []) ∧ DoesD P w K mg base CX0 7 "plain_result" ["program", "name", "numbers", "broken", "spared"] [.non, .ref T3, .ref T4] (sp_plain_result K C_Program C_Result )) (D_plain_result_n2_kbroken : ∃ T4, (∀ H, SqT K H T4 []) ∧ DoesN P w K mg base CX0 7 "plain_result" ["program", "name", "numbers", "broken", "spared"] 2 ["broken"] (kwV [.non, .ref T4] [(false, 0), (true, 0), (false, 1)]) (sp_plain_result K C_Program C_Result )) (hlaw : ∀ s : Src3, s.ok 0 → m_law s = some true) : FnOk P w K mg base CX0 8 f fd ["_law_script"] (sp_law K) := by
  have cl_Program := T_Program.ic.cl
  have g_Program := T_Program.g
  have cl_Result := T_Result.ic.cl
  have g_Result := T_Result.g
  obtain ⟨f_source, fd_source, G_source, g_source, kp_source, bd_source⟩ := D_source
  obtain ⟨f_draw, fd_draw, G_draw, g_draw, kp_draw, bd_draw⟩ := D_draw
  obtain ⟨f_names, fd_names, G_names, g_names, kp_names, bd_names⟩ := D_names
  obtain ⟨f_fresh, fd_fresh, G_fresh, g_fresh, kp_fresh, bd_fresh⟩ := D_fresh
  obtain ⟨f_period, fd_period, G_period, g_period, kp_period, bd_period⟩ := D_period
  obtain ⟨T3_plain_result_n2, hT3_plain_result_n2, T4_plain_result_n2, hT4_plain_result_n2, D_plain_result_n2⟩ := D_plain_result_n2
  obtain ⟨f_plain_result_n2, fd_plain_result_n2, ds_plain_result_n2, G_plain_result_n2, g_plain_result_n2, kp_plain_result_n2, bd_plain_result_n2, vd_plain_result_n2⟩ := D_plain_result_n2
  obtain ⟨T4_plain_result_n2_kbroken, hT4_plain_result_n2_kbroken, D_plain_result_n2_kbroken⟩ := D_plain_result_n2_kbroken
  obtain ⟨f_plain_result_n2_kbroken, fd_plain_result_n2_kbroken, gg_plain_result_n2_kbroken, G_plain_result_n2_kbroken, g_plain_result_n2_kbroken, kp_plain_result_n2_kbroken, bd_plain_result_n2_kbroken⟩ := D_plain_result_n2_kbroken
  obtain ⟨f_Program___init__, fd_Program___init__, ds_Program___init__, M_Program___init__, G_Program___init__, bd_Program___init__, vd_Program___init__, g_Program___init__⟩ := D_Program___init__
  cases vd_Program___init__
  obtain ⟨f_Result_rows, fd_Result_rows, G_Result_rows, m_Result_rows, bd_Result_rows, q_Result_rows⟩ := D_Result_rows
  refine F.ok sc_law (fun vs H Q E h => ?_) (fun cdv A outer s H vs Q E hr h => ?_)
  · obtain ⟨_, _, rfl, _⟩ := h
    rfl
  · obtain ⟨a_0, ns, rfl, hS, hlen, k⟩ := h
    have hu := hu_of hr
    refine ⟨_, (pss_cons (ps_set (i := 1) sc_law.nd rfl (Or.inr rfl) (pe_call G_source (hr.mono (by decide)) rfl g_source kp_source bd_source .nil pass0 (pa_cons (pv 0) pa_nil)))
  (pss_cons (ps_set (i := 2) sc_law.nd rfl (Or.inl rfl) (pe_op op_add pe_int (pe_call G_draw (hr.mono (by decide)) rfl g_draw kp_draw bd_draw .nil pass0 (pa_cons (pv 1) (pa_cons pe_int pa_nil)))))
  (pss_cons (ps_set (i := 3) sc_law.nd rfl (Or.inl rfl) (pe_call G_names (hr.mono (by decide)) rfl g_names kp_names bd_names .nil pass0 (pa_cons (pv 1) (pa_cons (pv 2) pa_nil))))
  (pss_cons (ps_set (i := 4) sc_law.nd rfl (Or.inr rfl) (pe_call G_names (hr.mono (by decide)) rfl g_names kp_names bd_names .nil pass0 (pa_cons (pv 1) (pa_cons pe_int pa_nil))))
  (pss_cons (ps_set (i := 5) sc_law.nd rfl (Or.inr rfl) (pe_lc (own := [("_law_k", 8)]) (tt := tYes) rfl sc_law.nd (pi_range1 (by rfl) b_range (pa_cons (pe_op op_add pe_int (pe_call G_draw (hr.mono (by decide)) rfl g_draw kp_draw bd_draw .nil pass0 (pa_cons (pv 1) (pa_cons pe_int pa_nil)))) pa_nil)) (blkOk_by (own := [("_law_k", 8)]) (N := n_law) (sc := defScope s_law) (by decide +kernel)) (fun _ _ _ _ _ => (pg_name (i := 8) sc_law.nd rfl (Or.inl rfl))) (fun _ _ _ _ _ => pts_nil) (fun _ _ _ _ _ => (pe_ix (k_ixL K) (pv 4) (pe_call G_draw (hr.mono (by decide)) rfl g_draw kp_draw bd_draw .nil pass0 (pa_cons (pv 1) (pa_cons pe_int pa_nil))) (fun _ _ => rfl)))))
  (pss_cons (ps_setLc (i := 6) (own := [("_law_k", 8)]) (tt := tYes) rfl sc_law.nd rfl rfl (sw_true rfl rfl rfl (by decide +kernel)) (pi_range1 (by rfl) b_range (pa_cons (pv 2) pa_nil)) (blkOk_by (own := [("_law_k", 8)]) (N := n_law) (sc := defScope s_law) (by decide +kernel)) (fun _ _ _ _ _ => (pg_name (i := 8) sc_law.nd rfl (Or.inl rfl))) (fun _ _ _ _ _ => pts_nil) (fun _ _ _ _ _ => (pe_ix (k_ixL K) (pv 5) (pe_op op_mod (pe_callTy c_int1 (by rfl) b_int (by decide +kernel) (pa_cons (pv 8) pa_nil)) (pe_callB (k_len K) (by rfl) b_len (by decide +kernel) (pa_cons (pv 5) pa_nil))) (fun _ _ => rfl))))
  (C8.pss_cut (ps_if (pt_cmpR op_eq (pe_call G_draw (hr.mono (by decide)) rfl g_draw kp_draw bd_draw .nil pass0 (pa_cons (pv 1) (pa_cons pe_int pa_nil))) pe_int (nomark _)) (pss_one (ps_setLc (i := 6) (own := [("_law_k", 8)]) (tt := tYes) rfl sc_law.nd rfl rfl (sw_true rfl rfl rfl (by decide +kernel)) (pi_range1 (by rfl) b_range (pa_cons (pv 2) pa_nil)) (blkOk_by (own := [("_law_k", 8)]) (N := n_law) (sc := defScope s_law) (by decide +kernel)) (fun _ _ _ _ _ => (pg_name (i := 8) sc_law.nd rfl (Or.inl rfl))) (fun _ _ _ _ _ => pts_nil) (fun _ _ _ _ _ => (pe_ix (k_ixL K) (pv 4) (pe_call G_draw (hr.mono (by decide)) rfl g_draw kp_draw bd_draw .nil pass0 (pa_cons (pv 1) (pa_cons pe_int pa_nil))) (fun _ _ => rfl))))) pss_nil)
  (pss_cons (ps_set (i := 7) sc_law.nd rfl (Or.inl rfl) (pe_lst pa_nil))
  (pss_cons (ps_for PassesOwn.never rfl (pi_range1 (by rfl) b_range (pa_cons (pv 2) pa_nil)) (pg_name (i := 8) sc_law.nd rfl (Or.inl rfl))
  (pss_cons (ps_set (i := 9) sc_law.nd rfl (Or.inl rfl) (pe_ix (k_ixL K) (pe_lst (pa_cons pe_str (pa_cons pe_str pa_nil))) (pe_call G_draw (hr.mono (by decide)) rfl g_draw kp_draw bd_draw .nil pass0 (pa_cons (pv 1) (pa_cons pe_int pa_nil))) (fun _ _ => rfl)))
  (pss_one (ps_expr (k_bm K PySem.F.plainAttrs_list PySem.F.slot_list_append PySem.F.type_list_append mt_append (pv 7) (pa_cons (pe_tup (pa_cons (pe_ix (k_ixL K) (pv 3) (pv 8) (fun _ _ => rfl)) (pa_cons (pe_lst (pa_cons (pe_tup (pa_cons pe_str (pa_cons (pe_ix (k_ixL K) (pv 6) (pv 8) (fun _ _ => rfl)) pa_nil))) (pa_cons (pe_tup (pa_cons (pv 9) (pa_cons (pe_ix (k_ixL K) (pv 3) (pe_op op_mod (pe_callTy c_int1 (by rfl) b_int (by decide +kernel) (pa_cons (pe_op op_add (pv 8) pe_int) pa_nil)) (pv 2)) (fun _ _ => rfl)) pa_nil))) pa_nil))) pa_nil))) pa_nil))))))
  (pss_cons (ps_expr (k_bm K PySem.F.plainAttrs_list PySem.F.slot_list_insert PySem.F.type_list_insert m_insert (pv 7) (pa_cons (pe_call G_draw (hr.mono (by decide)) rfl g_draw kp_draw bd_draw .nil pass0 (pa_cons (pv 1) (pa_cons (pe_op op_add (pv 2) pe_int) pa_nil))) (pa_cons (pe_tup (pa_cons (pe_call G_fresh (hr.mono (by decide)) rfl g_fresh kp_fresh bd_fresh .nil pass0 (pa_cons (pv 3) pa_nil)) (pa_cons (pe_lst (pa_cons (pe_tup (pa_cons pe_str (pa_cons pe_str pa_nil))) pa_nil)) pa_nil))) pa_nil))))
  (pss_cons (ps_set (i := 10) sc_law.nd rfl (Or.inl rfl) (pe_make M_Program___init__ G_Program___init__ (hr.mono (by decide)) rfl g_Program___init__ bd_Program___init__ .nil pass0 (pa_cons (pv 7) pa_nil)))
  (pss_cons (ps_set (i := 11) sc_law.nd rfl (Or.inl rfl) (pe_call G_period (hr.mono (by decide)) rfl g_period kp_period bd_period .nil pass0 (pa_cons (pv 6) pa_nil)))
  (pss_cons (ps_for PassesOwn.never rfl (pi_range1 (by rfl) b_range (pa_cons (pv 2) pa_nil)) (pg_name (i := 12) sc_law.nd rfl (Or.inl rfl))
  (pss_cons (ps_set (i := 13) sc_law.nd rfl (Or.inl rfl) (pe_lst pa_nil))
  (pss_cons (ps_for PassesOwn.never rfl (pi_range1 (by rfl) b_range (pa_cons (pv 11) pa_nil)) (pg_name (i := 8) sc_law.nd rfl (Or.inl rfl))
  (pss_one (ps_expr (k_bm K PySem.F.plainAttrs_list PySem.F.slot_list_append PySem.F.type_list_append mt_append (pv 13) (pa_cons (pe_lst (pa_cons (pe_tup (pa_cons pe_str (pa_cons (pe_ix (k_ixL K) (pv 6) (pe_op op_mod (pe_callTy c_int1 (by rfl) b_int (by decide +kernel) (pa_cons (pe_op op_add (pv 12) (pv 8)) pa_nil)) (pv 2)) (fun _ _ => rfl)) pa_nil))) (pa_cons (pe_tup (pa_cons pe_str (pa_cons (pe_op op_mod (pe_callTy c_int1 (by rfl) b_int (by decide +kernel) (pa_cons (pe_op op_add (pv 8) pe_int) pa_nil)) (pv 11)) pa_nil))) pa_nil))) pa_nil)))))
  (pss_cons (ps_if (pt_cmpR (k_neD K hr.units) (pe_meth0 (pe_call G_plain_result_n2 (hr.mono (by decide)) rfl g_plain_result_n2 kp_plain_result_n2 bd_plain_result_n2 vd_plain_result_n2 pass0 (pa_cons (pv 10) (pa_cons (pe_ix (k_ixL K) (pv 3) (pv 12) (fun _ _ => rfl)) pa_nil))) T_Result.ic.cl m_Result_rows G_Result_rows (hr.mono (by decide)) bd_Result_rows .nil pass0) (pv 13) (nomark _)) (pss_one (ps_ret pe_bl)) pss_nil)
  (pss_one (ps_if (pt_cmpR (k_neD K hr.units) (pe_meth0 (pe_callN G_plain_result_n2_kbroken (hr.mono (by decide)) rfl g_plain_result_n2_kbroken kp_plain_result_n2_kbroken bd_plain_result_n2_kbroken pass0 (pa_cons (pv 10) (pa_cons (pe_ix (k_ixL K) (pv 3) (pv 12) (fun _ _ => rfl)) pa_nil)) (pk_cons (pe_lst (pa_cons pe_str pa_nil)) pk_nil)) T_Result.ic.cl m_Result_rows G_Result_rows (hr.mono (by decide)) bd_Result_rows .nil pass0) (pv 13) (nomark _)) (pss_one (ps_ret pe_bl)) pss_nil))))))
  (pss_one (ps_ret pe_bl))))))))))))))), ?_⟩
    have S0 : Sit (Fr.mk (fun _ => none) H []) (fun _ => none) H [] := Sit.start0 (fun _ _ z => by cases z)
    obtain ⟨B0, hB0⟩ : ∃ B0 : Hp, B0 = fun _ => none := ⟨_, rfl⟩
    rw [← hB0] at S0
    refine w_sig (σ' := [(some (.ref a_0)), none, none, none, none, none, none, none, none, none, none, none, none, none]) rfl ?_
    refine w_seq ?_
    refine w_asg ?_
    refine w_call ?_
    refine w_evA (EvA.cons (Ev.var rfl) EvA.nil) ?_
    refine use_source hS hlen fun p_s H1 sH np hsrc => ?_
    obtain ⟨x_s, o_s, hok, hp_s, h_s⟩ := src_of (B := B0) hsrc
    have S1 := S0.src sH np hp_s
    have n_s := np
    have hm := hlaw x_s hok
    unfold m_law at hm
    refine w_gname ?_
    refine w_nx (σ' := [(some (.ref a_0)), (some (.ref p_s)), none, none, none, none, none, none, none, none, none, none, none, none]) rfl ?_
    refine w_seq ?_
    refine w_asg ?_
    refine w_op ?_
    refine w_ev Ev.c ?_
    refine w_call ?_
    refine w_evA (EvA.cons (Ev.var rfl) (EvA.cons Ev.c EvA.nil)) ?_
    obtain ⟨r1, h2, hm⟩ := bs hm
    refine use_draw S1 (i1 := 0) rfl h_s (show dInt.rel _ (8 : Int) (V.int 8) from rfl) h2 fun v3 B7 H4 o8 (S5 : Sit _ B7 H4 [(p_s, o8)]) s6 h10 h9 => ?_
    cases h10
    refine w_rv rv_I0 ?_
    refine w_gname ?_
    refine w_nx (σ' := [(some (.ref a_0)), (some (.ref p_s)), (some (V.int ((1 : Int) + r1.1))), none, none, none, none, none, none, none, none, none, none, none]) rfl ?_
    refine w_seq ?_
    refine w_asg ?_
    refine w_call ?_
    refine w_evA (EvA.cons (Ev.var rfl) (EvA.cons (Ev.var rfl) EvA.nil)) ?_
    obtain ⟨r11, h12, hm⟩ := bs hm
    refine use_names S5 (i1 := 0) rfl h9 (show dInt.rel _ ((1 : Int) + r1.1) (V.int ((1 : Int) + r1.1)) from rfl) h12 fun v13 B17 H14 o18 (S15 : Sit _ B17 H14 [(p_s, o18)]) s16 h20 h19 => ?_
    refine w_gname ?_
    refine w_nx (σ' := [(some (.ref a_0)), (some (.ref p_s)), (some (V.int ((1 : Int) + r1.1))), (some v13), none, none, none, none, none, none, none, none, none, none]) rfl ?_
    refine w_seq ?_
    refine w_asg ?_
    refine w_call ?_
    refine w_evA (EvA.cons (Ev.var rfl) (EvA.cons Ev.c EvA.nil)) ?_
    obtain ⟨r21, h22, hm⟩ := bs hm
    refine use_names S15 (i1 := 0) rfl h19 (show dInt.rel _ (2 : Int) (V.int 2) from rfl) h22 fun v23 B27 H24 o28 (S25 : Sit _ B27 H24 [(p_s, o28)]) s26 h30 h29 => ?_
    refine w_gname ?_
    refine w_nx (σ' := [(some (.ref a_0)), (some (.ref p_s)), (some (V.int ((1 : Int) + r1.1))), (some v13), (some v23), none, none, none, none, none, none, none, none, none]) rfl ?_
    refine w_seq ?_
    refine w_asg ?_
    refine w_lc ?_
    refine x_iR1 ?_
    refine w_cons ?_
    refine w_op ?_
    refine w_ev Ev.c ?_
    refine w_call ?_
    refine w_evA (EvA.cons (Ev.var rfl) (EvA.cons Ev.c EvA.nil)) ?_
    obtain ⟨r33, h34, hm⟩ := bs hm
    refine use_draw S25 (i1 := 0) rfl h29 (show dInt.rel _ (3 : Int) (V.int 3) from rfl) h34 fun v35 B39 H36 o40 (S37 : Sit _ B39 H36 [(p_s, o40)]) s38 h42 h41 => ?_
    cases h42
    refine w_rv rv_I0 ?_
    refine w_nil ?_
    obtain ⟨x43, h44, hm⟩ := bs hm
    refine w_itR1 (B := B39) h44 fun J31 it32 hl45 => ?_
    obtain ⟨r78, h79, hm⟩ := bs hm
    refine lcRS (P := dStr) it32 S37 hl45 (fun (st62 : Src3) b cs' => ∃ o63, cs' = [(p_s, o63)] ∧ cSrc.rel b st62 o63) ⟨_, rfl, h41⟩ (h79 : _ = some (r78.1, r78.2)) (fun _ _ _ _ _ Z e _ => e.tr Z.sub) (fun D46 ac47 a48 st62 o49 x50 B53 B54 H55 cs81 ma61 S56 s51 s52 hI80 h57 ho58 RR59 kk60 => ?_) ?_
    · obtain ⟨o63, rfl, h64⟩ := hI80
      refine w_turn ?_
      cases h57
      refine w_gname ?_
      refine w_wipe rfl ?_
      refine w_yes ?_
      refine iteT ?_
      refine w_op ?_
      refine w_ev (Ev.var rfl) ?_
      refine w_call ?_
      refine w_evA (EvA.cons (Ev.var rfl) (EvA.cons Ev.c EvA.nil)) ?_
      obtain ⟨r65, h66, ho58⟩ := bs ho58
      refine use_draw S56 (i1 := 1) rfl (Cl.mono _ s52 h64) (show dInt.rel _ (2 : Int) (V.int 2) from rfl) h66 fun v67 B71 H68 o72 (S69 : Sit _ B71 H68 [(D46, (.lst ac47)), (p_s, o72)]) s70 h74 h73 => ?_
      cases h74
      obtain ⟨x75, hx75, ho58⟩ := bs ho58
      obtain ⟨_, rfl, r76⟩ := ix_L (K := K) (Rl.mono _ (s38.tr (s51.tr (s52.tr s70))) h30) hx75
      refine w_rv (r76 _ S69.sub) ?_
      obtain rfl := Option.some.inj ho58
      exact kk60 _ _ _ _ S69 s70 ⟨o72, rfl, h73⟩ ⟨_, rfl, (show dStr.rel _ x75 (V.str x75) from rfl)⟩
    · intro p82 B89 H83 o84 cs93 S85 s86 hI92 n87 h88
      obtain ⟨o90, rfl, h91⟩ := hI92
      obtain ⟨B96, S94, s95, h97⟩ : ∃ B', Sit _ B' H83 [(p_s, o90)] ∧ Same _ B' ∧ (dList dStr).rel B' r78.1 (.ref p82) := ⟨_, S85.frz (i := 0) rfl n87, S85.frzS (i := 0) rfl, frzL h88 (S85.atB (i := 0) rfl)⟩
      refine w_gname ?_
      refine w_nx (σ' := [(some (.ref a_0)), (some (.ref p_s)), (some (V.int ((1 : Int) + r1.1))), (some v13), (some v23), (some (.ref p82)), none, none, none, none, none, none, none, none]) rfl ?_
      refine w_seq ?_
      refine w_asg ?_
      refine w_lc ?_
      refine x_iR1 ?_
      refine w_evA (EvA.cons (Ev.var rfl) EvA.nil) ?_
      obtain ⟨x100, h101, hm⟩ := bs hm
      refine w_itR1 (B := B96) h101 fun J98 it99 hl102 => ?_
      obtain ⟨ys124, h125, hm⟩ := bs hm
      refine lcR (P := dStr) it99 S94 hl102 h125 (fun _ _ _ Z e _ => e.tr Z.sub) (fun D103 ac104 a105 o106 x107 B110 B111 H112 ma118 S113 s108 s109 h114 ho115 RR116 kk117 => ?_) ?_
      · refine w_turn ?_
        cases h114
        refine w_gname ?_
        refine w_wipe rfl ?_
        refine w_yes ?_
        refine iteT ?_
        obtain ⟨x120, hx120, ho115⟩ := bs ho115
        obtain ⟨hx120p, rfl⟩ := modM_some hx120
        obtain ⟨x121, hx121, ho115⟩ := bs ho115
        obtain ⟨_, rfl, r122⟩ := ix_L (K := K) (Rl.mono _ (s108.tr s109) h97) hx121
        refine w_ev (Ev.op (Ev.var rfl) (Ev.op (Ev.cb (EvA.cons (Ev.var rfl) EvA.nil) fun _ q => ⟨_, rfl, q⟩) (Ev.cb (EvA.cons (Ev.var rfl) EvA.nil) (rlen_q (sqL (K := K) (Rl.mono _ (s108.tr s109) h97) S113.sub))) (rv_I hx120p)) (r122 _ S113.sub)) ?_
        obtain rfl := Option.some.inj ho115
        exact kk117 _ _ _ S113 (Same.rf _) ⟨_, rfl, (show dStr.rel _ x121 (V.str x121) from rfl)⟩
      · intro p126 B133 H127 o128 S129 s130 n131 h132
        obtain ⟨B136, S134, s135, h137⟩ : ∃ B', Sit _ B' H127 [(p_s, o90)] ∧ Same _ B' ∧ (dList dStr).rel B' ys124 (.ref p126) := ⟨_, S129.frz (i := 0) rfl n131, S129.frzS (i := 0) rfl, frzL h132 (S129.atB (i := 0) rfl)⟩
        refine w_gname ?_
        refine w_nx (σ' := [(some (.ref a_0)), (some (.ref p_s)), (some (V.int ((1 : Int) + r1.1))), (some v13), (some v23), (some (.ref p82)), (some (.ref p126)), none, none, none, none, none, none, none]) rfl ?_
        obtain ⟨j138, hj139, hm⟩ := bs hm
        refine w_cut (MidD (fun σ' H' => ∃ (B' : Hp) (e212 : V) (o214 : HO), σ' = [(some (.ref a_0)), (some (.ref p_s)), (some (V.int ((1 : Int) + r1.1))), (some v13), (some v23), (some (.ref p82)), (some e212), none, none, none, none, none, none, none] ∧ Sit (Fr.mk B0 H []) B' H' [(p_s, o214)] ∧ Same B136 B' ∧ (dList dStr).rel B' j138.1 e212 ∧ cSrc.rel B' j138.2 o214 ∧ True)) ?_ ?_
        · refine w_ifS ?_
          refine w_test ?_
          refine w_op ?_
          refine w_call ?_
          refine w_evA (EvA.cons (Ev.var rfl) (EvA.cons Ev.c EvA.nil)) ?_
          obtain ⟨r140, h141, hj139⟩ := bs hj139
          refine use_draw S134 (i1 := 0) rfl (Cl.mono _ (s95.tr (s130.tr s135)) h91) (show dInt.rel _ (2 : Int) (V.int 2) from rfl) h141 fun v142 B146 H143 o147 (S144 : Sit _ B146 H143 [(p_s, o147)]) s145 h149 h148 => ?_
          cases h149
          refine w_ev Ev.c ?_
          refine w_rv rv_eqI ?_
          refine w_bl ?_
          refine w_ifb (fun h150 => ?_) (fun h150 => ?_)
          · rw [ifT h150] at hj139
            refine w_asg ?_
            refine w_lc ?_
            refine x_iR1 ?_
            refine w_evA (EvA.cons (Ev.var rfl) EvA.nil) ?_
            obtain ⟨x153, h154, hj139⟩ := bs hj139
            refine w_itR1 (B := B146) h154 fun J151 it152 hl155 => ?_
            obtain ⟨r188, h189, hj139⟩ := bs hj139
            refine lcRS (P := dStr) it152 S144 hl155 (fun (st172 : Src3) b cs' => ∃ o173, cs' = [(p_s, o173)] ∧ cSrc.rel b st172 o173) ⟨_, rfl, h148⟩ (h189 : _ = some (r188.1, r188.2)) (fun _ _ _ _ _ Z e _ => e.tr Z.sub) (fun D156 ac157 a158 st172 o159 x160 B163 B164 H165 cs191 ma171 S166 s161 s162 hI190 h167 ho168 RR169 kk170 => ?_) ?_
            · obtain ⟨o173, rfl, h174⟩ := hI190
              refine w_turn ?_
              cases h167
              refine w_gname ?_
              refine w_wipe rfl ?_
              refine w_yes ?_
              refine iteT ?_
              refine w_op ?_
              refine w_ev (Ev.var rfl) ?_
              refine w_call ?_
              refine w_evA (EvA.cons (Ev.var rfl) (EvA.cons Ev.c EvA.nil)) ?_
              obtain ⟨r175, h176, ho168⟩ := bs ho168
              refine use_draw S166 (i1 := 1) rfl (Cl.mono _ s162 h174) (show dInt.rel _ (2 : Int) (V.int 2) from rfl) h176 fun v177 B181 H178 o182 (S179 : Sit _ B181 H178 [(D156, (.lst ac157)), (p_s, o182)]) s180 h184 h183 => ?_
              cases h184
              obtain ⟨x185, hx185, ho168⟩ := bs ho168
              obtain ⟨_, rfl, r186⟩ := ix_L (K := K) (Rl.mono _ (s38.tr (s86.tr (s95.tr (s130.tr (s135.tr (s145.tr (s161.tr (s162.tr s180)))))))) h30) hx185
              refine w_rv (r186 _ S179.sub) ?_
              obtain rfl := Option.some.inj ho168
              exact kk170 _ _ _ _ S179 s180 ⟨o182, rfl, h183⟩ ⟨_, rfl, (show dStr.rel _ x185 (V.str x185) from rfl)⟩
            · intro p192 B199 H193 o194 cs203 S195 s196 hI202 n197 h198
              obtain ⟨o200, rfl, h201⟩ := hI202
              obtain ⟨B206, S204, s205, h207⟩ : ∃ B', Sit _ B' H193 [(p_s, o200)] ∧ Same _ B' ∧ (dList dStr).rel B' r188.1 (.ref p192) := ⟨_, S195.frz (i := 0) rfl n197, S195.frzS (i := 0) rfl, frzL h198 (S195.atB (i := 0) rfl)⟩
              refine w_gname ?_
              refine w_nx (σ' := [(some (.ref a_0)), (some (.ref p_s)), (some (V.int ((1 : Int) + r1.1))), (some v13), (some v23), (some (.ref p82)), (some (.ref p192)), none, none, none, none, none, none, none]) rfl ?_
              obtain rfl := Option.some.inj hj139
              exact ⟨_, _, _, rfl, S204, (s145.tr (s196.tr s205)), h207, (Cl.mono _ s205 h201), trivial⟩
          · rw [ifF h150] at hj139
            refine w_next ?_
            obtain rfl := Option.some.inj hj139
            exact ⟨_, _, _, rfl, S144, s145, (Rl.mono _ s145 h137), h148, trivial⟩
        · rintro _ H208 ⟨B211, e212, o214, rfl, S209, s210, h213, h215, -⟩
          refine w_seq ?_
          refine w_asg ?_
          refine x_lst ?_
          refine w_nil ?_
          refine mkO (R := (dPair K dStr (dList (dPair K dStr dStr)))) (xs := []) S209 .nil (by show 0 ≤ BIG; decide) fun p216 o217 H218 S219 n220 h221 => ?_
          refine w_gname ?_
          refine w_nx (σ' := [(some (.ref a_0)), (some (.ref p_s)), (some (V.int ((1 : Int) + r1.1))), (some v13), (some v23), (some (.ref p82)), (some e212), (some (.ref p216)), none, none, none, none, none, none]) rfl ?_
          refine w_seq ?_
          refine w_for ?_
          refine x_iR1 ?_
          refine w_evA (EvA.cons (Ev.var rfl) EvA.nil) ?_
          obtain ⟨x224, h225, hm⟩ := bs hm
          refine w_itR1 (B := B211) h225 fun J222 it223 hl226 => ?_
          obtain ⟨st324, hl562, hm⟩ := bs hm
          refine forS (s0 := (([] : (List (Str × (List (Str × Str))))), j138.2)) it223 S219 (fun (st227 : ((List (Str × (List (Str × Str)))) × Src3)) b σ' cs' => ∃ (e228 : Option V) (e229 : Option V) (o230 : HO) (o232 : HO), σ' = [(some (.ref a_0)), (some (.ref p_s)), (some (V.int ((1 : Int) + r1.1))), (some v13), (some v23), (some (.ref p82)), (some e212), (some (.ref p216)), e228, e229, none, none, none, none] ∧ cs' = [(p216, o230), (p_s, o232)] ∧ (cList (dPair K dStr (dList (dPair K dStr dStr)))).rel b st227.1 o230 ∧ cSrc.rel b st227.2 o232 ∧ True) ⟨_, _, _, _, rfl, rfl, h221, h215, trivial⟩ hl562 (fun _ _ _ _ _ Z e _ => e.tr Z.sub) (fun a234 st235 o236 x237 B247 B254 H238 _ cs239 ma240 S241 s242 s243 hI244 h245 hf246 => ?_) ?_
          · obtain ⟨e248, e249, o250, o252, rfl, rfl, h251, h253, -⟩ := hI244
            cases h245
            refine w_gname ?_
            refine w_nx (σ' := [(some (.ref a_0)), (some (.ref p_s)), (some (V.int ((1 : Int) + r1.1))), (some v13), (some v23), (some (.ref p82)), (some e212), (some (.ref p216)), (some (V.int a234)), e249, none, none, none, none]) rfl ?_
            refine w_seq ?_
            refine w_asg ?_
            refine w_op ?_
            refine x_lst ?_
            refine w_evA (EvA.cons Ev.c (EvA.cons Ev.c EvA.nil)) ?_
            refine mkL (R := dStr) (xs := [(Str.ofString "call"), (Str.ofString "try")]) S241 (.cons (show dStr.rel _ (Str.ofString "call") (V.str (Str.ofString "call")) from rfl) (.cons (show dStr.rel _ (Str.ofString "try") (V.str (Str.ofString "try")) from rfl) .nil)) (by show 2 ≤ BIG; decide) fun v261 B266 H262 S263 s264 h265 => ?_
            refine w_call ?_
            refine w_evA (EvA.cons (Ev.var rfl) (EvA.cons Ev.c EvA.nil)) ?_
            obtain ⟨r267, h268, hf246⟩ := bs hf246
            refine use_draw S263 (i1 := 1) rfl (Cl.mono _ (s243.tr s264) h253) (show dInt.rel _ (2 : Int) (V.int 2) from rfl) h268 fun v269 B273 H270 o274 (S271 : Sit _ B273 H270 [(p216, o250), (p_s, o274)]) s272 h276 h275 => ?_
            cases h276
            obtain ⟨x277, hx277, hf246⟩ := bs hf246
            obtain ⟨_, rfl, r278⟩ := ix_L (K := K) (Rl.mono _ s272 h265) hx277
            refine w_rv (r278 _ S271.sub) ?_
            refine w_gname ?_
            refine w_nx (σ' := [(some (.ref a_0)), (some (.ref p_s)), (some (V.int ((1 : Int) + r1.1))), (some v13), (some v23), (some (.ref p82)), (some e212), (some (.ref p216)), (some (V.int a234)), (some (V.str x277)), none, none, none, none]) rfl ?_
            refine w_drop ?_
            refine w_bm ?_
            refine w_ev (Ev.var rfl) ?_
            refine w_tyC (Cl.mono _ (s243.tr (s264.tr s272)) h251) (S271.at' (i := 0) rfl) ?_
            refine w_cons ?_
            refine x_tup ?_
            refine w_cons ?_
            obtain ⟨x281, hx281, hf246⟩ := bs hf246
            obtain ⟨_, rfl, r282⟩ := ix_L (K := K) (Rl.mono _ (s26.tr (s38.tr (s86.tr (s95.tr (s130.tr (s135.tr (s210.tr (s242.tr (s243.tr (s264.tr s272)))))))))) h20) hx281
            refine w_ev (Ev.op (Ev.var rfl) (Ev.var rfl) (r282 _ S271.sub)) ?_
            refine w_cons ?_
            refine x_lst ?_
            refine w_cons ?_
            refine x_tup ?_
            obtain ⟨x283, hx283, hf246⟩ := bs hf246
            obtain ⟨_, rfl, r284⟩ := ix_L (K := K) (Rl.mono _ (s242.tr (s243.tr (s264.tr s272))) h213) hx283
            refine w_evA (EvA.cons Ev.c (EvA.cons (Ev.op (Ev.var rfl) (Ev.var rfl) (r284 _ S271.sub)) EvA.nil)) ?_
            refine mk2 (K := K)   S271 (show dStr.rel _ (Str.ofString "say") (V.str (Str.ofString "say")) from rfl) (show dStr.rel _ x283 (V.str x283) from rfl) fun v285 B290 H286 S287 s288 h289 => ?_
            refine w_cons ?_
            refine x_tup ?_
            obtain ⟨x291, hx291, hf246⟩ := bs hf246
            obtain ⟨hx291p, rfl⟩ := modM_some hx291
            obtain ⟨x292, hx292, hf246⟩ := bs hf246
            obtain ⟨_, rfl, r293⟩ := ix_L (K := K) (Rl.mono _ (s26.tr (s38.tr (s86.tr (s95.tr (s130.tr (s135.tr (s210.tr (s242.tr (s243.tr (s264.tr (s272.tr s288))))))))))) h20) hx292
            refine w_evA (EvA.cons (Ev.var rfl) (EvA.cons (Ev.op (Ev.var rfl) (Ev.op (Ev.cb (EvA.cons (Ev.op (Ev.var rfl) Ev.c rv_I0) EvA.nil) fun _ q => ⟨_, rfl, q⟩) (Ev.var rfl) (rv_I hx291p)) (r293 _ S287.sub)) EvA.nil)) ?_
            refine mk2 (K := K)   S287 (show dStr.rel _ x277 (V.str x277) from rfl) (show dStr.rel _ x292 (V.str x292) from rfl) fun v294 B299 H295 S296 s297 h298 => ?_
            refine w_nil ?_
            refine mkL (R := (dPair K dStr dStr)) (xs := [((Str.ofString "say"), x283), (x277, x292)]) S296 (.cons (Rl.mono _ s297 h289) (.cons h298 .nil)) (by show 2 ≤ BIG; decide) fun v300 B305 H301 S302 s303 h304 => ?_
            refine w_nil ?_
            refine mk2 (K := K)   S302 (show dStr.rel _ x281 (V.str x281) from rfl) h304 fun v306 B311 H307 S308 s309 h310 => ?_
            refine w_nil ?_
            obtain ⟨x312, h313, hf246⟩ := bs hf246
            refine q_append (k := 0) S308 rfl (Cl.mono _ (s243.tr (s264.tr (s272.tr (s288.tr (s297.tr (s303.tr s309)))))) h251) h310 h313 fun o314 H315 (S316 : Sit _ B311 H315 [(p216, o314), (p_s, o274)]) h317 => ?_
            obtain rfl := Option.some.inj hf246
            exact ⟨_, _, S316, (s242.tr (s243.tr (s264.tr (s272.tr (s288.tr (s297.tr (s303.tr s309))))))), _, _, _, _, rfl, rfl, h317, (Cl.mono _ (s288.tr (s297.tr (s303.tr s309))) h275), trivial⟩
          · intro B323 H318 _ cs319 S320 s321 hI322
            obtain ⟨e325, e326, o327, o329, rfl, rfl, h328, h330, -⟩ := hI322
            refine w_seq ?_
            refine w_drop ?_
            refine w_bm ?_
            refine w_ev (Ev.var rfl) ?_
            refine w_tyC h328 (S320.at' (i := 0) rfl) ?_
            refine w_cons ?_
            refine w_call ?_
            refine w_evA (EvA.cons (Ev.var rfl) (EvA.cons (Ev.op (Ev.var rfl) Ev.c rv_I0) EvA.nil)) ?_
            obtain ⟨r331, h332, hm⟩ := bs hm
            refine use_draw S320 (i1 := 1) rfl h330 (show dInt.rel _ (((1 : Int) + r1.1) + (1 : Int)) (V.int (((1 : Int) + r1.1) + (1 : Int))) from rfl) h332 fun v333 B337 H334 o338 (S335 : Sit _ B337 H334 [(p216, o327), (p_s, o338)]) s336 h340 h339 => ?_
            cases h340
            refine w_cons ?_
            refine x_tup ?_
            refine w_cons ?_
            refine w_call ?_
            refine w_evA (EvA.cons (Ev.var rfl) EvA.nil) ?_
            obtain ⟨r341, h342, hm⟩ := bs hm
            refine use_fresh S335 (Rl.mono _ (s26.tr (s38.tr (s86.tr (s95.tr (s130.tr (s135.tr (s210.tr (s321.tr s336)))))))) h20) h342 fun v343 B347 H344  (S345 : Sit _ B347 H344 [(p216, o327), (p_s, o338)]) s346 h348  => ?_
            cases h348
            refine w_cons ?_
            refine x_lst ?_
            refine w_cons ?_
            refine x_tup ?_
            refine w_evA (EvA.cons Ev.c (EvA.cons Ev.c EvA.nil)) ?_
            refine mk2 (K := K)   S345 (show dStr.rel _ (Str.ofString "read") (V.str (Str.ofString "read")) from rfl) (show dStr.rel _ (Str.ofString "d") (V.str (Str.ofString "d")) from rfl) fun v349 B354 H350 S351 s352 h353 => ?_
            refine w_nil ?_
            refine mkL (R := (dPair K dStr dStr)) (xs := [((Str.ofString "read"), (Str.ofString "d"))]) S351 (.cons h353 .nil) (by show 1 ≤ BIG; decide) fun v355 B360 H356 S357 s358 h359 => ?_
            refine w_nil ?_
            refine mk2 (K := K)   S357 (show dStr.rel _ r341 (V.str r341) from rfl) h359 fun v361 B366 H362 S363 s364 h365 => ?_
            refine w_nil ?_
            obtain ⟨x367, h368, hm⟩ := bs hm
            refine q_insert (k := 0) S363 rfl (Cl.mono _ (s336.tr (s346.tr (s352.tr (s358.tr s364)))) h328) h365 h368 fun o369 H370 (S371 : Sit _ B366 H370 [(p216, o369), (p_s, o338)]) h372 => ?_
            obtain ⟨B375, S373, s374, h376⟩ : ∃ B', Sit _ B' H370 [(p_s, o338)] ∧ Same _ B' ∧ (dList (dPair K dStr (dList (dPair K dStr dStr)))).rel B' x367 (.ref p216) := ⟨_, S371.frz (i := 0) rfl n220, S371.frzS (i := 0) rfl, frzL h372 (S371.atB (i := 0) rfl)⟩
            refine w_seq ?_
            refine w_asg ?_
            refine w_make ?_
            refine w_evA (EvA.cons (Ev.var rfl) EvA.nil) ?_
            obtain ⟨r377, h378, hm⟩ := bs hm
            refine mk_Program___init__ S373 ((subLQ (subP2 subR (subLQ subR))) h376) h378 fun v379 B384 H380 S381 s382 h383 => ?_
            refine w_gname ?_
            refine w_nx (σ' := [(some (.ref a_0)), (some (.ref p_s)), (some (V.int ((1 : Int) + r1.1))), (some v13), (some v23), (some (.ref p82)), (some e212), (some (.ref p216)), e325, e326, (some v379), none, none, none]) rfl ?_
            refine w_seq ?_
            refine w_asg ?_
            refine w_call ?_
            refine w_evA (EvA.cons (Ev.var rfl) EvA.nil) ?_
            obtain ⟨r385, h386, hm⟩ := bs hm
            refine use_period S381 (Rl.mono _ (s321.tr (s336.tr (s346.tr (s352.tr (s358.tr (s364.tr (s374.tr s382))))))) h213) h386 fun v387 B391 H388  (S389 : Sit _ B391 H388 [(p_s, o338)]) s390 h392  => ?_
            cases h392
            refine w_gname ?_
            refine w_nx (σ' := [(some (.ref a_0)), (some (.ref p_s)), (some (V.int ((1 : Int) + r1.1))), (some v13), (some v23), (some (.ref p82)), (some e212), (some (.ref p216)), e325, e326, (some v379), (some (V.int r385)), none, none]) rfl ?_
            refine w_seq ?_
            refine w_for ?_
            refine x_iR1 ?_
            refine w_evA (EvA.cons (Ev.var rfl) EvA.nil) ?_
            obtain ⟨x395, h396, hm⟩ := bs hm
            refine w_itR1 (B := B391) h396 fun J393 it394 hl397 => ?_
            obtain ⟨c425, hl560, hm⟩ := bs hm
            refine forK (s0 := ()) it394 S389 (fun (st398 : Unit) b σ' cs' => ∃ (e399 : Option V) (e400 : Option V) (e401 : Option V), σ' = [(some (.ref a_0)), (some (.ref p_s)), (some (V.int ((1 : Int) + r1.1))), (some v13), (some v23), (some (.ref p82)), (some e212), (some (.ref p216)), e399, e326, (some v379), (some (V.int r385)), e400, e401] ∧ cs' = [(p_s, o338)] ∧ True) ⟨_, _, _, rfl, rfl, trivial⟩ hl560 (fun _ _ _ _ _ Z e _ => e.tr Z.sub) (fun a402 st403 o404 x405 B415 B419 H406 _ cs407 ma408 S409 s410 s411 hI412 h413 hf414 hret420 hbrk421 => ?_) ?_
            · obtain ⟨e416, e417, e418, rfl, rfl, -⟩ := hI412
              cases h413
              refine w_gname ?_
              refine w_nx (σ' := [(some (.ref a_0)), (some (.ref p_s)), (some (V.int ((1 : Int) + r1.1))), (some v13), (some v23), (some (.ref p82)), (some e212), (some (.ref p216)), e416, e326, (some v379), (some (V.int r385)), (some (V.int a402)), e418]) rfl ?_
              refine w_seq ?_
              refine w_asg ?_
              refine x_lst ?_
              refine w_nil ?_
              refine mkO (R := (dList (dTup K (dAny K)))) (xs := []) S409 .nil (by show 0 ≤ BIG; decide) fun p426 o427 H428 S429 n430 h431 => ?_
              refine w_gname ?_
              refine w_nx (σ' := [(some (.ref a_0)), (some (.ref p_s)), (some (V.int ((1 : Int) + r1.1))), (some v13), (some v23), (some (.ref p82)), (some e212), (some (.ref p216)), e416, e326, (some v379), (some (V.int r385)), (some (V.int a402)), (some (.ref p426))]) rfl ?_
              refine w_seq ?_
              refine w_for ?_
              refine x_iR1 ?_
              refine w_evA (EvA.cons (Ev.var rfl) EvA.nil) ?_
              obtain ⟨x434, h435, hf414⟩ := bs hf414
              refine w_itR1 (B := B419) h435 fun J432 it433 hl436 => ?_
              obtain ⟨st499, hl549, hf414⟩ := bs hf414
              refine forS (s0 := ([] : (List (List (List PyData))))) it433 S429 (fun (st437 : (List (List (List PyData)))) b σ' cs' => ∃ (e438 : Option V) (o439 : HO), σ' = [(some (.ref a_0)), (some (.ref p_s)), (some (V.int ((1 : Int) + r1.1))), (some v13), (some v23), (some (.ref p82)), (some e212), (some (.ref p216)), e438, e326, (some v379), (some (V.int r385)), (some (V.int a402)), (some (.ref p426))] ∧ cs' = [(p426, o439), (p_s, o338)] ∧ (cList (dList (dTup K (dAny K)))).rel b st437 o439 ∧ True) ⟨_, _, rfl, rfl, h431, trivial⟩ hl549 (fun _ _ _ _ _ Z e _ => e.tr Z.sub) (fun a441 st442 o443 x444 B454 B458 H445 _ cs446 ma447 S448 s449 s450 hI451 h452 hf453 => ?_) ?_
              · obtain ⟨e455, o456, rfl, rfl, h457, -⟩ := hI451
                cases h452
                refine w_gname ?_
                refine w_nx (σ' := [(some (.ref a_0)), (some (.ref p_s)), (some (V.int ((1 : Int) + r1.1))), (some v13), (some v23), (some (.ref p82)), (some e212), (some (.ref p216)), (some (V.int a441)), e326, (some v379), (some (V.int r385)), (some (V.int a402)), (some (.ref p426))]) rfl ?_
                refine w_drop ?_
                refine w_bm ?_
                refine w_ev (Ev.var rfl) ?_
                refine w_tyC (Cl.mono _ s450 h457) (S448.at' (i := 0) rfl) ?_
                refine w_cons ?_
                refine x_lst ?_
                refine w_cons ?_
                refine x_tup ?_
                obtain ⟨x465, hx465, hf453⟩ := bs hf453
                obtain ⟨hx465p, rfl⟩ := modM_some hx465
                obtain ⟨x466, hx466, hf453⟩ := bs hf453
                obtain ⟨_, rfl, r467⟩ := ix_L (K := K) (Rl.mono _ (s321.tr (s336.tr (s346.tr (s352.tr (s358.tr (s364.tr (s374.tr (s382.tr (s390.tr (s410.tr (s411.tr (s449.tr s450)))))))))))) h213) hx466
                refine w_evA (EvA.cons Ev.c (EvA.cons (Ev.op (Ev.var rfl) (Ev.op (Ev.cb (EvA.cons (Ev.op (Ev.var rfl) (Ev.var rfl) rv_I0) EvA.nil) fun _ q => ⟨_, rfl, q⟩) (Ev.var rfl) (rv_I hx465p)) (r467 _ S448.sub)) EvA.nil)) ?_
                refine mk2 (K := K)   S448 (show dStr.rel _ (Str.ofString "word") (V.str (Str.ofString "word")) from rfl) (show dStr.rel _ x466 (V.str x466) from rfl) fun v468 B473 H469 S470 s471 h472 => ?_
                refine w_cons ?_
                refine x_tup ?_
                obtain ⟨x474, hx474, hf453⟩ := bs hf453
                obtain ⟨hx474p, rfl⟩ := modM_some hx474
                refine w_evA (EvA.cons Ev.c (EvA.cons (Ev.op (Ev.cb (EvA.cons (Ev.op (Ev.var rfl) Ev.c rv_I0) EvA.nil) fun _ q => ⟨_, rfl, q⟩) (Ev.var rfl) (rv_I hx474p)) EvA.nil)) ?_
                refine mk2 (K := K)   S470 (show dStr.rel _ (Str.ofString "node") (V.str (Str.ofString "node")) from rfl) (show dInt.rel _ ((a441 + (1 : Int)) % r385) (V.int ((a441 + (1 : Int)) % r385)) from rfl) fun v475 B480 H476 S477 s478 h479 => ?_
                refine w_nil ?_
                refine mkL (R := (dTup K (dAny K))) (xs := [([(PyData.str (Str.ofString "word")), (PyData.str x466)] : (List PyData)), ([(PyData.str (Str.ofString "node")), (PyData.int ((a441 + (1 : Int)) % r385))] : (List PyData))]) S477 (.cons (show (dTup K (dAny K)).rel _ ([(PyData.str (Str.ofString "word")), (PyData.str x466)] : (List PyData)) v468 from (mp2 (mpA drStr) (mpA drStr)) (Rl.mono _ s478 h472)) (.cons (show (dTup K (dAny K)).rel _ ([(PyData.str (Str.ofString "node")), (PyData.int ((a441 + (1 : Int)) % r385))] : (List PyData)) v475 from (mp2 (mpA drStr) (mpA drInt)) h479) .nil)) (by show 2 ≤ BIG; decide) fun v481 B486 H482 S483 s484 h485 => ?_
                refine w_nil ?_
                obtain ⟨x487, h488, hf453⟩ := bs hf453
                refine q_append (k := 0) S483 rfl (Cl.mono _ (s450.tr (s471.tr (s478.tr s484))) h457) h485 h488 fun o489 H490 (S491 : Sit _ B486 H490 [(p426, o489), (p_s, o338)]) h492 => ?_
                obtain rfl := Option.some.inj hf453
                exact ⟨_, _, S491, (s449.tr (s450.tr (s471.tr (s478.tr s484)))), _, _, rfl, rfl, h492, trivial⟩
              · intro B498 H493 _ cs494 S495 s496 hI497
                obtain ⟨e500, o501, rfl, rfl, h502, -⟩ := hI497
                refine w_seq ?_
                refine w_ifS ?_
                refine w_test ?_
                refine w_op ?_
                refine x_meth ?_
                refine w_call ?_
                obtain ⟨x503, hx503, hf414⟩ := bs hf414
                obtain ⟨_, rfl, r504⟩ := ix_L (K := K) (Rl.mono _ (s26.tr (s38.tr (s86.tr (s95.tr (s130.tr (s135.tr (s210.tr (s321.tr (s336.tr (s346.tr (s352.tr (s358.tr (s364.tr (s374.tr (s382.tr (s390.tr (s410.tr (s411.tr s496)))))))))))))))))) h20) hx503
                refine w_evA (EvA.cons (Ev.var rfl) (EvA.cons (Ev.op (Ev.var rfl) (Ev.var rfl) (r504 _ S495.sub)) EvA.nil)) ?_
                obtain ⟨r505, h506, hf414⟩ := bs hf414
                refine use_plain_result S495 (Rl.mono _ (s390.tr (s410.tr (s411.tr s496))) h383) (show dStr.rel _ x503 (V.str x503) from rfl) (show (dOpt (dDict dInt)).rel _ none V.non from rfl) ((subTQ subR) (tupC0 (R := dStr) hT3_plain_result_n2)) ((subTQ subR) (tupC0 (R := dStr) hT4_plain_result_n2)) h506 fun v507 B511 H508  (S509 : Sit _ B511 H508 [(p426, o501), (p_s, o338)]) s510 h512  => ?_
                refine q_meth h512 S509.sub (by rintro _ ⟨_, rfl, _⟩; rfl) ?_
                refine w_nil ?_
                obtain ⟨r513, h514, hf414⟩ := bs hf414
                refine use_Result_rows S509 h512 h514 fun v515 B519 H516  (S517 : Sit _ B519 H516 [(p426, o501), (p_s, o338)]) s518 h520  => ?_
                refine w_ev (Ev.var rfl) ?_
                obtain ⟨b521, hb521, hf414⟩ := bs hf414
                refine w_rv (rv_neD (drL (drL (drT drAny))) (drL (drL (drT drAny))) (Rl.mono _ S517.sub h520) (cL_d (Cl.mono _ (s510.tr s518) h502) (S517.at' (i := 0) rfl) S517.sub) hb521) ?_
                refine w_bl ?_
                refine w_ifb (fun h522 => ?_) (fun h522 => ?_)
                · rw [ifT h522] at hf414
                  refine w_ret ?_
                  refine w_ev Ev.c ?_
                  obtain rfl := Option.some.inj hf414
                  cases hret420 _ rfl
                  exact retB (Option.some.inj hm) k
                · rw [ifF h522] at hf414
                  refine w_next ?_
                  refine w_ifS ?_
                  refine w_test ?_
                  refine w_op ?_
                  refine x_meth ?_
                  refine w_callN ?_
                  obtain ⟨x523, hx523, hf414⟩ := bs hf414
                  obtain ⟨_, rfl, r524⟩ := ix_L (K := K) (Rl.mono _ (s26.tr (s38.tr (s86.tr (s95.tr (s130.tr (s135.tr (s210.tr (s321.tr (s336.tr (s346.tr (s352.tr (s358.tr (s364.tr (s374.tr (s382.tr (s390.tr (s410.tr (s411.tr (s496.tr (s510.tr s518)))))))))))))))))))) h20) hx523
                  refine w_evA (EvA.cons (Ev.var rfl) (EvA.cons (Ev.op (Ev.var rfl) (Ev.var rfl) (r524 _ S517.sub)) EvA.nil)) ?_
                  refine w_cons ?_
                  refine x_lst ?_
                  refine w_evA (EvA.cons Ev.c EvA.nil) ?_
                  refine mkL (R := dStr) (xs := [(Str.ofString "d")]) S517 (.cons (show dStr.rel _ (Str.ofString "d") (V.str (Str.ofString "d")) from rfl) .nil) (by show 1 ≤ BIG; decide) fun v525 B530 H526 S527 s528 h529 => ?_
                  refine w_nil ?_
                  refine q_kw (us := [v379, (V.str x523), V.non, v525, (.ref T4_plain_result_n2_kbroken)]) rfl rfl rfl ?_
                  obtain ⟨r531, h532, hf414⟩ := bs hf414
                  refine use_plain_result S527 (Rl.mono _ (s390.tr (s410.tr (s411.tr (s496.tr (s510.tr (s518.tr s528)))))) h383) (show dStr.rel _ x523 (V.str x523) from rfl) (show (dOpt (dDict dInt)).rel _ none V.non from rfl) ((subLQ subR) h529) ((subTQ subR) (tupC0 (R := dStr) hT4_plain_result_n2_kbroken)) h532 fun v533 B537 H534  (S535 : Sit _ B537 H534 [(p426, o501), (p_s, o338)]) s536 h538  => ?_
                  refine q_meth h538 S535.sub (by rintro _ ⟨_, rfl, _⟩; rfl) ?_
                  refine w_nil ?_
                  obtain ⟨r539, h540, hf414⟩ := bs hf414
                  refine use_Result_rows S535 h538 h540 fun v541 B545 H542  (S543 : Sit _ B545 H542 [(p426, o501), (p_s, o338)]) s544 h546  => ?_
                  refine w_ev (Ev.var rfl) ?_
                  obtain ⟨b547, hb547, hf414⟩ := bs hf414
                  refine w_rv (rv_neD (drL (drL (drT drAny))) (drL (drL (drT drAny))) (Rl.mono _ S543.sub h546) (cL_d (Cl.mono _ (s510.tr (s518.tr (s528.tr (s536.tr s544)))) h502) (S543.at' (i := 0) rfl) S543.sub) hb547) ?_
                  refine w_bl ?_
                  refine w_ifb (fun h548 => ?_) (fun h548 => ?_)
                  · rw [ifT h548] at hf414
                    refine w_ret ?_
                    refine w_ev Ev.c ?_
                    obtain rfl := Option.some.inj hf414
                    cases hret420 _ rfl
                    exact retB (Option.some.inj hm) k
                  · rw [ifF h548] at hf414
                    refine w_next ?_
                    obtain rfl := Option.some.inj hf414
                    exact ⟨_, rfl, _, _, S543.tl, (s410.tr (s411.tr (s496.tr (s510.tr (s518.tr (s528.tr (s536.tr s544))))))), _, _, _, rfl, rfl, trivial⟩
            · intro st556 B555 H550 _ cs551 ec561 S552 s553 hI554
              cases ec561
              obtain ⟨e557, e558, e559, rfl, rfl, -⟩ := hI554
              refine w_ret ?_
              refine w_ev Ev.c ?_
              exact retB (Option.some.inj hm) k
end
end Mm
namespace Mm
open PySem L2 Mf
theorem at0 {α : Type} {z : α} {zs : List α} : atI (z :: zs) (0 : Int) = some z := by
  unfold atI ixN
  rw [if_pos (by decide), if_pos (by simp)]
  rfl
theorem period_wp {ws : List Str} {n : Nat} (hl : ws.length = n) (hn : 0 < n) (h8 : n ≤ 1000) {W : Nat → Str} (hW : ∀ k, ws[k % n]? = some (W k)) : Wp (m_period ws) (fun p => ∃ q : Nat, p = (q : Int) ∧ Per W n q) := by
  have hWn : ∀ k, W (k + n) = W k := fun k => by
    have h1 := hW (k + n)
    rw [Nat.add_mod_right, hW k] at h1
    exact (Option.some.inj h1).symm
  have fits : ∀ d : Nat, (∀ k, k < n → W k = W (k + d)) ↔ ∀ k, W (k + d) = W k := fun d => by
    constructor
    · intro h k
      have h1 := h (k % n) (Nat.mod_lt _ hn)
      have e1 : W (k % n) = W k := by have := per_mod hWn 0 k; rwa [Nat.zero_add, Nat.zero_add] at this
      have e2 : W (k % n + d) = W (k + d) := by have := per_mod hWn d k; rwa [Nat.add_comm d, Nat.add_comm d] at this
      rw [← e1, ← e2, h1]
    · intro h k _
      exact (h k).symm
  unfold m_period
  rw [hl]
  refine Wp.go (rng2M_eq (by decide) (by omega) (by decide) (by omega)) ?_
  have e0 : ((n : Int) + 1 - 1).toNat = n := by omega
  rw [e0]
  let B : Nat → Bool := fun d => decide (∀ k, k < n → W k = W (k + d))
  refine Wp.go (a := ((List.range n).filter fun k => B (k + 1)).map fun k => (1 : Int) + ((k : Nat) : Int)) ?_ ?_
  · rw [lcM_on, wp_lcM (fun k => if B (k + 1) = true then some ((1 : Int) + ((k : Nat) : Int)) else none)]
    · rw [← List.filterMap_eq_map, ← List.filterMap_eq_filter, List.filterMap_filterMap]
      congr 2
      funext k
      by_cases c : B (k + 1) = true
      · simp [c]
      · simp [c, Option.guard]
    · intro k hk
      refine Wp.eq (Wp.go (rngM_eq (by omega) (by omega)) ?_)
      rw [show ((n : Int)).toNat = n by omega]
      refine Wp.go (a := (List.range n).map fun j => decide (W j = W (j + (k + 1)))) ?_ ?_
      · rw [lcM_on, lcM_mapE (fun j => decide (W j = W (j + (k + 1))))]
        intro j hj
        have hj := List.mem_range.mp hj
        have h1 : ws[j]? = some (W j) := by have := hW j; rwa [Nat.mod_eq_of_lt hj] at this
        rw [atI_get h1]
        refine Wp.eq (Wp.go (modM_eq (by omega)) ?_)
        have em : ((j : Int) + (1 + (k : Int))) % (n : Int) = (((j + (k + 1)) % n : Nat) : Int) := by
          rw [Int.natCast_emod]
          congr 1
          omega
        rw [em, atI_get (hW (j + (k + 1)))]
        exact Wp.some rfl
      · have eb : ((List.range n).map fun j => decide (W j = W (j + (k + 1)))).all id = B (k + 1) := by
          rw [Bool.eq_iff_iff, List.all_map, List.all_eq_true]
          simp only [B, decide_eq_true_iff, List.mem_range, Function.comp, id]
        rw [eb]
        by_cases c : B (k + 1) = true
        · rw [if_pos c, if_pos c]
          exact Wp.some rfl
        · rw [if_neg c, if_neg c]
          exact Wp.some rfl
  · have hBn : B n = true := decide_eq_true ((fits n).mpr hWn)
    have hmem : n - 1 ∈ (List.range n).filter fun k => B (k + 1) := List.mem_filter.mpr ⟨List.mem_range.mpr (by omega), by rw [show n - 1 + 1 = n by omega]; exact hBn⟩
    have hpw : ((List.range n).filter fun k => B (k + 1)).Pairwise (· < ·) := List.Pairwise.filter _ List.pairwise_lt_range
    have hall : ∀ d, d ∈ (List.range n).filter (fun k => B (k + 1)) ↔ d < n ∧ B (d + 1) = true := fun d => by rw [List.mem_filter, List.mem_range]
    generalize (List.range n).filter (fun k => B (k + 1)) = fs at hmem hpw hall
    cases fs with
    | nil => cases hmem
    | cons q fs =>
      rw [List.map_cons]
      refine Wp.go at0 (Wp.some ⟨q + 1, by omega, ?_⟩)
      have hq := (hall q).mp List.mem_cons_self
      refine ⟨by omega, by omega, hWn, (fits _).mp (of_decide_eq_true hq.2), fun d h0 hd hh => ?_⟩
      have hdm : d - 1 ∈ q :: fs := (hall (d - 1)).mpr ⟨by omega, by rw [show d - 1 + 1 = d by omega]; exact decide_eq_true ((fits d).mpr hh)⟩
      rcases List.mem_cons.mp hdm with z | z
      · omega
      · have := List.rel_of_pairwise_cons hpw z
        omega
theorem words_of {ws : List Str} {n : Nat} (hl : ws.length = n) (hn : 0 < n) : ∃ W : Nat → Str, ∀ k, ws[k % n]? = some (W k) := by
  have : ∀ k, ∃ x, ws[k % n]? = some x := fun k => ⟨ws[k % n]'(by rw [hl]; exact Nat.mod_lt _ hn), by rw [List.getElem?_eq_getElem]⟩
  exact ⟨fun k => (this k).choose, fun k => (this k).choose_spec⟩
theorem fresh_wp {xs : List Str} (h : xs.length ≤ 16) : Wp (m_fresh xs) (fun y => IsName y ∧ y ∉ xs) := by
  unfold m_fresh
  have hy : charsM (Str.ofString "abcdefghijklmnopqrs") = some (chars (Str.ofString "abcdefghijklmnopqrs")) := charsM_eq (by decide +kernel)
  refine Wp.go hy ?_
  let ys : List Str := (chars (Str.ofString "abcdefghijklmnopqrs")).map fun a => Str.ofString "y" ++ a
  have hnames : ∀ y ∈ ys, 1 ≤ y.length ∧ y.length ≤ 8 ∧ ∀ c ∈ y.cps.toList, 97 ≤ c ∧ c ≤ 122 := by decide +kernel
  have hnd : ys.Nodup := by decide +kernel
  have hlen : ys.length = 19 := by decide +kernel
  refine Wp.go (a := ys) ?_ ?_
  · rw [lcM_mapE (fun a => Str.ofString "y" ++ a)]
    intro a ha
    have : ∀ a ∈ chars (Str.ofString "abcdefghijklmnopqrs"), (Str.ofString "y").length + a.length < 1000000 := by decide +kernel
    rw [addS_eq (this a ha)]
    rfl
  · have e : (ys.filterMap (fun (a43 : Str) => if (!decide (a43 ∈ xs)) = true then (some a43) else none)) = ys.filter fun a => !decide (a ∈ xs) := by
      rw [← List.filterMap_eq_filter]
      congr 1
    rw [e]
    obtain ⟨y, hy1, hy2⟩ : ∃ y ∈ ys, y ∉ xs := Classical.byContradiction fun no => by
      have := nd_le (m := xs) hnd fun z hz => Classical.byContradiction fun q => no ⟨z, hz, q⟩
      omega
    have hne : (ys.filter fun a => !decide (a ∈ xs)) ≠ [] := List.ne_nil_of_mem (List.mem_filter.mpr ⟨hy1, by simp [hy2]⟩)
    have hm : ∀ z ∈ ys.filter (fun a => !decide (a ∈ xs)), IsName z ∧ z ∉ xs := fun z hz => by
      obtain ⟨h1, h2⟩ := List.mem_filter.mp hz
      exact ⟨hnames z h1, by simpa using h2⟩
    generalize ys.filter (fun a => !decide (a ∈ xs)) = zs at hne hm
    cases zs with
    | nil => exact absurd rfl hne
    | cons z zs => exact Wp.go at0 (Wp.some (hm z List.mem_cons_self))
/-- the program of the law: a ring, and one that reads a place -/
structure RingP (ps : List Prc) (X W : Nat → Str) (n : Nat) (y : Str) : Prop where
  good : Good ps
  ring : Ring (bodyOf ps) X W n
  mem : ∀ k, X k ∈ nms ps
  other : ∀ z ∈ nms ps, z = y ∨ ∃ k, z = X k
  ny : ∀ k, X k ≠ y
  d : Str.ofString "d" ∈ places ps
theorem RingP.notbad {ps : List Prc} {X W : Nat → Str} {n : Nat} {y : Str} (h : RingP ps X W n y) {hurt : List Str} : ∀ z, Bad ps hurt [] z → ∀ k, z ≠ X k := by
  intro z hz
  have hr : Str.ofString "say" ≠ Str.ofString "read" := by decide +kernel
  induction hz with
  | @read x q h1 h2 h3 h4 =>
    intro k e
    subst e
    obtain ⟨kd, eb, k1, k2⟩ := h.ring.body k
    rw [eb] at h3
    simp only [List.mem_cons, Prod.mk.injEq, List.not_mem_nil, or_false] at h3
    rcases h3 with z | z
    · exact hr z.1.symm
    · exact k1 z.1.symm
  | @call x q h1 h2 h3 h4 ih =>
    intro k e
    subst e
    obtain ⟨kd, eb, k1, k2⟩ := h.ring.body k
    rw [eb] at h3
    simp only [List.mem_cons, Prod.mk.injEq, List.not_mem_nil, or_false] at h3
    rcases h3 with z | z
    · have : Str.ofString "call" ≠ Str.ofString "say" := by decide +kernel
      exact this z.1
    · exact ih (k + 1) z.2
theorem RingP.run {ps : List Prc} {X W : Nat → Str} {n p : Nat} {y : Str} (h : RingP ps X W n y) (hp : Per W n p) {hurt : List Str} (hl : hurt.length < 4000) (hh : ∀ z ∈ hurt, z ∈ places ps) (s : Nat) : m_plain_result (pgO ps) (X s) none hurt [] = some (tD (ringT W s p)) := by
  obtain ⟨bd, hbd, e⟩ := plain_result_eq h.good (h.mem s) (nums := none) (hurt := hurt) (safe := []) (by simp) hl (fun d z => by cases z) (fun z hz => by cases hz) hh (fun z => h.notbad _ z s rfl)
  rw [e]
  have en : nset [] = [] := by decide +kernel
  rw [en, ring_plain h.ring (fun k z => h.notbad _ ((hbd _).mp z) k rfl), hp.canon]
theorem rows_wp {W : Nat → Str} {ws : List Str} {n p s : Nat} (hn : 0 < n) (hp0 : 0 < p) (hp : p ≤ 1000) (hW : ∀ k, ws[k % n]? = some (W k)) :
    Wp ((rngM (p : Int)).bind fun x434 => (forL (fun (a441 : Int) (st442 : (List (List (List PyData)))) => (modM ((s : Int) + a441) (n : Int)).bind fun x465 =>
  (atI ws (((s : Int) + a441) % (n : Int))).bind fun x466 => (modM (a441 + (1 : Int)) (p : Int)).bind fun x474 =>
  (pushM st442 ([([(PyData.str (Str.ofString "word")), (PyData.str x466)] : (List PyData)), ([(PyData.str (Str.ofString "node")), (PyData.int ((a441 + (1 : Int)) % (p : Int)))] : (List PyData))] : (List (List PyData)))).bind fun x487 =>
  some x487) x434 ([] : (List (List (List PyData)))))) (fun t => t = tD (ringT W s p)) := by
  refine Wp.go (rngM_eq (by omega) (by omega)) ?_
  rw [show ((p : Int)).toNat = p by omega]
  refine (wp_forL (fun i t => t = tD ((ringT W s p).take i)) rfl ?_).mono ?_
  · rintro i a t ha rfl
    have hi := (List.getElem?_eq_some_iff.mp ha).1
    simp only [List.length_map, List.length_range] at hi
    have ea : a = (i : Int) := by
      rw [List.getElem?_map, List.getElem?_range hi] at ha
      simpa using ha.symm
    subst ea
    refine Wp.go (modM_eq (by omega)) ?_
    have em : ((s : Int) + (i : Int)) % (n : Int) = (((s + i) % n : Nat) : Int) := by rw [Int.natCast_emod]; rfl
    rw [em, atI_get (hW (s + i))]
    refine Wp.go (modM_eq (by omega)) ?_
    have em2 : ((i : Int) + 1) % (p : Int) = (((i + 1) % p : Nat) : Int) := by rw [Int.natCast_emod]; rfl
    rw [em2]
    refine Wp.go (pushM_eq (by rw [tD_len, List.length_take, ringT_len]; omega)) (Wp.some ?_)
    rw [take_next (ringT_get hi), tD_push]
    rfl
  · rintro t rfl
    have : ((List.range p).map fun k => ((k : Nat) : Int)).length = (ringT W s p).length := by simp [ringT_len]
    rw [this, List.take_length]
theorem ring_good {xs : List Str} {n : Nat} {y : Str} {a b : List Prc} {kd : Nat → Str} (hx : Names xs) (hxl : xs.length = n) (hn : 0 < n) (h8 : n ≤ 8) (hy : IsName y) (hyx : y ∉ xs) {X W : Nat → Str} (hX : ∀ k, xs[k % n]? = some (X k)) (hW : ∀ k, IsName (W k)) (hk : ∀ k, kd k = Str.ofString "call" ∨ kd k = Str.ofString "try")
    (hab : a ++ b = (List.range n).map fun k => (X k, [(Str.ofString "say", W k), (kd k, X (k + 1))])) (hWn : ∀ k, W (k + n) = W k) : RingP (a ++ [(y, [(Str.ofString "read", Str.ofString "d")])] ++ b) X W n y := by
  have hXn : ∀ k, X (k + n) = X k := fun k => by
    have h1 := hX (k + n)
    rw [Nat.add_mod_right, hX k] at h1
    exact (Option.some.inj h1).symm
  have hXm : ∀ k, X (k % n) = X k := fun k => by have := per_mod hXn 0 k; rwa [Nat.zero_add, Nat.zero_add] at this
  have hWm : ∀ k, W (k % n) = W k := fun k => by have := per_mod hWn 0 k; rwa [Nat.zero_add, Nat.zero_add] at this
  have hXx : ∀ k, X k ∈ xs := fun k => List.mem_of_getElem? (hX k)
  have hinj : ∀ i j, X i = X j → i % n = j % n := fun i j e => by
    have h1 := hX i
    have h2 := hX j
    rw [← e] at h2
    exact Sit.nodup_inj hx.1 h1 h2
  have hmem : ∀ p, p ∈ a ++ [(y, [(Str.ofString "read", Str.ofString "d")])] ++ b ↔ p = (y, [(Str.ofString "read", Str.ofString "d")]) ∨ ∃ k, k < n ∧ p = (X k, [(Str.ofString "say", W k), (kd k, X (k + 1))]) := fun p => by
    have h1 : p ∈ a ++ b ↔ ∃ k, k < n ∧ p = (X k, [(Str.ofString "say", W k), (kd k, X (k + 1))]) := by
      rw [hab, List.mem_map]
      exact ⟨fun ⟨k, h, e⟩ => ⟨k, List.mem_range.mp h, e.symm⟩, fun ⟨k, h, e⟩ => ⟨k, List.mem_range.mpr h, e.symm⟩⟩
    rw [← h1, List.mem_append, List.mem_append, List.mem_append, List.mem_singleton]
    constructor
    · rintro ((h | h) | h)
      · exact .inr (.inl h)
      · exact .inl h
      · exact .inr (.inr h)
    · rintro (h | h | h)
      · exact .inl (.inr h)
      · exact .inl (.inl h)
      · exact .inr h
  have hnm : ∀ z, z ∈ nms (a ++ [(y, [(Str.ofString "read", Str.ofString "d")])] ++ b) ↔ z = y ∨ ∃ k, k < n ∧ z = X k := fun z => by
    unfold nms
    rw [List.mem_map]
    constructor
    · rintro ⟨p, hp, rfl⟩
      rcases (hmem p).mp hp with rfl | ⟨k, h, rfl⟩
      · exact .inl rfl
      · exact .inr ⟨k, h, rfl⟩
    · rintro (rfl | ⟨k, h, rfl⟩)
      · exact ⟨_, (hmem _).mpr (.inl rfl), rfl⟩
      · exact ⟨_, (hmem _).mpr (.inr ⟨k, h, rfl⟩), rfl⟩
  have hXn' : ∀ k, X k ∈ nms (a ++ [(y, [(Str.ofString "read", Str.ofString "d")])] ++ b) := fun k => (hnm _).mpr (.inr ⟨k % n, Nat.mod_lt _ hn, (hXm k).symm⟩)
  have hlen : (a ++ [(y, [(Str.ofString "read", Str.ofString "d")])] ++ b).length = n + 1 := by
    have := congrArg List.length hab
    simp only [List.length_append, List.length_map, List.length_range] at this
    simp only [List.length_append, List.length_cons, List.length_nil]
    omega
  have hnd : (nms (a ++ [(y, [(Str.ofString "read", Str.ofString "d")])] ++ b)).Nodup := by
    have h1 : ((a ++ b).map Prod.fst).Nodup := by
      rw [hab, List.map_map]
      refine List.pairwise_map.mpr ((List.pairwise_lt_range (n := n)).imp_of_mem fun {i j} hi hj hij e => ?_)
      have hi := List.mem_range.mp hi
      have hj := List.mem_range.mp hj
      have := hinj i j e
      rw [Nat.mod_eq_of_lt hi, Nat.mod_eq_of_lt hj] at this
      omega
    have h2 : y ∉ (a ++ b).map Prod.fst := fun z => by
      rw [hab, List.map_map] at z
      obtain ⟨k, _, e⟩ := List.mem_map.mp z
      exact hyx (by rw [← e]; exact hXx k)
    unfold nms
    rw [List.map_append] at h1 h2
    rw [List.map_append, List.map_append, List.append_assoc, List.nodup_append]
    rw [List.nodup_append] at h1
    refine ⟨h1.1, ?_, fun u hu v hv => ?_⟩
    · rw [List.map_cons, List.map_nil, List.singleton_append, List.nodup_cons]
      exact ⟨fun z => h2 (List.mem_append_right _ z), h1.2.1⟩
    · rw [List.map_cons, List.map_nil, List.singleton_append] at hv
      rcases List.mem_cons.mp hv with z | z
      · rw [z]
        exact fun (e : u = y) => h2 (List.mem_append_left _ (by rw [← e]; exact hu))
      · exact h1.2.2 u hu v z
  have k1 : Str.ofString "say" ∈ kinds ∧ Str.ofString "read" ∈ kinds ∧ Str.ofString "call" ∈ kinds ∧ Str.ofString "try" ∈ kinds ∧ Str.ofString "say" ∉ calls ∧ Str.ofString "read" ∉ calls := by decide +kernel
  have hd : IsName (Str.ofString "d") := ⟨by decide +kernel, by decide +kernel, by decide +kernel⟩
  have hrd : ∀ z ∈ reads (a ++ [(y, [(Str.ofString "read", Str.ofString "d")])] ++ b), z = Str.ofString "d" := fun z hz => by
    obtain ⟨p, hp, s, hs, e⟩ := mem_reads.mp hz
    unfold rdOf at e
    by_cases c : s.1 = ("read" : Str)
    · rw [if_pos c] at e
      cases e
      rcases (hmem p).mp hp with rfl | ⟨k, h, rfl⟩
      · simp only [List.mem_cons, List.not_mem_nil, or_false] at hs
        rw [hs]
      · exfalso
        simp only [List.mem_cons, List.not_mem_nil, or_false] at hs
        have n1 : Str.ofString "say" ≠ Str.ofString "read" ∧ Str.ofString "call" ≠ Str.ofString "read" ∧ Str.ofString "try" ≠ Str.ofString "read" := by decide +kernel
        rcases hs with rfl | rfl
        · exact n1.1 c
        · rcases hk k with z | z
          · exact n1.2.1 (z ▸ c)
          · exact n1.2.2 (z ▸ c)
    · rw [if_neg c] at e; cases e
  have good : Good (a ++ [(y, [(Str.ofString "read", Str.ofString "d")])] ++ b) := by
    refine ⟨by omega, by omega, hnd, fun p hp => ?_, fun p hp => ?_, fun p hp s hs => ?_, ?_⟩
    · rcases (hmem p).mp hp with rfl | ⟨k, h, rfl⟩
      · exact hy
      · exact hx.2 _ (hXx k)
    · rcases (hmem p).mp hp with rfl | ⟨k, h, rfl⟩ <;> simp
    · rcases (hmem p).mp hp with rfl | ⟨k, h, rfl⟩
      · simp only [List.mem_cons, List.not_mem_nil, or_false] at hs
        rw [hs]
        exact ⟨k1.2.1, hd, fun z => absurd z k1.2.2.2.2.2⟩
      · simp only [List.mem_cons, List.not_mem_nil, or_false] at hs
        rcases hs with rfl | rfl
        · exact ⟨k1.1, hW k, fun z => absurd z k1.2.2.2.2.1⟩
        · refine ⟨?_, hx.2 _ (hXx (k + 1)), fun _ => hXn' (k + 1)⟩
          rcases hk k with z | z <;> simp only [z]
          · exact k1.2.2.1
          · exact k1.2.2.2.1
    · have := nodup_le (addAll_nodup (reads (a ++ [(y, [(Str.ofString "read", Str.ofString "d")])] ++ b))) (ys := [Str.ofString "d"]) fun z hz => by rw [hrd z (mem_addAll.mp hz)]; simp
      simp only [List.length_cons, List.length_nil] at this
      omega
  have hbody : ∀ p, p ∈ a ++ [(y, [(Str.ofString "read", Str.ofString "d")])] ++ b → bodyOf (a ++ [(y, [(Str.ofString "read", Str.ofString "d")])] ++ b) p.1 = p.2 := fun p hp => by
    unfold bodyOf
    rw [dGet_mem hnd hp]
    rfl
  refine ⟨good, ⟨hn, by omega, hinj, hXn, fun k => ⟨kd (k % n), ?_, ?_⟩⟩, hXn', fun z hz => ?_, fun k e => hyx (by rw [← e]; exact hXx k), ?_⟩
  · have hb := hbody _ ((hmem _).mpr (.inr ⟨k % n, Nat.mod_lt _ hn, rfl⟩))
    simp only at hb
    rw [hXm, hWm] at hb
    rw [hb]
    have : X (k % n + 1) = X (k + 1) := by
      have := per_mod hXn 1 k
      rw [Nat.add_comm 1, Nat.add_comm 1] at this
      exact this
    rw [this]
  · have n1 : Str.ofString "call" ≠ Str.ofString "read" ∧ Str.ofString "try" ≠ Str.ofString "read" ∧ Str.ofString "call" ≠ Str.ofString "say" ∧ Str.ofString "try" ≠ Str.ofString "say" := by decide +kernel
    rcases hk (k % n) with z | z <;> rw [z]
    · exact ⟨n1.1, n1.2.2.1⟩
    · exact ⟨n1.2.1, n1.2.2.2⟩
  · rcases (hnm z).mp hz with h | ⟨k, _, h⟩
    · exact .inl h
    · exact .inr ⟨k, h⟩
  · unfold places
    rw [mem_nset, mem_reads]
    exact ⟨_, (hmem _).mpr (.inl rfl), _, List.mem_cons_self, by unfold rdOf; rw [if_pos rfl]⟩
theorem draw_words {s : Src3} {n : Int} {m : Nat} {st : List Str} (ok : s.ok n) (hn : n + 100 < 1000000000) (hm : m ≤ 50) (hs : st.length = 2) (hN : ∀ x ∈ st, IsName x) :
    Wp ((rngM (m : Int)).bind fun x153 => lcS (fun (a158 : Int) (st172 : Src3) => (m_draw (st172) ((2 : Int))).bind fun r175 => (atI st r175.1).bind fun x185 => some ((some x185), r175.2)) x153 s) (fun r => r.1.length = m ∧ (∀ x ∈ r.1, IsName x) ∧ r.2.ok (n + 100)) := by
  refine Wp.go (rngM_eq (by omega) (by omega)) ?_
  rw [show ((m : Int)).toNat = m by omega]
  refine (wp_lcS (fun i ys s' => ys.length = i ∧ (∀ x ∈ ys, IsName x) ∧ s'.ok (n + i)) ⟨rfl, by simp, by simpa using ok⟩ ?_).mono ?_
  · rintro i a ys s' ha ⟨h1, h2, ok1⟩
    have hi := (List.getElem?_eq_some_iff.mp ha).1
    simp only [List.length_map, List.length_range] at hi
    refine (wp_draw ok1 (by omega) (by decide) (by decide)).bind fun u hu => ?_
    refine (wp_atM (P := fun x => IsName x) hu.1 (by rw [hs]; exact hu.2.1) hN).bind fun z hz => Wp.some ⟨by simp [h1], fun x hx => ?_, hu.2.2.le (by push_cast; omega)⟩
    rcases List.mem_append.mp hx with q | q
    · exact h2 x q
    · simp only [Option.toList, List.mem_singleton] at q
      rw [q]; exact hz
  · rintro ⟨ys, s'⟩ ⟨h1, h2, h3⟩
    simp only [List.length_map, List.length_range] at h1 h3
    exact ⟨h1, h2, h3.le (by omega)⟩
theorem law_pure : ∀ s : Src3, s.ok 0 → m_law s = some true := by
  intro s ok
  refine Wp.eq ?_
  unfold m_law
  refine (wp_draw ok (by decide) (by decide) (by decide)).bind fun r hr => ?_
  obtain ⟨r0, r1, ok1⟩ := hr
  obtain ⟨n, hn⟩ : ∃ n : Nat, (1 : Int) + r.1 = (n : Int) := ⟨(1 + r.1).toNat, by omega⟩
  have hn0 : 0 < n := by omega
  have hn8 : n ≤ 8 := by omega
  rw [hn]
  refine (names_wp ok1 (by omega) (by omega) (by omega)).bind fun u hu => ?_
  obtain ⟨xs, s1⟩ := u
  obtain ⟨hN, hNl, ok2⟩ := hu
  simp only at hN hNl ok2 ⊢
  have hxl : xs.length = n := by omega
  refine (names_wp ok2 (by decide) (by decide) (by omega)).bind fun u hu => ?_
  obtain ⟨st, s2⟩ := u
  obtain ⟨hM, hMl, ok3⟩ := hu
  simp only at hM hMl ok3 ⊢
  have hst : st.length = 2 := by omega
  refine (wp_draw ok3 (by omega) (by decide) (by decide)).bind fun v hv => ?_
  obtain ⟨v0, v1, ok4⟩ := hv
  obtain ⟨m, hm⟩ : ∃ m : Nat, (1 : Int) + v.1 = (m : Int) := ⟨(1 + v.1).toNat, by omega⟩
  rw [hm]
  have hd1 := draw_words (m := m) ok4 (by omega) (by omega) hst hM.2
  obtain ⟨w1, e1, hw1l, hw1n, ok5⟩ := hd1
  obtain ⟨x43, e43, e1⟩ := bs e1
  refine Wp.go e43 (Wp.go e1 ?_)
  obtain ⟨w1, s3⟩ := w1
  simp only at hw1l hw1n ok5 ⊢
  obtain ⟨W1, hW1⟩ := words_of hw1l (show 0 < m by omega)
  refine Wp.go (rngM_eq (i := (n : Int)) (by omega) (by omega)) ?_
  rw [show ((n : Int)).toNat = n by omega]
  refine Wp.go (a := (List.range n).map W1) ?_ ?_
  · rw [lcM_on, lcM_mapE W1]
    intro k hk
    refine Wp.eq (Wp.go (modM_eq (by rw [hw1l]; omega)) ?_)
    rw [hw1l, show ((k : Int)) % (m : Int) = ((k % m : Nat) : Int) by rw [Int.natCast_emod], atI_get (hW1 k)]
    exact Wp.some rfl
  refine Wp.bind (P := fun j => j.1.length = n ∧ (∀ x ∈ j.1, IsName x) ∧ j.2.ok 10000) ?_ ?_
  · refine (wp_draw ok5 (by omega) (by decide) (by decide)).bind fun q hq => ?_
    refine Wp.ite (fun c => ?_) (fun c => Wp.some ⟨by simp, fun x hx => ?_, hq.2.2.le (by omega)⟩)
    · have hd2 := draw_words (m := n) hq.2.2 (by omega) (by omega) hst hM.2
      obtain ⟨w2, e2, hw2l, hw2n, ok6⟩ := hd2
      obtain ⟨x44, e44, e2⟩ := bs e2
      rw [rngM_eq (by omega) (by omega)] at e44
      refine Wp.go (rngM_eq (by omega) (by omega)) ?_
      rw [Option.some.inj e44]
      exact Wp.go e2 (Wp.some ⟨hw2l, hw2n, ok6.le (by omega)⟩)
    · simp only at hx
      obtain ⟨k, _, rfl⟩ := List.mem_map.mp hx
      exact hw1n _ (List.mem_of_getElem? (hW1 k))
  rintro ⟨ws, s4⟩ ⟨hwl, hwn, ok6⟩
  simp only at hwl hwn ok6 ⊢
  obtain ⟨W, hW⟩ := words_of hwl hn0
  obtain ⟨X, hX⟩ := words_of hxl hn0
  have hWn : ∀ k, IsName (W k) := fun k => hwn _ (List.mem_of_getElem? (hW k))
  refine Wp.go (rngM_eq (i := (n : Int)) (by omega) (by omega)) ?_
  rw [show ((n : Int)).toNat = n by omega]
  refine Wp.bind (P := fun z => ∃ kd : Nat → Str, (∀ k, kd k = Str.ofString "call" ∨ kd k = Str.ofString "try") ∧ z.1 = ((List.range n).map fun k => (X k, [(Str.ofString "say", W k), (kd k, X (k + 1))])) ∧ z.2.ok 20000) ((wp_forL (fun i (z : List (Str × List (Str × Str)) × Src3) => ∃ kd : Nat → Str, (∀ k, kd k = Str.ofString "call" ∨ kd k = Str.ofString "try") ∧ z.1 = ((List.range i).map fun k => (X k, [(Str.ofString "say", W k), (kd k, X (k + 1))])) ∧ z.2.ok (10000 + i)) ⟨fun _ => Str.ofString "call", fun _ => .inl rfl, rfl, by simpa using ok6⟩ ?_).mono ?_) ?_
  · rintro i a ⟨zs, s5⟩ ha ⟨kd, hkd, e, ok7⟩
    simp only at e ok7 ⊢
    subst e
    have hi := (List.getElem?_eq_some_iff.mp ha).1
    simp only [List.length_map, List.length_range] at hi
    have ea : a = (i : Int) := by
      rw [List.getElem?_map, List.getElem?_range hi] at ha
      simpa using ha.symm
    subst ea
    refine (wp_draw ok7 (by omega) (by decide) (by decide)).bind fun q hq => ?_
    refine (wp_atM (xs := [Str.ofString "call", Str.ofString "try"]) (P := fun x => x = Str.ofString "call" ∨ x = Str.ofString "try") hq.1 (by exact hq.2.1) (by simp)).bind fun kk hkk => ?_
    have g1 := hX i
    have g2 := hW i
    rw [Nat.mod_eq_of_lt hi] at g1 g2
    rw [atI_get g1, atI_get g2]
    refine Wp.go (modM_eq (by omega)) ?_
    rw [show ((i : Int) + 1) % (n : Int) = (((i + 1) % n : Nat) : Int) by rw [Int.natCast_emod]; rfl, atI_get (hX (i + 1))]
    refine Wp.go (pushM_eq (by simp; omega)) (Wp.some ⟨fun k => if k = i then kk else kd k, fun k => ?_, ?_, hq.2.2.le (by push_cast; omega)⟩)
    · by_cases c : k = i
      · simp only [c, if_true]; exact hkk
      · simp only [c, if_false]; exact hkd k
    · simp only
      rw [List.range_succ, List.map_append, List.map_singleton]
      congr 1
      · refine List.map_congr_left fun k hk => ?_
        have := List.mem_range.mp hk
        rw [if_neg (by omega)]
      · simp
  · rintro ⟨zs, s5⟩ ⟨kd, h1, h2, h3⟩
    simp only [List.length_map, List.length_range] at h2 h3
    exact ⟨kd, h1, h2, h3.le (by omega)⟩
  rintro ⟨zs, s5⟩ ⟨kd, hkd, e, ok7⟩
  simp only at e ok7 ⊢
  subst e
  refine (wp_draw ok7 (by omega) (by omega) (by omega)).bind fun q hq => ?_
  obtain ⟨q0, q1, _⟩ := hq
  refine (fresh_wp (by omega)).bind fun y hy => ?_
  refine Wp.go (insM_eq q0 (by omega) (by simp; omega)) ?_
  have hWp : ∀ k, W (k + n) = W k := fun k => by
    have h1 := hW (k + n)
    rw [Nat.add_mod_right, hW k] at h1
    exact (Option.some.inj h1).symm
  have R := ring_good (a := ((List.range n).map fun k => (X k, [(Str.ofString "say", W k), (kd k, X (k + 1))])).take q.1.toNat) (b := ((List.range n).map fun k => (X k, [(Str.ofString "say", W k), (kd k, X (k + 1))])).drop q.1.toNat) hN hxl hn0 hn8 hy.1 hy.2 hX hWn hkd (List.take_append_drop _ _) hWp
  generalize ((List.range n).map fun k => (X k, [(Str.ofString "say", W k), (kd k, X (k + 1))])).take q.1.toNat ++ [(y, [(Str.ofString "read", Str.ofString "d")])] ++ ((List.range n).map fun k => (X k, [(Str.ofString "say", W k), (kd k, X (k + 1))])).drop q.1.toNat = ps at R
  refine Wp.go (pinit R.good) ?_
  refine (period_wp hwl hn0 (by omega) hW).bind fun p hp => ?_
  obtain ⟨p, rfl, hP⟩ := hp
  have hp8 := hP.le
  have hp0 := hP.pos
  refine Wp.go (rngM_eq (i := (n : Int)) (by omega) (by omega)) ?_
  rw [show ((n : Int)).toNat = n by omega]
  refine Wp.bind (P := fun c => c = .nx ()) (wp_forC (fun _ _ => True) trivial ?_ fun _ _ => rfl) fun c hc => ?_
  · rintro i a _ ha _
    have hi := (List.getElem?_eq_some_iff.mp ha).1
    simp only [List.length_map, List.length_range] at hi
    have ea : a = (i : Int) := by
      rw [List.getElem?_map, List.getElem?_range hi] at ha
      simpa using ha.symm
    subst ea
    obtain ⟨t, et, rfl⟩ := rows_wp (W := W) (ws := ws) (s := i) (n := n) (p := p) hn0 hp0 (by omega) hW
    obtain ⟨x9, e9, et⟩ := bs et
    refine Wp.go e9 (Wp.go et ?_)
    have g1 := hX i
    rw [Nat.mod_eq_of_lt hi] at g1
    have hg := ringT_good (s := i) hp0 hWn
    rw [atI_get g1]
    refine Wp.go (R.run hP (by simp) (by simp) i) (Wp.go (rows_eq _) (Wp.go (tbl_eqD hg hg) (Wp.no (by simp) ?_)))
    rw [atI_get g1]
    refine Wp.go (R.run hP (by simp) (fun z hz => by rw [List.mem_singleton.mp hz]; exact R.d) i) (Wp.go (rows_eq _) (Wp.go (tbl_eqD hg hg) (Wp.no (by simp) (Wp.some trivial))))
  subst hc
  exact Wp.some rfl
end Mm
namespace Mm
open PySem L2 Mf
theorem all_mk {l : PySem.W.OpenLaw} {w : World} {K : PySem.W.Frag} {h : Heap} {mg : Str → Option Value} {fa : Addr} (X : K.In h) (G : h.Ns mainGlobals mg) (hfa : mg "law" = some (.ref fa))
    {t_BEYOND : Tok}
    {A_HARD_CALLS : Addr} {dd_HARD_CALLS : Option Addr} {nn_HARD_CALLS : Nat} {ss_HARD_CALLS : Array (Option Value)} {tk0_HARD_CALLS : Tok}
    {A_KINDS : Addr} {dd_KINDS : Option Addr} {nn_KINDS : Nat} {ss_KINDS : Array (Option Value)} {tk0_KINDS tk1_KINDS tk2_KINDS tk3_KINDS : Tok}
    {t_LETTERS : Tok}
    {t_MOST_ITEMS : Tok}
    {t_MOST_PROCEDURES : Tok}
    {t_MOST_ROWS : Tok}
    {t_MOST_STEPS : Tok}
    {C_Program : Addr}
    {C_NameSet : Addr}
    {C_Result : Addr}
    {f_source : Addr} {od_source an_source : Option Addr} {sl_source : Array (Option Value)} {oc_source kV_source dc_source pm_source cd_source ct_source : Value}
    {f_draw : Addr} {od_draw an_draw : Option Addr} {sl_draw : Array (Option Value)} {oc_draw kV_draw dc_draw pm_draw cd_draw ct_draw : Value}
    {f_name : Addr} {od_name an_name : Option Addr} {sl_name : Array (Option Value)} {oc_name kV_name dc_name pm_name cd_name ct_name : Value}
    {f_names : Addr} {od_names an_names : Option Addr} {sl_names : Array (Option Value)} {oc_names kV_names dc_names pm_names cd_names ct_names : Value}
    {f_is_name : Addr} {od_is_name an_is_name : Option Addr} {sl_is_name : Array (Option Value)} {oc_is_name kV_is_name dc_is_name pm_is_name cd_is_name ct_is_name : Value}
    {f_is_step : Addr} {od_is_step an_is_step : Option Addr} {sl_is_step : Array (Option Value)} {oc_is_step kV_is_step dc_is_step pm_is_step cd_is_step ct_is_step : Value}
    {f_invalid_line : Addr} {od_invalid_line an_invalid_line : Option Addr} {sl_invalid_line : Array (Option Value)} {oc_invalid_line kV_invalid_line dc_invalid_line pm_invalid_line cd_invalid_line ct_invalid_line : Value}
    {f_Program___getitem__ : Addr} {od_Program___getitem__ an_Program___getitem__ : Option Addr} {sl_Program___getitem__ : Array (Option Value)} {oc_Program___getitem__ kV_Program___getitem__ dc_Program___getitem__ pm_Program___getitem__ cd_Program___getitem__ ct_Program___getitem__ : Value}
    {f_Program___init__ : Addr} {od_Program___init__ an_Program___init__ : Option Addr} {sl_Program___init__ : Array (Option Value)} {oc_Program___init__ kV_Program___init__ dc_Program___init__ pm_Program___init__ cd_Program___init__ ct_Program___init__ : Value}
    {f_NameSet___init__ : Addr} {od_NameSet___init__ an_NameSet___init__ : Option Addr} {sl_NameSet___init__ : Array (Option Value)} {oc_NameSet___init__ kV_NameSet___init__ dc_NameSet___init__ pm_NameSet___init__ cd_NameSet___init__ ct_NameSet___init__ : Value}
    {T1_NameSet___init__ : Addr} {d1_NameSet___init__ : Option Addr} {s1_NameSet___init__ : Array (Option Value)} {n1_NameSet___init__ : Nat}
    {T_NameSet___init__ : Addr} {td_NameSet___init__ : Option Addr} {tc_NameSet___init__ : Value} {ts_NameSet___init__ : Array (Option Value)} {n_NameSet___init__ : Nat}
    {f_least_unknown : Addr} {od_least_unknown an_least_unknown : Option Addr} {sl_least_unknown : Array (Option Value)} {oc_least_unknown kV_least_unknown dc_least_unknown pm_least_unknown cd_least_unknown ct_least_unknown : Value}
    {f_check_procedures : Addr} {od_check_procedures an_check_procedures : Option Addr} {sl_check_procedures : Array (Option Value)} {oc_check_procedures kV_check_procedures dc_check_procedures pm_check_procedures cd_check_procedures ct_check_procedures : Value}
    {f_check_places : Addr} {od_check_places an_check_places : Option Addr} {sl_check_places : Array (Option Value)} {oc_check_places kV_check_places dc_check_places pm_check_places cd_check_places ct_check_places : Value}
    {f_callees : Addr} {od_callees an_callees : Option Addr} {sl_callees : Array (Option Value)} {oc_callees kV_callees dc_callees pm_callees cd_callees ct_callees : Value}
    {f_spread : Addr} {od_spread an_spread : Option Addr} {sl_spread : Array (Option Value)} {oc_spread kV_spread dc_spread pm_spread cd_spread ct_spread : Value}
    {T3_spread : Addr} {d3_spread : Option Addr} {s3_spread : Array (Option Value)} {n3_spread : Nat}
    {T_spread : Addr} {td_spread : Option Addr} {tc_spread : Value} {ts_spread : Array (Option Value)} {n_spread : Nat}
    {f_places_read : Addr} {od_places_read an_places_read : Option Addr} {sl_places_read : Array (Option Value)} {oc_places_read kV_places_read dc_places_read pm_places_read cd_places_read ct_places_read : Value}
    {f_is_number : Addr} {od_is_number an_is_number : Option Addr} {sl_is_number : Array (Option Value)} {oc_is_number kV_is_number dc_is_number pm_is_number cd_is_number ct_is_number : Value}
    {f_is_item : Addr} {od_is_item an_is_item : Option Addr} {sl_is_item : Array (Option Value)} {oc_is_item kV_is_item dc_is_item pm_is_item cd_is_item ct_is_item : Value}
    {f_check_rows : Addr} {od_check_rows an_check_rows : Option Addr} {sl_check_rows : Array (Option Value)} {oc_check_rows kV_check_rows dc_check_rows pm_check_rows cd_check_rows ct_check_rows : Value}
    {f_row_shape : Addr} {od_row_shape an_row_shape : Option Addr} {sl_row_shape : Array (Option Value)} {oc_row_shape kV_row_shape dc_row_shape pm_row_shape cd_row_shape ct_row_shape : Value}
    {f_classes_of : Addr} {od_classes_of an_classes_of : Option Addr} {sl_classes_of : Array (Option Value)} {oc_classes_of kV_classes_of dc_classes_of pm_classes_of cd_classes_of ct_classes_of : Value}
    {f_canonical_rows : Addr} {od_canonical_rows an_canonical_rows : Option Addr} {sl_canonical_rows : Array (Option Value)} {oc_canonical_rows kV_canonical_rows dc_canonical_rows pm_canonical_rows cd_canonical_rows ct_canonical_rows : Value}
    {f_Result___init__ : Addr} {od_Result___init__ an_Result___init__ : Option Addr} {sl_Result___init__ : Array (Option Value)} {oc_Result___init__ kV_Result___init__ dc_Result___init__ pm_Result___init__ cd_Result___init__ ct_Result___init__ : Value}
    {f_Result_rows : Addr} {od_Result_rows an_Result_rows : Option Addr} {sl_Result_rows : Array (Option Value)} {oc_Result_rows kV_Result_rows dc_Result_rows pm_Result_rows cd_Result_rows ct_Result_rows : Value}
    {f_make_result : Addr} {od_make_result an_make_result : Option Addr} {sl_make_result : Array (Option Value)} {oc_make_result kV_make_result dc_make_result pm_make_result cd_make_result ct_make_result : Value}
    {iv1_make_result : Tok}
    {T_make_result : Addr} {td_make_result : Option Addr} {tc_make_result : Value} {ts_make_result : Array (Option Value)} {n_make_result : Nat}
    {f_bad_procedures : Addr} {od_bad_procedures an_bad_procedures : Option Addr} {sl_bad_procedures : Array (Option Value)} {oc_bad_procedures kV_bad_procedures dc_bad_procedures pm_bad_procedures cd_bad_procedures ct_bad_procedures : Value}
    {f_failing_path : Addr} {od_failing_path an_failing_path : Option Addr} {sl_failing_path : Array (Option Value)} {oc_failing_path kV_failing_path dc_failing_path pm_failing_path cd_failing_path ct_failing_path : Value}
    {f_plain_rows : Addr} {od_plain_rows an_plain_rows : Option Addr} {sl_plain_rows : Array (Option Value)} {oc_plain_rows kV_plain_rows dc_plain_rows pm_plain_rows cd_plain_rows ct_plain_rows : Value}
    {f_plain_result : Addr} {od_plain_result an_plain_result : Option Addr} {sl_plain_result : Array (Option Value)} {oc_plain_result dc_plain_result pm_plain_result cd_plain_result ct_plain_result : Value}
    {T3_plain_result : Addr} {d3_plain_result : Option Addr} {s3_plain_result : Array (Option Value)} {n3_plain_result : Nat}
    {T4_plain_result : Addr} {d4_plain_result : Option Addr} {s4_plain_result : Array (Option Value)} {n4_plain_result : Nat}
    {KD_plain_result : Addr}
    {f_fresh : Addr} {od_fresh an_fresh : Option Addr} {sl_fresh : Array (Option Value)} {oc_fresh kV_fresh dc_fresh pm_fresh cd_fresh ct_fresh : Value}
    {f_period : Addr} {od_period an_period : Option Addr} {sl_period : Array (Option Value)} {oc_period kV_period dc_period pm_period cd_period ct_period : Value}
    {f_law : Addr} {od_law an_law : Option Addr} {sl_law : Array (Option Value)} {oc_law kV_law dc_law pm_law cd_law ct_law : Value}
    (z_all : PySem.W.nsIn K mainGlobals "all" = some none)
    (z_any : PySem.W.nsIn K mainGlobals "any" = some none)
    (z_bool : PySem.W.nsIn K mainGlobals "bool" = some none)
    (z_dict : PySem.W.nsIn K mainGlobals "dict" = some none)
    (z_enumerate : PySem.W.nsIn K mainGlobals "enumerate" = some none)
    (z_int : PySem.W.nsIn K mainGlobals "int" = some none)
    (z_isinstance : PySem.W.nsIn K mainGlobals "isinstance" = some none)
    (z_len : PySem.W.nsIn K mainGlobals "len" = some none)
    (z_list : PySem.W.nsIn K mainGlobals "list" = some none)
    (z_range : PySem.W.nsIn K mainGlobals "range" = some none)
    (z_sorted : PySem.W.nsIn K mainGlobals "sorted" = some none)
    (z_str : PySem.W.nsIn K mainGlobals "str" = some none)
    (z_tuple : PySem.W.nsIn K mainGlobals "tuple" = some none)
    (ga_BEYOND : PySem.W.nsIn K mainGlobals "BEYOND" = some (some (.int 1000000000000000000000000000000000000000000000000000000000000 t_BEYOND)))
    (ga_HARD_CALLS : PySem.W.nsIn K mainGlobals "HARD_CALLS" = some (some (.ref A_HARD_CALLS)))
    (gl_HARD_CALLS : K.lookup A_HARD_CALLS = some ⟨.type "tuple", dd_HARD_CALLS, .seq [Value.str (Str.ofString "call") tk0_HARD_CALLS].toArray nn_HARD_CALLS, ss_HARD_CALLS⟩)
    (ga_KINDS : PySem.W.nsIn K mainGlobals "KINDS" = some (some (.ref A_KINDS)))
    (gl_KINDS : K.lookup A_KINDS = some ⟨.type "tuple", dd_KINDS, .seq [Value.str (Str.ofString "read") tk0_KINDS, Value.str (Str.ofString "say") tk1_KINDS, Value.str (Str.ofString "call") tk2_KINDS, Value.str (Str.ofString "try") tk3_KINDS].toArray nn_KINDS, ss_KINDS⟩)
    (ga_LETTERS : PySem.W.nsIn K mainGlobals "LETTERS" = some (some (.str "abcdefghijklmnopqrstuvwxyz" t_LETTERS)))
    (ga_MOST_ITEMS : PySem.W.nsIn K mainGlobals "MOST_ITEMS" = some (some (.int 12 t_MOST_ITEMS)))
    (ga_MOST_PROCEDURES : PySem.W.nsIn K mainGlobals "MOST_PROCEDURES" = some (some (.int 16 t_MOST_PROCEDURES)))
    (ga_MOST_ROWS : PySem.W.nsIn K mainGlobals "MOST_ROWS" = some (some (.int 40 t_MOST_ROWS)))
    (ga_MOST_STEPS : PySem.W.nsIn K mainGlobals "MOST_STEPS" = some (some (.int 12 t_MOST_STEPS)))
    (cA_Program : PySem.W.nsIn K mainGlobals "Program" = some (some (.ref C_Program)))
    (pg_Program : PySem.W.plainGet K C_Program Str.empty = true)
    (hd_Program : PySem.W.hasDictIn K C_Program = true)
    (po_Program : PySem.W.plainOver K C_Program = true)
    (sa_Program : PySem.W.findIn K (.ref C_Program) "__setattr__" = some (some (.builtin "object.__setattr__")))
    (ha_Program : PySem.W.findIn K (.ref C_Program) "__class__" = some (some (.builtin "object.__class__")))
    (hn_Program : PySem.W.specialIn K (.builtin "object.__class__") "__get__" = some (some (.builtin "getset_descriptor.__get__")))
    (ht_Program : PySem.W.takesIn K (.builtin "object.__class__") = some true)
    (hm_Program : PySem.W.mroIn K C_Program (.type "object") = some true)
    (sf_Program : PySem.W.selfFirst K C_Program = true)
    (ne_Program : PySem.W.findIn K (.ref C_Program) "__ne__" = some (some (.builtin "object.__ne__")))
    (cA_NameSet : PySem.W.nsIn K mainGlobals "NameSet" = some (some (.ref C_NameSet)))
    (pg_NameSet : PySem.W.plainGet K C_NameSet Str.empty = true)
    (hd_NameSet : PySem.W.hasDictIn K C_NameSet = true)
    (po_NameSet : PySem.W.plainOver K C_NameSet = true)
    (sa_NameSet : PySem.W.findIn K (.ref C_NameSet) "__setattr__" = some (some (.builtin "object.__setattr__")))
    (ha_NameSet : PySem.W.findIn K (.ref C_NameSet) "__class__" = some (some (.builtin "object.__class__")))
    (hn_NameSet : PySem.W.specialIn K (.builtin "object.__class__") "__get__" = some (some (.builtin "getset_descriptor.__get__")))
    (ht_NameSet : PySem.W.takesIn K (.builtin "object.__class__") = some true)
    (hm_NameSet : PySem.W.mroIn K C_NameSet (.type "object") = some true)
    (sf_NameSet : PySem.W.selfFirst K C_NameSet = true)
    (ne_NameSet : PySem.W.findIn K (.ref C_NameSet) "__ne__" = some (some (.builtin "object.__ne__")))
    (cA_Result : PySem.W.nsIn K mainGlobals "Result" = some (some (.ref C_Result)))
    (pg_Result : PySem.W.plainGet K C_Result Str.empty = true)
    (hd_Result : PySem.W.hasDictIn K C_Result = true)
    (po_Result : PySem.W.plainOver K C_Result = true)
    (sa_Result : PySem.W.findIn K (.ref C_Result) "__setattr__" = some (some (.builtin "object.__setattr__")))
    (ha_Result : PySem.W.findIn K (.ref C_Result) "__class__" = some (some (.builtin "object.__class__")))
    (hn_Result : PySem.W.specialIn K (.builtin "object.__class__") "__get__" = some (some (.builtin "getset_descriptor.__get__")))
    (ht_Result : PySem.W.takesIn K (.builtin "object.__class__") = some true)
    (hm_Result : PySem.W.mroIn K C_Result (.type "object") = some true)
    (sf_Result : PySem.W.selfFirst K C_Result = true)
    (ne_Result : PySem.W.findIn K (.ref C_Result) "__ne__" = some (some (.builtin "object.__ne__")))
    (nA_NameSet_members : PySem.W.findIn K (.ref C_NameSet) "members" = some none)
    (nA_Program_bodies : PySem.W.findIn K (.ref C_Program) "bodies" = some none)
    (nA_Program_names : PySem.W.findIn K (.ref C_Program) "names" = some none)
    (nA_Program_places : PySem.W.findIn K (.ref C_Program) "places" = some none)
    (nA_Result_table : PySem.W.findIn K (.ref C_Result) "table" = some none)
    (ci_NameSet : PySem.W.isClsIn K C_NameSet = true)
    (ty_NameSet : PySem.W.typeIn K (.ref C_NameSet) = some (.type "type"))
    (nf_list_NameSet : PySem.W.notFirst K C_NameSet (.type "list") = true)
    (nf_tuple_NameSet : PySem.W.notFirst K C_NameSet (.type "tuple") = true)
    (a_source : PySem.W.nsIn K mainGlobals "_law_source" = some (some (.ref f_source)))
    (l_source : K.lookup f_source = some ⟨oc_source, od_source, .func (PySem.W.fnOf "_law_source" "_law_source" (defArgs s_source) (defBody s_source) (defScope s_source) .none kV_source dc_source pm_source an_source cd_source ct_source), sl_source⟩)
    (c_source : PySem.W.codeIn K cd_source "_law_source" = true)
    (k_source : PySem.W.keepIn K (.ref f_source) = true)
    (a_draw : PySem.W.nsIn K mainGlobals "_law_draw" = some (some (.ref f_draw)))
    (l_draw : K.lookup f_draw = some ⟨oc_draw, od_draw, .func (PySem.W.fnOf "_law_draw" "_law_draw" (defArgs s_draw) (defBody s_draw) (defScope s_draw) .none kV_draw dc_draw pm_draw an_draw cd_draw ct_draw), sl_draw⟩)
    (c_draw : PySem.W.codeIn K cd_draw "_law_draw" = true)
    (k_draw : PySem.W.keepIn K (.ref f_draw) = true)
    (a_name : PySem.W.nsIn K mainGlobals "_law_name" = some (some (.ref f_name)))
    (l_name : K.lookup f_name = some ⟨oc_name, od_name, .func (PySem.W.fnOf "_law_name" "_law_name" (defArgs s_name) (defBody s_name) (defScope s_name) .none kV_name dc_name pm_name an_name cd_name ct_name), sl_name⟩)
    (c_name : PySem.W.codeIn K cd_name "_law_name" = true)
    (k_name : PySem.W.keepIn K (.ref f_name) = true)
    (a_names : PySem.W.nsIn K mainGlobals "_law_names" = some (some (.ref f_names)))
    (l_names : K.lookup f_names = some ⟨oc_names, od_names, .func (PySem.W.fnOf "_law_names" "_law_names" (defArgs s_names) (defBody s_names) (defScope s_names) .none kV_names dc_names pm_names an_names cd_names ct_names), sl_names⟩)
    (c_names : PySem.W.codeIn K cd_names "_law_names" = true)
    (k_names : PySem.W.keepIn K (.ref f_names) = true)
    (a_is_name : PySem.W.nsIn K mainGlobals "is_name" = some (some (.ref f_is_name)))
    (l_is_name : K.lookup f_is_name = some ⟨oc_is_name, od_is_name, .func (PySem.W.fnOf "is_name" "is_name" (defArgs s_is_name) (defBody s_is_name) (defScope s_is_name) .none kV_is_name dc_is_name pm_is_name an_is_name cd_is_name ct_is_name), sl_is_name⟩)
    (c_is_name : PySem.W.codeIn K cd_is_name "is_name" = true)
    (k_is_name : PySem.W.keepIn K (.ref f_is_name) = true)
    (a_is_step : PySem.W.nsIn K mainGlobals "is_step" = some (some (.ref f_is_step)))
    (l_is_step : K.lookup f_is_step = some ⟨oc_is_step, od_is_step, .func (PySem.W.fnOf "is_step" "is_step" (defArgs s_is_step) (defBody s_is_step) (defScope s_is_step) .none kV_is_step dc_is_step pm_is_step an_is_step cd_is_step ct_is_step), sl_is_step⟩)
    (c_is_step : PySem.W.codeIn K cd_is_step "is_step" = true)
    (k_is_step : PySem.W.keepIn K (.ref f_is_step) = true)
    (a_invalid_line : PySem.W.nsIn K mainGlobals "invalid_line" = some (some (.ref f_invalid_line)))
    (l_invalid_line : K.lookup f_invalid_line = some ⟨oc_invalid_line, od_invalid_line, .func (PySem.W.fnOf "invalid_line" "invalid_line" (defArgs s_invalid_line) (defBody s_invalid_line) (defScope s_invalid_line) .none kV_invalid_line dc_invalid_line pm_invalid_line an_invalid_line cd_invalid_line ct_invalid_line), sl_invalid_line⟩)
    (c_invalid_line : PySem.W.codeIn K cd_invalid_line "invalid_line" = true)
    (k_invalid_line : PySem.W.keepIn K (.ref f_invalid_line) = true)
    (a_Program___getitem__ : PySem.W.findIn K (.ref C_Program) "__getitem__" = some (some (.ref f_Program___getitem__)))
    (i_Program___getitem__ : PySem.W.isFn K (.ref f_Program___getitem__) = true)
    (l_Program___getitem__ : K.lookup f_Program___getitem__ = some ⟨oc_Program___getitem__, od_Program___getitem__, .func (PySem.W.fnOf "__getitem__" "Program.__getitem__" (defArgs s_Program___getitem__) (defBody s_Program___getitem__) (defScope s_Program___getitem__) .none kV_Program___getitem__ dc_Program___getitem__ pm_Program___getitem__ an_Program___getitem__ cd_Program___getitem__ ct_Program___getitem__), sl_Program___getitem__⟩)
    (c_Program___getitem__ : PySem.W.codeIn K cd_Program___getitem__ "Program.__getitem__" = true)
    (k_Program___getitem__ : PySem.W.keepIn K (.ref f_Program___getitem__) = true)
    (a_Program___init__ : PySem.W.findIn K (.ref C_Program) "__init__" = some (some (.ref f_Program___init__)))
    (i_Program___init__ : PySem.W.isFn K (.ref f_Program___init__) = true)
    (l_Program___init__ : K.lookup f_Program___init__ = some ⟨oc_Program___init__, od_Program___init__, .func (PySem.W.fnOf "__init__" "Program.__init__" (defArgs s_Program___init__) (defBody s_Program___init__) (defScope s_Program___init__) .none kV_Program___init__ dc_Program___init__ pm_Program___init__ an_Program___init__ cd_Program___init__ ct_Program___init__), sl_Program___init__⟩)
    (c_Program___init__ : PySem.W.codeIn K cd_Program___init__ "Program.__init__" = true)
    (k_Program___init__ : PySem.W.keepIn K (.ref f_Program___init__) = true)
    (mk_Program___init__ : PySem.W.makesIn K C_Program = true)
    (kc_Program___init__ : PySem.W.keepIn K (.ref C_Program) = true)
    (a_NameSet___init__ : PySem.W.findIn K (.ref C_NameSet) "__init__" = some (some (.ref f_NameSet___init__)))
    (i_NameSet___init__ : PySem.W.isFn K (.ref f_NameSet___init__) = true)
    (mk_NameSet___init__ : PySem.W.makesIn K C_NameSet = true)
    (kc_NameSet___init__ : PySem.W.keepIn K (.ref C_NameSet) = true)
    (l_NameSet___init__ : K.lookup f_NameSet___init__ = some ⟨oc_NameSet___init__, od_NameSet___init__, .func (PySem.W.fnOf "__init__" "NameSet.__init__" (defArgs s_NameSet___init__) (defBody s_NameSet___init__) (defScope s_NameSet___init__) (.ref T_NameSet___init__) kV_NameSet___init__ dc_NameSet___init__ pm_NameSet___init__ an_NameSet___init__ cd_NameSet___init__ ct_NameSet___init__), sl_NameSet___init__⟩)
    (c_NameSet___init__ : PySem.W.codeIn K cd_NameSet___init__ "NameSet.__init__" = true)
    (k_NameSet___init__ : PySem.W.keepIn K (.ref f_NameSet___init__) = true)
    (t_NameSet___init__ : K.lookup T_NameSet___init__ = some ⟨tc_NameSet___init__, td_NameSet___init__, .seq [Value.ref T1_NameSet___init__].toArray n_NameSet___init__, ts_NameSet___init__⟩)
    (u1_NameSet___init__ : K.lookup T1_NameSet___init__ = some ⟨.type "tuple", d1_NameSet___init__, .seq #[] n1_NameSet___init__, s1_NameSet___init__⟩)
    (a_least_unknown : PySem.W.nsIn K mainGlobals "least_unknown" = some (some (.ref f_least_unknown)))
    (l_least_unknown : K.lookup f_least_unknown = some ⟨oc_least_unknown, od_least_unknown, .func (PySem.W.fnOf "least_unknown" "least_unknown" (defArgs s_least_unknown) (defBody s_least_unknown) (defScope s_least_unknown) .none kV_least_unknown dc_least_unknown pm_least_unknown an_least_unknown cd_least_unknown ct_least_unknown), sl_least_unknown⟩)
    (c_least_unknown : PySem.W.codeIn K cd_least_unknown "least_unknown" = true)
    (k_least_unknown : PySem.W.keepIn K (.ref f_least_unknown) = true)
    (a_check_procedures : PySem.W.nsIn K mainGlobals "check_procedures" = some (some (.ref f_check_procedures)))
    (l_check_procedures : K.lookup f_check_procedures = some ⟨oc_check_procedures, od_check_procedures, .func (PySem.W.fnOf "check_procedures" "check_procedures" (defArgs s_check_procedures) (defBody s_check_procedures) (defScope s_check_procedures) .none kV_check_procedures dc_check_procedures pm_check_procedures an_check_procedures cd_check_procedures ct_check_procedures), sl_check_procedures⟩)
    (c_check_procedures : PySem.W.codeIn K cd_check_procedures "check_procedures" = true)
    (k_check_procedures : PySem.W.keepIn K (.ref f_check_procedures) = true)
    (a_check_places : PySem.W.nsIn K mainGlobals "check_places" = some (some (.ref f_check_places)))
    (l_check_places : K.lookup f_check_places = some ⟨oc_check_places, od_check_places, .func (PySem.W.fnOf "check_places" "check_places" (defArgs s_check_places) (defBody s_check_places) (defScope s_check_places) .none kV_check_places dc_check_places pm_check_places an_check_places cd_check_places ct_check_places), sl_check_places⟩)
    (c_check_places : PySem.W.codeIn K cd_check_places "check_places" = true)
    (k_check_places : PySem.W.keepIn K (.ref f_check_places) = true)
    (a_callees : PySem.W.nsIn K mainGlobals "callees" = some (some (.ref f_callees)))
    (l_callees : K.lookup f_callees = some ⟨oc_callees, od_callees, .func (PySem.W.fnOf "callees" "callees" (defArgs s_callees) (defBody s_callees) (defScope s_callees) .none kV_callees dc_callees pm_callees an_callees cd_callees ct_callees), sl_callees⟩)
    (c_callees : PySem.W.codeIn K cd_callees "callees" = true)
    (k_callees : PySem.W.keepIn K (.ref f_callees) = true)
    (a_spread : PySem.W.nsIn K mainGlobals "spread" = some (some (.ref f_spread)))
    (l_spread : K.lookup f_spread = some ⟨oc_spread, od_spread, .func (PySem.W.fnOf "spread" "spread" (defArgs s_spread) (defBody s_spread) (defScope s_spread) (.ref T_spread) kV_spread dc_spread pm_spread an_spread cd_spread ct_spread), sl_spread⟩)
    (c_spread : PySem.W.codeIn K cd_spread "spread" = true)
    (k_spread : PySem.W.keepIn K (.ref f_spread) = true)
    (t_spread : K.lookup T_spread = some ⟨tc_spread, td_spread, .seq [Value.ref T3_spread].toArray n_spread, ts_spread⟩)
    (u3_spread : K.lookup T3_spread = some ⟨.type "tuple", d3_spread, .seq #[] n3_spread, s3_spread⟩)
    (a_places_read : PySem.W.nsIn K mainGlobals "places_read" = some (some (.ref f_places_read)))
    (l_places_read : K.lookup f_places_read = some ⟨oc_places_read, od_places_read, .func (PySem.W.fnOf "places_read" "places_read" (defArgs s_places_read) (defBody s_places_read) (defScope s_places_read) .none kV_places_read dc_places_read pm_places_read an_places_read cd_places_read ct_places_read), sl_places_read⟩)
    (c_places_read : PySem.W.codeIn K cd_places_read "places_read" = true)
    (k_places_read : PySem.W.keepIn K (.ref f_places_read) = true)
    (a_is_number : PySem.W.nsIn K mainGlobals "is_number" = some (some (.ref f_is_number)))
    (l_is_number : K.lookup f_is_number = some ⟨oc_is_number, od_is_number, .func (PySem.W.fnOf "is_number" "is_number" (defArgs s_is_number) (defBody s_is_number) (defScope s_is_number) .none kV_is_number dc_is_number pm_is_number an_is_number cd_is_number ct_is_number), sl_is_number⟩)
    (c_is_number : PySem.W.codeIn K cd_is_number "is_number" = true)
    (k_is_number : PySem.W.keepIn K (.ref f_is_number) = true)
    (a_is_item : PySem.W.nsIn K mainGlobals "is_item" = some (some (.ref f_is_item)))
    (l_is_item : K.lookup f_is_item = some ⟨oc_is_item, od_is_item, .func (PySem.W.fnOf "is_item" "is_item" (defArgs s_is_item) (defBody s_is_item) (defScope s_is_item) .none kV_is_item dc_is_item pm_is_item an_is_item cd_is_item ct_is_item), sl_is_item⟩)
    (c_is_item : PySem.W.codeIn K cd_is_item "is_item" = true)
    (k_is_item : PySem.W.keepIn K (.ref f_is_item) = true)
    (a_check_rows : PySem.W.nsIn K mainGlobals "check_rows" = some (some (.ref f_check_rows)))
    (l_check_rows : K.lookup f_check_rows = some ⟨oc_check_rows, od_check_rows, .func (PySem.W.fnOf "check_rows" "check_rows" (defArgs s_check_rows) (defBody s_check_rows) (defScope s_check_rows) .none kV_check_rows dc_check_rows pm_check_rows an_check_rows cd_check_rows ct_check_rows), sl_check_rows⟩)
    (c_check_rows : PySem.W.codeIn K cd_check_rows "check_rows" = true)
    (k_check_rows : PySem.W.keepIn K (.ref f_check_rows) = true)
    (a_row_shape : PySem.W.nsIn K mainGlobals "row_shape" = some (some (.ref f_row_shape)))
    (l_row_shape : K.lookup f_row_shape = some ⟨oc_row_shape, od_row_shape, .func (PySem.W.fnOf "row_shape" "row_shape" (defArgs s_row_shape) (defBody s_row_shape) (defScope s_row_shape) .none kV_row_shape dc_row_shape pm_row_shape an_row_shape cd_row_shape ct_row_shape), sl_row_shape⟩)
    (c_row_shape : PySem.W.codeIn K cd_row_shape "row_shape" = true)
    (k_row_shape : PySem.W.keepIn K (.ref f_row_shape) = true)
    (a_classes_of : PySem.W.nsIn K mainGlobals "classes_of" = some (some (.ref f_classes_of)))
    (l_classes_of : K.lookup f_classes_of = some ⟨oc_classes_of, od_classes_of, .func (PySem.W.fnOf "classes_of" "classes_of" (defArgs s_classes_of) (defBody s_classes_of) (defScope s_classes_of) .none kV_classes_of dc_classes_of pm_classes_of an_classes_of cd_classes_of ct_classes_of), sl_classes_of⟩)
    (c_classes_of : PySem.W.codeIn K cd_classes_of "classes_of" = true)
    (k_classes_of : PySem.W.keepIn K (.ref f_classes_of) = true)
    (a_canonical_rows : PySem.W.nsIn K mainGlobals "canonical_rows" = some (some (.ref f_canonical_rows)))
    (l_canonical_rows : K.lookup f_canonical_rows = some ⟨oc_canonical_rows, od_canonical_rows, .func (PySem.W.fnOf "canonical_rows" "canonical_rows" (defArgs s_canonical_rows) (defBody s_canonical_rows) (defScope s_canonical_rows) .none kV_canonical_rows dc_canonical_rows pm_canonical_rows an_canonical_rows cd_canonical_rows ct_canonical_rows), sl_canonical_rows⟩)
    (c_canonical_rows : PySem.W.codeIn K cd_canonical_rows "canonical_rows" = true)
    (k_canonical_rows : PySem.W.keepIn K (.ref f_canonical_rows) = true)
    (a_Result___init__ : PySem.W.findIn K (.ref C_Result) "__init__" = some (some (.ref f_Result___init__)))
    (i_Result___init__ : PySem.W.isFn K (.ref f_Result___init__) = true)
    (l_Result___init__ : K.lookup f_Result___init__ = some ⟨oc_Result___init__, od_Result___init__, .func (PySem.W.fnOf "__init__" "Result.__init__" (defArgs s_Result___init__) (defBody s_Result___init__) (defScope s_Result___init__) .none kV_Result___init__ dc_Result___init__ pm_Result___init__ an_Result___init__ cd_Result___init__ ct_Result___init__), sl_Result___init__⟩)
    (c_Result___init__ : PySem.W.codeIn K cd_Result___init__ "Result.__init__" = true)
    (k_Result___init__ : PySem.W.keepIn K (.ref f_Result___init__) = true)
    (mk_Result___init__ : PySem.W.makesIn K C_Result = true)
    (kc_Result___init__ : PySem.W.keepIn K (.ref C_Result) = true)
    (a_Result_rows : PySem.W.findIn K (.ref C_Result) "rows" = some (some (.ref f_Result_rows)))
    (i_Result_rows : PySem.W.isFn K (.ref f_Result_rows) = true)
    (l_Result_rows : K.lookup f_Result_rows = some ⟨oc_Result_rows, od_Result_rows, .func (PySem.W.fnOf "rows" "Result.rows" (defArgs s_Result_rows) (defBody s_Result_rows) (defScope s_Result_rows) .none kV_Result_rows dc_Result_rows pm_Result_rows an_Result_rows cd_Result_rows ct_Result_rows), sl_Result_rows⟩)
    (c_Result_rows : PySem.W.codeIn K cd_Result_rows "Result.rows" = true)
    (k_Result_rows : PySem.W.keepIn K (.ref f_Result_rows) = true)
    (a_make_result : PySem.W.nsIn K mainGlobals "make_result" = some (some (.ref f_make_result)))
    (l_make_result : K.lookup f_make_result = some ⟨oc_make_result, od_make_result, .func (PySem.W.fnOf "make_result" "make_result" (defArgs s_make_result) (defBody s_make_result) (defScope s_make_result) (.ref T_make_result) kV_make_result dc_make_result pm_make_result an_make_result cd_make_result ct_make_result), sl_make_result⟩)
    (c_make_result : PySem.W.codeIn K cd_make_result "make_result" = true)
    (k_make_result : PySem.W.keepIn K (.ref f_make_result) = true)
    (t_make_result : K.lookup T_make_result = some ⟨tc_make_result, td_make_result, .seq [Value.int 0 iv1_make_result].toArray n_make_result, ts_make_result⟩)
    (a_bad_procedures : PySem.W.nsIn K mainGlobals "bad_procedures" = some (some (.ref f_bad_procedures)))
    (l_bad_procedures : K.lookup f_bad_procedures = some ⟨oc_bad_procedures, od_bad_procedures, .func (PySem.W.fnOf "bad_procedures" "bad_procedures" (defArgs s_bad_procedures) (defBody s_bad_procedures) (defScope s_bad_procedures) .none kV_bad_procedures dc_bad_procedures pm_bad_procedures an_bad_procedures cd_bad_procedures ct_bad_procedures), sl_bad_procedures⟩)
    (c_bad_procedures : PySem.W.codeIn K cd_bad_procedures "bad_procedures" = true)
    (k_bad_procedures : PySem.W.keepIn K (.ref f_bad_procedures) = true)
    (a_failing_path : PySem.W.nsIn K mainGlobals "failing_path" = some (some (.ref f_failing_path)))
    (l_failing_path : K.lookup f_failing_path = some ⟨oc_failing_path, od_failing_path, .func (PySem.W.fnOf "failing_path" "failing_path" (defArgs s_failing_path) (defBody s_failing_path) (defScope s_failing_path) .none kV_failing_path dc_failing_path pm_failing_path an_failing_path cd_failing_path ct_failing_path), sl_failing_path⟩)
    (c_failing_path : PySem.W.codeIn K cd_failing_path "failing_path" = true)
    (k_failing_path : PySem.W.keepIn K (.ref f_failing_path) = true)
    (a_plain_rows : PySem.W.nsIn K mainGlobals "plain_rows" = some (some (.ref f_plain_rows)))
    (l_plain_rows : K.lookup f_plain_rows = some ⟨oc_plain_rows, od_plain_rows, .func (PySem.W.fnOf "plain_rows" "plain_rows" (defArgs s_plain_rows) (defBody s_plain_rows) (defScope s_plain_rows) .none kV_plain_rows dc_plain_rows pm_plain_rows an_plain_rows cd_plain_rows ct_plain_rows), sl_plain_rows⟩)
    (c_plain_rows : PySem.W.codeIn K cd_plain_rows "plain_rows" = true)
    (k_plain_rows : PySem.W.keepIn K (.ref f_plain_rows) = true)
    (a_plain_result : PySem.W.nsIn K mainGlobals "plain_result" = some (some (.ref f_plain_result)))
    (l_plain_result : K.lookup f_plain_result = some ⟨oc_plain_result, od_plain_result, .func (PySem.W.fnOf "plain_result" "plain_result" (defArgs s_plain_result) (defBody s_plain_result) (defScope s_plain_result) .none (.ref KD_plain_result) dc_plain_result pm_plain_result an_plain_result cd_plain_result ct_plain_result), sl_plain_result⟩)
    (c_plain_result : PySem.W.codeIn K cd_plain_result "plain_result" = true)
    (k_plain_result : PySem.W.keepIn K (.ref f_plain_result) = true)
    (kd2_plain_result : PySem.W.nsIn K KD_plain_result "numbers" = some (some (Value.none)))
    (kd3_plain_result : PySem.W.nsIn K KD_plain_result "broken" = some (some (Value.ref T3_plain_result)))
    (kd4_plain_result : PySem.W.nsIn K KD_plain_result "spared" = some (some (Value.ref T4_plain_result)))
    (u3_plain_result : K.lookup T3_plain_result = some ⟨.type "tuple", d3_plain_result, .seq #[] n3_plain_result, s3_plain_result⟩)
    (u4_plain_result : K.lookup T4_plain_result = some ⟨.type "tuple", d4_plain_result, .seq #[] n4_plain_result, s4_plain_result⟩)
    (a_fresh : PySem.W.nsIn K mainGlobals "_law_fresh" = some (some (.ref f_fresh)))
    (l_fresh : K.lookup f_fresh = some ⟨oc_fresh, od_fresh, .func (PySem.W.fnOf "_law_fresh" "_law_fresh" (defArgs s_fresh) (defBody s_fresh) (defScope s_fresh) .none kV_fresh dc_fresh pm_fresh an_fresh cd_fresh ct_fresh), sl_fresh⟩)
    (c_fresh : PySem.W.codeIn K cd_fresh "_law_fresh" = true)
    (k_fresh : PySem.W.keepIn K (.ref f_fresh) = true)
    (a_period : PySem.W.nsIn K mainGlobals "_law_period" = some (some (.ref f_period)))
    (l_period : K.lookup f_period = some ⟨oc_period, od_period, .func (PySem.W.fnOf "_law_period" "_law_period" (defArgs s_period) (defBody s_period) (defScope s_period) .none kV_period dc_period pm_period an_period cd_period ct_period), sl_period⟩)
    (c_period : PySem.W.codeIn K cd_period "_law_period" = true)
    (k_period : PySem.W.keepIn K (.ref f_period) = true)
    (a_law : PySem.W.nsIn K mainGlobals "law" = some (some (.ref f_law)))
    (l_law : K.lookup f_law = some ⟨oc_law, od_law, .func (PySem.W.fnOf "law" "law" (defArgs s_law) (defBody s_law) (defScope s_law) .none kV_law dc_law pm_law an_law cd_law ct_law), sl_law⟩)
    (c_law : PySem.W.codeIn K cd_law "law" = true)
    (k_law : PySem.W.keepIn K (.ref f_law) = true)
    : ∃ fd : FuncData, (∀ (s : Shared) (u : Value), BindsTo s fd ⟨[u], []⟩ [("_law_script", u)]) ∧ ∀ base : Heap, K.In base → base.Ns mainGlobals mg → FnOk l.prog w K mg base CX0 8 fa fd ["_law_script"] (sp_law K) := by
  have b_all := PySem.W.mg_none_of X G z_all
  have b_any := PySem.W.mg_none_of X G z_any
  have b_bool := PySem.W.mg_none_of X G z_bool
  have b_dict := PySem.W.mg_none_of X G z_dict
  have b_enumerate := PySem.W.mg_none_of X G z_enumerate
  have b_int := PySem.W.mg_none_of X G z_int
  have b_isinstance := PySem.W.mg_none_of X G z_isinstance
  have b_len := PySem.W.mg_none_of X G z_len
  have b_list := PySem.W.mg_none_of X G z_list
  have b_range := PySem.W.mg_none_of X G z_range
  have b_sorted := PySem.W.mg_none_of X G z_sorted
  have b_str := PySem.W.mg_none_of X G z_str
  have b_tuple := PySem.W.mg_none_of X G z_tuple
  have e_BEYOND := (⟨t_BEYOND, PySem.W.mg_of X G ga_BEYOND⟩ : ∃ t, mg "BEYOND" = some (.int 1000000000000000000000000000000000000000000000000000000000000 t))
  have e_HARD_CALLS : ∃ a, mg "HARD_CALLS" = some (.ref a) ∧ ∀ H, SqT K H a (([Str.ofString "call"] : List Str).map V.str) := ⟨A_HARD_CALLS, PySem.W.mg_of X G ga_HARD_CALLS, fun H => .inr ⟨_, _, nn_HARD_CALLS, gl_HARD_CALLS, rfl, rfl, by show 1 ≤ sizeLine; decide, .cons ⟨_, rfl⟩ (.nil)⟩⟩
  have e_KINDS : ∃ a, mg "KINDS" = some (.ref a) ∧ ∀ H, SqT K H a (([Str.ofString "read", Str.ofString "say", Str.ofString "call", Str.ofString "try"] : List Str).map V.str) := ⟨A_KINDS, PySem.W.mg_of X G ga_KINDS, fun H => .inr ⟨_, _, nn_KINDS, gl_KINDS, rfl, rfl, by show 4 ≤ sizeLine; decide, .cons ⟨_, rfl⟩ (.cons ⟨_, rfl⟩ (.cons ⟨_, rfl⟩ (.cons ⟨_, rfl⟩ (.nil))))⟩⟩
  have e_LETTERS := (⟨t_LETTERS, PySem.W.mg_of X G ga_LETTERS⟩ : ∃ t, mg "LETTERS" = some (.str "abcdefghijklmnopqrstuvwxyz" t))
  have e_MOST_ITEMS := (⟨t_MOST_ITEMS, PySem.W.mg_of X G ga_MOST_ITEMS⟩ : ∃ t, mg "MOST_ITEMS" = some (.int 12 t))
  have e_MOST_PROCEDURES := (⟨t_MOST_PROCEDURES, PySem.W.mg_of X G ga_MOST_PROCEDURES⟩ : ∃ t, mg "MOST_PROCEDURES" = some (.int 16 t))
  have e_MOST_ROWS := (⟨t_MOST_ROWS, PySem.W.mg_of X G ga_MOST_ROWS⟩ : ∃ t, mg "MOST_ROWS" = some (.int 40 t))
  have e_MOST_STEPS := (⟨t_MOST_STEPS, PySem.W.mg_of X G ga_MOST_STEPS⟩ : ∃ t, mg "MOST_STEPS" = some (.int 12 t))
  have T_Program : ClsF K mg "Program" C_Program := clsF_mk X G cA_Program pg_Program hd_Program po_Program sa_Program ha_Program hn_Program ht_Program hm_Program sf_Program ne_Program
  have T_NameSet : ClsF K mg "NameSet" C_NameSet := clsF_mk X G cA_NameSet pg_NameSet hd_NameSet po_NameSet sa_NameSet ha_NameSet hn_NameSet ht_NameSet hm_NameSet sf_NameSet ne_NameSet
  have T_Result : ClsF K mg "Result" C_Result := clsF_mk X G cA_Result pg_Result hd_Result po_Result sa_Result ha_Result hn_Result ht_Result hm_Result sf_Result ne_Result
  have kit_list_NameSet := kit_no ci_NameSet ty_NameSet nf_list_NameSet
  have kit_tuple_NameSet := kit_no ci_NameSet ty_NameSet nf_tuple_NameSet
  have A_source : DefAt K mg "_law_source" s_source ["_law_script"] := defAt_mk X G a_source l_source c_source k_source (fun _ _ _ _ _ _ us hl => match us, hl with | [_], _ => rfl)
  have A_draw : DefAt K mg "_law_draw" s_draw ["_law_source_here", "_law_many"] := defAt_mk X G a_draw l_draw c_draw k_draw (fun _ _ _ _ _ _ us hl => match us, hl with | [_, _], _ => rfl)
  have A_name : DefAt K mg "_law_name" s_name ["_law_source_here", "_law_taken"] := defAt_mk X G a_name l_name c_name k_name (fun _ _ _ _ _ _ us hl => match us, hl with | [_, _], _ => rfl)
  have A_names : DefAt K mg "_law_names" s_names ["_law_source_here", "_law_many"] := defAt_mk X G a_names l_names c_names k_names (fun _ _ _ _ _ _ us hl => match us, hl with | [_, _], _ => rfl)
  have A_is_name : DefAt K mg "is_name" s_is_name ["value"] := defAt_mk X G a_is_name l_is_name c_is_name k_is_name (fun _ _ _ _ _ _ us hl => match us, hl with | [_], _ => rfl)
  have A_is_step : DefAt K mg "is_step" s_is_step ["step"] := defAt_mk X G a_is_step l_is_step c_is_step k_is_step (fun _ _ _ _ _ _ us hl => match us, hl with | [_], _ => rfl)
  have A_invalid_line : DefAt K mg "invalid_line" s_invalid_line ["procedures"] := defAt_mk X G a_invalid_line l_invalid_line c_invalid_line k_invalid_line (fun _ _ _ _ _ _ us hl => match us, hl with | [_], _ => rfl)
  have A_Program___getitem__ : MethAt K C_Program "__getitem__" "Program.__getitem__" s_Program___getitem__ ["self", "name"] := methAt_mk a_Program___getitem__ i_Program___getitem__ l_Program___getitem__ c_Program___getitem__ k_Program___getitem__ (fun _ _ _ _ _ _ us hl => match us, hl with | [_, _], _ => rfl)
  have A_Program___init__ : MkAt K C_Program "Program.__init__" s_Program___init__ ["self", "procedures"] := mkAt_mk a_Program___init__ i_Program___init__ l_Program___init__ c_Program___init__ k_Program___init__ mk_Program___init__ kc_Program___init__ (fun _ _ _ _ _ _ us hl => match us, hl with | [_, _], _ => rfl)
  have hT1_NameSet___init__ : ∀ H, SqT K H T1_NameSet___init__ [] := unitT u1_NameSet___init__
  have A_NameSet___init__ : MkAtD K C_NameSet "NameSet.__init__" s_NameSet___init__ [.ref T1_NameSet___init__] [] := ⟨_, _, funD_mkV (st := s_NameSet___init__) (dvs := [.ref T1_NameSet___init__]) l_NameSet___init__ c_NameSet___init__ k_NameSet___init__ (by simp) t_NameSet___init__ (.cons rfl .nil), ⟨mk_NameSet___init__, a_NameSet___init__, i_NameSet___init__, kc_NameSet___init__⟩⟩
  have A_least_unknown : DefAt K mg "least_unknown" s_least_unknown ["names", "known"] := defAt_mk X G a_least_unknown l_least_unknown c_least_unknown k_least_unknown (fun _ _ _ _ _ _ us hl => match us, hl with | [_, _], _ => rfl)
  have A_check_procedures : DefAt K mg "check_procedures" s_check_procedures ["program", "names"] := defAt_mk X G a_check_procedures l_check_procedures c_check_procedures k_check_procedures (fun _ _ _ _ _ _ us hl => match us, hl with | [_, _], _ => rfl)
  have A_check_places : DefAt K mg "check_places" s_check_places ["program", "places"] := defAt_mk X G a_check_places l_check_places c_check_places k_check_places (fun _ _ _ _ _ _ us hl => match us, hl with | [_, _], _ => rfl)
  have A_callees : DefAt K mg "callees" s_callees ["program", "name", "kinds"] := defAt_mk X G a_callees l_callees c_callees k_callees (fun _ _ _ _ _ _ us hl => match us, hl with | [_, _, _], _ => rfl)
  have hT3_spread : ∀ H, SqT K H T3_spread [] := unitT u3_spread
  have A_spread : DefAtD K mg "spread" s_spread [.ref T3_spread] [] := ⟨_, _, funD_mkV (st := s_spread) (dvs := [.ref T3_spread]) l_spread c_spread k_spread (by simp) t_spread (.cons rfl .nil), PySem.W.mg_of X G a_spread⟩
  have A_places_read : DefAt K mg "places_read" s_places_read ["program", "name"] := defAt_mk X G a_places_read l_places_read c_places_read k_places_read (fun _ _ _ _ _ _ us hl => match us, hl with | [_, _], _ => rfl)
  have A_is_number : DefAt K mg "is_number" s_is_number ["value"] := defAt_mk X G a_is_number l_is_number c_is_number k_is_number (fun _ _ _ _ _ _ us hl => match us, hl with | [_], _ => rfl)
  have A_is_item : DefAt K mg "is_item" s_is_item ["item", "many"] := defAt_mk X G a_is_item l_is_item c_is_item k_is_item (fun _ _ _ _ _ _ us hl => match us, hl with | [_, _], _ => rfl)
  have A_check_rows : DefAt K mg "check_rows" s_check_rows ["rows"] := defAt_mk X G a_check_rows l_check_rows c_check_rows k_check_rows (fun _ _ _ _ _ _ us hl => match us, hl with | [_], _ => rfl)
  have A_row_shape : DefAt K mg "row_shape" s_row_shape ["row", "classes"] := defAt_mk X G a_row_shape l_row_shape c_row_shape k_row_shape (fun _ _ _ _ _ _ us hl => match us, hl with | [_, _], _ => rfl)
  have A_classes_of : DefAt K mg "classes_of" s_classes_of ["table"] := defAt_mk X G a_classes_of l_classes_of c_classes_of k_classes_of (fun _ _ _ _ _ _ us hl => match us, hl with | [_], _ => rfl)
  have A_canonical_rows : DefAt K mg "canonical_rows" s_canonical_rows ["table", "start"] := defAt_mk X G a_canonical_rows l_canonical_rows c_canonical_rows k_canonical_rows (fun _ _ _ _ _ _ us hl => match us, hl with | [_, _], _ => rfl)
  have A_Result___init__ : MkAt K C_Result "Result.__init__" s_Result___init__ ["self", "rows"] := mkAt_mk a_Result___init__ i_Result___init__ l_Result___init__ c_Result___init__ k_Result___init__ mk_Result___init__ kc_Result___init__ (fun _ _ _ _ _ _ us hl => match us, hl with | [_, _], _ => rfl)
  have A_Result_rows : MethAt K C_Result "rows" "Result.rows" s_Result_rows ["self"] := methAt_mk a_Result_rows i_Result_rows l_Result_rows c_Result_rows k_Result_rows (fun _ _ _ _ _ _ us hl => match us, hl with | [_], _ => rfl)
  have A_make_result : DefAtD K mg "make_result" s_make_result [.int 0] [] := ⟨_, _, funD_mkV (st := s_make_result) (dvs := [.int 0]) l_make_result c_make_result k_make_result (by simp) t_make_result (.cons ⟨_, rfl⟩ .nil), PySem.W.mg_of X G a_make_result⟩
  have A_bad_procedures : DefAt K mg "bad_procedures" s_bad_procedures ["program", "broken", "spared"] := defAt_mk X G a_bad_procedures l_bad_procedures c_bad_procedures k_bad_procedures (fun _ _ _ _ _ _ us hl => match us, hl with | [_, _, _], _ => rfl)
  have A_failing_path : DefAt K mg "failing_path" s_failing_path ["program", "name", "broken", "spared"] := defAt_mk X G a_failing_path l_failing_path c_failing_path k_failing_path (fun _ _ _ _ _ _ us hl => match us, hl with | [_, _, _, _], _ => rfl)
  have A_plain_rows : DefAt K mg "plain_rows" s_plain_rows ["program", "name", "numbers", "bad", "spared"] := defAt_mk X G a_plain_rows l_plain_rows c_plain_rows k_plain_rows (fun _ _ _ _ _ _ us hl => match us, hl with | [_, _, _, _, _], _ => rfl)
  have hT3_plain_result : ∀ H, SqT K H T3_plain_result [] := unitT u3_plain_result
  have hT4_plain_result : ∀ H, SqT K H T4_plain_result [] := unitT u4_plain_result
  have A_plain_result : DefAtD K mg "plain_result" s_plain_result [] [("numbers", .non), ("broken", .ref T3_plain_result), ("spared", .ref T4_plain_result)] := ⟨_, _, funD_mkK (st := s_plain_result) l_plain_result c_plain_result k_plain_result (kw_cons kd2_plain_result rfl (kw_cons kd3_plain_result rfl (kw_cons kd4_plain_result rfl kw_nil))), PySem.W.mg_of X G a_plain_result⟩
  have A_fresh : DefAt K mg "_law_fresh" s_fresh ["_law_taken"] := defAt_mk X G a_fresh l_fresh c_fresh k_fresh (fun _ _ _ _ _ _ us hl => match us, hl with | [_], _ => rfl)
  have A_period : DefAt K mg "_law_period" s_period ["_law_words"] := defAt_mk X G a_period l_period c_period k_period (fun _ _ _ _ _ _ us hl => match us, hl with | [_], _ => rfl)
  have F_law := fun_mk (st := s_law) l_law c_law k_law
  have efa := hfa.symm.trans (PySem.W.mg_of X G a_law)
  cases efa
  refine ⟨_, law_binds (p := "_law_script") F_law (fun _ _ _ _ _ _ _ => rfl), fun base _ _ => ?_⟩
  have D_source := ok_source (P := l.prog) (w := w) (base := base) A_source b_enumerate b_int 
  have D_draw := ok_draw (P := l.prog) (w := w) (base := base) A_draw b_int 
  have D_name := ok_name (P := l.prog) (w := w) (base := base) A_name b_range D_draw 
  have D_names := ok_names (P := l.prog) (w := w) (base := base) A_names b_list b_range D_name 
  have D_is_name := ok_is_name (P := l.prog) (w := w) (base := base) A_is_name b_all b_isinstance b_len b_str e_LETTERS 
  have D_is_step := ok_is_step (P := l.prog) (w := w) (base := base) A_is_step e_KINDS D_is_name 
  have D_invalid_line := ok_invalid_line (P := l.prog) (w := w) (base := base) A_invalid_line b_all b_enumerate b_len e_MOST_PROCEDURES e_MOST_STEPS D_is_name D_is_step 
  have D_Program___getitem__ := ok_Program___getitem__ (P := l.prog) (w := w) (base := base) A_Program___getitem__ T_Program nA_Program_bodies 
  have D_Program___init__ := ok_Program___init__ (P := l.prog) (w := w) (base := base) A_Program___init__ T_Program b_sorted b_str b_tuple nA_Program_bodies nA_Program_names nA_Program_places D_invalid_line 
  have K_NameSet___init___q := ok_NameSet___init___q (P := l.prog) (w := w) (base := base) hT1_NameSet___init__ A_NameSet___init__ T_NameSet b_isinstance b_sorted b_str b_tuple nA_NameSet_members kit_list_NameSet kit_tuple_NameSet 
  have D_NameSet___init___q_n2 := (K_NameSet___init___q.form 2 1 (by simp) rfl (fun T kV doc pm an cdv ct us its h1 h2 => match us, h1, its, h2 with | [_, _], _, [_], _ => ⟨_, rfl, rfl⟩) : MkDoes l.prog w K mg base CX0 1 "NameSet" C_NameSet ["self", "names"] [] (sp_NameSet___init___q K C_NameSet ))
  have D_least_unknown_q := ok_least_unknown_q (P := l.prog) (w := w) (base := base) A_least_unknown T_NameSet nA_NameSet_members D_NameSet___init___q_n2 
  have D_check_procedures_q := ok_check_procedures_q (P := l.prog) (w := w) (base := base) A_check_procedures T_Program nA_Program_names D_least_unknown_q 
  have D_check_places := ok_check_places (P := l.prog) (w := w) (base := base) A_check_places T_Program nA_Program_places D_least_unknown_q 
  have D_callees := ok_callees (P := l.prog) (w := w) (base := base) A_callees T_Program D_Program___getitem__ 
  have K_spread := ok_spread (P := l.prog) (w := w) (base := base) hT3_spread A_spread T_Program b_len D_callees 
  have D_spread_n4 := (K_spread.form 4 1 (by simp) rfl (fun T kV doc pm an cdv ct us its h1 h2 => match us, h1, its, h2 with | [_, _, _, _], _, [_], _ => ⟨_, rfl, rfl⟩) : DoesD l.prog w K mg base CX0 4 "spread" ["program", "starts", "kinds", "stops"] [] (sp_spread K C_Program ))
  have D_places_read := ok_places_read (P := l.prog) (w := w) (base := base) A_places_read T_Program D_Program___getitem__ 
  have D_is_number_a := ok_is_number_a (P := l.prog) (w := w) (base := base) A_is_number b_bool b_int b_isinstance e_BEYOND 
  have D_is_name_a := ok_is_name_a (P := l.prog) (w := w) (base := base) A_is_name b_all b_isinstance b_len b_str e_LETTERS 
  have D_is_item := ok_is_item (P := l.prog) (w := w) (base := base) A_is_item b_isinstance b_len b_tuple D_is_number_a D_is_name_a 
  have D_check_rows := ok_check_rows (P := l.prog) (w := w) (base := base) A_check_rows b_all b_enumerate b_len e_MOST_ITEMS e_MOST_ROWS D_is_item 
  have D_row_shape := ok_row_shape (P := l.prog) (w := w) (base := base) A_row_shape b_tuple 
  have D_classes_of := ok_classes_of (P := l.prog) (w := w) (base := base) A_classes_of b_len D_row_shape 
  have D_canonical_rows := ok_canonical_rows (P := l.prog) (w := w) (base := base) A_canonical_rows b_len D_classes_of 
  have D_Result___init__ := ok_Result___init__ (P := l.prog) (w := w) (base := base) A_Result___init__ T_Result b_list nA_Result_table D_check_rows D_canonical_rows 
  have D_Result_rows := ok_Result_rows (P := l.prog) (w := w) (base := base) A_Result_rows T_Result b_list nA_Result_table 
  have K_make_result := ok_make_result (P := l.prog) (w := w) (base := base) A_make_result T_Result nA_Result_table D_Result___init__ D_canonical_rows 
  have D_make_result_n1 := (K_make_result.form 1 0 (by simp) rfl (fun T kV doc pm an cdv ct us its h1 h2 => match us, h1, its, h2 with | [_], _, [_], _ => ⟨_, rfl, rfl⟩) : DoesD l.prog w K mg base CX0 6 "make_result" ["rows", "start"] [.int 0] (sp_make_result K C_Result ))
  have D_bad_procedures := ok_bad_procedures (P := l.prog) (w := w) (base := base) A_bad_procedures T_Program b_any e_HARD_CALLS nA_Program_names D_spread_n4 D_places_read 
  have D_failing_path := ok_failing_path (P := l.prog) (w := w) (base := base) A_failing_path T_Program b_len e_HARD_CALLS D_places_read D_callees 
  have D_plain_rows := ok_plain_rows (P := l.prog) (w := w) (base := base) A_plain_rows T_Program b_len D_Program___getitem__ 
  have K_plain_result := ok_plain_result (P := l.prog) (w := w) (base := base) hT3_plain_result hT4_plain_result A_plain_result T_NameSet T_Program T_Result b_dict b_list nA_NameSet_members D_NameSet___init___q_n2 D_check_procedures_q D_check_places D_bad_procedures D_failing_path D_make_result_n1 D_plain_rows 
  have D_plain_result_n2 := (⟨_, hT3_plain_result, _, hT4_plain_result, K_plain_result.form0 2 (by simp) rfl (fun D doc pm an cdv ct us ks h1 h2 => match us, h1, ks, h2 with | [_, _], _, [_, _, _], _ => ⟨_, _, _, _, _, _, rfl, rfl, ⟨_, _, _, _, _, _, rfl, rfl, ⟨_, _, _, _, _, _, rfl, rfl, rfl⟩⟩⟩)⟩ : ∃ T3, (∀ H, SqT K H T3 []) ∧ ∃ T4, (∀ H, SqT K H T4 []) ∧ DoesD l.prog w K mg base CX0 7 "plain_result" ["program", "name", "numbers", "broken", "spared"] [.non, .ref T3, .ref T4] (sp_plain_result K C_Program C_Result ))
  have D_plain_result_n2_kbroken := (⟨_, hT4_plain_result, K_plain_result.formN 2 ["broken"] [("numbers", .non), ("spared", .ref T4_plain_result)] [(false, 0), (true, 0), (false, 1)] (by simp) (by simp) (fun D doc pm an cdv ct us mv ws h1 h2 h3 => match us, h1, mv, h2, ws, h3 with | [_, _], _, [_, _], _, [_], _ => ⟨_, _, _, _, _, _, rfl, rfl, ⟨_, _, _, _, _, _, rfl, rfl, rfl⟩⟩)⟩ : ∃ T4, (∀ H, SqT K H T4 []) ∧ DoesN l.prog w K mg base CX0 7 "plain_result" ["program", "name", "numbers", "broken", "spared"] 2 ["broken"] (kwV [.non, .ref T4] [(false, 0), (true, 0), (false, 1)]) (sp_plain_result K C_Program C_Result ))
  have D_fresh := ok_fresh (P := l.prog) (w := w) (base := base) A_fresh 
  have D_period := ok_period (P := l.prog) (w := w) (base := base) A_period b_all b_int b_len b_range 
  exact ok_law (P := l.prog) (w := w) (base := base) F_law T_Program T_Result b_int b_len b_range D_Program___init__ D_Result_rows D_source D_draw D_names D_fresh D_period D_plain_result_n2 D_plain_result_n2_kbroken law_pure
end Mm
open PySem PySem.W PyProof.Rows
set_option maxRecDepth 100000 in
set_option maxHeartbeats 0 in
theorem PySem.Challenge.cw_midfall_k14_cycles_never_fail_holds : PySem.Challenge.rw_midfall_k14_cycles_never_fail.Holds := by
  w_on; o_law; k_head; (case hw => w_witness2)
  k_fill
  refine Mf.walkL (l := PySem.Challenge.rw_midfall_k14_cycles_never_fail) (lv := 8) (x := "_law_script") rfl rfl ⟨rfl, by decide, by decide⟩ (fun w h Y => PySem.W.kIn_of Y) ?F
  case F =>
    intro w mg fa h KX G hmg
    refine' Mm.all_mk KX G hmg ?z_all ?z_any ?z_bool ?z_dict ?z_enumerate ?z_int ?z_isinstance ?z_len ?z_list ?z_range ?z_sorted ?z_str ?z_tuple ?ga_BEYOND ?ga_HARD_CALLS ?gl_HARD_CALLS ?ga_KINDS ?gl_KINDS ?ga_LETTERS ?ga_MOST_ITEMS ?ga_MOST_PROCEDURES ?ga_MOST_ROWS ?ga_MOST_STEPS ?cA_Program ?pg_Program ?hd_Program ?po_Program ?sa_Program ?ha_Program ?hn_Program ?ht_Program ?hm_Program ?sf_Program ?ne_Program ?cA_NameSet ?pg_NameSet ?hd_NameSet ?po_NameSet ?sa_NameSet ?ha_NameSet ?hn_NameSet ?ht_NameSet ?hm_NameSet ?sf_NameSet ?ne_NameSet ?cA_Result ?pg_Result ?hd_Result ?po_Result ?sa_Result ?ha_Result ?hn_Result ?ht_Result ?hm_Result ?sf_Result ?ne_Result ?nA_NameSet_members ?nA_Program_bodies ?nA_Program_names ?nA_Program_places ?nA_Result_table ?ci_NameSet ?ty_NameSet ?nf_list_NameSet ?nf_tuple_NameSet ?a_source ?l_source ?c_source ?k_source ?a_draw ?l_draw ?c_draw ?k_draw ?a_name ?l_name ?c_name ?k_name ?a_names ?l_names ?c_names ?k_names ?a_is_name ?l_is_name ?c_is_name ?k_is_name ?a_is_step ?l_is_step ?c_is_step ?k_is_step ?a_invalid_line ?l_invalid_line ?c_invalid_line ?k_invalid_line ?a_Program___getitem__ ?i_Program___getitem__ ?l_Program___getitem__ ?c_Program___getitem__ ?k_Program___getitem__ ?a_Program___init__ ?i_Program___init__ ?l_Program___init__ ?c_Program___init__ ?k_Program___init__ ?mk_Program___init__ ?kc_Program___init__ ?a_NameSet___init__ ?i_NameSet___init__ ?mk_NameSet___init__ ?kc_NameSet___init__ ?l_NameSet___init__ ?c_NameSet___init__ ?k_NameSet___init__ ?t_NameSet___init__ ?u1_NameSet___init__ ?a_least_unknown ?l_least_unknown ?c_least_unknown ?k_least_unknown ?a_check_procedures ?l_check_procedures ?c_check_procedures ?k_check_procedures ?a_check_places ?l_check_places ?c_check_places ?k_check_places ?a_callees ?l_callees ?c_callees ?k_callees ?a_spread ?l_spread ?c_spread ?k_spread ?t_spread ?u3_spread ?a_places_read ?l_places_read ?c_places_read ?k_places_read ?a_is_number ?l_is_number ?c_is_number ?k_is_number ?a_is_item ?l_is_item ?c_is_item ?k_is_item ?a_check_rows ?l_check_rows ?c_check_rows ?k_check_rows ?a_row_shape ?l_row_shape ?c_row_shape ?k_row_shape ?a_classes_of ?l_classes_of ?c_classes_of ?k_classes_of ?a_canonical_rows ?l_canonical_rows ?c_canonical_rows ?k_canonical_rows ?a_Result___init__ ?i_Result___init__ ?l_Result___init__ ?c_Result___init__ ?k_Result___init__ ?mk_Result___init__ ?kc_Result___init__ ?a_Result_rows ?i_Result_rows ?l_Result_rows ?c_Result_rows ?k_Result_rows ?a_make_result ?l_make_result ?c_make_result ?k_make_result ?t_make_result ?a_bad_procedures ?l_bad_procedures ?c_bad_procedures ?k_bad_procedures ?a_failing_path ?l_failing_path ?c_failing_path ?k_failing_path ?a_plain_rows ?l_plain_rows ?c_plain_rows ?k_plain_rows ?a_plain_result ?l_plain_result ?c_plain_result ?k_plain_result ?kd2_plain_result ?kd3_plain_result ?kd4_plain_result ?u3_plain_result ?u4_plain_result ?a_fresh ?l_fresh ?c_fresh ?k_fresh ?a_period ?l_period ?c_period ?k_period ?a_law ?l_law ?c_law ?k_law
    (case z_all => k_is)
    (case z_any => k_is)
    (case z_bool => k_is)
    (case z_dict => k_is)
    (case z_enumerate => k_is)
    (case z_int => k_is)
    (case z_isinstance => k_is)
    (case z_len => k_is)
    (case z_list => k_is)
    (case z_range => k_is)
    (case z_sorted => k_is)
    (case z_str => k_is)
    (case z_tuple => k_is)
    (case ga_BEYOND => k_is)
    (case ga_HARD_CALLS => k_is)
    (case gl_HARD_CALLS => k_is)
    (case ga_KINDS => k_is)
    (case gl_KINDS => k_is)
    (case ga_LETTERS => k_is)
    (case ga_MOST_ITEMS => k_is)
    (case ga_MOST_PROCEDURES => k_is)
    (case ga_MOST_ROWS => k_is)
    (case ga_MOST_STEPS => k_is)
    (case cA_Program => k_is)
    (case pg_Program => k_is)
    (case hd_Program => k_is)
    (case po_Program => k_is)
    (case sa_Program => k_is)
    (case ha_Program => k_is)
    (case hn_Program => k_is)
    (case ht_Program => k_is)
    (case hm_Program => k_is)
    (case sf_Program => k_is)
    (case ne_Program => k_is)
    (case cA_NameSet => k_is)
    (case pg_NameSet => k_is)
    (case hd_NameSet => k_is)
    (case po_NameSet => k_is)
    (case sa_NameSet => k_is)
    (case ha_NameSet => k_is)
    (case hn_NameSet => k_is)
    (case ht_NameSet => k_is)
    (case hm_NameSet => k_is)
    (case sf_NameSet => k_is)
    (case ne_NameSet => k_is)
    (case cA_Result => k_is)
    (case pg_Result => k_is)
    (case hd_Result => k_is)
    (case po_Result => k_is)
    (case sa_Result => k_is)
    (case ha_Result => k_is)
    (case hn_Result => k_is)
    (case ht_Result => k_is)
    (case hm_Result => k_is)
    (case sf_Result => k_is)
    (case ne_Result => k_is)
    (case nA_NameSet_members => k_is)
    (case nA_Program_bodies => k_is)
    (case nA_Program_names => k_is)
    (case nA_Program_places => k_is)
    (case nA_Result_table => k_is)
    (case ci_NameSet => k_is)
    (case ty_NameSet => k_is)
    (case nf_list_NameSet => k_is)
    (case nf_tuple_NameSet => k_is)
    (case a_source => k_is)
    (case l_source => k_is)
    (case c_source => k_is)
    (case k_source => k_is)
    (case a_draw => k_is)
    (case l_draw => k_is)
    (case c_draw => k_is)
    (case k_draw => k_is)
    (case a_name => k_is)
    (case l_name => k_is)
    (case c_name => k_is)
    (case k_name => k_is)
    (case a_names => k_is)
    (case l_names => k_is)
    (case c_names => k_is)
    (case k_names => k_is)
    (case a_is_name => k_is)
    (case l_is_name => k_is)
    (case c_is_name => k_is)
    (case k_is_name => k_is)
    (case a_is_step => k_is)
    (case l_is_step => k_is)
    (case c_is_step => k_is)
    (case k_is_step => k_is)
    (case a_invalid_line => k_is)
    (case l_invalid_line => k_is)
    (case c_invalid_line => k_is)
    (case k_invalid_line => k_is)
    (case a_Program___getitem__ => k_is)
    (case i_Program___getitem__ => k_is)
    (case l_Program___getitem__ => k_is)
    (case c_Program___getitem__ => k_is)
    (case k_Program___getitem__ => k_is)
    (case a_Program___init__ => k_is)
    (case i_Program___init__ => k_is)
    (case l_Program___init__ => k_is)
    (case c_Program___init__ => k_is)
    (case k_Program___init__ => k_is)
    (case mk_Program___init__ => k_is)
    (case kc_Program___init__ => k_is)
    (case a_NameSet___init__ => k_is)
    (case i_NameSet___init__ => k_is)
    (case mk_NameSet___init__ => k_is)
    (case kc_NameSet___init__ => k_is)
    (case l_NameSet___init__ => k_is)
    (case c_NameSet___init__ => k_is)
    (case k_NameSet___init__ => k_is)
    (case t_NameSet___init__ => k_is)
    (case u1_NameSet___init__ => k_is)
    (case a_least_unknown => k_is)
    (case l_least_unknown => k_is)
    (case c_least_unknown => k_is)
    (case k_least_unknown => k_is)
    (case a_check_procedures => k_is)
    (case l_check_procedures => k_is)
    (case c_check_procedures => k_is)
    (case k_check_procedures => k_is)
    (case a_check_places => k_is)
    (case l_check_places => k_is)
    (case c_check_places => k_is)
    (case k_check_places => k_is)
    (case a_callees => k_is)
    (case l_callees => k_is)
    (case c_callees => k_is)
    (case k_callees => k_is)
    (case a_spread => k_is)
    (case l_spread => k_is)
    (case c_spread => k_is)
    (case k_spread => k_is)
    (case t_spread => k_is)
    (case u3_spread => k_is)
    (case a_places_read => k_is)
    (case l_places_read => k_is)
    (case c_places_read => k_is)
    (case k_places_read => k_is)
    (case a_is_number => k_is)
    (case l_is_number => k_is)
    (case c_is_number => k_is)
    (case k_is_number => k_is)
    (case a_is_item => k_is)
    (case l_is_item => k_is)
    (case c_is_item => k_is)
    (case k_is_item => k_is)
    (case a_check_rows => k_is)
    (case l_check_rows => k_is)
    (case c_check_rows => k_is)
    (case k_check_rows => k_is)
    (case a_row_shape => k_is)
    (case l_row_shape => k_is)
    (case c_row_shape => k_is)
    (case k_row_shape => k_is)
    (case a_classes_of => k_is)
    (case l_classes_of => k_is)
    (case c_classes_of => k_is)
    (case k_classes_of => k_is)
    (case a_canonical_rows => k_is)
    (case l_canonical_rows => k_is)
    (case c_canonical_rows => k_is)
    (case k_canonical_rows => k_is)
    (case a_Result___init__ => k_is)
    (case i_Result___init__ => k_is)
    (case l_Result___init__ => k_is)
    (case c_Result___init__ => k_is)
    (case k_Result___init__ => k_is)
    (case mk_Result___init__ => k_is)
    (case kc_Result___init__ => k_is)
    (case a_Result_rows => k_is)
    (case i_Result_rows => k_is)
    (case l_Result_rows => k_is)
    (case c_Result_rows => k_is)
    (case k_Result_rows => k_is)
    (case a_make_result => k_is)
    (case l_make_result => k_is)
    (case c_make_result => k_is)
    (case k_make_result => k_is)
    (case t_make_result => k_is)
    (case a_bad_procedures => k_is)
    (case l_bad_procedures => k_is)
    (case c_bad_procedures => k_is)
    (case k_bad_procedures => k_is)
    (case a_failing_path => k_is)
    (case l_failing_path => k_is)
    (case c_failing_path => k_is)
    (case k_failing_path => k_is)
    (case a_plain_rows => k_is)
    (case l_plain_rows => k_is)
    (case c_plain_rows => k_is)
    (case k_plain_rows => k_is)
    (case a_plain_result => k_is)
    (case l_plain_result => k_is)
    (case c_plain_result => k_is)
    (case k_plain_result => k_is)
    (case kd2_plain_result => k_is)
    (case kd3_plain_result => k_is)
    (case kd4_plain_result => k_is)
    (case u3_plain_result => k_is)
    (case u4_plain_result => k_is)
    (case a_fresh => k_is)
    (case l_fresh => k_is)
    (case c_fresh => k_is)
    (case k_fresh => k_is)
    (case a_period => k_is)
    (case l_period => k_is)
    (case c_period => k_is)
    (case k_period => k_is)
    (case a_law => k_is)
    (case l_law => k_is)
    (case c_law => k_is)
    (case k_law => k_is)
#print axioms PySem.Challenge.cw_midfall_k14_cycles_never_fail_holds
