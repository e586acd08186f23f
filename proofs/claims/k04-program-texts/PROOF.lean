import PyProof.Rows.All
import Wide.All
import OpenK.AllK
import Wide.FinOn
import HandS.ForMost
import HandS.Wide
import HandS.Walk
import HandS.IsInst
import HandS.More
import HandS.RaiseMore
import HandS.Codes
import HandS.Star
import HandS.Deep
import HandS.SetBool
import HandS.SlotsOwn
import HandS.Defaults
import KE.GoesEnumKw
import KE.GoesMore
import HandS.DictComp
import HandS.FStr
import HandS.MakeKwOnly
import HandS.Zip
import HandS.Nested
import HandS.ExcInit
import HandS.ClsMeth
import KE.KExcSuper
import HandS.ExcOwn
import HandS.ExcField
import HandS.CallSlots
import HandS.TupAny
import HandS.Conv
import HandS.Style
import HandS.TryOnly
import KE.GoesEnum
import HandS.Text
import HandS.EndBits
import KE.RegKSuper
import PySem.Challenge.RW_midfall_k04_program_texts
set_option Elab.async false
set_option linter.all false
set_option maxRecDepth 100000
set_option maxHeartbeats 4000000
namespace Mf
open PySem L2

/-! ### heaps: all but one object stands -/
def Kp (p : Addr) (H H' : Hp) : Prop := ∀ b o, b ≠ p → H b = some o → H' b = some o
theorem Kp.refl (p : Addr) (H : Hp) : Kp p H H := fun _ _ _ h => h
theorem Kp.trans {p : Addr} {H H1 H2 : Hp} (a : Kp p H H1) (b : Kp p H1 H2) : Kp p H H2 := fun x o n h => b x o n (a x o n h)
theorem Kp.of {p : Addr} {H H' : Hp} (e : Same H H') : Kp p H H' := fun b o _ h => e b o h
theorem Kp.new {p q : Addr} {H : Hp} {o : HO} (h : H q = none) : Kp p H (upd H q o) := fun b u _ e => by
  rw [upd_ne (ne_of_none e h)]; exact e
theorem Kp.upd {p : Addr} {H : Hp} {o : HO} : Kp p H (L2.upd H p o) := fun b u n e => by
  rw [upd_ne n]; exact e
theorem Same.new {q : Addr} {H : Hp} {o : HO} (h : H q = none) : Same H (upd H q o) := fun b u e => by
  rw [upd_ne (ne_of_none e h)]; exact e
/-- a local object may change -/
theorem Same.mut {H H' : Hp} {p : Addr} {o : HO} (e : Same H H') (h : H p = none) : Same H (upd H' p o) := fun a u ha => by
  rw [upd_ne (ne_of_none ha h)]; exact e a u ha
theorem Kp.mut {H H' : Hp} {q p : Addr} {o : HO} (e : Kp q H H') (h : H p = none) : Kp q H (L2.upd H' p o) := fun a u n ha => by
  rw [upd_ne (ne_of_none ha h)]; exact e a u n ha
theorem _root_.L2.Same.tr {H H1 H2 : Hp} (a : Same H H1) (b : Same H1 H2) : Same H H2 := fun x o h => b x o (a x o h)
theorem _root_.L2.Same.rf (H : Hp) : Same H H := fun _ _ h => h
def hid (p : Addr) (H : Hp) : Hp := fun b => if b = p then none else H b
theorem hid_ne {p b : Addr} {H : Hp} (h : b ≠ p) : hid p H b = H b := by unfold hid; rw [if_neg h]
theorem hid_some {p b : Addr} {H : Hp} {o : HO} (h : hid p H b = some o) : b ≠ p ∧ H b = some o := by
  unfold hid at h
  by_cases e : b = p
  · rw [if_pos e] at h; cases h
  · rw [if_neg e] at h; exact ⟨e, h⟩
theorem hid_same {p : Addr} {H : Hp} : Same (hid p H) H := fun _ _ h => (hid_some h).2
theorem Kp.hid {p : Addr} {H H' : Hp} (e : Kp p H H') : Same (hid p H) (hid p H') := fun b o h => by
  obtain ⟨n, q⟩ := hid_some h
  rw [hid_ne n]; exact e b o n q

/-! ### defs as they stand, and what they do -/
def DefAt (K : PySem.W.Frag) (mg : Str → Option Value) (x : Str) (st : Stmt) (ps : List Str) : Prop := ∃ f fd, Fun K x x st f fd ∧ mg x = some (.ref f) ∧ Binds K fd ps []
def Does (P : Program) (w : World) (K : PySem.W.Frag) (mg : Str → Option Value) (base : Heap) (CX : CXT) (lv : Nat) (x : Str) (ps : List Str) (sp : Sp) : Prop :=
  ∃ f fd, FnOk P w K mg base CX lv f fd ps sp ∧ mg x = some (.ref f) ∧ PySem.W.keepIn K (.ref f) = true ∧ Binds K fd ps []
theorem defAt_mk {K : PySem.W.Frag} {h : Heap} {mg : Str → Option Value} {x : Str} {st : Stmt} {ps : List Str} {f : Addr} {oc : Value} {od an : Option Addr} {osl : Array (Option Value)} {kV doc pm cdv ct : Value} (X : K.In h) (G : h.Ns mainGlobals mg)
    (a : PySem.W.nsIn K mainGlobals x = some (some (.ref f))) (l : K.lookup f = some ⟨oc, od, .func (PySem.W.fnOf x x (defArgs st) (defBody st) (defScope st) .none kV doc pm an cdv ct), osl⟩)
    (c : PySem.W.codeIn K cdv x = true) (k : PySem.W.keepIn K (.ref f) = true)
    (hb : ∀ (kV doc pm : Value) (an : Option Addr) (cdv ct : Value) (us : List Value), us.length = ps.length → bindArgs (PySem.W.fnOf x x (defArgs st) (defBody st) (defScope st) .none kV doc pm an cdv ct) ⟨us, []⟩ = pure (ps.zip us)) : DefAt K mg x st ps :=
  ⟨f, _, fun_mk l c k, PySem.W.mg_of X G a, (fun_mk l c k).binds hb⟩
/-! ### the law's own source of draws -/
/-- at p: the great number, the seed, the count -/
def Src (H : Hp) (p : Addr) (c : Nat) : Prop := ∃ g s : Int, H p = some (.lst [.int g, .int s, .int (c : Int)]) ∧ 0 ≤ s ∧ s < 2147483647
theorem Src.same {H H' : Hp} {p : Addr} {c : Nat} (h : Src H p c) (e : Same H H') : Src H' p c := by
  obtain ⟨g, s, h1, h2⟩ := h
  exact ⟨g, s, e _ _ h1, h2⟩
def LIM : Nat := 1000000000

def sp_source (K : PySem.W.Frag) : Sp := fun vs H Q _ => ∃ (a : Addr) (ns : List Int), vs = [.ref a] ∧ SqL K H a (ns.map V.int) ∧ ns.length ≤ 63 ∧
  ∀ p H', Same H H' → H p = none → Src H' p 0 → Q (.ref p) H'
def sp_draw : Sp := fun vs H Q _ => ∃ (p : Addr) (c : Nat) (m : Int), vs = [.ref p, .int m] ∧ Src H p c ∧ c < LIM ∧ 0 < m ∧ m < 2 ^ 1000 ∧
  ∀ (v : Int) (c' : Nat) (o : HO), 0 ≤ v → v < m → c' ≤ c + 1 → Src (upd H p o) p c' → Q (.int v) (upd H p o)
def sp_law (K : PySem.W.Frag) : Sp := fun vs H Q _ => ∃ (a : Addr) (ns : List Int), vs = [.ref a] ∧ SqL K H a (ns.map V.int) ∧ ns.length ≤ 63 ∧ ∀ H', Q (.bl true) H'
theorem use_source {K : PySem.W.Frag} {a : Addr} {ns : List Int} {H : Hp} {Q : VK} {E : XK} (h : SqL K H a (ns.map V.int)) (hl : ns.length ≤ 63) (g : ∀ p H', Same H H' → H p = none → Src H' p 0 → Q (.ref p) H') : sp_source K ([.ref a] ++ []) H Q E := ⟨a, ns, rfl, h, hl, g⟩
end Mf

namespace Mf
open PySem L2 PyProof.Rows
/-! ### a reading, step by step, from what is known -/
section
variable {K : PySem.W.Frag} {σ : L2.St} {H : Hp} {Q : VK} {QT : Bool → Hp → Prop} {QA : List V → Hp → Prop} {D : Ends} {ta tb tc te : TE} {tt tu : TT} {tr tA : TA} {t1 t2 : TS} {i j : Int} {v x y : V} {b : Bool} {r r' : R2} {n m : Nat} {p q a : Addr} {xs ys : List V}
theorem w_var {k : Nat} (h : σ[k]? = some (some v)) (g : Q v H) : tVar k σ H Q := ⟨v, h, g⟩
theorem w_c (g : Q v H) : tC v σ H Q := g
theorem w_op (g : ta σ H fun x H1 => tb σ H1 fun y H2 => r x y H2 Q) : tOp r ta tb σ H Q := g
theorem w_un {r : V → Hp → VK → Prop} (g : ta σ H fun x H1 => r x H1 Q) : tUn r ta σ H Q := g
theorem w_I0 {f : Int → Int → V} (g : Q (f i j) H) : rI0 f (.int i) (.int j) H Q := ⟨i, j, rfl, rfl, g⟩
theorem w_I {C : Int → Int → Prop} {f : Int → Int → V} (h : C i j) (g : Q (f i j) H) : rI C f (.int i) (.int j) H Q := ⟨i, j, rfl, rfl, h, g⟩
theorem w_U {f : Int → V} (g : Q (f i) H) : rU f (.int i) H Q := ⟨i, rfl, g⟩
theorem w_eq (h : scal x y = true) (g : Q (.bl (decide (x = y))) H) : rEq x y H Q := ⟨h, g⟩
theorem w_ne (h : scal x y = true) (g : Q (.bl (!decide (x = y))) H) : rNe x y H Q := ⟨h, g⟩
theorem w_test (g : te σ H fun x H1 => ∃ k, x = .bl k ∧ QT k H1) : tTest te σ H QT := g
theorem w_tb (g : te σ H fun x H1 => ∃ k, x = .bl k ∧ QT k H1) : tB te σ H QT := g
theorem w_bl {R : Bool → Prop} (g : R b) : ∃ k, V.bl b = .bl k ∧ R k := ⟨b, rfl, g⟩
theorem w_and (g : tt σ H fun c H1 => if c = true then tu σ H1 QT else QT false H1) : tAnd tt tu σ H QT := g
theorem w_or (g : tt σ H fun c H1 => if c = true then QT true H1 else tu σ H1 QT) : tOr tt tu σ H QT := g
theorem w_not (g : tt σ H fun c H1 => QT (!c) H1) : tNot tt σ H QT := g
theorem w_yes (g : QT true H) : tYes σ H QT := g
theorem w_andV (g : ta σ H fun x H1 => ∃ c, x = .bl c ∧ if c = true then tb σ H1 Q else Q (.bl false) H1) : tAndV ta tb σ H Q := g
theorem w_orV (g : ta σ H fun x H1 => ∃ c, x = .bl c ∧ if c = true then Q (.bl true) H1 else tb σ H1 Q) : tOrV ta tb σ H Q := g
theorem w_notV (g : ta σ H fun x H1 => ∃ c, x = .bl c ∧ Q (.bl (!c)) H1) : tNotV ta σ H Q := g
theorem w_ifE (g : tt σ H fun c H1 => if c = true then ta σ H1 Q else tb σ H1 Q) : tIf tt ta tb σ H Q := g
theorem w_chain (g : ta σ H fun x H1 => tb σ H1 fun y H2 => r x y H2 fun z H3 => ∃ k, z = .bl k ∧ (if k = true then tc σ H3 fun w' H4 => r' y w' H4 Q else Q (.bl false) H3)) : tChain r r' ta tb tc σ H Q := g

variable {nx bk ct : L2.St → Hp → Prop} {rt : VK}
theorem w_next (g : nx σ H) : tNext ⟨nx, rt, bk, ct⟩ σ H := g
theorem w_seq (g : t1 ⟨t2 ⟨nx, rt, bk, ct⟩, rt, bk, ct⟩ σ H) : tSeq t1 t2 ⟨nx, rt, bk, ct⟩ σ H := g
theorem w_cut (Mid : L2.St → Hp → Prop) (h : t1 ⟨Mid, rt, bk, ct⟩ σ H) (g : ∀ σ' H', Mid σ' H' → t2 ⟨nx, rt, bk, ct⟩ σ' H') : C8.tCut t1 t2 ⟨nx, rt, bk, ct⟩ σ H := ⟨Mid, h, g⟩
theorem w_drop (g : te σ H fun _ H1 => nx σ H1) : tDrop te ⟨nx, rt, bk, ct⟩ σ H := g
theorem w_ret (g : te σ H rt) : tRet te ⟨nx, rt, bk, ct⟩ σ H := g
theorem w_retN (g : rt .non H) : tRetN ⟨nx, rt, bk, ct⟩ σ H := g
theorem w_cont (g : ct σ H) : tCont ⟨nx, rt, bk, ct⟩ σ H := g
theorem w_brk (g : bk σ H) : tBreak ⟨nx, rt, bk, ct⟩ σ H := g
theorem w_ifS (g : tt σ H fun b H1 => if b = true then t1 D σ H1 else t2 D σ H1) : tIfS tt t1 t2 D σ H := g
theorem w_asg {gg : TG} (g : te σ H fun x H1 => gg x σ H1 nx) : tAsg te gg ⟨nx, rt, bk, ct⟩ σ H := g
theorem w_fix (g : t1 ⟨nx, rt, bk, ct⟩ σ H) (e : D = ⟨nx, rt, bk, ct⟩) : t1 D σ H := by rw [e]; exact g
theorem w_if {c A B : Prop} [Decidable c] (h1 : c → A) (h2 : ¬ c → B) : if (decide c) = true then A else B := by
  by_cases h : c
  · rw [decide_eq_true h]; exact iteT (h1 h)
  · rw [decide_eq_false h]; exact iteF (h2 h)
theorem w_ifn {c A B : Prop} [Decidable c] (h1 : ¬ c → A) (h2 : c → B) : if (!decide c) = true then A else B := by
  by_cases h : c
  · rw [decide_eq_true h]; exact iteF (h2 h)
  · rw [decide_eq_false h]; exact iteT (h1 h)
theorem w_ifb {c : Bool} {A B : Prop} (h1 : c = true → A) (h2 : c = false → B) : if c = true then A else B := by
  cases c
  · exact iteF (h2 rfl)
  · exact iteT (h1 rfl)
theorem w_aug {k : Nat} {ti : TIp} (h : σ[k]? = some (some v)) (g : te σ H fun y H1 => ti v y H1 fun z H2 => nx (σ.set k (some z)) H2) : tAug k te ti ⟨nx, rt, bk, ct⟩ σ H := ⟨v, h, g⟩
theorem w_ipI {f : Int → Int → Int} (g : Q (.int (f i j)) H) : ipI f (.int i) (.int j) H Q := ⟨i, j, rfl, rfl, g⟩
theorem w_par {k l : Nat} (g : tA σ H fun vs H1 => ∃ v w, vs = [v, w] ∧ nx ((σ.set k (some v)).set l (some w)) H1) : tPar k l tA ⟨nx, rt, bk, ct⟩ σ H := g
theorem w_fld {f : Str} (g : ta σ H fun x H1 => ∃ a C dx fs v, x = .ref a ∧ H1 a = some (.ins C dx fs) ∧ Cls K C ∧ NoAttr K C f ∧ fs.lookup f = some v ∧ Q v H1) : tFld K ta f σ H Q := g
theorem w_gname {k : Nat} {R : L2.St → Hp → Prop} (g : R (σ.set k (some v)) H) : gName k v σ H R := g
theorem w_gnil {R : L2.St → Hp → Prop} (g : R σ H) : gNil [] σ H R := ⟨rfl, g⟩
theorem w_gcons {t : TG} {u : TGs} {R : L2.St → Hp → Prop} (g : t v σ H fun σ' H' => u xs σ' H' R) : gCons t u (v :: xs) σ H R := ⟨v, xs, rfl, g⟩
theorem w_gtup {t : TGs} {R : L2.St → Hp → Prop} (h : SqT K H a xs) (hn : xs.length = n) (g : t xs σ H R) : gTup K n t (.ref a) σ H R := ⟨a, xs, rfl, h, hn, g⟩
theorem w_gsub {to ti : TE} {t : TSet} {R : L2.St → Hp → Prop} (g : to σ H fun o H1 => ti σ H1 fun i H2 => t o i v H2 fun H3 => R σ H3) : gSub to ti t v σ H R := g
theorem w_setL {k : Int} {R : Hp → Prop} (h : H p = some (.lst xs)) (hk : ixN xs.length k = some n) (g : R (upd H p (.lst (xs.set n v)))) : rSetL (.ref p) (.int k) v H R := ⟨p, xs, k, n, rfl, rfl, h, hk, g⟩
theorem w_two {R : V → V → Prop} (g : R x y) : ∃ v w, [x, y] = [v, w] ∧ R v w := ⟨x, y, rfl, g⟩
theorem w_nil (g : QA [] H) : tNil σ H QA := g
theorem w_cons (g : ta σ H fun x H1 => tr σ H1 fun xs H2 => QA (x :: xs) H2) : tCons ta tr σ H QA := g
theorem w_tup (g : tA σ H fun xs H1 => xs.length ≤ sizeLine ∧ ∀ p, H1 p = none → Q (.ref p) (upd H1 p (.tup xs))) : tTup tA σ H Q := g
theorem w_lst (g : tA σ H fun xs H1 => xs.length ≤ sizeLine ∧ ∀ p, H1 p = none → Q (.ref p) (upd H1 p (.lst xs))) : tLst tA σ H Q := g
theorem w_call {sp : Sp} {dvs : List V} {E : XK} (g : tA σ H fun vs H1 => sp (vs ++ dvs) H1 Q E) : tCall sp dvs E tA σ H Q := g
theorem w_cb {r : List V → Hp → VK → Prop} (g : tA σ H fun vs H1 => r vs H1 Q) : tCB r tA σ H Q := g
theorem w_bm {T : String} {r : V → List V → Hp → VK → Prop} (g : ta σ H fun x H1 => tyV K T x H1 ∧ tA σ H1 fun xs H2 => r x xs H2 Q) : tBM K T r ta tA σ H Q := g
theorem w_bm0 {T : String} {r : V → List V → Hp → VK → Prop} (g : ta σ H fun x H1 => tyV K T x H1 ∧ r x [] H1 Q) : tBM0 K T r ta σ H Q := g
theorem w_m1 {r : V → List V → Hp → VK → Prop} (g : ta σ H fun x H1 => (∃ a, x = .str a) ∧ tb σ H1 fun y H2 => r x [y] H2 Q) : tM1 r ta tb σ H Q := g
theorem w_ixL (h : SqL K H p xs) (ha : atI xs i = some v) (g : Q v H) : rIxL K (.ref p) (.int i) H Q := ⟨p, xs, i, v, rfl, rfl, h, ha, g⟩
theorem w_ixT (h : SqT K H p xs) (ha : atI xs i = some v) (g : Q v H) : rIxT K (.ref p) (.int i) H Q := ⟨p, xs, i, v, rfl, rfl, h, ha, g⟩
theorem w_append (h : H p = some (.lst xs)) (hl : xs.length < sizeLine) (g : Q .non (upd H p (.lst (xs ++ [v])))) : rAppend (.ref p) [v] H Q := ⟨p, xs, v, rfl, rfl, h, hl, g⟩
end

/-! ### rules by a name of ours -/
section
variable {X : Cx}
def rInt1 : List V → Hp → VK → Prop := fun xs H Q => ∃ i, xs = [.int i] ∧ Q (.int i) H
theorem c_int1 : CallR X (.type "int") rInt1 := fun pins s σ H xs us Q I r ⟨i, e, q⟩ => call_int1 pins s σ H xs us Q I r (.inl ⟨i, e, q⟩)
def rStrI : List V → Hp → VK → Prop := fun xs H Q => ∃ i, xs = [.int i] ∧ i.natAbs.log2 < 1920 ∧ Q (.str (toString i)) H
theorem c_strI : CallR X (.type "str") rStrI := call_str_int
def rStrS : List V → Hp → VK → Prop := fun xs H Q => ∃ a, xs = [.str a] ∧ Q (.str a) H
theorem c_strS : CallR X (.type "str") rStrS := SkE.call_str_str
def rLenQ (K : PySem.W.Frag) : List V → Hp → VK → Prop := fun xs H Q => ∃ p ys, xs = [.ref p] ∧ (SqL K H p ys ∨ SqT K H p ys) ∧ Q (.int ys.length) H
theorem c_len : CallR X (.builtin "len") (rLenQ X.K) := call_len_seq
def rLenS : List V → Hp → VK → Prop := fun xs H Q => ∃ z, xs = [.str z] ∧ z.length ≤ sizeLine ∧ Q (.int z.length) H
theorem c_lenS : CallR X (.builtin "len") rLenS := call_len_str
def rLenD : List V → Hp → VK → Prop := fun xs H Q => ∃ a kvs, xs = [V.ref a] ∧ H a = some (.dK kvs) ∧ Q (.int kvs.length) H
theorem c_lenD : CallR X (.builtin "len") rLenD := call_lenD
def rListQ (K : PySem.W.Frag) : List V → Hp → VK → Prop := fun xs H Q => ∃ p ys, xs = [.ref p] ∧ (SqL K H p ys ∨ SqT K H p ys) ∧ ∀ l, H l = none → Q (.ref l) (upd H l (.lst ys))
theorem c_list : CallR X (.type "list") (rListQ X.K) := call_list_of
def rTupL (K : PySem.W.Frag) : List V → Hp → VK → Prop := fun xs H Q => ∃ p ys, xs = [.ref p] ∧ SqL K H p ys ∧ ∀ l, H l = none → Q (.ref l) (upd H l (.tup ys))
theorem c_tupL : CallR X (.type "tuple") (rTupL X.K) := fun pins s σ H xs us Q I r ⟨p, ys, e, h, q⟩ => call_tuple_of pins s σ H xs us Q I r ⟨p, ys, e, .inl ⟨h, q⟩⟩
def rTupT (K : PySem.W.Frag) : List V → Hp → VK → Prop := fun xs H Q => ∃ p ys, xs = [.ref p] ∧ SqT K H p ys ∧ Q (.ref p) H
theorem c_tupT : CallR X (.type "tuple") (rTupT X.K) := fun pins s σ H xs us Q I r ⟨p, ys, e, h, q⟩ => call_tuple_of pins s σ H xs us Q I r ⟨p, ys, e, .inr ⟨h, q⟩⟩
def rAddS : R2 := fun x y H Q => ∃ i j, x = .str i ∧ y = .str j ∧ i.length + j.length ≤ sizeLine ∧ Q (.str (i ++ j)) H
theorem o_addS : OpR X (binaryOp .Add) rAddS := op_add_str
def rInC (neg : Bool) : R2 := fun x y H Q => ∃ (c : Nat) (z : Str), x = .str ⟨#[c]⟩ ∧ y = .str z ∧ Q (.bl (if neg then !decide (c ∈ z.cps.toList) else decide (c ∈ z.cps.toList))) H
theorem o_inC : OpR X (compareOp .In) (rInC false) := op_in_sign
theorem o_niC : OpR X (compareOp .NotIn) (rInC true) := op_notIn_sign
def rIsN : R2 := fun x y H Q => y = .non ∧ Q (.bl (decide (x = .non))) H
def rNotN : R2 := fun x y H Q => y = .non ∧ Q (.bl (!decide (x = .non))) H
theorem o_isN : OpR X (compareOp .Is) rIsN := op_isN
theorem o_notN : OpR X (compareOp .IsNot) rNotN := op_notN
def rMax2 : List V → Hp → VK → Prop := fun xs H Q => ∃ i j, xs = [.int i, .int j] ∧ Q (.int (if j > i then j else i)) H
theorem c_max2 (hc : X.calm = true) : CallR X (.builtin "max") rMax2 := call_max2 hc
def rInsert : V → List V → Hp → VK → Prop := fun x vs H Q => ∃ (l : Addr) (xs : List V) (i : Int) (y : V), x = .ref l ∧ vs = [.int i, y] ∧ H l = some (.lst xs) ∧ xs.length < sizeLine ∧ 0 ≤ i ∧ i < 2 ^ 63 ∧ Q .non (upd H l (.lst (xs.take i.toNat ++ [y] ++ xs.drop i.toNat)))
theorem m_insert : MtR X "list.insert" rInsert := mt_insert
def rJoin (K : PySem.W.Frag) : V → List V → Hp → VK → Prop := fun x xs H Q => ∃ a p, ∃ ys : List Str, x = .str a ∧ xs = [.ref p] ∧ (SqL K H p (ys.map V.str) ∨ SqT K H p (ys.map V.str)) ∧ (ys.map (·.length)).sum + ys.length * a.length ≤ 16777216 ∧ Q (.str (Txt.join a ys)) H
theorem e_join {o e : Expr} {to te : TE} {apos pos : Pos} (ho : PE X o to) (he : PE X e te) (hs : starEach [e] X.env = [(false, eval e X.env)] := by rfl) (hbase : attributeBase o "join" X.env (eval o X.env) = eval o X.env := by rfl) (hline : (apos.endLine == pos.line) = true := by rfl) :
    PE X (.Call (.Attribute o "join" apos) [e] [] pos) (tM1 (rJoin X.K) to te) := pe_join ho he hs hbase hline
end
section
variable {K : PySem.W.Frag} {σ : L2.St} {H : Hp} {Q : VK} {i j : Int} {p q : Addr} {xs ys : List V} {v x y : V} {z z' : Str} {b : Bool}
theorem w_int1 (g : Q (.int i) H) : rInt1 [.int i] H Q := ⟨i, rfl, g⟩
theorem w_strI (h : i.natAbs.log2 < 1920) (g : Q (.str (toString i)) H) : rStrI [.int i] H Q := ⟨i, rfl, h, g⟩
theorem w_strS (g : Q (.str z) H) : rStrS [.str z] H Q := ⟨z, rfl, g⟩
theorem w_lenL (h : SqL K H p ys) (g : Q (.int ys.length) H) : rLenQ K [.ref p] H Q := ⟨p, ys, rfl, .inl h, g⟩
theorem w_lenT (h : SqT K H p ys) (g : Q (.int ys.length) H) : rLenQ K [.ref p] H Q := ⟨p, ys, rfl, .inr h, g⟩
theorem w_lenS (h : z.length ≤ sizeLine) (g : Q (.int z.length) H) : rLenS [.str z] H Q := ⟨z, rfl, h, g⟩
theorem w_lenD {kvs : List (Key × V)} (h : H p = some (.dK kvs)) (g : Q (.int kvs.length) H) : rLenD [.ref p] H Q := ⟨p, kvs, rfl, h, g⟩
theorem w_listL (h : SqL K H p ys) (g : ∀ l, H l = none → Q (.ref l) (upd H l (.lst ys))) : rListQ K [.ref p] H Q := ⟨p, ys, rfl, .inl h, g⟩
theorem w_listT (h : SqT K H p ys) (g : ∀ l, H l = none → Q (.ref l) (upd H l (.lst ys))) : rListQ K [.ref p] H Q := ⟨p, ys, rfl, .inr h, g⟩
theorem w_tupL (h : SqL K H p ys) (g : ∀ l, H l = none → Q (.ref l) (upd H l (.tup ys))) : rTupL K [.ref p] H Q := ⟨p, ys, rfl, h, g⟩
theorem w_tupT (h : SqT K H p ys) (g : Q (.ref p) H) : rTupT K [.ref p] H Q := ⟨p, ys, rfl, h, g⟩
theorem w_addS (h : z.length + z'.length ≤ sizeLine) (g : Q (.str (z ++ z')) H) : rAddS (.str z) (.str z') H Q := ⟨z, z', rfl, rfl, h, g⟩
theorem w_inC {c : Nat} (g : Q (.bl (decide (c ∈ z.cps.toList))) H) : rInC false (.str ⟨#[c]⟩) (.str z) H Q := ⟨c, z, rfl, rfl, g⟩
theorem w_niC {c : Nat} (g : Q (.bl (!decide (c ∈ z.cps.toList))) H) : rInC true (.str ⟨#[c]⟩) (.str z) H Q := ⟨c, z, rfl, rfl, g⟩
theorem w_isN (g : Q (.bl (decide (x = .non))) H) : rIsN x .non H Q := ⟨rfl, g⟩
theorem w_notN (g : Q (.bl (!decide (x = .non))) H) : rNotN x .non H Q := ⟨rfl, g⟩
theorem w_max2 (g : Q (.int (if j > i then j else i)) H) : rMax2 [.int i, .int j] H Q := ⟨i, j, rfl, g⟩
theorem w_insert (h : H p = some (.lst xs)) (hl : xs.length < sizeLine) (h0 : 0 ≤ i) (h1 : i < 2 ^ 63) (g : Q .non (upd H p (.lst (xs.take i.toNat ++ [y] ++ xs.drop i.toNat)))) : rInsert (.ref p) [.int i, y] H Q := ⟨p, xs, i, y, rfl, rfl, h, hl, h0, h1, g⟩
theorem w_clear (h : H p = some (.lst xs)) (g : Q .non (upd H p (.lst []))) : rClear (.ref p) [] H Q := ⟨p, xs, rfl, rfl, h, g⟩
theorem w_ixS {c : Nat} (h : z.length ≤ sizeLine) (ha : atI z.cps.toList i = some c) (g : Q (.str ⟨#[c]⟩) H) : rIxS (.str z) (.int i) H Q := ⟨z, i, c, rfl, rfl, h, ha, g⟩
theorem w_inL (h : SqL K H p ys) (fx : flatV x = true) (fy : ys.all flatV = true) (g : Q (.bl (inV x ys)) H) : rIn K false x (.ref p) H Q := ⟨p, ys, rfl, .inl h, fx, fy, g⟩
theorem w_inT (h : SqT K H p ys) (fx : flatV x = true) (fy : ys.all flatV = true) (g : Q (.bl (inV x ys)) H) : rIn K false x (.ref p) H Q := ⟨p, ys, rfl, .inr h, fx, fy, g⟩
theorem w_niL (h : SqL K H p ys) (fx : flatV x = true) (fy : ys.all flatV = true) (g : Q (.bl (!inV x ys)) H) : rIn K true x (.ref p) H Q := ⟨p, ys, rfl, .inl h, fx, fy, g⟩
theorem w_niT (h : SqT K H p ys) (fx : flatV x = true) (fy : ys.all flatV = true) (g : Q (.bl (!inV x ys)) H) : rIn K true x (.ref p) H Q := ⟨p, ys, rfl, .inr h, fx, fy, g⟩
theorem w_all {bs : List Bool} (h : SqL K H p (bs.map V.bl)) (g : Q (.bl (bs.all id)) H) : rAll K [.ref p] H Q := ⟨p, bs, rfl, h, g⟩
theorem w_any {bs : List Bool} (h : SqL K H p (bs.map V.bl)) (g : Q (.bl (bs.any id)) H) : rAny K [.ref p] H Q := ⟨p, bs, rfl, h, g⟩
theorem w_sort {zs : List Str} (h : SqL K H p (zs.map V.str)) (hl : zs.length < 64) (g : ∀ (ys : List Str) (p : Addr), ys.Perm zs → PyProof.Rows.sortedS ys = true → H p = none → Q (.ref p) (upd H p (.lst (ys.map V.str)))) : rSortedS K [.ref p] H Q := ⟨p, zs, rfl, h, hl, g⟩
theorem w_cat (h : H p = some (.lst xs)) (h' : H q = some (.lst ys)) (hl : xs.length + ys.length ≤ sizeLine) (g : ∀ l, H l = none → Q (.ref l) (upd H l (.lst (xs ++ ys)))) : rCat (.ref p) (.ref q) H Q := ⟨p, q, xs, ys, rfl, rfl, h, h', hl, g⟩
theorem w_isi {t u : Value} (hc : ClsV y u) (ht : TyX K H x t) (hk : PySem.W.kitOne K t u = some b) (g : Q (.bl b) H) : rIsi K [x, y] H Q := ⟨x, y, t, u, b, rfl, hc, ht, hk, g⟩
theorem w_join {zs : List Str} (h : SqL K H p (zs.map V.str)) (hl : (zs.map (·.length)).sum + zs.length * z.length ≤ 16777216) (g : Q (.str (Txt.join z zs)) H) : rJoin K (.str z) [.ref p] H Q := ⟨z, p, zs, rfl, rfl, .inl h, hl, g⟩
theorem w_slS {lo hi : Option Int} (h : z.length ≤ sizeLine) (g : Q (.str (cutS z lo hi)) H) : rSlS (.str z) lo hi H Q := ⟨z, rfl, h, g⟩
theorem w_slL {lo hi : Option Int} (h : SqL K H p xs) (g : ∀ l, H l = none → Q (.ref l) (upd H l (.lst (cutV xs lo hi)))) : rSlL K (.ref p) lo hi H Q := ⟨p, xs, rfl, h, g⟩
theorem w_sl {r : V → Option Int → Option Int → Hp → VK → Prop} {te : TE} {tl th : TO} (g : te σ H fun x H1 => tl σ H1 fun l H2 => th σ H2 fun u H3 => r x l u H3 Q) : tSl r te tl th σ H Q := g
theorem w_noP {QO : Option Int → Hp → Prop} (g : QO none H) : tNoPart σ H QO := g
theorem w_part {te : TE} {QO : Option Int → Hp → Prop} (g : te σ H fun x H1 => ∃ i, x = .int i ∧ QO (some i) H1) : tPart te σ H QO := g
theorem w_exI {R : Int → Prop} (g : R i) : ∃ k, V.int i = .int k ∧ R k := ⟨i, rfl, g⟩
theorem w_exS {R : Prop} (g : R) : (∃ a, V.str z = .str a) ∧ R := ⟨⟨z, rfl⟩, g⟩
theorem w_tyL {R : Prop} (h : SqL K H p xs) (g : R) : tyV K "list" (.ref p) H ∧ R := ⟨.inl ⟨rfl, xs, h⟩, g⟩
theorem w_size {R : Prop} {n : Nat} (h : n ≤ sizeLine) (g : R) : n ≤ sizeLine ∧ R := ⟨h, g⟩
theorem w_star {te : TE} {t : TA} {QA : List V → Hp → Prop} (g : te σ H fun x H1 => ∃ p xs, x = V.ref p ∧ (SqT K H1 p xs ∨ SqL K H1 p xs) ∧ t σ H1 fun ys H2 => QA (xs ++ ys) H2) : StX.tStar K te t σ H QA := g
theorem w_stT {R : List V → Prop} (h : SqT K H p xs) (g : R xs) : ∃ p' xs, V.ref p = V.ref p' ∧ (SqT K H p' xs ∨ SqL K H p' xs) ∧ R xs := ⟨p, xs, rfl, .inl h, g⟩
theorem w_iL {tl : TE} {R : It → Hp → Prop} (g : tl σ H fun x H1 => ∃ a, x = .ref a ∧ (∃ xs, SqL K H1 a xs) ∧ R (Itl K a) H1) : iList K tl σ H R := g
theorem w_iT {tl : TE} {R : It → Hp → Prop} (g : tl σ H fun x H1 => ∃ a, x = .ref a ∧ (∃ xs, SqT K H1 a xs) ∧ R (Itt K a) H1) : iTup K tl σ H R := g
theorem w_iLx {R : Addr → Prop} (h : SqL K H p xs) (g : R p) : ∃ a, V.ref p = .ref a ∧ (∃ xs, SqL K H a xs) ∧ R a := ⟨p, rfl, ⟨xs, h⟩, g⟩
theorem w_iTx {R : Addr → Prop} (h : SqT K H p xs) (g : R p) : ∃ a, V.ref p = .ref a ∧ (∃ xs, SqT K H a xs) ∧ R a := ⟨p, rfl, ⟨xs, h⟩, g⟩
end

/-! ### comprehensions and loops, apart from what they walk -/
section
variable {K : PySem.W.Frag} {σ : L2.St} {H : Hp} {Q : VK} {g : TG} {tt : TT} {te : TE} {vs : List Nat} {wi : TI} {J : It} {n : Nat} {G : Hp → Prop} {Y : Nat → Hp → V → Hp → Prop}
/-- one turn of a comprehension: the target, the test, the element; R: what is kept, or none -/
def Turn1 (g : TG) (tt : TT) (te : TE) (vs : List Nat) (σ : L2.St) (x : V) (H : Hp) (R : Option V → Hp → Prop) : Prop :=
  g x (wipe σ vs) H fun σ2 H2 => wipe σ2 vs = wipe σ vs ∧ tt σ2 H2 fun b H3 => if b = true then te σ2 H3 fun y H4 => R (some y) H4 else R none H3
def LcB (J : It) (g : TG) (tt : TT) (te : TE) (vs : List Nat) (σ : L2.St) (Q : VK) (H1 : Hp) : Prop :=
  ∀ D, H1 D = none → ∃ W : Nat → Nat → Hp → Prop, (∃ m, W 0 m (upd H1 D (.lst []))) ∧ ∀ i m H, W i m H →
    (J.stop i H ∧ Q (.ref D) H) ∨ (J.go i H ∧ ∃ Nx : Hp → Prop, (∀ H', Nx H' → ∃ m', m' < m ∧ W (i + 1) m' H') ∧ ∀ x H', J.yld i H x H' → g x (wipe σ vs) H' fun σ2 H2 => wipe σ2 vs = wipe σ vs ∧ tt σ2 H2 fun b H3 =>
      if b = true then te σ2 H3 fun y H4 => ∃ acc, H4 D = some (.lst acc) ∧ acc.length < sizeLine ∧ Nx (upd H4 D (.lst (acc ++ [y]))) else Nx H3)
theorem w_lc (h : wi σ H fun J H1 => LcB J g tt te vs σ Q H1) : tLc wi g tt te vs σ H Q := h
/-- what a turn must leave: the list so far stands at D, and the word holds of the longer one (or of the same, where nothing is kept) -/
def LcR (D : Addr) (P : List V → Hp → Prop) : Option V → Hp → Prop
  | some y, H => ∃ acc, H D = some (.lst acc) ∧ acc.length < sizeLine ∧ ∃ acc', P acc' (upd H D (.lst (acc ++ [y])))
  | none, H => ∃ acc', P acc' H
theorem lcr_some {D : Addr} {P : List V → Hp → Prop} {y : V} {acc : List V} (h : H D = some (.lst acc)) (hl : acc.length < sizeLine) (hp : P (acc ++ [y]) (upd H D (.lst (acc ++ [y])))) : LcR D P (some y) H := ⟨acc, h, hl, _, hp⟩
theorem lcr_none {D : Addr} {P : List V → Hp → Prop} {acc : List V} (hp : P acc H) : LcR D P none H := ⟨acc, hp⟩
/-- an invariant by the turn, the list so far and the heap -/
theorem lcb (w : Walk J n G Y) (Pv : Addr → Nat → List V → Hp → Prop) (h0 : ∀ D, H D = none → Pv D 0 [] (upd H D (.lst [])))
    (hG : ∀ D i acc H', H D = none → i ≤ n → Pv D i acc H' → G H')
    (hs : ∀ D i x acc H1 H2, H D = none → i < n → Pv D i acc H1 → Y i H1 x H2 → Turn1 g tt te vs σ x H2 (LcR D (Pv D (i + 1))))
    (hd : ∀ D acc H', H D = none → Pv D n acc H' → Q (.ref D) H') : LcB J g tt te vs σ Q H := by
  intro D nD
  refine ⟨fun i m H' => m = n - i ∧ i ≤ n ∧ ∃ acc, Pv D i acc H', ⟨n, by simp, Nat.zero_le _, [], h0 D nD⟩, ?_⟩
  rintro i m H' ⟨rfl, hi, acc, p⟩
  have q := hG D i acc H' nD hi p
  by_cases e : i = n
  · subst e
    exact .inl ⟨w.stops H' q, hd D acc H' nD p⟩
  · have hlt : i < n := by omega
    refine .inr ⟨w.goes i H' hlt q, fun H'' => ∃ acc, Pv D (i + 1) acc H'', fun H'' ⟨acc', p'⟩ => ⟨n - (i + 1), by omega, rfl, by omega, acc', p'⟩, fun x H2 y => ?_⟩
    exact hs D i x acc H' H2 nD hlt p (w.yields i H' x H2 hlt q y)
/-- a comprehension whose turn makes nothing: a filter and a map; the items by ea, what is kept by eb -/
theorem lcb_pure {α β : Type} (ea : α → V) (eb : β → V) {xs : List α} {G : Hp → Prop} (w : Walk J (xs.map ea).length G (YAt (xs.map ea))) (hG : ∀ H', Same H H' → G H') (hl : xs.length < sizeLine) (f : α → Option β)
    (hs : ∀ x H', x ∈ xs → Same H H' → ∀ R : Option V → Hp → Prop, R ((f x).map eb) H' → Turn1 g tt te vs σ (ea x) H' R)
    (hd : ∀ D, H D = none → Q (.ref D) (upd H D (.lst ((xs.filterMap f).map eb)))) : LcB J g tt te vs σ Q H := by
  refine lcb w (fun D i acc H' => H' = upd H D (.lst acc) ∧ acc = ((xs.take i).filterMap f).map eb) (fun D nD => ⟨rfl, rfl⟩) (fun D i acc H' nD _ p => ?_) (fun D i x acc H1 H2 nD hi p y => ?_) (fun D acc H' nD p => ?_)
  · obtain ⟨rfl, rfl⟩ := p
    exact hG _ (Same.new nD)
  · obtain ⟨rfl, rfl⟩ := p
    obtain ⟨rfl, hx⟩ := y
    rw [List.getElem?_map] at hx
    cases hq : xs[i]? with
    | none => rw [hq] at hx; cases hx
    | some z =>
      rw [hq] at hx
      cases hx
      refine hs z _ (List.mem_of_getElem? hq) (Same.new nD) _ ?_
      have e : xs.take (i + 1) = xs.take i ++ [z] := by
        rw [List.take_succ, hq] <;> rfl
      cases hf : f z with
      | none =>
        refine lcr_none (acc := ((xs.take (i + 1)).filterMap f).map eb) ⟨?_, rfl⟩
        rw [e, List.filterMap_append]
        simp [hf]
      | some v =>
        refine lcr_some upd_same ?_ ⟨by rw [upd_upd], ?_⟩
        · rw [List.length_map]
          refine Nat.lt_of_le_of_lt (List.length_filterMap_le _ _) ?_
          rw [List.length_take]; omega
        · rw [e, List.filterMap_append]
          simp [hf]
  · obtain ⟨rfl, rfl⟩ := p
    rw [List.length_map, List.take_length]
    exact hd D nD
theorem w_turn {x : V} {R : Option V → Hp → Prop} (h : g x (wipe σ vs) H fun σ2 H2 => wipe σ2 vs = wipe σ vs ∧ tt σ2 H2 fun b H3 => if b = true then te σ2 H3 fun y H4 => R (some y) H4 else R none H3) : Turn1 g tt te vs σ x H R := h
theorem w_wipe {σ2 : L2.St} {A : Prop} (h : wipe σ2 vs = wipe σ vs) (g : A) : wipe σ2 vs = wipe σ vs ∧ A := ⟨h, g⟩
theorem w_iR1 {ta : TA} {R : It → Hp → Prop} (g : ta σ H fun vs H1 => ∃ j : Int, vs = [.int j] ∧ -(2 ^ 62) ≤ j ∧ j < 2 ^ 62 ∧ R (Itr 0 j.toNat) H1) : iRng1 ta σ H R := g
theorem w_iR1x {R : Int → Prop} {i : Int} (h0 : -(2 ^ 62) ≤ i) (h1 : i < 2 ^ 62) (g : R i) : ∃ j : Int, [V.int i] = [.int j] ∧ -(2 ^ 62) ≤ j ∧ j < 2 ^ 62 ∧ R j := ⟨i, rfl, h0, h1, g⟩
theorem w_iR2 {ta : TA} {R : It → Hp → Prop} (g : ta σ H fun vs H1 => ∃ i j : Int, vs = [.int i, .int j] ∧ (-(2 ^ 62) ≤ i ∧ i < 2 ^ 62 ∧ -(2 ^ 62) ≤ j ∧ j < 2 ^ 62) ∧ R (Itr i (j - i).toNat) H1) : iRng2 ta σ H R := g
theorem w_iE {ta : TA} {R : It → Hp → Prop} (g : ta σ H fun vs H1 => ∃ a xs, vs = [.ref a] ∧ SqL K H1 a xs ∧ R (Ite K a) H1) : iEnum K ta σ H R := g
theorem w_iEx {R : Addr → Prop} {p : Addr} {xs : List V} (h : SqL K H p xs) (g : R p) : ∃ a xs, [V.ref p] = [.ref a] ∧ SqL K H a xs ∧ R a := ⟨p, xs, rfl, h, g⟩
theorem w_iS {R : It → Hp → Prop} (g : te σ H fun v H1 => ∃ x, v = .str x ∧ R (Its x) H1) : iStr te σ H R := g
theorem w_iSx {R : Str → Prop} {z : Str} (g : R z) : ∃ x, V.str z = .str x ∧ R x := ⟨z, rfl, g⟩
def ForB (J : It) (g : TG) (tb : TS) (D : Ends) (σ : L2.St) (H1 : Hp) : Prop := ∃ W : Nat → Nat → L2.St → Hp → Prop, (∃ m, W 0 m σ H1) ∧ ∀ i m σ H, W i m σ H →
  (J.stop i H ∧ D.nx σ H) ∨ (J.go i H ∧ ∃ N : L2.St → Hp → Prop, (∀ σ' H', N σ' H' → ∃ m', m' < m ∧ W (i + 1) m' σ' H') ∧ ∀ x H', J.yld i H x H' → g x σ H' fun σ2 H2 => tb { D with nx := N, ct := N, bk := D.nx } σ2 H2)
theorem w_for {tb : TS} {D : Ends} (h : wi σ H fun J H1 => ForB J g tb D σ H1) : tFor wi g tb D σ H := h
theorem forb {tb : TS} {nx bk ct : L2.St → Hp → Prop} {rt : VK} (w : Walk J n G Y) (Pv : Nat → L2.St → Hp → Prop) (h0 : Pv 0 σ H) (hG : ∀ i σ H, i ≤ n → Pv i σ H → G H)
    (hs : ∀ i x σ H H', i < n → Pv i σ H → Y i H x H' → g x σ H' fun σ2 H2 => tb ⟨Pv (i + 1), rt, nx, Pv (i + 1)⟩ σ2 H2) (hd : ∀ σ H, Pv n σ H → nx σ H) : ForB J g tb ⟨nx, rt, bk, ct⟩ σ H :=
  for_it w Pv h0 hG hs hd
end

/-! ### rules with the written part named -/
section
variable {X : Cx}
theorem k_ixL (K : PySem.W.Frag) (h : X.K = K := by rfl) : IxR X (rIxL K) := by subst h; exact ix_list
theorem k_ixT (K : PySem.W.Frag) (h : X.K = K := by rfl) : IxR X (rIxT K) := by subst h; exact ix_tup
theorem k_slL (K : PySem.W.Frag) (h : X.K = K := by rfl) : SlR X (rSlL K) := by subst h; exact sl_list
theorem k_slT (K : PySem.W.Frag) (h : X.K = K := by rfl) : SlR X (rSlT K) := by subst h; exact sl_tup
theorem k_in (K : PySem.W.Frag) (h : X.K = K := by rfl) : OpR X (compareOp .In) (rIn K false) := by subst h; exact op_in_seq
theorem k_ni (K : PySem.W.Frag) (h : X.K = K := by rfl) : OpR X (compareOp .NotIn) (rIn K true) := by subst h; exact op_notIn_seq
theorem k_eqD (K : PySem.W.Frag) (hu : X.A.units + 64 < cLine) (h : X.K = K := by rfl) : OpR X (compareOp .Eq) (rEqD K) := by subst h; exact op_eqD hu
theorem k_neD (K : PySem.W.Frag) (hu : X.A.units + 64 < cLine) (h : X.K = K := by rfl) : OpR X (compareOp .NotEq) (rNeD K) := by subst h; exact op_neD hu
theorem k_inD (K : PySem.W.Frag) (hu : X.A.units + 65 < cLine) (h : X.K = K := by rfl) : OpR X (compareOp .In) (rInD K) := by subst h; exact op_inD hu
theorem k_niD (K : PySem.W.Frag) (hu : X.A.units + 65 < cLine) (h : X.K = K := by rfl) : OpR X (compareOp .NotIn) (rNotInD K) := by subst h; exact op_notInD hu
theorem k_len (K : PySem.W.Frag) (h : X.K = K := by rfl) : CallR X (.builtin "len") (rLenQ K) := by subst h; exact c_len
theorem k_list (K : PySem.W.Frag) (h : X.K = K := by rfl) : CallR X (.type "list") (rListQ K) := by subst h; exact c_list
theorem k_tupL (K : PySem.W.Frag) (h : X.K = K := by rfl) : CallR X (.type "tuple") (rTupL K) := by subst h; exact c_tupL
theorem k_tupT (K : PySem.W.Frag) (h : X.K = K := by rfl) : CallR X (.type "tuple") (rTupT K) := by subst h; exact c_tupT
theorem k_all (K : PySem.W.Frag) (hc : X.calm = true) (h : X.K = K := by rfl) : CallR X (.builtin "all") (rAll K) := by subst h; exact cr_all hc
theorem k_any (K : PySem.W.Frag) (hc : X.calm = true) (h : X.K = K := by rfl) : CallR X (.builtin "any") (rAny K) := by subst h; exact cr_any hc
theorem k_sortS (K : PySem.W.Frag) (h : X.K = K := by rfl) : CallR X (.builtin "sorted") (rSortedS K) := by subst h; exact cr_sortedS
theorem k_isi (K : PySem.W.Frag) (h : X.K = K := by rfl) : CallR X (.builtin "isinstance") (rIsi K) := by subst h; exact call_isi
theorem k_index (K : PySem.W.Frag) (h : X.K = K := by rfl) : MtR X "list.index" (rIndex K) := by subst h; exact mt_index
theorem k_indexD (K : PySem.W.Frag) (hu : X.A.units + 65 < cLine) (h : X.K = K := by rfl) : MtR X "list.index" (rIndexD K) := by subst h; exact mt_indexD hu
variable {o e tg l : Expr} {es : List Expr} {te to tl ta : TE} {t : TA} {f name : Str} {pos apos cpos p tpos : Pos}
theorem k_fld (K : PySem.W.Frag) (he : PE X e ta) (hb : attributeBase e f X.env (eval e X.env) = eval e X.env) (h : X.K = K := by rfl) : PE X (.Attribute e f pos) (tFld K ta f) := by subst h; exact pe_fld he hb
theorem k_sfld (K : PySem.W.Frag) {value : Expr} {tv : TE} {pos' : Pos} (ha : PE X o ta) (hv : PE X value tv) (hs : swapsWith value (some (.Attribute o f pos')) pos.line X.env = pure false) (h : X.K = K := by rfl) : PS X (.Assign [.Attribute o f pos'] value pos) (sFld K ta tv f) := by subst h; exact ps_fld ha hv hs
theorem k_iL (K : PySem.W.Frag) (hl : PE X l tl) (h : X.K = K := by rfl) : PI X tg l (iList K tl) := by subst h; exact pi_list hl
theorem k_iT (K : PySem.W.Frag) (hl : PE X l tl) (h : X.K = K := by rfl) : PI X tg l (iTup K tl) := by subst h; exact pi_tup hl
theorem k_iE (K : PySem.W.Frag) {tA : TA} {elts : List Expr} {kk : Nat} (hg : Gl X "enumerate") (hm : X.mg "enumerate" = none) (ha : PA X [e] tA) (hs : starEach [e] X.env = [(false, eval e X.env)] := by rfl) (h : X.K = K := by rfl) :
    PI X (.Tuple elts kk tpos) (.Call (.Name "enumerate" p) [e] [] pos) (iEnum K tA) := by subst h; exact pi_enum hg hm ha hs
theorem k_gT (K : PySem.W.Frag) {k n : Nat} {tG : TGs} (hc : X.calm = true) (hp : PGs X es tG) (hn : (assignEach es X.env).length = n := by rfl) (hst : (assignEach es X.env).findIdx? (·.1) = none := by rfl) (h : X.K = K := by rfl) : PG X (.Tuple es k pos) (gTup K n tG) := by subst h; exact pg_tup hc hp hn hst
theorem k_star (K : PySem.W.Frag) (he : PE X e te) (hr : PA X es t) (hs : starEach (.Starred e p :: es) X.env = (true, eval e X.env) :: starEach es X.env := by rfl) (h : X.K = K := by rfl) : PA X (.Starred e p :: es) (StX.tStar K te t) := by subst h; exact StX.pa_star he hr hs
theorem k_join (K : PySem.W.Frag) (ho : PE X o to) (he : PE X e te) (hs : starEach [e] X.env = [(false, eval e X.env)] := by rfl) (hbase : attributeBase o "join" X.env (eval o X.env) = eval o X.env := by rfl) (hline : (apos.endLine == pos.line) = true := by rfl) (h : X.K = K := by rfl) :
    PE X (.Call (.Attribute o "join" apos) [e] [] pos) (tM1 (rJoin K) to te) := by subst h; exact pe_join ho he hs hbase hline
theorem k_bm (K : PySem.W.Frag) {T id : String} {r : V → List V → Hp → VK → Prop} (pa : PlainAttrs T) (slot : Slot T name id) (hty : typeOf (.builtin id) = pure (.type "method_descriptor")) (hm : MtR X id r) (ho : PE X o to) (ha : PA X (e :: es) t)
    (hbase : attributeBase o name X.env (eval o X.env) = eval o X.env := by rfl)
    (hfew : ((backTo cpos (starEach (e :: es) X.env)).all (fun x => !x.1) && (backToKw cpos (keywordEach [] X.env)).all (fun x => x.1.isSome)
      && decide ((e :: es).length + ([] : List Keyword).length + (if ([] : List Keyword).isEmpty then 0 else 1) < 30)) = true := by rfl)
    (hline : (apos.endLine == cpos.line) = true := by rfl) (hs : starEach (e :: es) X.env = (false, eval e X.env) :: starEach es X.env := by rfl) (hplain : (backTo cpos (starEach es X.env)).any (·.1) = false := by rfl) (h : X.K = K := by rfl) :
    PE X (.Call (.Attribute o name apos) (e :: es) [] cpos) (tBM K T r to t) := by subst h; exact pe_bm pa slot hty hm ho ha hbase hfew hline hs hplain
theorem k_bm0 (K : PySem.W.Frag) {T id : String} {r : V → List V → Hp → VK → Prop} (pa : PlainAttrs T) (slot : Slot T name id) (hty : typeOf (.builtin id) = pure (.type "method_descriptor")) (hm : MtR X id r) (ho : PE X o to)
    (hbase : attributeBase o name X.env (eval o X.env) = eval o X.env := by rfl) (hline : (apos.endLine == cpos.line) = true := by rfl) (h : X.K = K := by rfl) : PE X (.Call (.Attribute o name apos) [] [] cpos) (tBM0 K T r to) := by subst h; exact pe_bm0 pa slot hty hm ho hbase hline
end
/-! ### what may be a list or a tuple -/
def iSeq (K : PySem.W.Frag) (tl : TE) : TI := fun σ H R => tl σ H fun x H1 => ∃ a, x = .ref a ∧ (((∃ xs, SqL K H1 a xs) ∧ R (Itl K a) H1) ∨ ((∃ xs, SqT K H1 a xs) ∧ R (Itt K a) H1))
theorem k_iQ {X : Cx} {tg l : Expr} {tl : TE} (K : PySem.W.Frag) (hl : PE X l tl) (hK : X.K = K := by rfl) : PI X tg l (iSeq K tl) := by
  subst hK
  refine ⟨fun pins s σ H R I h => thn (hl.run pins s σ H _ I h) fun v s1 ⟨x, H1, I1, r1, a, e, q1⟩ => ?_⟩
  subst e
  cases r1
  have fin : ∀ b, b ∈ [s1.heap.objs.size] → FpOk X pins H1 b := fun b hb => by
    rw [List.mem_singleton.mp hb]
    exact I1.fpOk (Nat.le_refl _) (I1.hok.fresh (Nat.le_refl _))
  rcases q1 with ⟨⟨xs, hq⟩, q⟩ | ⟨⟨xs, hq⟩, q⟩
  · obtain ⟨its, rv, p, hz⟩ := I1.list hq
    exact wpAny_pyIter_list p.isList ⟨s1.heap.objs.size, [s1.heap.objs.size], _, _, H1, rfl, I1.kept (t' := s1.toks) fun b o e => Heap.get?_push_of_some _ e, turn_list a _, ⟨_, Heap.get?_push_size _ rfl, rfl, rfl⟩, fin, q⟩
  · obtain ⟨its, rv, p, hz⟩ := I1.tuple hq
    exact wpAny_pyIter_tuple (show s1.heap.IsTuple a its.toArray from p) ⟨s1.heap.objs.size, [s1.heap.objs.size], _, _, H1, rfl, I1.kept (t' := s1.toks) fun b o e => Heap.get?_push_of_some _ e, turn_tuple a _, ⟨_, Heap.get?_push_size _ rfl, rfl, rfl⟩, fin, q⟩
section
variable {K : PySem.W.Frag} {σ : L2.St} {H : Hp} {p : Addr} {xs : List V}
theorem w_iQ {tl : TE} {R : It → Hp → Prop} (g : tl σ H fun x H1 => ∃ a, x = .ref a ∧ (((∃ xs, SqL K H1 a xs) ∧ R (Itl K a) H1) ∨ ((∃ xs, SqT K H1 a xs) ∧ R (Itt K a) H1))) : iSeq K tl σ H R := g
theorem w_iQl {A B : Addr → Prop} (h : SqL K H p xs) (g : A p) : ∃ a, V.ref p = .ref a ∧ (((∃ xs, SqL K H a xs) ∧ A a) ∨ ((∃ xs, SqT K H a xs) ∧ B a)) := ⟨p, rfl, .inl ⟨⟨xs, h⟩, g⟩⟩
theorem w_iQt {A B : Addr → Prop} (h : SqT K H p xs) (g : B p) : ∃ a, V.ref p = .ref a ∧ (((∃ xs, SqL K H a xs) ∧ A a) ∨ ((∃ xs, SqT K H a xs) ∧ B a)) := ⟨p, rfl, .inr ⟨⟨xs, h⟩, g⟩⟩
end
theorem ite_nt {A B : Prop} (h : B) : if (!true) = true then A else B := by simpa using h
theorem ite_nf {A B : Prop} (h : A) : if (!false) = true then A else B := by simpa using h
end Mf

namespace Mf
open PySem L2 TL
/-! ### names -/
def IsName (x : Str) : Prop := 1 ≤ x.length ∧ x.length ≤ 8 ∧ ∀ c ∈ x.cps.toList, 97 ≤ c ∧ c ≤ 122
instance (x : Str) : Decidable (IsName x) := inferInstanceAs (Decidable (_ ∧ _ ∧ _))
theorem len_list (x : Str) : x.length = x.cps.toList.length := by
  show x.cps.size = _; rw [Array.length_toList]
theorem str_ext {x y : Str} (h : x.cps.toList = y.cps.toList) : x = y := by
  cases x; cases y
  congr
  exact Array.toList_inj.mp h
theorem app_list (x y : Str) : (x ++ y).cps.toList = x.cps.toList ++ y.cps.toList := by
  show (x.cps ++ y.cps).toList = _
  exact Array.toList_append
theorem eqV_str (x y : Str) : eqV (.str y) (.str x) = decide (y = x) := by
  show (y == x) = decide (y = x)
  by_cases h : y = x
  · rw [decide_eq_true h, h]; exact beq_self_eq_true x
  · rw [decide_eq_false h]; exact beq_eq_false_iff_ne.mpr h
theorem inV_strs (x : Str) : ∀ xs : List Str, inV (.str x) (xs.map V.str) = decide (x ∈ xs)
  | [] => by simp [inV]
  | y :: ys => by
    have ih := inV_strs x ys
    unfold inV at ih ⊢
    rw [List.map_cons, List.any_cons, ih, eqV_str]
    by_cases h : y = x
    · subst h; simp
    · have h' : ¬ x = y := fun e => h e.symm
      simp [h, h']
theorem flat_strsM (xs : List Str) : (xs.map V.str).all flatV = true := by
  rw [List.all_eq_true]
  intro v hv
  obtain ⟨x, _, rfl⟩ := List.mem_map.mp hv
  rfl
theorem atI_all {α : Type} {xs : List α} (P : α → Prop) (h : ∀ x ∈ xs, P x) {v : Int} (h0 : 0 ≤ v) (h1 : v < xs.length) : ∃ x, atI xs v = some x ∧ P x := by
  have hj : v.toNat < xs.length := by omega
  refine ⟨xs[v.toNat], ?_, h _ (List.getElem_mem hj)⟩
  have e : ((v.toNat : Nat) : Int) = v := by omega
  exact (congrArg (atI xs) e).symm.trans (atI_nat (List.getElem?_eq_getElem hj))
/-- more than the others have: one is new -/
theorem pigeon {α : Type} [DecidableEq α] : ∀ (ks xs : List α), ks.Nodup → xs.length < ks.length → ∃ k ∈ ks, k ∉ xs
  | [], xs, _, h => by simp at h
  | k :: ks, xs, nd, h => by
    obtain ⟨h1, h2⟩ := List.nodup_cons.mp nd
    by_cases hk : k ∈ xs
    · have hl : (xs.erase k).length < ks.length := by
        rw [List.length_erase_of_mem hk]
        have : 0 < xs.length := List.length_pos_of_mem hk
        simp at h
        omega
      obtain ⟨j, hj, hn⟩ := pigeon ks (xs.erase k) h2 hl
      refine ⟨j, List.mem_cons_of_mem _ hj, fun hm => hn ?_⟩
      exact (List.mem_erase_of_ne (fun (e : j = k) => h1 (by rw [← e]; exact hj))).mpr hm
    · exact ⟨k, List.mem_cons_self, hk⟩
def sign (c : Nat) : Str := ⟨#[c]⟩
theorem joinL_signs : ∀ cs : List Nat, joinL [] (cs.map fun c => [c]) = cs
  | [] => rfl
  | [c] => rfl
  | c :: d :: r => by
    have ih := joinL_signs (d :: r)
    show [c] ++ ([] ++ joinL [] ((d :: r).map fun c => [c])) = _
    rw [ih]; rfl
theorem join_signs (cs : List Nat) : Txt.join "" (cs.map sign) = ⟨cs.toArray⟩ := by
  apply str_ext
  rw [join_eq]
  have e := tl_join "" (cs.map sign)
  have e1 : tl "" = [] := by decide +kernel
  rw [e1, List.map_map] at e
  refine Eq.trans (show (Str.join "" (cs.map sign)).cps.toList = tl (Str.join "" (cs.map sign)) from rfl) (e.trans ?_)
  exact joinL_signs cs
theorem cut1 (z : Str) : (cutS z (some 1) none).cps.toList = z.cps.toList.drop 1 := by
  have e : HT.sIx z.length 0 (some 1) = min 1 z.length := by
    unfold HT.sIx
    simp
  have e2 : HT.sIx z.length z.length none = z.length := rfl
  show (((z.cps.toList.drop (HT.sIx z.length 0 (some 1))).take (HT.sIx z.length z.length none - HT.sIx z.length 0 (some 1))).toArray).toList = _
  rw [e, e2, List.toList_toArray, len_list]
  cases h : z.cps.toList with
  | nil => simp
  | cons a r => simp [List.take_of_length_le]
theorem isName_q {x : Str} (h : IsName x) (hl : 3 < x.length) : IsName ("q" ++ cutS x (some 1) none) := by
  have e : ("q" ++ cutS x (some 1) none : Str).cps.toList = 113 :: x.cps.toList.drop 1 := by
    rw [app_list, cut1]
    rfl
  refine ⟨?_, ?_, fun c hc => ?_⟩
  · rw [len_list, e]; simp
  · rw [len_list, e, List.length_cons, List.length_drop, ← len_list]
    have := h.2.1; omega
  · rw [e] at hc
    rcases List.mem_cons.mp hc with rfl | hc
    · omega
    · exact h.2.2 c (List.mem_of_mem_drop hc)
theorem signs_size (cs : List Nat) (h : cs.length ≤ 1000) : ((cs.map sign).map (·.length)).sum + (cs.map sign).length * (Str.ofString "").length ≤ 16777216 := by
  have e : (Str.ofString "").length = 0 := by decide +kernel
  have e2 : ∀ l : List Nat, ((l.map sign).map (·.length)).sum = l.length := by
    intro l
    induction l with
    | nil => rfl
    | cons a r ih => rw [List.map_cons, List.map_cons, List.sum_cons, ih, List.length_cons, show (sign a).length = 1 from rfl]; omega
  rw [e, e2]; omega
theorem walk_signs (z : Str) : Walk (Its z) (z.cps.toList.map fun c => V.str (sign c)).length (fun _ => True) (YAt (z.cps.toList.map fun c => V.str (sign c))) := by
  have e : (z.cps.toList.map fun c => V.str (sign c)).length = z.cps.size := by rw [List.length_map, Array.length_toList]
  rw [e]
  refine walk_str.mono (fun _ h => h) fun i H x H' hi _ ⟨h1, c, h2, h3⟩ => ⟨h1, ?_⟩
  rw [List.getElem?_map, Array.getElem?_toList, h2, h3]
  rfl
end Mf

namespace Mf
open PySem L2
/-! ### the law's helpers: what they promise, and how a promise is used -/
def But (p : Addr) (H H' : Hp) : Prop := ∀ b, b ≠ p → H' b = H b
theorem But.kp {p : Addr} {H H' : Hp} (h : But p H H') : Kp p H H' := fun b o n e => by rw [h b n]; exact e
theorem use_draw {p : Addr} {c : Nat} {m : Int} {H : Hp} {Q : VK} {E : XK} (h : Src H p c) (hc : c < LIM) (h0 : 0 < m) (h1 : m < 2 ^ 1000)
    (g : ∀ (v : Int) (c' : Nat) (H' : Hp), 0 ≤ v → v < m → c' ≤ c + 1 → Src H' p c' → But p H H' → Q (.int v) H') : sp_draw ([.ref p, .int m] ++ []) H Q E :=
  ⟨p, c, m, rfl, h, hc, h0, h1, fun v c' o a b d e => g v c' _ a b d e fun b n => upd_ne n⟩
theorem Src.ne {H : Hp} {p q : Addr} {c : Nat} (h : Src H p c) (n : H q = none) : q ≠ p := by
  obtain ⟨g, s, h1, _⟩ := h
  exact (ne_of_none h1 n).symm
theorem Src.tracked {H : Hp} {p q : Addr} {c : Nat} (h : Src H p c) (n : H q = none) : p ≠ q := (h.ne n).symm
theorem Src.new {H : Hp} {p q : Addr} {c : Nat} {o : HO} (h : Src H p c) (n : H q = none) : Src (upd H q o) p c := h.same (Same.new n)
theorem Src.mut {H : Hp} {p q : Addr} {c : Nat} {o : HO} (h : Src H p c) (n : p ≠ q) : Src (upd H q o) p c := by
  obtain ⟨g, s, h1, h2⟩ := h
  exact ⟨g, s, by rw [upd_ne n]; exact h1, h2⟩
def sp_name (K : PySem.W.Frag) : Sp := fun vs H Q _ => ∃ (p a : Addr) (c : Nat) (xs : List Str), vs = [.ref p, .ref a] ∧ Src H p c ∧ c + 10 < LIM ∧ SqL K (hid p H) a (xs.map V.str) ∧ xs.length ≤ 16 ∧
  ∀ (x : Str) (c' : Nat) (H' : Hp), Kp p H H' → Src H' p c' → c' ≤ c + 10 → x ∉ xs → IsName x → Q (.str x) H'
theorem letters_at {v : Int} (h0 : 0 ≤ v) (h1 : v < 26) : ∃ c, atI (Str.ofString "abcdefghijklmnopqrstuvwxyz").cps.toList v = some c ∧ 97 ≤ c ∧ c ≤ 122 := by
  have e : (Str.ofString "abcdefghijklmnopqrstuvwxyz").cps.toList = [97, 98, 99, 100, 101, 102, 103, 104, 105, 106, 107, 108, 109, 110, 111, 112, 113, 114, 115, 116, 117, 118, 119, 120, 121, 122] := by decide +kernel
  rw [e]
  exact atI_all (fun c => 97 ≤ c ∧ c ≤ 122) (by decide) h0 h1
theorem letters_len : (Str.ofString "abcdefghijklmnopqrstuvwxyz").length = 26 := by decide +kernel
def zNames : List Str := (Str.ofString "abcdefghijklmnopq").cps.toList.map fun c => Str.ofString "z" ++ sign c
theorem zNames_nodup : zNames.Nodup := by decide +kernel
theorem zNames_len : zNames.length = 17 := by decide +kernel
theorem zNames_isName : ∀ x ∈ zNames, IsName x := by decide +kernel
theorem use_name {K : PySem.W.Frag} {p a : Addr} {c : Nat} {xs : List Str} {H : Hp} {Q : VK} {E : XK} (h : Src H p c) (hc : c + 10 < LIM) (hS : SqL K (hid p H) a (xs.map V.str)) (hl : xs.length ≤ 16)
    (g : ∀ (x : Str) (c' : Nat) (H' : Hp), Kp p H H' → Src H' p c' → c' ≤ c + 10 → x ∉ xs → IsName x → Q (.str x) H') : sp_name K ([.ref p, .ref a] ++ []) H Q E :=
  ⟨p, a, c, xs, rfl, h, hc, hS, hl, g⟩
/-- names, each once -/
def Names (xs : List Str) : Prop := xs.Nodup ∧ ∀ x ∈ xs, IsName x
def sp_names : Sp := fun vs H Q _ => ∃ (p : Addr) (c n : Nat), vs = [.ref p, .int n] ∧ Src H p c ∧ c + 10 * n + 10 < LIM ∧ n ≤ 16 ∧
  ∀ (xs : List Str) (a : Addr) (c' : Nat) (H' : Hp), Kp p H H' → Src H' p c' → c' ≤ c + 10 * n → H a = none → H' a = some (.lst (xs.map V.str)) → xs.length = n → Names xs → Q (.ref a) H'
theorem use_names {p : Addr} {c n : Nat} {H : Hp} {Q : VK} {E : XK} (h : Src H p c) (hc : c + 10 * n + 10 < LIM) (hn : n ≤ 16)
    (g : ∀ (xs : List Str) (a : Addr) (c' : Nat) (H' : Hp), Kp p H H' → Src H' p c' → c' ≤ c + 10 * n → H a = none → H' a = some (.lst (xs.map V.str)) → xs.length = n → Names xs → Q (.ref a) H') : sp_names ([.ref p, .int (n : Int)] ++ []) H Q E :=
  ⟨p, c, n, rfl, h, hc, hn, g⟩
/-- some of a list, by draws -/
def sp_subset (K : PySem.W.Frag) : Sp := fun vs H Q _ => ∃ (p a : Addr) (c : Nat) (xs : List Str), vs = [.ref p, .ref a] ∧ Src H p c ∧ c + xs.length < LIM ∧ SqL K (hid p H) a (xs.map V.str) ∧ xs.length ≤ 1000 ∧
  ∀ (ys : List Str) (b : Addr) (c' : Nat) (H' : Hp), Kp p H H' → Src H' p c' → c' ≤ c + xs.length → H b = none → H' b = some (.lst (ys.map V.str)) → ys.Sublist xs → Q (.ref b) H'
theorem use_subset {K : PySem.W.Frag} {p a : Addr} {c : Nat} {xs : List Str} {H : Hp} {Q : VK} {E : XK} (h : Src H p c) (hc : c + xs.length < LIM) (hS : SqL K (hid p H) a (xs.map V.str)) (hl : xs.length ≤ 1000)
    (g : ∀ (ys : List Str) (b : Addr) (c' : Nat) (H' : Hp), Kp p H H' → Src H' p c' → c' ≤ c + xs.length → H b = none → H' b = some (.lst (ys.map V.str)) → ys.Sublist xs → Q (.ref b) H') : sp_subset K ([.ref p, .ref a] ++ []) H Q E :=
  ⟨p, a, c, xs, rfl, h, hc, hS, hl, g⟩
theorem Kp.free {p q : Addr} {H H' : Hp} (e : Kp p H H') (n : q ≠ p) (h : H' q = none) : H q = none := by
  cases z : H q with
  | none => rfl
  | some o => rw [e q o n z] at h; cases h
theorem sq_hid {K : PySem.W.Frag} {H : Hp} {p a : Addr} {xs : List V} (n : a ≠ p) (h : H a = some (.lst xs)) : SqL K (hid p H) a xs := SqL.of (by rw [hid_ne n]; exact h)
end Mf

namespace Mf
open PySem PySem.Spec PyProof.Rows L2
/-! ### sets of texts: made by a comprehension, sorted. The road is that of HandS.Set and HandS.SetBool, for texts. -/
def txt (e : Int × Value) : Str := match e.2 with | .str x _ => x | _ => Str.empty
def TxtE (w : World) (e : Int × Value) : Prop := ∃ x t, e.2 = Value.str x t ∧ e.1 = hashStr w x
/-- the set at a holds the texts xs, each once -/
def TxtSet (w : World) (h : Heap) (a : Addr) (xs : List Str) : Prop :=
  ∃ o es ep t, h.get? a = some o ∧ o.ExactSet ∧ o.data = .set es ep t ∧ (∀ e ∈ es.toList, TxtE w e) ∧ (es.toList.map txt).Perm xs ∧ xs.Nodup ∧
    es.size < scanBound ∧ t.fits es.size = true ∧ Ris t.place.toList ∧ (w.params.followText "set-order" = true ∨ t.led = true)
section
variable {P : Program} {w : World} {h h' : Heap} {a : Addr} {xs : List Str}
theorem TxtSet.at (R : TxtSet w h a xs) (k : ∀ o, h.get? a = some o → h'.get? a = some o) : TxtSet w h' a xs := by
  obtain ⟨o, es, ep, t, ho, rest⟩ := R
  exact ⟨o, es, ep, t, k o ho, rest⟩
theorem txt_kind {e : Int × Value} (g : TxtE w e) (x : Str) : (PySem.strKind P w).is x e.2 = true ↔ txt e = x := by
  obtain ⟨y, t, e1, _⟩ := g
  unfold txt
  rw [e1]
  show Value.isStrOf x (.str y t) = true ↔ y = x
  simp [Value.isStrOf]
theorem txt_elems {l : List (Int × Value)} (g : ∀ e ∈ l, TxtE w e) : ElemsOf (PySem.strKind P w) l := fun e he => by
  obtain ⟨y, t, e1, e2⟩ := g e he
  refine ⟨⟨y, ?_, e2⟩, ?_⟩
  · rw [e1]; exact strKind_is P w y t
  · rw [e1]; rfl
theorem txt_mem {l : List (Int × Value)} (g : ∀ e ∈ l, TxtE w e) (x : Str) : x ∈ l.map txt ↔ ∃ e ∈ l, (PySem.strKind P w).is x e.2 = true := by
  constructor
  · intro hx
    obtain ⟨e, he, q⟩ := List.mem_map.mp hx
    exact ⟨e, he, (txt_kind (g e he) x).2 q⟩
  · rintro ⟨e, he, q⟩
    exact List.mem_map.mpr ⟨e, he, (txt_kind (g e he) x).1 q⟩
theorem txt_stored {o : Obj} {es es' : Array (Int × Value)} {ep : Nat} {t t' : SetTable} (ho : h.get? a = some o) (hd : o.data = .set es ep t) : (h.update a (Obj.putSet es' t')).get? a = some { o with data := .set es' (ep + 1) t' } := by
  have e := putSet_of es' t' hd
  have q := Heap.get?_update_self (Obj.putSet es' t') ho (by rw [e]; rfl)
  rwa [e] at q
end
/-- the members behind one more -/
def addT (xs : List Str) (x : Str) : List Str := if x ∈ xs then xs else x :: xs
section
variable {P : Program} {w : World} {A : Around} {E : Value → Shared → Prop} {s : Shared} {a : Addr} {xs : List Str}
theorem txt_settle {g : Bool → Sem Unit} (hg : ∀ (b : Bool) (s₁ : Shared) (Q' : Unit → Shared → Prop), Q' () s₁ → wpAny (model P w) A (g b) Q' E s₁)
    {o : Obj} {es : Array (Int × Value)} {ep : Nat} {t : SetTable} (ho : s.heap.get? a = some o) (hex : o.ExactSet) (hd : o.data = .set es ep t) {es1 : Array (Int × Value)} {t2 : SetTable} {ys : List Str}
    (g1 : ∀ e ∈ es1.toList, TxtE w e) (pm1 : (es1.toList.map txt).Perm ys) (nd1 : ys.Nodup) (hb1 : es1.size < scanBound) (hf2 : t2.fits es1.size = true) (hr : Ris t2.place.toList) (hl : w.params.followText "set-order" = true ∨ t2.led = true)
    {wasDummy : Bool} {R : Option Bool → Shared → Prop} (hR : ∀ h', Heap.SameBut a s.heap h' → TxtSet w h' a ys → R (some true) { s with heap := h' }) :
    wpAny (model P w) A (do
        storeSet a es1 t2
        if (!wasDummy && t2.tooFull) = true then do
            g (relayAll t2 es1 (SetTable.grown es1.size)).2.2
            storeSet a (relayAll t2 es1 (SetTable.grown es1.size)).1 (relayAll t2 es1 (SetTable.grown es1.size)).2.1
            pure (some true)
          else pure (some true)) R E s := by
  have ho1 := txt_stored (es' := es1) (t' := t2) ho hd
  have same1 := Heap.SameBut.update s.heap a (Obj.putSet es1 t2)
  refine wpAny_bind (wpAny_storeSet_of ho hd ?_ (fits_of_scanBound hb1))
  split
  · have pm := relayAll_perm t2 es1 (SetTable.grown es1.size)
    have hf3 := relayAll_fits t2 es1 (SetTable.grown es1.size)
    have hr3 := relayAll_ris t2 es1 (SetTable.grown es1.size)
    have hl3 := relayAll_led t2 es1 (SetTable.grown es1.size)
    generalize relayAll t2 es1 (SetTable.grown es1.size) = Z at pm hf3 hr3 hl3 ⊢
    obtain ⟨es2, t3, gave⟩ := Z
    dsimp only at pm hf3 hr3 hl3 ⊢
    have hsz : es2.size = es1.size := by
      have := pm.length_eq
      rwa [Array.length_toList, Array.length_toList] at this
    have hb2 : es2.size < scanBound := hsz ▸ hb1
    have ho2 := txt_stored (es' := es2) (t' := t3) ho1 rfl
    refine wpAny_bind (hg _ _ _ ?_)
    refine wpAny_bind (wpAny_storeSet_of ho1 rfl ?_ (fits_of_scanBound hb2))
    refine wpAny_pure (hR _ (same1.trans (Heap.SameBut.update _ a _)) ?_)
    refine ⟨_, es2, _, t3, ho2, hex, rfl, fun e he => g1 e (pm.mem_iff.mp he), (pm.map txt).trans pm1, nd1, hb2, hf3, hr3, hl.imp id fun z => ?_⟩
    rw [hl3]; exact z
  · exact wpAny_pure (hR _ same1 ⟨_, es1, _, t2, ho1, hex, rfl, g1, pm1, nd1, hb1, hf2, hr, hl⟩)
theorem txt_add_hashed {x : Str} {tk : Tok} {Q : Bool → Shared → Prop} (R : TxtSet w s.heap a xs) (room : xs.length + 1 < scanBound)
    (hQ : ∀ b h', Heap.SameBut a s.heap h' → TxtSet w h' a (addT xs x) → Q b { s with heap := h' }) :
    wpAny (model P w) A (setAddHashed a (.str x tk) ((PySem.strKind P w).hash x)) Q E s := by
  obtain ⟨o, es, ep, t, ho, hex, hd, g, pm0, nd, hb, hf, hr, hl⟩ := R
  have hkey : (PySem.strKind P w).is x (.str x tk) = true := strKind_is P w x tk
  have hsc : (Value.str x tk).scannable = true := rfl
  have hel : ElemsOf (PySem.strKind P w) es.toList := txt_elems g
  have hsz0 : es.size = xs.length := by
    have := pm0.length_eq
    rwa [List.length_map, Array.length_toList] at this
  unfold setAddHashed setAddHashedIn
  refine wpAny_holding (wpAny_bind (wpAny_setState_of ho hd hf ?_))
  dsimp only
  rw [byScan_of hsc hb hel]
  simp only [↓reduceIte]
  unfold setAddByScan
  refine wpAny_bind (wpAny_bind (wpAny_rule (wpAny_bind (wpAny_setScan_of hkey ho hd hf hel ?_))))
  cases hfi : List.findIdx? (fun e => (PySem.strKind P w).is x e.2) es.toList with
  | some j =>
    dsimp only
    obtain ⟨hj, pj, _⟩ := List.findIdx?_eq_some_iff_getElem.mp hfi
    have hx : x ∈ xs := pm0.mem_iff.mp ((txt_mem (P := P) g x).2 ⟨es.toList[j], List.getElem_mem hj, pj⟩)
    have e : addT xs x = xs := if_pos hx
    refine wpAny_pure (wpAny_pure ?_)
    exact hQ _ s.heap (Heap.SameBut.refl a s.heap) (by rw [e]; exact ⟨o, es, ep, t, ho, hex, hd, g, pm0, nd, hb, hf, hr, hl⟩)
  | none =>
    dsimp only
    have hx : x ∉ xs := fun hm => by
      obtain ⟨e, he, q⟩ := (txt_mem (P := P) g x).1 (pm0.mem_iff.mpr hm)
      have c := List.findIdx?_eq_none_iff.mp hfi e he
      rw [q] at c; cases c
    have ea : addT xs x = x :: xs := if_neg hx
    rw [ea] at hQ
    have hgw : ∀ (b : Bool) {s₁ : Shared} {Q' : Unit → Shared → Prop}, Q' () s₁ → wpAny (model P w) A (match b with | true => rule "set.scan.the-table-gave-way" | false => pure ()) Q' E s₁ :=
      fun b s₁ Q' q => by cases b <;> first | exact wpAny_pure q | exact wpAny_rule q
    have pm := layNew_perm t es ((PySem.strKind P w).hash x) (.str x tk)
    have hf1 := layNew_fits t es ((PySem.strKind P w).hash x) (.str x tk)
    have hr1 := layNew_ris t es ((PySem.strKind P w).hash x) (.str x tk) hr
    have hl1 := layNew_led t es ((PySem.strKind P w).hash x) (.str x tk)
    generalize layNew t es ((PySem.strKind P w).hash x) (.str x tk) = Z at pm hf1 hr1 hl1 ⊢
    obtain ⟨es1, t1, wasDummy, gave⟩ := Z
    dsimp only at pm hf1 hr1 hl1 ⊢
    rw [Array.toList_push] at pm
    have pc : es1.toList.Perm (((PySem.strKind P w).hash x, Value.str x tk) :: es.toList) := pm.trans (List.perm_append_singleton _ _)
    have pk : (es1.toList.map txt).Perm (x :: xs) := (pc.map txt).trans (pm0.cons x)
    have g1 : ∀ e ∈ es1.toList, TxtE w e := fun e he => by
      rcases List.mem_cons.mp (pc.mem_iff.mp he) with z | z
      · subst z; exact ⟨x, tk, rfl, rfl⟩
      · exact g e z
    have nd1 : (x :: xs).Nodup := List.nodup_cons.mpr ⟨hx, nd⟩
    have hsz : es1.size = xs.length + 1 := by
      have := pk.length_eq
      rwa [List.length_map, Array.length_toList] at this
    have hb1 : es1.size < scanBound := hsz ▸ room
    have hled : w.params.followText "set-order" = true ∨ t1.led = true := hl.imp id fun z => by rw [hl1]; exact z
    refine wpAny_bind (hgw _ ?_)
    split
    · refine wpAny_bind ?_
      rw [hashByValue_scannable 8 hsc]
      refine wpAny_pure ?_
      refine txt_settle ?_ ho hex hd g1 pk nd1 hb1 ?_ ?_ ?_ ?_
      · intro b s₁ Q' q; cases b <;> first | exact wpAny_pure q | exact wpAny_rule q
      · first | (split <;> first | exact hf1 | exact SetTable.fits_plain_off hf1) | exact hf1
      · first | (split <;> exact hr1) | exact hr1
      · first | (split <;> exact hled) | exact hled
      · intro h' sb r; dsimp only; exact wpAny_pure (hQ _ h' sb r)
    · refine wpAny_bind (wpAny_pure ?_)
      simp only [↓reduceIte]
      refine txt_settle ?_ ho hex hd g1 pk nd1 hb1 hf1 hr1 hled ?_
      · intro b s₁ Q' q; cases b <;> first | exact wpAny_pure q | exact wpAny_rule q
      · intro h' sb r; dsimp only; exact wpAny_pure (hQ _ h' sb r)
theorem txt_typeIs (R : TxtSet w s.heap a xs) : s.TypeIs (.ref a) "set" := by
  obtain ⟨o, es, ep, t, ho, hex, _⟩ := R
  exact ⟨o, ho, hex.1⟩
theorem txt_add {x : Str} {tk : Tok} {Q : Value → Shared → Prop} (R : TxtSet w s.heap a xs) (room : xs.length + 1 < scanBound)
    (hQ : ∀ h', Heap.SameBut a s.heap h' → TxtSet w h' a (addT xs x) → Q .none { s with heap := h', toks := s.toks + 1 }) : wpAny (model P w) A (call (.builtin "set.add") [.ref a, .str x tk]) Q E s := by
  refine wpAny_call_entry F.slot_set_add (txt_typeIs R) F.entry_set_add ?_ (F.args_set_add_2 _ _)
  unfold Builtin.«set.add» Builtin.Frozenset.oneOther
  simp only [List.isEmpty_nil, bind_assoc]
  unfold Builtin.Frozenset.addrOf setAdd
  refine wpAny_bind (wpAny_pure ?_)
  try dsimp only
  refine wpAny_bind (wpAny_pure ?_)
  try dsimp only
  refine wpAny_bind (wpAny_holding (wpAny_bind ((PySem.strKind P w).pyHash (strKind_is P w x tk) ?_)))
  refine txt_add_hashed (s := { s with toks := s.toks + 1 }) R room fun b h' sb r => ?_
  show wpAny _ _ (ret Value.none) _ _ _
  exact wpAny_pure ⟨_, rfl, hQ h' sb r⟩
theorem txt_fresh {h : Heap} (w : World) : TxtSet w (h.push { cls := .type "set", dict := none, data := .set #[] 0 (.fresh 0 0 (!w.params.followText "set-order")) }) h.objs.size [] := by
  refine ⟨_, #[], 0, _, Heap.get?_push_size _ rfl, ⟨rfl, rfl, rfl⟩, rfl, (by simp), (by simp), List.nodup_nil, (by decide), (by rfl), List.Pairwise.nil, ?_⟩
  show _ ∨ (!w.params.followText "set-order") = true
  cases w.params.followText "set-order"
  · exact .inr rfl
  · exact .inl rfl
/-- sorted(s): the members in order -/
theorem txt_sorted {Q : Value → Shared → Prop} (R : TxtSet w s.heap a xs) (hh : A.handled = none) (h64 : xs.length < 64)
    (hQ : ∀ s' p (out : Array Value) (c : Nat) (ys : List Str), (∀ b o, s.heap.get? b = some o → s'.heap.get? b = some o) → s'.gens = s.gens → s'.os = s.os → s.heap.objs.size ≤ p →
      s'.heap.get? p = some (seqObj "list" out c) → StrsAre out.toList ys → ys.Perm xs → sortedS ys = true → Q (.ref p) s') : wpAny (model P w) A (call (.builtin "sorted") [.ref a]) Q E s := by
  obtain ⟨o, es, ep, t, ho, hex, hd, g, pm0, nd, hb, hf, hr, hl⟩ := R
  refine Calls.call_function_entry kind_sorted plain_sorted entry_sorted (args_sorted1 _) ?_
  unfold Builtin.«sorted»
  refine wpAny_bind (m := checkCount "sorted" 1 1 _) (wpAny_pure ?_)
  refine wpAny_bind (collect_set (A := A.in1) hh ⟨o, ho, hex.1, hd⟩ hf hb hr hl fun s1 vs k1 hz g1 o1 pm => ?_)
  have hvl : vs.length = xs.length := by
    rw [pm.length_eq, List.length_map, ← pm0.length_eq, List.length_map]
  have hall : ∀ v ∈ vs, ∃ x t, v = Value.str x t := fun v hv => by
    obtain ⟨e, he, q⟩ := List.mem_map.mp (pm.mem_iff.mp hv)
    obtain ⟨x, t, e1, _⟩ := g e he
    exact ⟨x, t, by rw [← q]; exact e1⟩
  have hS : StrsAre vs (vs.map strOf) := strsAre_map vs hall
  have pk : (vs.map strOf).Perm xs := by
    refine (pm.map strOf).trans ?_
    rw [List.map_map]
    have e : es.toList.map (strOf ∘ fun x => x.2) = es.toList.map txt := List.map_congr_left fun e he => by
      obtain ⟨x, t, e1, _⟩ := g e he
      show strOf e.2 = txt e
      unfold txt
      rw [e1] <;> rfl
    rw [e]
    exact pm0
  refine wpAny_bind (wpAny_newList ?_ (by rw [hvl, sizeLine_eq]; omega))
  have hoL : (s1.heap.push (seqObj "list" vs.toArray 0)).get? s1.heap.objs.size = some (seqObj "list" vs.toArray 0) := Heap.get?_push_size _ rfl
  refine wpAny_bind (wpAny_holding (wpAny_call_entry slot_list_sort ⟨_, hoL, rfl⟩ entry_list_sort
    (list_sort_treeK strKind_oneLt hoL hS.keysOf (fun v₁ v₂ rest e => keyKind_strs (by rw [← e]; exact hS)) (by rw [hvl]; exact h64) fun st' hp hs => ⟨_, rfl, ?_⟩) (args_list_sort _)))
  obtain ⟨ys, b1, b2, b3⟩ := sorted_out_str hS hp hs
  obtain ⟨c, hc⟩ := sortedHeap_at (vs := vs) (out := (arrOf st').map (·.2)) hoL
  refine wpAny_pure ⟨_, rfl, hQ _ s1.heap.objs.size _ c ys (fun b u e => ?_) g1 o1 hz hc b1 (b2.trans pk) b3⟩
  have q := k1 b u e
  have hlt := Heap.lt_size q
  show (sortedHeap (s1.heap.push (seqObj "list" vs.toArray 0)) s1.heap.objs.size vs ((arrOf st').map (·.2))).get? b = some u
  rw [sortedHeap_old (Nat.ne_of_lt hlt) (by rw [size_push']; exact Nat.lt_succ_of_lt hlt)]
  exact Heap.get?_push_of_some _ q
end
/-! ### as tracked things -/
def TxtO (w : World) (a : Addr) (xs : List Str) : HO := .ext fun h => TxtSet w h a xs
theorem txtO_ok {w : World} {P : Program} {H : Hp} {h : Heap} {a : Addr} {xs : List Str} (R : TxtSet w h a xs) : ObjOk P w H h a (TxtO w a xs) :=
  ⟨R, (let ⟨o, _, _, _, ho, _⟩ := R; ⟨o, ho⟩), fun _ _ p k => TxtSet.at p k⟩
section
variable {X : Cx} {pins : List (Addr × Obj)} {σ : L2.St} {H : Hp} {s : Shared}
theorem txtO_get {a : Addr} {xs : List Str} (I : Inv X pins σ H s) (ha : H a = some (TxtO X.w a xs)) : TxtSet X.w s.heap a xs := (I.hok a _ ha).1
theorem txtO_add {E : Value → Shared → Prop} {D : Addr} {xs : List Str} {x : Str} {t : Tok} {Q : Value → Shared → Prop} (I : Inv X pins σ H s) (hD : H D = some (TxtO X.w D xs)) (room : xs.length + 1 < scanBound)
    (h : ∀ s', Inv X pins σ (upd H D (TxtO X.w D (addT xs x))) s' → Q .none s') : wpAny (model X.prog X.w) X.A (call (.builtin "set.add") [.ref D, .str x t]) Q E s := by
  refine txt_add (txtO_get I hD) room fun h' sb new => h _ ?_
  have he : ∃ u, h'.get? D = some u := let ⟨o, _, _, _, ho, _⟩ := new; ⟨o, ho⟩
  exact I.write (e := D) (t' := s.toks + 1) (by rw [hD]; trivial) (.inl rfl) (fun b u hb hu => (sb.2 b hb).trans hu) he (txtO_ok new)
/-- sorted(set of texts) -/
def rSortT (w : World) : List V → Hp → VK → Prop := fun vs H Q => ∃ (a : Addr) (xs : List Str), vs = [V.ref a] ∧ H a = some (TxtO w a xs) ∧ xs.length < 64 ∧
  ∀ (ys : List Str) (p : Addr), ys.Perm xs → sortedS ys = true → H p = none → Q (.ref p) (upd H p (.lst (ys.map V.str)))
theorem c_sortT (w : World) (hc : X.calm = true) (hw : X.w = w := by rfl) : CallR X (.builtin "sorted") (rSortT w) := by
  subst hw
  intro pins s σ H vs us Q I r ⟨a, xs, e, ha, h64, q⟩
  subst e
  rw [Vals.ref1 r]
  refine txt_sorted (txtO_get I ha) (I.ok.hd hc) h64 fun s' p out c ys k hg ho hp hob hS pm so => ?_
  have nP : H p = none := I.hok.fresh hp
  have hlen : (ys.map V.str).length ≤ sizeLine := by rw [List.length_map, pm.length_eq]; exact small64 h64
  have I1 : Inv X pins σ (upd H p (.lst (ys.map V.str))) s' :=
    I.call' (ch := []) ho (Un.laid k hp nP) (I.hok.laid k hp ⟨hlen, out.toList, c, vals_of_strs hS, hob⟩) (by rw [hg]; exact I.bare) (fun _ z => nomatch z)
  exact ⟨.ref p, _, I1, rfl, q ys p pm so nP⟩
end

/-! ### {elt for target in iter if ..}, the elements texts -/
/-- what is walked for each item: D the new set -/
def ScB (w : World) (J : It) (g : TG) (tt : TT) (te : TE) (vs : List Nat) (σ : L2.St) (Q : VK) (H1 : Hp) : Prop :=
  ∀ D, H1 D = none → ∃ W : Nat → Nat → Hp → Prop, (∃ m, W 0 m (upd H1 D (TxtO w D []))) ∧ ∀ i m H, W i m H →
    (J.stop i H ∧ Q (.ref D) H) ∨ (J.go i H ∧ ∃ Nx : Hp → Prop, (∀ H', Nx H' → ∃ m', m' < m ∧ W (i + 1) m' H') ∧ ∀ x H', J.yld i H x H' → g x (wipe σ vs) H' fun σ2 H2 => wipe σ2 vs = wipe σ vs ∧ tt σ2 H2 fun b H3 =>
      if b = true then te σ2 H3 fun y H4 => ∃ (z : Str) (xs : List Str), y = .str z ∧ H4 D = some (TxtO w D xs) ∧ xs.length + 1 < scanBound ∧ Nx (upd H4 D (TxtO w D (addT xs z))) else Nx H3)
def tScT (w : World) (wi : TI) (g : TG) (tt : TT) (te : TE) (vs : List Nat) : TE := fun σ H Q => wi σ H fun J H1 => ScB w J g tt te vs σ Q H1
section
variable {X : Cx}
theorem e_scT (w : World) {elt tg iter : Expr} {ifs : List Expr} {scope : Scope} {own : List (PySem.Str × Nat)} {pos : Pos} {wi : TI} {g : TG} {tt : TT} {te : TE} (hc : X.calm = true) (hN : X.N.Nodup) (hi : PI X tg iter wi) (ok : BlkOk X.N X.env.scope scope own)
    (hg : ∀ (s : Shared) (H : Hp) (C : Addr) (cl : List (PySem.Str × Addr)) (fp : List Addr), PG (X.blk s H scope (compEnvC scope cl C X.env) fp) tg g) (ht : ∀ (s : Shared) (H : Hp) (C : Addr) (cl : List (PySem.Str × Addr)) (fp : List Addr), PTs (X.blk s H scope (compEnvC scope cl C X.env) fp) ifs tt)
    (he : ∀ (s : Shared) (H : Hp) (C : Addr) (cl : List (PySem.Str × Addr)) (fp : List Addr), PE (X.blk s H scope (compEnvC scope cl C X.env) fp) elt te) (hs : ∀ x, foldedSetIterable iter X.env x = pure x := by intro _; rfl) (hw : X.w = w := by rfl) :
    PE X (.SetComp elt [⟨tg, iter, ifs, 0⟩] scope pos) (tScT w wi g tt te (own.map (·.2))) := by
  subst hw
  refine ⟨fun pins s σ H Q I h => ?_⟩
  rw [PpSet.eval_SetComp]
  have hfree : ∀ y ∈ scope.names, y.2 = .free → ∃ c, X.env.cells.lookup y.1 = some c := fun y hy e => I.ok.has _ (ok.free y hy e)
  refine wpAny_comprehension_free (use := none) rfl hs (closure_ok hfree) ok.kind (fun y hy e => by rw [ok.uniq y hy, e]) (thn (hi.run pins s σ H _ I h) fun xv s1 hx => thn hx fun itv s2 h2 => ?_)
  obtain ⟨it, fp, tn, J, H2, e, I2, T, st2, f2, q⟩ := h2
  subst e
  refine PpSet.newSet_ok (newEnv_comp ?_)
  generalize hD : s2.heap.objs.size = D
  have hDn : H2 D = none := I2.hok.fresh (Nat.le_of_eq hD)
  obtain ⟨W, ⟨m0, w0⟩, turn⟩ := q D hDn
  generalize hs3 : ({ s2 with heap := s2.heap.push { cls := .type "set", dict := none, data := .set #[] 0 (.fresh 0 0 (!X.w.params.followText "set-order")) } } : Shared) = s3
  have h3 : s3.heap = s2.heap.push { cls := .type "set", dict := none, data := .set #[] 0 (.fresh 0 0 (!X.w.params.followText "set-order")) } := by rw [← hs3]
  generalize hH3 : upd H2 D (TxtO X.w D []) = H3 at w0
  have I3 : Inv X pins σ H3 s3 := by
    rw [← hs3, ← hH3]
    refine I2.laid (t' := s2.toks) (fun b o e => Heap.get?_push_of_some _ e) (Nat.le_of_eq hD) ?_
    rw [← hD]
    exact txtO_ok (txt_fresh X.w)
  have sz : ∀ b ∈ fp, b < s2.heap.objs.size := fun b hb => let ⟨o, e, _⟩ := T.obj _ _ st2 b hb; Heap.lt_size e
  have f3 : ∀ b ∈ fp, FpOk X pins H3 b ∧ b < s3.heap.objs.size := fun b hb => by
    have hlt := sz b hb
    refine ⟨⟨?_, (f2 b hb).2⟩, by rw [h3, Heap.size_push]; exact Nat.lt_succ_of_lt hlt⟩
    rw [← hH3, upd_ne (by rw [← hD]; exact Nat.ne_of_lt hlt)]
    exact (f2 b hb).1
  have nfp : ∀ b ∈ fp, H3 b = none := fun b hb => (f3 b hb).1.1
  have st3 : tn 0 s3.heap := T.keep _ _ _ st2 fun b _ o e => by rw [h3]; exact Heap.get?_push_of_some _ e
  have I4 := block_start I3 ok hN f3
  have pg := hg s3 H3 s3.heap.objs.size (cellsFrom (s3.heap.objs.size + 1) scope.names (cloFrom X.env.cells scope.names [])) fp
  have pt := ht s3 H3 s3.heap.objs.size (cellsFrom (s3.heap.objs.size + 1) scope.names (cloFrom X.env.cells scope.names [])) fp
  have pe := he s3 H3 s3.heap.objs.size (cellsFrom (s3.heap.objs.size + 1) scope.names (cloFrom X.env.cells scope.names [])) fp
  show codeAny _ _ (.compStart (.SetComp elt [⟨tg, iter, ifs, 0⟩] scope pos) 0 (.ref it) (.ref D) (compEnvC scope (cellsFrom (s3.heap.objs.size + 1) scope.names (cloFrom X.env.cells scope.names [])) s3.heap.objs.size X.env)) (compPost (model X.prog X.w) X.A X.xe none _ (.ref D) s3.heap.objs.size) { s3 with heap := pushCells (s3.heap.push { cls := .type "dict", data := .dict #[] }) scope.names }
  generalize hce : compEnvC scope (cellsFrom (s3.heap.objs.size + 1) scope.names (cloFrom X.env.cells scope.names [])) s3.heap.objs.size X.env = ce at I4 pg pt pe ⊢
  have cL : ce.locals = s3.heap.objs.size := by subst hce; rfl
  generalize hs4 : ({ s3 with heap := pushCells (s3.heap.push { cls := .type "dict", data := .dict #[] }) scope.names } : Shared) = s4 at I4 ⊢
  have st4 : tn 0 s4.heap := T.keep _ _ _ st3 fun b _ o e => by rw [← hs4]; exact pushCells_keeps _ _ _ _ (Heap.get?_push_of_some _ e)
  have stat : ∀ {σ' : L2.St} {H' : Hp} {s' : Shared}, Inv (X.blk s3 H3 scope ce fp) [] σ' H' s' → (∀ b ∈ fp, H' b = none) → ∀ b ∈ fp, FpOk (X.blk s3 H3 scope ce fp) [] H' b := fun {σ' H' s'} I' hn b hb =>
    ⟨hn b hb, (I'.ok.exf b hb).1, I'.ok.exfs b hb, .inl hb, fun x c e => (I'.ok.exf b hb).2 x c e, fun p hp => absurd (show p ∈ ([] : List (Addr × Obj)) ++ [] from hp) (by simp)⟩
  have loop : codeAny (model X.prog X.w) X.A (.compLoop (.SetComp elt [⟨tg, iter, ifs, 0⟩] scope pos) 0 (.ref it) (.ref D) ce) (compPost (model X.prog X.w) X.A X.xe none (EP X pins σ Q) (.ref D) s3.heap.objs.size) s4 := by
    refine PpSet.compLoopS_any (fun n s' => ∃ i H', Inv (X.blk s3 H3 scope ce fp) [] (wipe σ (own.map (·.2))) H' s' ∧ tn i s'.heap ∧ (∀ b ∈ fp, H' b = none) ∧ W i n H') ?_ m0 ⟨0, H3, I4, st4, nfp, w0⟩
    rintro n s5 ⟨i, H5, I5, st5, n5, w5⟩
    rcases turn i n H5 w5 with ⟨stop, qq⟩ | ⟨go, Nx, hNx, step⟩
    · refine thnF (T.done (X.blk s3 H3 scope ce fp) rfl rfl rfl hc i [] s5 _ H5 (fun _ _ => False) I5 (stat I5 n5) st5 stop) fun r s6 ⟨hr, I6⟩ => ?_
      subst hr
      have I7 : Inv X pins σ H5 s6 := I3.call' (ch := fp) I6.os I6.base I6.hok I6.bare fun b hb => ⟨(f3 b hb).1.2.2.2.1, (f3 b hb).1.2.1, (f3 b hb).1.2.2.2.2.1, (f3 b hb).1.2.2.2.2.2⟩
      have nC : H5 s3.heap.objs.size = none := cL ▸ I6.free
      obtain ⟨m, hn, _⟩ := I6.loc
      have hn : s6.heap.Ns ce.locals m := hn
      rw [cL] at hn
      refine ⟨m, hn, fun h'' sb => ?_⟩
      obtain ⟨f0, f1, f2, f3, f4, f5⟩ := I3.fpOk (Nat.le_refl _) nC
      exact ⟨.ref D, H5, I7.turned (t' := s6.toks) (fun b o hb e => (sb.2 b hb).trans e) f0 f1 f3 f4 f5, rfl, qq⟩
    · refine thnF (T.item (X.blk s3 H3 scope ce fp) rfl rfl rfl hc i [] s5 _ H5 (fun _ _ => False) I5 (stat I5 n5) st5 go) fun r s6 ⟨u, hr, h6⟩ => ?_
      subst hr
      refine thnF h6 fun _ s7 ⟨x, H7, I7, r7, y7, st7, n7⟩ => ?_
      refine thnF (pg.run _ s7 _ H7 x u _ (I7.pinned (stat I7 n7) (T.obj _ _ st7)) r7 (step x H7 y7)) fun _ s8 ⟨σ8, H8, I8, hw8, q8⟩ => ?_
      refine thnF (pt.run _ s8 σ8 H8 _ I8 q8) fun b s9 ⟨H9, I9, q9⟩ => ?_
      have fin : ∀ {s' : Shared} {H' : Hp}, Inv (X.blk s3 H3 scope ce fp) ([] ++ pinsAt fp s7.heap) σ8 H' s' → Nx H' → ∃ m, m < n ∧ ∃ i H', Inv (X.blk s3 H3 scope ce fp) [] (wipe σ (own.map (·.2))) H' s' ∧ tn i s'.heap ∧ (∀ b ∈ fp, H' b = none) ∧ W i m H' := fun {s' H'} I' nx => by
        obtain ⟨m', hm, w'⟩ := hNx H' nx
        have pin' : ∀ b ∈ fp, ∀ o, s7.heap.get? b = some o → s'.heap.get? b = some o ∧ H' b = none := fun b hb o e =>
          let z := I'.pin (b, o) (List.mem_append_right _ (List.mem_append_right _ (mem_pinsAt hb e)))
          ⟨z.1, z.2.1⟩
        refine ⟨m', hm, i + 1, H', (I'.unpinned (pins := [])).weak (by rw [← hw8, wipe_length]) (fun j v e => ?_), T.keep _ _ _ st7 fun b hb o e => (pin' b hb o e).1, fun b hb => ?_, w'⟩
        · rw [← hw8] at e
          exact (wipe_some e).1
        · obtain ⟨o, e, _⟩ := T.obj _ _ st7 b hb
          exact (pin' b hb o e).2
      cases b with
      | false =>
        simp only [Bool.false_eq_true, if_false] at q9 ⊢
        exact fin I9 q9
      | true =>
        simp only [if_true] at q9 ⊢
        refine thnF (pe.run _ s9 σ8 H9 _ I9 q9) fun z s10 ⟨yv, H10, I10, r10, zt, xs0, ey, hD10, hz10, nx⟩ => ?_
        subst ey
        obtain ⟨tz, rfl⟩ := r10
        exact txtO_add (X := X.blk s3 H3 scope ce fp) I10 hD10 hz10 fun s11 I11 => fin I11 nx
  exact PpSet.codeAny_compStart_set loop (T.self X.A 0 _ _ _ st4 loop)
end
section
variable {K : PySem.W.Frag} {w : World} {σ : L2.St} {H : Hp} {Q : VK} {g : TG} {tt : TT} {te : TE} {vs : List Nat} {wi : TI} {J : It} {n : Nat} {G : Hp → Prop} {Y : Nat → Hp → V → Hp → Prop}
theorem w_sc (h : wi σ H fun J H1 => ScB w J g tt te vs σ Q H1) : tScT w wi g tt te vs σ H Q := h
def addAll (xs : List Str) : List Str := xs.foldl addT []
theorem addT_nodup {xs : List Str} {x : Str} (h : xs.Nodup) : (addT xs x).Nodup := by
  unfold addT; split
  · exact h
  · exact List.nodup_cons.mpr ⟨by assumption, h⟩
theorem mem_addT {xs : List Str} {x y : Str} : y ∈ addT xs x ↔ y ∈ xs ∨ y = x := by
  unfold addT; split
  · constructor
    · exact .inl
    · rintro (h | rfl)
      · exact h
      · assumption
  · rw [List.mem_cons]; exact Or.comm
theorem foldl_addT : ∀ (xs acc : List Str), acc.Nodup → (xs.foldl addT acc).Nodup ∧ ∀ y, y ∈ xs.foldl addT acc ↔ y ∈ acc ∨ y ∈ xs
  | [], acc, h => ⟨h, by simp⟩
  | x :: r, acc, h => by
    obtain ⟨h1, h2⟩ := foldl_addT r (addT acc x) (addT_nodup h)
    refine ⟨h1, fun y => ?_⟩
    show y ∈ r.foldl addT (addT acc x) ↔ _
    rw [h2 y, mem_addT, List.mem_cons]
    constructor
    · rintro ((h | h) | h)
      · exact .inl h
      · exact .inr (.inl h)
      · exact .inr (.inr h)
    · rintro (h | h | h)
      · exact .inl (.inl h)
      · exact .inl (.inr h)
      · exact .inr h
theorem addT_len (xs : List Str) (x : Str) : (addT xs x).length ≤ xs.length + 1 := by
  unfold addT; split
  · omega
  · rw [List.length_cons]; exact Nat.le_refl _
theorem foldl_len : ∀ (xs acc : List Str), (xs.foldl addT acc).length ≤ acc.length + xs.length
  | [], acc => by simp
  | x :: r, acc => by
    have h1 := foldl_len r (addT acc x)
    have h2 := addT_len acc x
    simp only [List.foldl_cons, List.length_cons]
    omega
/-- a set comprehension over a list or tuple of texts, the element a text, nothing else made -/
theorem scb_pure {α : Type} (ea : α → V) {xs : List α} {G : Hp → Prop} (wk : Walk J (xs.map ea).length G (YAt (xs.map ea))) (hG : ∀ H', Same H H' → G H') (hl : xs.length + 1 < scanBound) (f : α → Str)
    (hs : ∀ x H', x ∈ xs → Same H H' → ∀ R : Option V → Hp → Prop, R (some (.str (f x))) H' → Turn1 g tt te vs σ (ea x) H' R)
    (hd : ∀ D, H D = none → Q (.ref D) (upd H D (TxtO w D (addAll (xs.map f))))) : ScB w J g tt te vs σ Q H := by
  intro D nD
  refine ⟨fun i m H' => m = xs.length - i ∧ i ≤ xs.length ∧ H' = upd H D (TxtO w D (addAll ((xs.take i).map f))), ⟨xs.length, by simp, Nat.zero_le _, rfl⟩, ?_⟩
  rintro i m H' ⟨rfl, hi, rfl⟩
  have q := hG _ (Same.new (o := TxtO w D (addAll ((xs.take i).map f))) nD)
  have eln : (xs.map ea).length = xs.length := List.length_map _
  by_cases e : i = xs.length
  · subst e
    refine .inl ⟨?_, ?_⟩
    · have := wk.stops _ q
      rwa [eln] at this
    · rw [List.take_length]; exact hd D nD
  · have hlt : i < xs.length := by omega
    refine .inr ⟨wk.goes i _ (by rw [eln]; exact hlt) q, fun H'' => H'' = upd H D (TxtO w D (addAll ((xs.take (i + 1)).map f))), fun H'' e => ⟨xs.length - (i + 1), by omega, rfl, by omega, e⟩, fun x H2 y => ?_⟩
    obtain ⟨rfl, hx⟩ := wk.yields i _ x H2 (by rw [eln]; exact hlt) q y
    rw [List.getElem?_map, List.getElem?_eq_getElem hlt] at hx
    cases hx
    have et : xs.take (i + 1) = xs.take i ++ [xs[i]] := by rw [List.take_succ, List.getElem?_eq_getElem hlt] <;> rfl
    have t := hs xs[i] _ (List.getElem_mem hlt) (Same.new (o := TxtO w D (addAll ((xs.take i).map f))) nD) (fun r H4 => match r with
      | some y => ∃ (z : Str) (xs0 : List Str), y = V.str z ∧ H4 D = some (TxtO w D xs0) ∧ xs0.length + 1 < scanBound ∧ upd H4 D (TxtO w D (addT xs0 z)) = upd H D (TxtO w D (addAll ((xs.take (i + 1)).map f)))
      | none => H4 = upd H D (TxtO w D (addAll ((xs.take (i + 1)).map f)))) ⟨f xs[i], _, rfl, upd_same, ?_, ?_⟩
    · exact t
    · have := foldl_len ((xs.take i).map f) []
      rw [List.length_map, List.length_take] at this
      simp only [List.length_nil] at this
      unfold addAll
      omega
    · rw [upd_upd, et, List.map_append]
      unfold addAll
      rw [List.foldl_append]
      rfl
end
end Mf

namespace Mf
open PySem PySem.Spec PyProof.Rows L2
section
variable {M : Model} {A : Around} {E : Value → Shared → Prop} {s : Shared} {K : PySem.W.Frag} {x C : Addr} {ox : Obj} {od : Option Obj}
theorem ifBound_objNe {args : List Value} {Q : Option Value → Shared → Prop} (X : K.In s.heap) (I : PySem.W.InstAt s.heap x ox C od) (hs : PySem.W.findIn K (.ref C) "__ne__" = some (some (.builtin "object.__ne__")))
    (h : wpAny M A (call (.builtin "object.__ne__") (.ref x :: args)) (fun v => Q (some v)) E s) : wpAny M A (callSpecialIfBound? (.ref x) "__ne__" args) Q E s := by
  have go : wpAny M A (call (.builtin "object.__ne__") ([.ref x] ++ args) >>= fun v => pure (some v)) Q E s := wpAny_bind (wpAny_mono h (fun v s' z => wpAny_pure z) fun _ _ z => z)
  simp only [callSpecialIfBound?, bindSpecialIfBound?]
  refine wpAny_holding (wpAny_bind (wpAny_bind (wpAny_bind (I.type.here ((PySem.W.looks_findIn X hs).here (wpAny_bind (wpAny_askSetting (wpAny_ite ?_))))))))
  split
  · exact wpAny_bind (wpAny_of_eq (PySem.F.cmp_object.ne.bind _) (wpAny_pure (by exact go)))
  · exact wpAny_tryCatch (wpAny_bind (wpAny_of_eq (PySem.F.cmp_object.ne.bind _) (wpAny_pure (by exact go))))
end
/-! ### operators by the defs of an own class: in, ==, !=, <=, <, |, &, -, +, len, [] -/
section
variable {X : Cx} {CX : CXT} {pins : List (Addr × Obj)} {σ : L2.St} {H : Hp} {s : Shared} {C f : Addr} {fd : FuncData} {k : Nat} {ps : List Str} {sp : Sp} {E : XK}
theorem inst_of {a dx : Addr} {fs : List (Str × V)} (I : Inv X pins σ H s) (e : H a = some (.ins C dx fs)) : ∃ od, PySem.W.InstAt s.heap a (PySem.W.instObj C dx) C (some od) := by
  obtain ⟨mA, O, _⟩ := ins_get I.hok e
  obtain ⟨od, J, _⟩ := O.look
  exact ⟨od, J⟩
/-- a def called one frame of C deeper -/
theorem run_in1 {Q : VK} {us : List Value} {vs : List V} (F : FnOk X.prog X.w X.K X.mg X.base CX k f fd ps sp) (hr : Room (k + 1) X.A) (hb : Binds X.K fd ps []) (hx : Passes CX X E) (I : Inv X pins σ H s) (r : Vals vs us) (h : sp vs H Q E) :
    wpAny (model X.prog X.w) X.A.in1 (call (.ref f) us) (EP X pins σ Q) X.xe s := by
  have hl : us.length = ps.length := by rw [← r.length]; exact F.len _ _ _ _ h
  have b := hb s us I.kIn (by rw [List.append_nil]; exact hl)
  rw [List.append_nil] at b
  refine wpAny_call (codeAny_mono (F.run X.A.in1 X.stack s H ⟨us, []⟩ us vs Q E hr.in1 I.env0.in1 b r h) fun r s' hq => ?_)
  cases r with
  | error e => exact hx pins σ H s e s' I hq
  | ok fl =>
    cases fl with
    | ret u => exact I.after hq
    | next => exact False.elim hq
    | brk => exact False.elim hq
    | cont => exact False.elim hq
theorem run_0 {Q : VK} {us : List Value} {vs : List V} (F : FnOk X.prog X.w X.K X.mg X.base CX k f fd ps sp) (hr : Room k X.A) (hb : Binds X.K fd ps []) (hx : Passes CX X E) (I : Inv X pins σ H s) (r : Vals vs us) (h : sp vs H Q E) :
    wpAny (model X.prog X.w) X.A (call (.ref f) us) (EP X pins σ Q) X.xe s := run_fn F hr hb .nil hx I r (by rw [List.append_nil]; exact h)
/-- what comes back is a truth value -/
abbrev Truth (Q : VK) : VK := fun v H' => ∃ b, v = .bl b ∧ Q (.bl b) H'
/-- x op y by a def of x's class -/
def rCmpO (K : PySem.W.Frag) (C : Addr) (sp : Sp) (E : XK) : R2 := fun x y H Q => ∃ a dx fs t, x = .ref a ∧ H a = some (.ins C dx fs) ∧ TyX K H y t ∧ PySem.W.notFirst K C t = true ∧ sp [x, y] H Q E
theorem o_cmpO (K : PySem.W.Frag) {op : CmpOp} (hop : ∀ a b, compareOp op a b = richCompare op a b) (hm : Meth X.K C (cmpInfo op).2.1 f) (F : FnOk X.prog X.w X.K X.mg X.base CX k f fd ps sp) (hr : Room k X.A) (hb : Binds X.K fd ps []) (hx : Passes CX X E) (hK : X.K = K := by rfl) :
    OpR X (compareOp op) (rCmpO K C sp E) := by
  subst hK
  intro pins s σ H x y v u Q I rx ry ⟨a, dx, fs, t, ex, ha, ht, hn, q⟩
  subst ex
  cases (show v = Value.ref a from rx)
  obtain ⟨od, J⟩ := inst_of I ha
  obtain ⟨Pp, kx, hp, _⟩ := kit_of I ry ht
  obtain ⟨m, hF⟩ := I.fr
  rw [hop]
  refine PySem.W.cmp_K (op := op) (tb := t) hr.units0 hF I.ok.mod.kin J (kx.ty _ _ I.kIn hp) hn hm.at_ hm.fn ?_
  refine wpAny_mono (run_0 (us := [.ref a, u]) (vs := [.ref a, y]) F hr hb hx I (.cons rfl (.cons ry .nil)) q) (fun w s' ⟨z, H', I', rz, qz⟩ => SlX.cmpback rz ⟨z, H', I', rz, qz⟩) fun _ _ x => x
/-- x in y, y an instance with a def __contains__ -/
def rInO (C : Addr) (sp : Sp) (E : XK) (neg : Bool) : R2 := fun x y H Q => ∃ a dx fs, y = .ref a ∧ H a = some (.ins C dx fs) ∧ sp [y, x] H (fun v H' => ∃ b, v = .bl b ∧ Q (.bl (if neg then !b else b)) H') E
theorem o_inO (hm : Meth X.K C "__contains__" f) (F : FnOk X.prog X.w X.K X.mg X.base CX k f fd ps sp) (hr : Room k X.A) (hb : Binds X.K fd ps []) (hx : Passes CX X E) : OpR X (compareOp .In) (rInO C sp E false) := by
  intro pins s σ H x y v u Q I rx ry ⟨a, dx, fs, ey, ha, q⟩
  subst ey
  cases (show u = Value.ref a from ry)
  obtain ⟨od, J⟩ := inst_of I ha
  obtain ⟨m, hF⟩ := I.fr
  refine PySem.W.in_K hF I.ok.mod.kin J hm.at_ hm.fn (wpAny_mono (run_0 (us := [.ref a, v]) (vs := [.ref a, x]) F hr hb hx I (.cons rfl (.cons rx .nil)) q) (fun w s' ⟨z, H', I', rz, b, ez, qz⟩ => ?_) fun _ _ x => x)
  subst ez
  cases (show w = Value.bool b from rz)
  exact wpAny_truthy_bool ⟨.bl b, H', I', rfl, qz⟩
theorem o_niO (hm : Meth X.K C "__contains__" f) (F : FnOk X.prog X.w X.K X.mg X.base CX k f fd ps sp) (hr : Room k X.A) (hb : Binds X.K fd ps []) (hx : Passes CX X E) : OpR X (compareOp .NotIn) (rInO C sp E true) := by
  intro pins s σ H x y v u Q I rx ry ⟨a, dx, fs, ey, ha, q⟩
  subst ey
  cases (show u = Value.ref a from ry)
  obtain ⟨od, J⟩ := inst_of I ha
  obtain ⟨m, hF⟩ := I.fr
  refine PySem.W.notIn_K hF I.ok.mod.kin J hm.at_ hm.fn (wpAny_mono (run_0 (us := [.ref a, v]) (vs := [.ref a, x]) F hr hb hx I (.cons rfl (.cons rx .nil)) q) (fun w s' ⟨z, H', I', rz, b, ez, qz⟩ => ?_) fun _ _ x => x)
  subst ez
  cases (show w = Value.bool b from rz)
  exact wpAny_truthy_bool ⟨.bl (!b), H', I', rfl, qz⟩
/-- x | y and its like, both of the one class -/
def rBinO (C : Addr) (sp : Sp) (E : XK) : R2 := fun x y H Q => ∃ a dx fs b dy gs, x = .ref a ∧ y = .ref b ∧ H a = some (.ins C dx fs) ∧ H b = some (.ins C dy gs) ∧ sp [x, y] H Q E
theorem o_binO {op : Operator} (hc : PySem.W.selfFirst X.K C = true) (hm : Meth X.K C (PySem.dunder op.info.2) f) (F : FnOk X.prog X.w X.K X.mg X.base CX k f fd ps sp) (hr : Room k X.A) (hb : Binds X.K fd ps []) (hx : Passes CX X E) : OpR X (binaryOp op) (rBinO C sp E) := by
  intro pins s σ H x y v u Q I rx ry ⟨a, dx, fs, b, dy, gs, ex, ey, ha, hb', q⟩
  subst ex; subst ey
  cases (show v = Value.ref a from rx)
  cases (show u = Value.ref b from ry)
  obtain ⟨od, J⟩ := inst_of I ha
  obtain ⟨od', J'⟩ := inst_of I hb'
  obtain ⟨m, hF⟩ := I.fr
  refine PySem.W.binop_K hF I.ok.mod.kin J J'.type hc hm.at_ hm.fn ?_
  refine wpAny_mono (run_0 (us := [.ref a, .ref b]) (vs := [.ref a, .ref b]) F hr hb hx I (.cons rfl (.cons rfl .nil)) q) (fun w s' ⟨z, H', I', rz, qz⟩ => SlX.cmpback rz ⟨z, H', I', rz, qz⟩) fun _ _ x => x
/-- len(x) by a def __len__ -/
def rLenO (C : Addr) (sp : Sp) (E : XK) : List V → Hp → VK → Prop := fun xs H Q => ∃ a dx fs, xs = [.ref a] ∧ H a = some (.ins C dx fs) ∧ sp [.ref a] H (fun v H' => ∃ n : Nat, v = .int n ∧ n ≤ sizeLine ∧ Q (.int n) H') E
theorem c_lenO (hm : Meth X.K C "__len__" f) (F : FnOk X.prog X.w X.K X.mg X.base CX k f fd ps sp) (hr : Room (k + 1) X.A) (hb : Binds X.K fd ps []) (hx : Passes CX X E) : CallR X (.builtin "len") (rLenO C sp E) := by
  intro pins s σ H xs us Q I r ⟨a, dx, fs, ex, ha, q⟩
  subst ex
  rw [Vals.ref1 r]
  obtain ⟨od, J⟩ := inst_of I ha
  obtain ⟨m, hF⟩ := I.fr
  refine PySem.W.len_K hF I.ok.mod.kin J hm.at_ hm.fn (wpAny_mono (run_in1 (us := [.ref a]) (vs := [.ref a]) F hr hb hx I (.cons rfl .nil) q) (fun w s' ⟨z, H', I', rz, n, ez, hn, qz⟩ => ?_) fun _ _ x => x)
  subst ez
  obtain ⟨t, rfl⟩ := rz
  rw [sizeLine_eq] at hn
  exact ⟨⟨by omega, by omega⟩, .int n, H', I'.tok _, ⟨_, rfl⟩, qz⟩
/-- x[i] by a def __getitem__ -/
def rGetO (C : Addr) (sp : Sp) (E : XK) : R2 := fun x y H Q => ∃ a dx fs, x = .ref a ∧ H a = some (.ins C dx fs) ∧ sp [x, y] H Q E
/-- x != y where the class has a def __eq__ alone -/
def rNeO (K : PySem.W.Frag) (C : Addr) (sp : Sp) (E : XK) : R2 := fun x y H Q => ∃ a dx fs t, x = .ref a ∧ H a = some (.ins C dx fs) ∧ TyX K H y t ∧ PySem.W.notFirst K C t = true ∧ sp [x, y] H (fun v H' => ∃ b, v = .bl b ∧ Q (.bl (!b)) H') E
theorem o_neO (K : PySem.W.Frag) (hne : PySem.W.findIn X.K (.ref C) "__ne__" = some (some (.builtin "object.__ne__"))) (hob : PySem.W.mroIn X.K C (.type "object") = some true) (hm : Meth X.K C "__eq__" f)
    (F : FnOk X.prog X.w X.K X.mg X.base CX k f fd ps sp) (hr : Room (k + 1) X.A) (hb : Binds X.K fd ps []) (hx : Passes CX X E) (hK : X.K = K := by rfl) : OpR X (compareOp .NotEq) (rNeO K C sp E) := by
  subst hK
  intro pins s σ H x y v u Q I rx ry ⟨a, dx, fs, t, ex, ha, ht, hn, q⟩
  subst ex
  cases (show v = Value.ref a from rx)
  obtain ⟨od, J⟩ := inst_of I ha
  obtain ⟨Pp, kx, hp, _⟩ := kit_of I ry ht
  have hu : X.A.units + 1 < cLine := hu_of hr
  have one : wpAny (model X.prog X.w) X.A (tryCompare (.ref a) "__ne__" u) (fun r s' => ∃ b H', r = some (.bool (!b)) ∧ Inv X pins σ H' s' ∧ Q (.bl (!b)) H') X.xe s := by
    have body : wpAny (model X.prog X.w) X.A.in1 (Builtin.«object.__ne__» ⟨[.ref a, u], []⟩) (fun r s' => ∃ b H', r = .done (.ret (.bool (!b))) ∧ Inv X pins σ H' s' ∧ Q (.bl (!b)) H') X.xe s := by
      unfold Builtin.«object.__ne__»
      refine wpAny_bind (wpAny_pure ?_)
      dsimp only
      refine wpAny_bind (wpAny_cRoomFor (show X.A.in1.units < cLine from hu) ?_)
      refine wpAny_bind (PySem.W.ifBound_K I.kIn J hm.at_ hm.fn (wpAny_mono (run_in1 (us := [.ref a, u]) (vs := [.ref a, y]) F hr hb hx I (.cons rfl (.cons ry .nil)) q) (fun w s' ⟨z, H', I', rz, b, ez, qz⟩ => ?_) fun _ _ x => x))
      subst ez
      cases (show w = Value.bool b from rz)
      dsimp only
      exact wpAny_bind (wpAny_truthy_bool (wpAny_pure ⟨b, H', rfl, I', qz⟩))
    unfold tryCompare
    refine wpAny_bind (ifBound_objNe I.kIn J hne (wpAny_call (codeAny_call_builtin PySem.F.cmp_object.ne.plain PySem.F.cmpEntry_ne (PySem.W.check_slot PySem.F.cmpKind_ne PySem.F.cmpSplit_ne (J.type.andThen (PySem.W.looks_mroIn I.kIn hob)) (PySem.F.cmpArgs_ne _ _)
      (wpAny_mono body (fun r s' ⟨b, H', er, I', qz⟩ => ?_) fun _ _ x => x)))))
    subst er
    exact wpAny_pure ⟨b, H', rfl, I', qz⟩
  show wpAny _ _ (richCompare .NotEq (.ref a) u) _ _ _
  unfold richCompare
  simp only [oneThing_ref]
  refine wpAny_holding (wpAny_bind (wpAny_cRoomFor (Nat.lt_of_succ_lt hu) ?_))
  refine wpAny_bind (J.type.here (wpAny_bind ((kx.ty _ _ I.kIn hp).here ?_)))
  split
  · rename_i ne
    have e : PySem.W.subIn X.K t (.ref C) = some false := by
      rcases Bool.or_eq_true_iff.mp hn with e | e
      · rw [beq_iff_eq.mp e] at ne; simp at ne
      · exact beq_iff_eq.mp e
    refine wpAny_bind ((PySem.W.looks_subIn I.kIn e).here ?_)
    simp only [Bool.false_eq_true, if_false]
    refine wpAny_bind (wpAny_mono one (fun r s' ⟨b, H', er, I', qz⟩ => ?_) fun _ _ e => e)
    subst er
    exact wpAny_pure ⟨.bl (!b), H', I', rfl, qz⟩
  · refine wpAny_bind (wpAny_pure ?_)
    simp only [Bool.false_eq_true, if_false]
    refine wpAny_bind (wpAny_mono one (fun r s' ⟨b, H', er, I', qz⟩ => ?_) fun _ _ e => e)
    subst er
    exact wpAny_pure ⟨.bl (!b), H', I', rfl, qz⟩
end
end Mf

namespace Mf
open PySem L2
/-! ### texts in order -/
def sle (a b : Str) : Bool := decide (a.cps.toList ≤ b.cps.toList)
theorem sle_trans (a b c : Str) (h1 : sle a b = true) (h2 : sle b c = true) : sle a c = true := by
  unfold sle at *
  rw [decide_eq_true_eq] at *
  exact List.le_trans h1 h2
theorem sle_total (a b : Str) : (sle a b || sle b a) = true := by
  unfold sle
  rw [Bool.or_eq_true, decide_eq_true_eq, decide_eq_true_eq]
  exact List.le_total _ _
theorem sle_anti {a b : Str} (h1 : sle a b = true) (h2 : sle b a = true) : a = b := by
  unfold sle at *
  rw [decide_eq_true_eq] at *
  exact str_ext (List.le_antisymm h1 h2)
theorem rising_pw : ∀ (p : Str) (l : List Str), PyProof.Rows.risingS p l = true → (p :: l).Pairwise (fun a b => sle a b = true)
  | p, [], _ => by simp
  | p, x :: r, h => by
    have h' : (!PySem.Spec.ltCps x.cps.toList p.cps.toList && PyProof.Rows.risingS x r) = true := h
    rw [Bool.and_eq_true] at h'
    have ih := rising_pw x r h'.2
    have h1 : sle p x = true := by
      have := h'.1
      rw [PyProof.Rows.ltCps_eq] at this
      unfold sle
      rw [decide_eq_true_eq]
      simpa using this
    refine List.pairwise_cons.mpr ⟨fun y hy => ?_, ih⟩
    rcases List.mem_cons.mp hy with rfl | hy
    · exact h1
    · exact sle_trans _ _ _ h1 ((List.pairwise_cons.mp ih).1 y hy)
theorem sortedS_pw : ∀ l : List Str, PyProof.Rows.sortedS l = true → l.Pairwise (fun a b => sle a b = true)
  | [], _ => List.Pairwise.nil
  | x :: r, h => rising_pw x r h
def srt (xs : List Str) : List Str := xs.mergeSort sle
theorem srt_perm (xs : List Str) : (srt xs).Perm xs := List.mergeSort_perm _ _
theorem srt_pw (xs : List Str) : (srt xs).Pairwise (fun a b => sle a b = true) := List.pairwise_mergeSort sle_trans sle_total xs
theorem srt_uniq {xs ys : List Str} (h : ys.Perm xs) (hs : ys.Pairwise (fun a b => sle a b = true)) : ys = srt xs :=
  List.Perm.eq_of_pairwise (fun _ _ _ _ h1 h2 => sle_anti h1 h2) hs (srt_pw xs) (h.trans (srt_perm xs).symm)
theorem sorted_is {xs ys : List Str} (h : ys.Perm xs) (hs : PyProof.Rows.sortedS ys = true) : ys = srt xs := srt_uniq h (sortedS_pw ys hs)
theorem srt_congr {xs ys : List Str} (h : xs.Perm ys) : srt xs = srt ys := srt_uniq ((srt_perm xs).trans h) (srt_pw xs)
theorem srt_len (xs : List Str) : (srt xs).length = xs.length := (srt_perm xs).length_eq
/-! ### sets of names: in order, each once -/
def nset (xs : List Str) : List Str := srt (addAll xs)
theorem addAll_nodup (xs : List Str) : (addAll xs).Nodup := (foldl_addT xs [] List.nodup_nil).1
theorem mem_addAll {xs : List Str} {z : Str} : z ∈ addAll xs ↔ z ∈ xs := by
  rw [show addAll xs = xs.foldl addT [] from rfl, (foldl_addT xs [] List.nodup_nil).2 z]; simp
theorem addAll_len (xs : List Str) : (addAll xs).length ≤ xs.length := by
  have := foldl_len xs []
  unfold addAll
  simpa using this
theorem nset_nodup (xs : List Str) : (nset xs).Nodup := (srt_perm _).nodup_iff.mpr (addAll_nodup xs)
theorem mem_nset {xs : List Str} {z : Str} : z ∈ nset xs ↔ z ∈ xs := by
  unfold nset; rw [(srt_perm _).mem_iff, mem_addAll]
theorem nset_len (xs : List Str) : (nset xs).length ≤ xs.length := by unfold nset; rw [srt_len]; exact addAll_len xs
theorem perm_of_mem {xs ys : List Str} (h1 : xs.Nodup) (h2 : ys.Nodup) (h : ∀ z, z ∈ xs ↔ z ∈ ys) : xs.Perm ys := (List.perm_ext_iff_of_nodup h1 h2).mpr h
theorem nset_congr {xs ys : List Str} (h : ∀ z, z ∈ xs ↔ z ∈ ys) : nset xs = nset ys :=
  srt_congr (perm_of_mem (addAll_nodup xs) (addAll_nodup ys) fun z => by rw [mem_addAll, mem_addAll]; exact h z)
theorem srt_nset {xs : List Str} (h : xs.Nodup) : srt xs = nset xs := srt_congr (perm_of_mem h (addAll_nodup xs) fun z => mem_addAll.symm)
theorem nset_nset (xs : List Str) : nset (nset xs) = nset xs := nset_congr fun z => mem_nset
theorem nset_len_nodup {xs : List Str} (h : xs.Nodup) : (nset xs).length = xs.length := by rw [← srt_nset h, srt_len]
theorem nset_inj {xs ys : List Str} (h : nset xs = nset ys) (z : Str) : z ∈ xs ↔ z ∈ ys := by
  rw [← mem_nset (xs := xs), h, mem_nset]
theorem nset_nil : nset [] = [] := by unfold nset srt addAll; simp
theorem nset_filter (p : Str → Bool) (xs : List Str) : nset ((nset xs).filter p) = nset (xs.filter p) := nset_congr fun z => by
  rw [List.mem_filter, List.mem_filter, mem_nset]
/-! ### classes and methods as they stand, and what methods do -/
structure ClsF (K : PySem.W.Frag) (mg : Str → Option Value) (x : Str) (C : Addr) : Prop where
  g : mg x = some (.ref C)
  ic : C8.InsC K C
  sf : PySem.W.selfFirst K C = true
  ne : PySem.W.findIn K (.ref C) "__ne__" = some (some (.builtin "object.__ne__"))
def MethAt (K : PySem.W.Frag) (C : Addr) (m q : Str) (st : Stmt) (ps : List Str) : Prop := ∃ f fd, Fun K m q st f fd ∧ Meth K C m f ∧ Binds K fd ps []
def MDoes (P : Program) (w : World) (K : PySem.W.Frag) (mg : Str → Option Value) (base : Heap) (CX : CXT) (lv : Nat) (C : Addr) (m : Str) (ps : List Str) (sp : Sp) : Prop :=
  ∃ f fd, FnOk P w K mg base CX lv f fd ps sp ∧ Meth K C m f ∧ Binds K fd ps [] ∧ PySem.W.fnIn K f = true
theorem _root_.L2.Fun.isIn {K : PySem.W.Frag} {x q : Str} {st : Stmt} {f : Addr} {fd : FuncData} (F : Fun K x q st f fd) : PySem.W.fnIn K f = true := by
  obtain ⟨oc, od, kV, doc, pm, an, cdv, ct, osl, rfl, h, _⟩ := F.ex
  unfold PySem.W.fnIn
  rw [h]
theorem filterMap_if {α : Type} (p : α → Prop) [DecidablePred p] : ∀ xs : List α, (xs.filterMap fun z => if p z then some z else none) = xs.filter fun z => decide (p z)
  | [] => rfl
  | q :: r => by
    have ih := filterMap_if p r
    rw [List.filterMap_cons, List.filter_cons]
    by_cases h : p q
    · simp only [h, if_true, decide_true]; rw [ih]
    · simp only [h, if_false, decide_false]; rw [ih]; rfl
/-! ### texts as data -/
def Oks (xs : List Str) : Prop := ∀ x ∈ xs, PyData.strOk x = true
theorem Oks.nset {xs : List Str} (h : Oks xs) : Oks (nset xs) := fun x hx => h x (mem_nset.mp hx)
theorem Oks.filter {xs : List Str} (h : Oks xs) (p : Str → Bool) : Oks (xs.filter p) := fun x hx => h x (List.mem_filter.mp hx).1
theorem Oks.append {xs ys : List Str} (h : Oks xs) (h' : Oks ys) : Oks (xs ++ ys) := fun x hx => (List.mem_append.mp hx).elim (h x) (h' x)
theorem IsName.ok {x : Str} (h : IsName x) : PyData.strOk x = true := by
  unfold PyData.strOk
  rw [Array.all_eq_true']
  intro c hc
  have := h.2.2 c (Array.mem_toList_iff.mpr hc)
  simp
  omega
theorem Names.oks {xs : List Str} (h : Names xs) : Oks xs := fun x hx => (h.2 x hx).ok
theorem dpAll_strs (K : PySem.W.Frag) (H : Hp) : ∀ xs : List Str, DpAll K H (xs.map V.str) (xs.map PyData.str)
  | [] => .nil
  | x :: r => .cons (.str x) (dpAll_strs K H r)
theorem dp_strsT {K : PySem.W.Frag} {H : Hp} {a : Addr} {xs : List Str} (h : SqT K H a (xs.map V.str)) : Dp K H (.ref a) (.tuple (xs.map PyData.str)) := .tup h (dpAll_strs K H xs)
theorem dp_strsL {K : PySem.W.Frag} {H : Hp} {a : Addr} {xs : List Str} (h : SqL K H a (xs.map V.str)) : Dp K H (.ref a) (.list (xs.map PyData.str)) := .lst h (dpAll_strs K H xs)
theorem lay_strs : ∀ {xs : List Str}, Oks xs → PyData.canLayAll0 (xs.map PyData.str) = true
  | [], _ => by simp [PyData.canLayAll0]
  | x :: r, h => by
    have h1 := h x List.mem_cons_self
    have h2 := lay_strs (xs := r) fun y hy => h y (List.mem_cons_of_mem _ hy)
    simp only [List.map_cons, PyData.canLayAll0, PyData.canLay0, h1, h2, Bool.and_self]
theorem depth_strs : ∀ xs : List Str, PyData.depthAll (xs.map PyData.str) = 0
  | [] => by simp [PyData.depthAll]
  | x :: r => by simp only [List.map_cons, PyData.depthAll, PyData.depth, depth_strs r, Nat.max_self]
theorem shaped_strsT {xs : List Str} (h : Oks xs) : SeqAt.shaped (.tuple (xs.map PyData.str)) = true := by
  unfold SeqAt.shaped
  simp only [PyData.canLay0, PyData.depth, depth_strs, lay_strs h]
  rfl
theorem shaped_strsL {xs : List Str} (h : Oks xs) : SeqAt.shaped (.list (xs.map PyData.str)) = true := by
  unfold SeqAt.shaped
  simp only [PyData.canLay0, PyData.depth, depth_strs, lay_strs h]
  rfl
theorem eqvAll_strs : ∀ xs ys : List Str, PyData.eqvAll (xs.map PyData.str) (ys.map PyData.str) = decide (xs = ys)
  | [], [] => by simp [PyData.eqvAll]
  | [], y :: ys => by simp [PyData.eqvAll]
  | x :: xs, [] => by simp [PyData.eqvAll]
  | x :: xs, y :: ys => by
    simp only [List.map_cons, PyData.eqvAll, PyData.eqv, eqvAll_strs xs ys]
    by_cases h1 : x = y
    · by_cases h2 : xs = ys <;> simp [h1, h2]
    · simp [h1]
theorem eqv_strsT (xs ys : List Str) : PyData.eqv (.tuple (xs.map PyData.str)) (.tuple (ys.map PyData.str)) = decide (xs = ys) := by
  simp only [PyData.eqv]; exact eqvAll_strs xs ys
theorem eqv_strsL (xs ys : List Str) : PyData.eqv (.list (xs.map PyData.str)) (.list (ys.map PyData.str)) = decide (xs = ys) := by
  simp only [PyData.eqv]; exact eqvAll_strs xs ys
section
variable {K : PySem.W.Frag} {H : Hp} {Q : VK} {a b : Addr} {xs ys : List Str}
theorem w_eqT (ha : SqT K H a (xs.map V.str)) (hb : SqT K H b (ys.map V.str)) (h1 : Oks xs) (h2 : Oks ys) (g : Q (.bl (decide (xs = ys))) H) : rEqD K (.ref a) (.ref b) H Q :=
  ⟨_, _, dp_strsT ha, dp_strsT hb, shaped_strsT h1, shaped_strsT h2, by rw [eqv_strsT]; exact g⟩
theorem w_eqL (ha : SqL K H a (xs.map V.str)) (hb : SqL K H b (ys.map V.str)) (h1 : Oks xs) (h2 : Oks ys) (g : Q (.bl (decide (xs = ys))) H) : rEqD K (.ref a) (.ref b) H Q :=
  ⟨_, _, dp_strsL ha, dp_strsL hb, shaped_strsL h1, shaped_strsL h2, by rw [eqv_strsL]; exact g⟩
theorem w_neL (ha : SqL K H a (xs.map V.str)) (hb : SqL K H b (ys.map V.str)) (h1 : Oks xs) (h2 : Oks ys) (g : Q (.bl (!decide (xs = ys))) H) : rNeD K (.ref a) (.ref b) H Q :=
  ⟨_, _, dp_strsL ha, dp_strsL hb, shaped_strsL h1, shaped_strsL h2, by rw [eqv_strsL]; exact g⟩
theorem w_neT (ha : SqT K H a (xs.map V.str)) (hb : SqT K H b (ys.map V.str)) (h1 : Oks xs) (h2 : Oks ys) (g : Q (.bl (!decide (xs = ys))) H) : rNeD K (.ref a) (.ref b) H Q :=
  ⟨_, _, dp_strsT ha, dp_strsT hb, shaped_strsT h1, shaped_strsT h2, by rw [eqv_strsT]; exact g⟩
end
/-! ### NameSet -/
def fldM (t : Addr) : List (Str × V) := [("members", .ref t)]
/-- at a: a NameSet of the names xs -/
def NsAt (K : PySem.W.Frag) (C : Addr) (H : Hp) (a : Addr) (xs : List Str) : Prop := ∃ dx t, H a = some (.ins C dx (fldM t)) ∧ SqT K H t (xs.map V.str) ∧ Oks xs
theorem Same.sqt {K : PySem.W.Frag} {H H' : Hp} {a : Addr} {xs : List V} (e : Same H H') (h : SqT K H a xs) : SqT K H' a xs := by
  rcases h with (h | ⟨o, h⟩) | h
  · exact .inl (.inl (e _ _ h))
  · exact .inl (.inr ⟨o, e _ _ h⟩)
  · exact .inr h
theorem NsAt.same {K : PySem.W.Frag} {C : Addr} {H H' : Hp} {a : Addr} {xs : List Str} (h : NsAt K C H a xs) (e : Same H H') : NsAt K C H' a xs := by
  obtain ⟨dx, t, h1, h2, h3⟩ := h
  exact ⟨dx, t, e _ _ h1, Same.sqt e h2, h3⟩
def sp_nsContains (K : PySem.W.Frag) (C : Addr) : Sp := fun vs H Q _ => ∃ (a : Addr) (xs : List Str) (z : Str), vs = [.ref a, .str z] ∧ NsAt K C H a xs ∧ Q (.bl (decide (z ∈ xs))) H
def sp_nsLen (K : PySem.W.Frag) (C : Addr) : Sp := fun vs H Q _ => ∃ (a : Addr) (xs : List Str), vs = [.ref a] ∧ NsAt K C H a xs ∧ Q (.int xs.length) H
/-- two sets -/
def sp_nsCmp (K : PySem.W.Frag) (C : Addr) (f : List Str → List Str → Bool) : Sp := fun vs H Q _ => ∃ (a b : Addr) (xs ys : List Str), vs = [.ref a, .ref b] ∧ NsAt K C H a xs ∧ NsAt K C H b ys ∧ xs.length ≤ 1000 ∧ ∀ H', Same H H' → Q (.bl (f xs ys)) H'
/-- a set and anything that is of another type -/
def sp_nsEq (K : PySem.W.Frag) (C : Addr) : Sp := fun vs H Q _ => ∃ (a : Addr) (y : V) (xs : List Str), vs = [.ref a, y] ∧ NsAt K C H a xs ∧
  ((∃ b ys, y = .ref b ∧ NsAt K C H b ys ∧ Q (.bl (decide (xs = ys))) H) ∨ (∃ t, TyX K H y t ∧ PySem.W.kitOne K t (.ref C) = some false ∧ Q (.bl false) H))
def sp_nsBin (K : PySem.W.Frag) (C : Addr) (f : List Str → List Str → List Str) : Sp := fun vs H Q _ => ∃ (a b : Addr) (xs ys : List Str), vs = [.ref a, .ref b] ∧ NsAt K C H a xs ∧ NsAt K C H b ys ∧ xs.length + ys.length < 64 ∧
  ∀ c H', Same H H' → H c = none → NsAt K C H' c (nset (f xs ys)) → Q (.ref c) H'
/-- __init__: a list or tuple of texts, or a set of names -/
def Coll (K : PySem.W.Frag) (C : Addr) (H : Hp) (v : V) (xs : List Str) : Prop := ∃ b, v = .ref b ∧ (SqL K H b (xs.map V.str) ∨ SqT K H b (xs.map V.str) ∨ (NsAt K C H b xs ∧ nset xs = xs))
def sp_nsInit (K : PySem.W.Frag) (C : Addr) : Sp := fun vs H Q _ => ∃ (x dx : Addr) (v : V) (xs : List Str), vs = [.ref x, v] ∧ H x = some (.ins C dx []) ∧ Coll K C H v xs ∧ Oks xs ∧ xs.length < 64 ∧
  ∀ H' t, (∀ b o, b ≠ x → H b = some o → H' b = some o) → H' x = some (.ins C dx (fldM t)) → SqT K H' t ((nset xs).map V.str) → Q .non H'
/-! ### making instances -/
def MkDoes (P : Program) (w : World) (K : PySem.W.Frag) (mg : Str → Option Value) (base : Heap) (CX : CXT) (lv : Nat) (x : Str) (C : Addr) (ps : List Str) (dvs : List V) (sp : Sp) : Prop :=
  ∃ f fd ds, Mk K C f ∧ FnOk P w K mg base CX lv f fd ps sp ∧ Binds K fd ps ds ∧ Vals dvs ds ∧ mg x = some (.ref C)
def MkAt (K : PySem.W.Frag) (C : Addr) (q : Str) (st : Stmt) (ps : List Str) : Prop := ∃ f fd, Fun K "__init__" q st f fd ∧ Mk K C f ∧ Binds K fd ps []
theorem tyx_l {K : PySem.W.Frag} {H : Hp} {a : Addr} {xs : List V} (h : SqL K H a xs) : TyX K H (.ref a) (.type "list") := by
  rcases h with (h | ⟨o, h⟩) | ⟨o, its, n, h, hc, _⟩
  · exact .base (.lst h)
  · exact .base (.frz h)
  · exact .kList h hc
theorem tyx_t {K : PySem.W.Frag} {H : Hp} {a : Addr} {xs : List V} (h : SqT K H a xs) : TyX K H (.ref a) (.type "tuple") := by
  rcases h with (h | ⟨o, h⟩) | ⟨o, its, n, h, hc, _⟩
  · exact .base (.tup h)
  · exact .fTuple h
  · exact .kTuple h hc
theorem tyx_i {K : PySem.W.Frag} {C : Addr} {H : Hp} {a dx : Addr} {fs : List (Str × V)} (c : C8.InsC K C) (h : H a = some (.ins C dx fs)) : TyX K H (.ref a) (.ref C) := .base (.ins h c.cl c.ha c.hn c.htk c.hm)
theorem look_hd {k : Str} {v : V} {r : List (Str × V)} : ((k, v) :: r).lookup k = some v := List.lookup_cons_self
section
variable {K : PySem.W.Frag} {σ : L2.St} {H : Hp} {Q : VK} {a C dx : Addr} {fs : List (Str × V)} {v : V} {f : Str}
theorem w_fldx {R : V → Prop} (h : H a = some (.ins C dx fs)) (hc : Cls K C) (hn : NoAttr K C f) (hl : fs.lookup f = some v) (g : R v) : ∃ a' C dx fs v, V.ref a = .ref a' ∧ H a' = some (.ins C dx fs) ∧ Cls K C ∧ NoAttr K C f ∧ fs.lookup f = some v ∧ R v :=
  ⟨a, C, dx, fs, v, rfl, h, hc, hn, hl, g⟩
theorem w_sfld {ta tv : TE} {nx bk ct : L2.St → Hp → Prop} {rt : VK} (g : tv σ H fun y H1 => ta σ H1 fun x H2 => ∃ a C dx fs, x = .ref a ∧ H2 a = some (.ins C dx fs) ∧ Cls K C ∧ NoAttr K C f ∧ fs.length < 1000 ∧ nx σ (upd H2 a (.ins C dx (putF f y fs)))) : sFld K ta tv f ⟨nx, rt, bk, ct⟩ σ H := g
theorem w_sfldx {y : V} {R : Hp → Prop} (h : H a = some (.ins C dx fs)) (hc : Cls K C) (hn : NoAttr K C f) (hl : fs.length < 1000) (g : R (upd H a (.ins C dx (putF f y fs)))) :
    ∃ a' C dx fs, V.ref a = .ref a' ∧ H a' = some (.ins C dx fs) ∧ Cls K C ∧ NoAttr K C f ∧ fs.length < 1000 ∧ R (upd H a' (.ins C dx (putF f y fs))) := ⟨a, C, dx, fs, rfl, h, hc, hn, hl, g⟩
/-- an instance is made, and its __init__ run -/
def MkB (C : Addr) (sp : Sp) (E : XK) (Q : VK) (vs : List V) (H1 : Hp) : Prop := ∀ x dx, H1 x = none → H1 dx = none → dx ≠ x → sp (.ref x :: vs) (upd (upd H1 dx (.own x)) x (.ins C dx [])) (fun v H2 => v = .non ∧ Q (.ref x) H2) E
theorem w_make {sp : Sp} {dvs : List V} {E : XK} {tA : TA} (g : tA σ H fun vs H1 => MkB C sp E Q (vs ++ dvs) H1) : tMake C sp dvs E tA σ H Q := g
end
theorem Coll.same {K : PySem.W.Frag} {C : Addr} {H H' : Hp} {v : V} {xs : List Str} (h : Coll K C H v xs) (e : Same H H') : Coll K C H' v xs := by
  obtain ⟨b, rfl, h | h | ⟨h, h'⟩⟩ := h
  · exact ⟨b, rfl, .inl (e.seq h)⟩
  · exact ⟨b, rfl, .inr (.inl (Same.sqt e h))⟩
  · exact ⟨b, rfl, .inr (.inr ⟨h.same e, h'⟩)⟩
theorem use_nsMake {K : PySem.W.Frag} {C : Addr} {H : Hp} {Q : VK} {E : XK} {v : V} {vs : List V} {xs : List Str} (hv : vs = [v]) (hC : Coll K C H v xs) (hO : Oks xs) (hl : xs.length < 64) (g : ∀ x H', Same H H' → H x = none → NsAt K C H' x (nset xs) → Q (.ref x) H') : MkB C (sp_nsInit K C) E Q vs H := by
  intro x dx nx nd ne
  subst hv
  have s0 : Same H (upd (upd H dx (.own x)) x (.ins C dx [])) := Same.mut (Same.new nd) nx
  refine ⟨x, dx, v, xs, rfl, upd_same, hC.same s0, hO, hl, fun H' t k hx hT => ⟨rfl, ?_⟩⟩
  exact g x H' (fun b o e => k b o (ne_of_none e nx) (s0 b o e)) nx ⟨dx, t, hx, hT, hO.nset⟩
def nsLe (xs ys : List Str) : Bool := xs.all fun z => decide (z ∈ ys)
def nsLt (xs ys : List Str) : Bool := decide (xs.length < ys.length) && nsLe xs ys
def nsOr (xs ys : List Str) : List Str := xs ++ ys
def nsAnd (xs ys : List Str) : List Str := xs.filter fun z => decide (z ∈ ys)
def nsSub (xs ys : List Str) : List Str := xs.filter fun z => decide (z ∉ ys)
theorem FunD.okN {P : Program} {w : World} {K : PySem.W.Frag} {mg : Str → Option Value} {base : Heap} {x qual : Str} {params : Arguments} {body : List Stmt} {scope : Scope} {dvs : List V} {kws : List (Str × V)} {f : Addr} {fd : FuncData} {N ps : List Str} {k : Nat} {sp : Sp}
    (F : FunD K x qual params body scope dvs kws f fd) (S : FnScope N ps scope) (len : ∀ vs H Q E, sp vs H Q E → vs.length = ps.length)
    (hbody : ∀ (cdv : Value) (A : Around) (outer : List Env) (s : Shared) (H : Hp) (vs : List V) (Q : VK) (E : XK), Room k (A.deeper (PyProof.Rows.envOfC qual scope s.heap.objs.size f cdv)) → sp vs H Q E →
      ∃ t, PSs (cxOf CX0 P w K mg base N qual scope f cdv A outer s H E).nox body t ∧ t { nx := fun _ H' => Q .non H', rt := Q } (start N vs) H) : FnOk P w K mg base CX0 (k + 1) f fd ps sp :=
  F.ok S len fun cdv A outer s H vs Q E hr h => let ⟨t, d, q⟩ := hbody cdv A outer s H vs Q E hr h; ⟨t, d.nox, q⟩
/-! ### the operators of sets, used -/
section
variable {K : PySem.W.Frag} {C : Addr} {H : Hp} {Q : VK} {E : XK} {a b : Addr} {xs ys : List Str}
theorem nf_self : PySem.W.notFirst K C (.ref C) = true := by unfold PySem.W.notFirst; simp
theorem u_nsCmp {f : List Str → List Str → Bool} (ic : C8.InsC K C) (h1 : NsAt K C H a xs) (h2 : NsAt K C H b ys) (hl : xs.length ≤ 1000) (g : ∀ H', Same H H' → Q (.bl (f xs ys)) H') : rCmpO K C (sp_nsCmp K C f) E (.ref a) (.ref b) H Q := by
  obtain ⟨dx, t, ha, _⟩ := id h1
  obtain ⟨dy, u, hb, _⟩ := id h2
  exact ⟨a, dx, _, _, rfl, ha, tyx_i ic hb, nf_self, a, b, xs, ys, rfl, h1, h2, hl, g⟩
theorem u_nsEq (ic : C8.InsC K C) (h1 : NsAt K C H a xs) (h2 : NsAt K C H b ys) (g : Q (.bl (decide (xs = ys))) H) : rCmpO K C (sp_nsEq K C) E (.ref a) (.ref b) H Q := by
  obtain ⟨dx, t, ha, _⟩ := id h1
  obtain ⟨dy, u, hb, _⟩ := id h2
  exact ⟨a, dx, _, _, rfl, ha, tyx_i ic hb, nf_self, a, .ref b, xs, rfl, h1, .inl ⟨b, ys, rfl, h2, g⟩⟩
theorem u_nsEqO {y : V} {t : Value} (h1 : NsAt K C H a xs) (ht : TyX K H y t) (hn : PySem.W.notFirst K C t = true) (hk : PySem.W.kitOne K t (.ref C) = some false) (g : Q (.bl false) H) : rCmpO K C (sp_nsEq K C) E (.ref a) y H Q := by
  obtain ⟨dx, t', ha, _⟩ := id h1
  exact ⟨a, dx, _, _, rfl, ha, ht, hn, a, y, xs, rfl, h1, .inr ⟨t, ht, hk, g⟩⟩
theorem u_nsNe (ic : C8.InsC K C) (h1 : NsAt K C H a xs) (h2 : NsAt K C H b ys) (g : Q (.bl (!decide (xs = ys))) H) : rNeO K C (sp_nsEq K C) E (.ref a) (.ref b) H Q := by
  obtain ⟨dx, t, ha, _⟩ := id h1
  obtain ⟨dy, u, hb, _⟩ := id h2
  exact ⟨a, dx, _, _, rfl, ha, tyx_i ic hb, nf_self, a, .ref b, xs, rfl, h1, .inl ⟨b, ys, rfl, h2, _, rfl, g⟩⟩
theorem u_nsBin {f : List Str → List Str → List Str} (h1 : NsAt K C H a xs) (h2 : NsAt K C H b ys) (hl : xs.length + ys.length < 64) (g : ∀ c H', Same H H' → H c = none → NsAt K C H' c (nset (f xs ys)) → Q (.ref c) H') : rBinO C (sp_nsBin K C f) E (.ref a) (.ref b) H Q := by
  obtain ⟨dx, t, ha, _⟩ := id h1
  obtain ⟨dy, u, hb, _⟩ := id h2
  exact ⟨a, dx, _, b, dy, _, rfl, rfl, ha, hb, a, b, xs, ys, rfl, h1, h2, hl, g⟩
theorem u_nsIn {z : Str} (h1 : NsAt K C H a xs) (g : Q (.bl (decide (z ∈ xs))) H) : rInO C (sp_nsContains K C) E false (.str z) (.ref a) H Q := by
  obtain ⟨dx, t, ha, _⟩ := id h1
  exact ⟨a, dx, _, rfl, ha, a, xs, z, rfl, h1, _, rfl, g⟩
theorem u_nsNi {z : Str} (h1 : NsAt K C H a xs) (g : Q (.bl (!decide (z ∈ xs))) H) : rInO C (sp_nsContains K C) E true (.str z) (.ref a) H Q := by
  obtain ⟨dx, t, ha, _⟩ := id h1
  exact ⟨a, dx, _, rfl, ha, a, xs, z, rfl, h1, _, rfl, g⟩
theorem u_nsLen (h1 : NsAt K C H a xs) (hl : xs.length ≤ 1000) (g : Q (.int xs.length) H) : rLenO C (sp_nsLen K C) E [.ref a] H Q := by
  obtain ⟨dx, t, ha, _⟩ := id h1
  exact ⟨a, dx, _, rfl, ha, a, xs, rfl, h1, xs.length, rfl, by rw [PySem.sizeLine_eq]; omega, g⟩
end
theorem nsLe_nset (xs ys : List Str) : nsLe (nset xs) (nset ys) = nsLe xs ys := by
  unfold nsLe
  rw [Bool.eq_iff_iff, List.all_eq_true, List.all_eq_true]
  constructor
  · intro h z hz
    have := h z (mem_nset.mpr hz)
    rw [decide_eq_true_eq, mem_nset] at this
    rw [decide_eq_true_eq]; exact this
  · intro h z hz
    have := h z (mem_nset.mp hz)
    rw [decide_eq_true_eq] at this ⊢
    rw [mem_nset]; exact this
theorem nset_and (xs ys : List Str) : nset (nsAnd (nset xs) (nset ys)) = nset (xs.filter fun z => decide (z ∈ ys)) := nset_congr fun z => by
  unfold nsAnd; simp only [List.mem_filter, mem_nset, decide_eq_true_eq]
theorem nset_sub (xs ys : List Str) : nset (nsSub (nset xs) (nset ys)) = nset (xs.filter fun z => decide (z ∉ ys)) := nset_congr fun z => by
  unfold nsSub; simp only [List.mem_filter, mem_nset, decide_eq_true_eq]
theorem nset_or (xs ys : List Str) : nset (nsOr (nset xs) (nset ys)) = nset (xs ++ ys) := nset_congr fun z => by
  unfold nsOr; simp only [List.mem_append, mem_nset]
theorem NsAt.mut {K : PySem.W.Frag} {C : Addr} {H : Hp} {a f : Addr} {xs : List Str} {us ws : List V} (h : NsAt K C H a xs) (hf : H f = some (.lst us)) : NsAt K C (upd H f (.lst ws)) a xs := by
  obtain ⟨dx, t, h1, h2, h3⟩ := h
  refine ⟨dx, t, by rw [upd_ne (ne_of h1 hf (by intro z; cases z))]; exact h1, ?_, h3⟩
  rcases h2 with (h | ⟨o, h⟩) | h
  · exact SqT.of (by rw [upd_ne (ne_of h hf (by intro z; cases z))]; exact h)
  · exact .inl (.inr ⟨o, by rw [upd_ne (ne_of h hf (by intro z; cases z))]; exact h⟩)
  · exact .inr h
theorem Coll.lst {K : PySem.W.Frag} {C : Addr} {H : Hp} {b : Addr} {xs : List Str} (h : H b = some (.lst (xs.map V.str))) : Coll K C H (.ref b) xs := ⟨b, rfl, .inl (SqL.of h)⟩
theorem Coll.tup {K : PySem.W.Frag} {C : Addr} {H : Hp} {b : Addr} {xs : List Str} (h : H b = some (.tup (xs.map V.str))) : Coll K C H (.ref b) xs := ⟨b, rfl, .inr (.inl (SqT.of h))⟩
theorem Coll.ns {K : PySem.W.Frag} {C : Addr} {H : Hp} {b : Addr} {xs : List Str} (h : NsAt K C H b (nset xs)) : Coll K C H (.ref b) (nset xs) := ⟨b, rfl, .inr (.inr ⟨h, nset_nset xs⟩)⟩
end Mf

namespace Mf
open PySem L2 PyProof.Rows
/-! ### what is never reached -/
def tDead : TS := fun _ _ _ => False
theorem ps_dead {X : Cx} {st : Stmt} : PS X st tDead := ⟨fun _ _ _ _ _ _ h => h.elim⟩
/-! ### f-strings -/
theorem empty_len : Str.empty.length = 0 := rfl
def tJoin (ts : List TE) : TE := fun σ H Q => tJs ts Str.empty σ H fun out H1 => Q (.str out) H1
theorem e_joined {X : Cx} {v1 v2 : Expr} {rest : List Expr} {ts : List TE} {pos : Pos} (h : PJ X (v1 :: v2 :: rest) ts) : PE X (.JoinedStr (v1 :: v2 :: rest) pos) (tJoin ts) := pe_joined h
section
variable {σ : L2.St} {H : Hp} {Q : VK} {QS : Str → Hp → Prop} {t te : TE} {ts : List TE} {acc z : Str}
theorem w_joined (h : tJs ts Str.empty σ H fun out H1 => Q (.str out) H1) : tJoin ts σ H Q := h
theorem w_js (h : t σ H fun x H1 => ∃ y : Str, x = .str y ∧ (acc ++ y).length ≤ sizeLine ∧ tJs ts (acc ++ y) σ H1 QS) : tJs (t :: ts) acc σ H QS := h
theorem w_js0 (h : QS acc H) : tJs [] acc σ H QS := h
theorem w_jx {R : Str → Prop} (hl : (acc ++ z).length ≤ sizeLine) (h : R z) : ∃ y : Str, V.str z = .str y ∧ (acc ++ y).length ≤ sizeLine ∧ R y := ⟨z, rfl, hl, h⟩
theorem w_fmt (h : te σ H fun x H1 => (∃ y : Str, x = .str y ∧ y.length ≤ sizeLine ∧ Q (.str y) H1) ∨ ∃ i : Int, x = .int i ∧ i.natAbs.log2 < 1920 ∧ Q (.str (toString i)) H1) : tFmt te σ H Q := h
theorem w_fmtS {B : Prop} {R : Str → Prop} (hl : z.length ≤ sizeLine) (h : R z) : (∃ y : Str, V.str z = .str y ∧ y.length ≤ sizeLine ∧ R y) ∨ B := .inl ⟨z, rfl, hl, h⟩
end
/-! ### enumerate(rows, start=k): a list or a tuple -/
def SqB (K : PySem.W.Frag) (b : Bool) (H : Hp) (a : Addr) (xs : List V) : Prop := if b = true then SqT K H a xs else SqL K H a xs
def IteS (K : PySem.W.Frag) (b : Bool) (a : Addr) (k : Int) : It :=
  ⟨fun i H => ∃ (xs : List V) (x : V), SqB K b H a xs ∧ xs[i]? = some x, fun i H v H' => ∃ T x, v = .ref T ∧ H T = none ∧ H' = upd H T (.tup [.int (k + (i : Nat)), x]) ∧ ∀ xs, SqB K b H a xs → xs[i]? = some x, fun i H => ∃ xs : List V, SqB K b H a xs ∧ xs.length = i⟩
def IsItB (b : Bool) (h : Heap) (it a : Addr) (i : Nat) : Prop := if b = true then h.IsTupleIter it a i else h.IsListIter it a i
/-- the walked thing as the heap has it, and what draws it -/
theorem drawsB {X : Cx} {pins : List (Addr × Obj)} {s : Shared} {σ : L2.St} {H : Hp} {b : Bool} {it e a : Addr} {i : Nat} {c : Int} {old : Value} {xs : List V} (hc : X.calm = true) (I : Inv X pins σ H s) (hq : SqB X.K b H a xs) (hit : IsItB b s.heap it a i) (he : IsEnum s.heap e it c old) :
    ∃ (its : List Value) (St : Nat → Heap → Prop), Vals xs its ∧ Draws X.prog X.w X.A.in1 it [it, a] its.toArray.size (fun i v => its.toArray[i]? = some v) St ∧ St i s.heap ∧ (∀ j h, St j h → IsItB b h it a j) ∧ e ∉ [it, a] ∧ (∀ ys, SqB X.K b H a ys → ys = xs) := by
  cases b with
  | false =>
    have hq' : SqL X.K H a xs := hq
    obtain ⟨its, rv, p, hz⟩ := I.list hq'
    obtain ⟨o, ho, hoc, hd⟩ := (show s.heap.IsListIter it a i from hit)
    obtain ⟨n', q, hqc, _⟩ := id p
    have na : a ≠ it := by
      rintro rfl
      obtain ⟨o', n2, ho', hc', _⟩ := id p
      rw [ho'] at ho; cases ho; rw [hc'] at hoc; injection hoc with z; exact absurd z (by decide)
    refine ⟨its, _, rv, Draws.list (show X.A.in1.handled = none from I.ok.hd hc) it a na its.toArray, ⟨hit, p.isList⟩, fun j h st => st.1, ?_, fun ys hy => I.list_inj hy hq'⟩
    intro hm
    rcases List.mem_cons.mp hm with z | z
    · subst z; rw [he] at ho; cases ho; injection hoc with z; exact absurd z (by decide)
    · rw [List.mem_singleton] at z; subst z
      obtain ⟨o', n2, ho', hc', _⟩ := id p
      rw [he] at ho'; cases ho'; injection hc' with z; exact absurd z (by decide)
  | true =>
    have hq' : SqT X.K H a xs := hq
    obtain ⟨its, rv, p, hz⟩ := I.tuple hq'
    obtain ⟨o, ho, hoc, hd⟩ := (show s.heap.IsTupleIter it a i from hit)
    have na : a ≠ it := by
      rintro rfl
      obtain ⟨o', ho', hc', _⟩ := id p
      rw [ho'] at ho; cases ho; rw [hc'] at hoc; injection hoc with z; exact absurd z (by decide)
    refine ⟨its, _, rv, Draws.tuple (show X.A.in1.handled = none from I.ok.hd hc) it a na its.toArray, ⟨hit, p⟩, fun j h st => st.1, ?_, fun ys hy => I.tuple_inj hy hq'⟩
    intro hm
    rcases List.mem_cons.mp hm with z | z
    · subst z; rw [he] at ho; cases ho; injection hoc with z; exact absurd z (by decide)
    · rw [List.mem_singleton] at z; subst z
      obtain ⟨o', ho', hc', _⟩ := id p
      rw [he] at ho'; cases ho'; injection hc' with z; exact absurd z (by decide)
theorem turn_enumS {P : Program} {w : World} {K : PySem.W.Frag} {elts : List Expr} {kk : Nat} {tpos : Pos} (b : Bool) (a e it : Addr) (k : Int) :
    Turn P w K (.Tuple elts kk tpos) (IteS K b a k) [e, it] e (fun i h => (∃ old, IsEnum h e it (k + ((i : Nat) : Int)) old) ∧ IsItB b h it a i ∧ e ≠ it) where
  mem := by simp
  obj := fun i h st c hb => by
    obtain ⟨⟨old, he⟩, hi, _⟩ := st
    have e' : c = e ∨ c = it := by simpa using hb
    rcases e' with z | z
    · rw [z]; exact ⟨_, he, fun v q => nomatch q⟩
    · rw [z]
      cases b with
      | false => obtain ⟨o, ho, hc, hd⟩ := hi; exact ⟨o, ho, fun v q => by rw [hd] at q; cases q⟩
      | true => obtain ⟨o, ho, hc, hd⟩ := hi; exact ⟨o, ho, fun v q => by rw [hd] at q; cases q⟩
  keep := fun i h h' st q => by
    obtain ⟨⟨old, he⟩, hi, hne⟩ := st
    refine ⟨⟨old, q e (by simp) _ he⟩, ?_, hne⟩
    cases b with
    | false => exact (show h.IsListIter it a i from hi).at fun o z => q it (by simp) o z
    | true => exact (show h.IsTupleIter it a i from hi).at fun o z => q it (by simp) o z
  item := by
    intro X hP hw hK hc i pins s σ H E I hf st hg
    subst hP hw hK
    obtain ⟨⟨old, he⟩, hit, hne⟩ := st
    obtain ⟨xs, x, hq, hx⟩ := hg
    obtain ⟨its, St, rv, D, hst, hback, hen, inj⟩ := drawsB hc I hq hit he
    have hel : e < s.heap.objs.size := Heap.lt_size he
    obtain ⟨oi, hoi⟩ := D.live _ _ hst
    have hil : it < s.heap.objs.size := Heap.lt_size hoi
    obtain ⟨u, hu, ru⟩ := rv.get hx
    have hlt : i < its.toArray.size := by
      rw [List.size_toArray]
      rcases Nat.lt_or_ge i its.length with z | z
      · exact z
      · rw [List.getElem?_eq_none z] at hu; cases hu
    refine wpAny_pyNext_enum_itemC D he hst hlt hne hen fun y h' tk hy ho hst' hT hsz hk => ?_
    have ey : y = u := by rw [List.getElem?_toArray, hu] at hy; cases hy; rfl
    subst ey
    refine ⟨_, rfl, wpAny_letOwnedTupleGo_enum (s := { s with heap := h', toks := tk + 1 }) ho fun h'' he' sb => ?_⟩
    have hT2 : h''.get? s.heap.objs.size = some { cls := .type "tuple", data := .seq #[.int (k + (i : Int)) tk, y] } := (sb.2 _ (Nat.ne_of_gt hel)).trans hT
    have new : ObjOk X.prog X.w (upd H s.heap.objs.size (.tup [.int (k + (i : Nat)), x])) h'' s.heap.objs.size (.tup [.int (k + (i : Nat)), x]) :=
      ⟨by show 2 ≤ sizeLine; decide, [.int (k + i) tk, y], .cons ⟨_, rfl⟩ (.cons ru .nil), ⟨_, hT2, rfl, _, rfl⟩⟩
    have I1 : Inv X pins σ (upd H s.heap.objs.size (.tup [.int (k + (i : Nat)), x])) { s with heap := h'', toks := tk + 1 } :=
      I.turnedNew (ch := [e, it]) (fun b ob hb q => (sb.2 b (fun z => hb (by simp [z]))).trans (hk b ob (fun z => hb (by simp [z])) (fun z => hb (by simp [z])) q)) hf (Nat.le_refl _) new
    refine ⟨.ref s.heap.objs.size, _, I1, rfl, ⟨_, x, rfl, I.hok.fresh (Nat.le_refl _), rfl, fun ys hy => by rw [inj ys hy]; exact hx⟩, ⟨⟨y, ?_⟩, ?_, hne⟩, fun b hb => ?_⟩
    · have e1 : k + ((i + 1 : Nat) : Int) = k + (i : Int) + 1 := by omega
      rw [e1]; exact he'
    · have z := hback _ _ hst'
      cases b with
      | false => exact (show h'.IsListIter it a (i + 1) from z).at fun o q => (sb.2 it (Ne.symm hne)).trans q
      | true => exact (show h'.IsTupleIter it a (i + 1) from z).at fun o q => (sb.2 it (Ne.symm hne)).trans q
    · have hb' : b < s.heap.objs.size := by
        have e' : b = e ∨ b = it := by simpa using hb
        rcases e' with z | z
        · rw [z]; exact hel
        · rw [z]; exact hil
      rw [upd_ne (Nat.ne_of_lt hb')]
      exact (hf b hb).1
  done := by
    intro X hP hw hK hc i pins s σ H E I hf st hg
    subst hP hw hK
    obtain ⟨⟨old, he⟩, hit, hne⟩ := st
    obtain ⟨xs, hq, hx⟩ := hg
    obtain ⟨f0, f1, f2, f3, f4, f5⟩ := hf it (by simp)
    obtain ⟨its, St, rv, D, hst, hback, hen, inj⟩ := drawsB hc I hq hit he
    have hn : i = its.toArray.size := by rw [List.size_toArray, ← rv.length]; exact hx.symm
    rw [hn] at hst
    exact wpAny_pyNext_enum_endD D he hst fun h' eb => ⟨rfl, I.turned (t' := s.toks) (fun b o hb q => eb b o hb q) f0 f1 f3 f4 f5⟩
  self := fun A i s Q E st h => let ⟨⟨_, he⟩, _⟩ := st; wpAny_pyIter_enum he h
theorem callWith_typeKw {M : Model} {A : Around} {E : Value → Shared → Prop} {s : Shared} {env : Env} {pos : Pos} {T : String} {e : Expr} {rest : List Expr} {kws : List Keyword} {Q : Value → Shared → Prop}
    (h : wpAny M A (spliced (backTo pos (starEach (e :: rest) env))) (fun vs s₁ => wpAny M A (evalAll ((backToKw pos (keywordEach kws env)).map (·.2)))
      (fun kvs s₂ => wpAny M A (call (.type T) vs (((backToKw pos (keywordEach kws env)).filterMap (·.1)).zip kvs)) Q E s₂) E s₁) E s)
    (he : backTo pos (starEach (e :: rest) env) = (false, eval e env) :: backTo pos (starEach rest env) := by rfl)
    (hplain : (backTo pos (starEach (e :: rest) env)).any (·.1) = false := by rfl)
    (hall : (backToKw pos (keywordEach kws env)).all (·.1.isSome) = true := by rfl)
    (hkw : (backToKw pos (keywordEach kws env)).any (·.1.isNone) = false := by rfl) :
    wpAny M A (callWith pos (.type T) [] (backTo pos (starEach (e :: rest) env)) (backToKw pos (keywordEach kws env))) Q E s := by
  have hev : wpAny M A (evalArgs (.type T) true (backTo pos (starEach (e :: rest) env)) (backToKw pos (keywordEach kws env))) (fun a s₁ => wpAny M A (call (.type T) ([] ++ a.pos) a.kw) Q E s₁) E s := by
    rw [he] at h ⊢
    exact evalArgs_kwB hall h
  unfold callWith
  refine wpAny_bind (wpAny_holding (wpAny_mono hev (fun a s₁ h₁ => wpAny_bind (wpAny_standAt ?_)) fun _ _ x => x))
  simp only [hplain, hkw, Bool.or_false]
  refine wpAny_bind (wpAny_pure ?_)
  exact wpAny_bind (wpAny_mono h₁ (fun r s₂ hr => wpAny_bind (wpAny_holding (wpAny_point (wpAny_pure hr)))) fun _ _ x => x)
def iEnumS (K : PySem.W.Frag) (ta tk : TA) : TI := fun σ H R => ta σ H fun vs H1 => tk σ H1 fun zs H2 => ∃ a xs b k, vs = [.ref a] ∧ zs = [.int k] ∧ (-(2 ^ 63) ≤ k ∧ k < 2 ^ 63) ∧ SqB K b H2 a xs ∧ R (IteS K b a k) H2
theorem k_iES {X : Cx} (K : PySem.W.Frag) {e : Expr} {ta tk : TA} {p pos tpos kp : Pos} {elts : List Expr} {kk : Nat} {v : Expr} (hg : Gl X "enumerate") (hm : X.mg "enumerate" = none) (ha : PA X [e] ta) (hk : PK X [⟨some "start", v, kp⟩] tk)
    (he : backTo pos (starEach [e] X.env) = (false, eval e X.env) :: backTo pos (starEach [] X.env) := by rfl) (hK : X.K = K := by rfl) :
    PI X (.Tuple elts kk tpos) (.Call (.Name "enumerate" p) [e] [⟨some "start", v, kp⟩] pos) (iEnumS K ta tk) := by
  subst hK
  refine ⟨fun pins s σ H R I h => ?_⟩
  refine wpAny_Call_Name_kw (ld_blt I hg hm boot_enumerate (callWith_typeKw (thn (ha.run pos pins s σ H _ I h) fun us s1 ⟨vs, H1, I1, r1, q1⟩ => thn (hk.run pos pins s1 σ H1 _ I1 q1) fun ws s2 ⟨zs, H2, I2, r2, q2⟩ => ?_) he (by rw [he]; rfl)))
  obtain ⟨a, xs, b, k, ex, ez, ⟨hk0, hk1⟩, hq, q⟩ := q2
  subst ex ez
  cases r1 with
  | cons r rr =>
    cases rr
    cases r
    cases r2 with
    | cons r' rr' =>
      cases rr'
      obtain ⟨t, rfl⟩ := r'
      show wpAny _ _ (call (.type "enumerate") [.ref a] [(Str.ofString "start", .int k t)]) _ _ s2
      have fin : ∀ h', IsEnum h' (s2.heap.objs.size + 1) s2.heap.objs.size k .none → IsItB b h' s2.heap.objs.size a 0 → (∀ b o, s2.heap.get? b = some o → h'.get? b = some o) →
          wpAny (model X.prog X.w) X.A (pyIter (.ref (s2.heap.objs.size + 1))) (PIE X pins σ (.Tuple elts kk tpos) R) X.xe { s2 with heap := h' } := fun h' hen hi hkp => by
        refine wpAny_pyIter_enum hen ?_
        have I3 : Inv X pins σ H2 { s2 with heap := h' } := I2.kept (t' := s2.toks) hkp
        refine ⟨s2.heap.objs.size + 1, [s2.heap.objs.size + 1, s2.heap.objs.size], _, _, H2, rfl, I3, turn_enumS b a (s2.heap.objs.size + 1) s2.heap.objs.size k, ⟨⟨.none, by simpa using hen⟩, hi, Nat.succ_ne_self _⟩, fun b hb => ?_, q⟩
        have e' : b = s2.heap.objs.size + 1 ∨ b = s2.heap.objs.size := by simpa using hb
        have hle : s2.heap.objs.size ≤ b := by
          rcases e' with z | z
          · rw [z]; exact Nat.le_add_right _ _
          · rw [z]; exact Nat.le_refl _
        exact I2.fpOk hle (I2.hok.fresh hle)
      cases b with
      | false =>
        obtain ⟨its, rv, p', hz⟩ := I2.list (show SqL X.K H2 a xs from hq)
        exact enum_begins_start (begins_list a its.toArray) p'.isList hk0 hk1 fun h' hen hit hsz hkp => fin h' hen ⟨_, hit, rfl, rfl⟩ hkp
      | true =>
        obtain ⟨its, rv, p', hz⟩ := I2.tuple (show SqT X.K H2 a xs from hq)
        exact enum_begins_start (begins_tuple a its.toArray) p' hk0 hk1 fun h' hen hit hsz hkp => fin h' hen ⟨_, hit, rfl, rfl⟩ hkp
end Mf

namespace Mf
open PySem L2 PyProof.Rows
/-! ### a comprehension within another -/
def relab (scope sc : Scope) : Scope := { scope with names := scope.names.map fun (n, k) => if (k == .free && sc.kind == .function && sc.names.lookup n == some .cell) then (n, .cell) else (n, k) }
theorem blkOk_nest {N : List Str} {lit sc scope : Scope} {env : Env} {own : List (Str × Nat)} (hs : env.scope = sc) (h : blkC N (relab lit sc) scope own = true) : BlkOk N (relabel lit env) scope own := by
  have e : relabel lit env = relab lit sc := by subst hs; rfl
  rw [e]
  exact blkOk_by h
section
variable {σ : L2.St} {H : Hp} {Q : VK} {td ty : TE} {a : Addr} {n : Str} {kvs : List (Key × V)} {v : V}
theorem w_dget (h : td σ H fun x H1 => ty σ H1 fun y H2 => ∃ a v, x = .ref a ∧ DGet H2 a y (some v) ∧ Q v H2) : tDGet td ty σ H Q := h
theorem w_din (h : ty σ H fun y H1 => td σ H1 fun x H2 => ∃ a o, x = .ref a ∧ DGet H2 a y o ∧ Q (.bl o.isSome) H2) : tDIn ty td σ H Q := h
theorem w_dni (h : ty σ H fun y H1 => td σ H1 fun x H2 => ∃ a o, x = .ref a ∧ DGet H2 a y o ∧ Q (.bl (!o.isSome)) H2) : tDNotIn ty td σ H Q := h
theorem w_dgetx {R : V → Prop} (h : H a = some (.dK kvs)) (hv : valV kvs (Sum.inr n) = some v) (g : R v) : ∃ a' v, V.ref a = .ref a' ∧ DGet H a' (.str n) (some v) ∧ R v := ⟨a, v, rfl, by rw [← hv]; exact DGet.k (k := Sum.inr n) h, g⟩
theorem w_dinx {R : Option V → Prop} (h : H a = some (.dK kvs)) (g : R (valV kvs (Sum.inr n))) : ∃ a' o, V.ref a = .ref a' ∧ DGet H a' (.str n) o ∧ R o := ⟨a, _, rfl, DGet.k (k := Sum.inr n) h, g⟩
end
/-! ### two rows, item by item -/
inductive Fa {α β : Type} (R : α → β → Prop) : List α → List β → Prop
  | nil : Fa R [] []
  | cons {a : α} {b : β} {as : List α} {bs : List β} : R a b → Fa R as bs → Fa R (a :: as) (b :: bs)
namespace Fa
variable {α β γ : Type} {R S : α → β → Prop} {as as' : List α} {bs bs' : List β}
theorem len (h : Fa R as bs) : as.length = bs.length := by induction h with | nil => rfl | cons _ _ ih => simp [ih]
theorem imp (f : ∀ a b, a ∈ as → R a b → S a b) (h : Fa R as bs) : Fa S as bs := by
  induction h with
  | nil => exact .nil
  | cons r _ ih => exact .cons (f _ _ List.mem_cons_self r) (ih fun a b ha => f a b (List.mem_cons_of_mem _ ha))
theorem get {b : β} {i : Nat} (h : Fa R as bs) (e : bs[i]? = some b) : ∃ a, as[i]? = some a ∧ R a b := by
  induction h generalizing i with
  | nil => cases e
  | cons r _ ih =>
    cases i with
    | zero => cases e; exact ⟨_, rfl, r⟩
    | succ i => exact ih e
theorem getL {a : α} {i : Nat} (h : Fa R as bs) (e : as[i]? = some a) : ∃ b, bs[i]? = some b ∧ R a b := by
  induction h generalizing i with
  | nil => cases e
  | cons r _ ih =>
    cases i with
    | zero => cases e; exact ⟨_, rfl, r⟩
    | succ i => exact ih e
theorem app (h : Fa R as bs) (h' : Fa R as' bs') : Fa R (as ++ as') (bs ++ bs') := by
  induction h with
  | nil => exact h'
  | cons r _ ih => exact .cons r ih
theorem one {a : α} {b : β} (r : R a b) : Fa R [a] [b] := .cons r .nil
theorem same (f : α → β) : ∀ as : List α, Fa (fun a b => b = f a) as (as.map f)
  | [] => .nil
  | _ :: r => .cons rfl (same f r)
theorem eq {f : α → β} (h : Fa (fun a b => b = f a) as bs) : bs = as.map f := by
  induction h with
  | nil => rfl
  | cons r _ ih => rw [List.map_cons, ← r, ← ih]
theorem mapL {f : γ → α} {cs : List γ} (h : Fa R (cs.map f) bs) : Fa (fun c b => R (f c) b) cs bs := by
  induction cs generalizing bs with
  | nil => cases h; exact .nil
  | cons c cs ih => cases h with | cons r t => exact .cons r (ih t)
theorem toMapL {f : γ → α} {cs : List γ} (h : Fa (fun c b => R (f c) b) cs bs) : Fa R (cs.map f) bs := by
  induction h with
  | nil => exact .nil
  | cons r _ ih => exact .cons r ih
theorem right {b : β} (h : Fa R as bs) (m : b ∈ bs) : ∃ a, a ∈ as ∧ R a b := by
  obtain ⟨i, hi⟩ := List.getElem?_of_mem m
  obtain ⟨a, ha, r⟩ := h.get hi
  exact ⟨a, List.mem_of_getElem? ha, r⟩
theorem left {a : α} (h : Fa R as bs) (m : a ∈ as) : ∃ b, b ∈ bs ∧ R a b := by
  obtain ⟨i, hi⟩ := List.getElem?_of_mem m
  obtain ⟨b, hb, r⟩ := h.getL hi
  exact ⟨b, List.mem_of_getElem? hb, r⟩
end Fa
theorem hid_upd {D : Addr} {H : Hp} {o : HO} : hid D (upd H D o) = hid D H := by
  funext b
  unfold hid
  by_cases e : b = D
  · rw [if_pos e, if_pos e]
  · rw [if_neg e, if_neg e, upd_ne e]
theorem hid_none {D : Addr} {H : Hp} (h : H D = none) : hid D H = H := by
  funext b
  unfold hid
  by_cases e : b = D
  · rw [if_pos e, e, h]
  · rw [if_neg e]
theorem hid_mono {p : Addr} {H H' : Hp} (e : Same H H') : Same (hid p H) (hid p H') := (Kp.of e).hid
def RelR {β : Type} (P : β → V → Hp → Prop) (o : Option β) (r : Option V) (H : Hp) : Prop := match o with
  | none => r = none
  | some b => ∃ y, r = some y ∧ P b y H
section
variable {K : PySem.W.Frag} {σ : L2.St} {H : Hp} {Q : VK} {g : TG} {tt : TT} {te : TE} {vs : List Nat} {wi : TI} {J : It} {n : Nat} {G : Hp → Prop}
theorem take_next {α : Type} {as : List α} {i : Nat} {a : α} (h : as[i]? = some a) : as.take (i + 1) = as.take i ++ [a] := by
  rw [List.take_succ, h] <;> rfl
/-- a list comprehension that changes nothing old: a filter and a map, what is kept told by P -/
theorem lcb_rel {α β : Type} {xs : List V} {as : List α} {Ra : α → V → Prop} (hR : Fa Ra as xs) (w : Walk J xs.length G (YAt xs)) (hG : ∀ H', Same H H' → G H') (hl : xs.length < sizeLine) (f : α → Option β) (P : β → V → Hp → Prop) (mono : ∀ b y H1 H2, Same H1 H2 → P b y H1 → P b y H2)
    (hs : ∀ D a x H1, H D = none → a ∈ as → Ra a x → Same H H1 → (∃ acc, H1 D = some (.lst acc)) → ∀ R : Option V → Hp → Prop, (∀ r H2, Same H1 H2 → RelR P (f a) r (hid D H2) → R r H2) → Turn1 g tt te vs σ x H1 R)
    (hd : ∀ D ys H', H D = none → Same H H' → H' D = some (.lst ys) → Fa (fun b y => P b y (hid D H')) (as.filterMap f) ys → Q (.ref D) H') : LcB J g tt te vs σ Q H := by
  have hlen := hR.len
  refine lcb w (fun D i acc H' => Same H H' ∧ H' D = some (.lst acc) ∧ acc.length ≤ i ∧ Fa (fun b y => P b y (hid D H')) ((as.take i).filterMap f) acc) (fun D nD => ⟨Same.new nD, upd_same, Nat.le_refl _, .nil⟩) (fun D i acc H' nD _ p => hG _ p.1) (fun D i x acc H1 H2 nD hi p y => ?_) (fun D acc H' nD p => ?_)
  · obtain ⟨s1, hD, hal, hF⟩ := p
    obtain ⟨rfl, hx⟩ := y
    obtain ⟨a, ha, r⟩ := hR.get hx
    refine hs D a x H2 nD (List.mem_of_getElem? ha) r s1 ⟨_, hD⟩ _ fun r H3 s2 hr => ?_
    have hD3 : H3 D = some (.lst acc) := s2 _ _ hD
    have hF3 : Fa (fun b y => P b y (hid D H3)) ((as.take i).filterMap f) acc := hF.imp fun b y _ z => mono b y _ _ (hid_mono s2) z
    unfold RelR at hr
    cases hf : f a with
    | none =>
      rw [hf] at hr
      subst hr
      refine lcr_none (acc := acc) ⟨fun b o z => s2 b o (s1 b o z), hD3, by omega, ?_⟩
      rw [take_next ha, List.filterMap_append]
      simp only [List.filterMap_cons, hf, List.filterMap_nil, List.append_nil]
      exact hF3
    | some b =>
      rw [hf] at hr
      obtain ⟨y, rfl, py⟩ := hr
      refine lcr_some hD3 (by omega) ⟨Same.mut (fun b o z => s2 b o (s1 b o z)) nD, upd_same, by rw [List.length_append]; simp; omega, ?_⟩
      rw [take_next ha, List.filterMap_append]
      simp only [hid_upd, List.filterMap_cons, hf, List.filterMap_nil]
      exact hF3.app (.one py)
  · obtain ⟨s1, hD, hal, hF⟩ := p
    rw [← hlen, List.take_length] at hF
    exact hd D acc H' nD s1 hD hF
/-- one turn of a dict comprehension -/
def TurnD (g : TG) (tt : TT) (tk tv : TE) (vs : List Nat) (σ : L2.St) (x : V) (H : Hp) (R : Option (V × V) → Hp → Prop) : Prop :=
  g x (wipe σ vs) H fun σ2 H2 => wipe σ2 vs = wipe σ vs ∧ tt σ2 H2 fun b H3 => if b = true then tk σ2 H3 fun y H4 => tv σ2 H4 fun z H5 => R (some (y, z)) H5 else R none H3
def DcB (J : It) (g : TG) (tt : TT) (tk tv : TE) (vs : List Nat) (σ : L2.St) (Q : VK) (H1 : Hp) : Prop := ∀ D, H1 D = none → ∃ W : Nat → Nat → Hp → Prop, (∃ m, W 0 m (upd H1 D (.dK []))) ∧ ∀ i m H, W i m H →
  (J.stop i H ∧ Q (.ref D) H) ∨ (J.go i H ∧ ∃ Nx : Hp → Prop, (∀ H', Nx H' → ∃ m', m' < m ∧ W (i + 1) m' H') ∧ ∀ x H', J.yld i H x H' → g x (wipe σ vs) H' fun σ2 H2 => wipe σ2 vs = wipe σ vs ∧ tt σ2 H2 fun b H3 =>
    if b = true then tk σ2 H3 fun y H4 => tv σ2 H4 fun z H5 => ∃ kvs k, y = kV k ∧ H5 D = some (.dK kvs) ∧ kvs.length < sizeLine ∧ Nx (upd H5 D (.dK (putK kvs k z))) else Nx H3)
theorem w_dc {tk tv : TE} (h : wi σ H fun J H1 => DcB J g tt tk tv vs σ Q H1) : tDc wi g tt tk tv vs σ H Q := h
theorem w_turnD {tk tv : TE} {x : V} {R : Option (V × V) → Hp → Prop} (h : g x (wipe σ vs) H fun σ2 H2 => wipe σ2 vs = wipe σ vs ∧ tt σ2 H2 fun b H3 => if b = true then tk σ2 H3 fun y H4 => tv σ2 H4 fun z H5 => R (some (y, z)) H5 else R none H3) : TurnD g tt tk tv vs σ x H R := h
theorem putK_new {kvs : List (Key × V)} {k : Key} {v : V} (h : ∀ p ∈ kvs, p.1 ≠ k) : putK kvs k v = kvs ++ [(k, v)] := by
  unfold putK
  rw [if_neg]
  intro z
  rw [List.any_eq_true] at z
  obtain ⟨p, hp, e⟩ := z
  exact h p hp (by simpa using e)
/-- a dict comprehension over texts, each key once, no test -/
theorem dcb_rel {α : Type} {tk tv : TE} {xs : List V} {as : List α} {Ra : α → V → Prop} (hR : Fa Ra as xs) (w : Walk J xs.length G (YAt xs)) (hG : ∀ H', Same H H' → G H') (hl : xs.length < sizeLine) (key : α → Key) (nd : (as.map key).Nodup) (P : α → V → Hp → Prop) (mono : ∀ b y H1 H2, Same H1 H2 → P b y H1 → P b y H2)
    (hs : ∀ D a x H1, H D = none → a ∈ as → Ra a x → Same H H1 → (∃ kvs, H1 D = some (.dK kvs)) → ∀ R : Option (V × V) → Hp → Prop, (∀ z H2, Same H1 H2 → P a z (hid D H2) → R (some (kV (key a), z)) H2) → TurnD g tt tk tv vs σ x H1 R)
    (hd : ∀ D kvs H', H D = none → Same H H' → H' D = some (.dK kvs) → Fa (fun a p => p.1 = key a ∧ P a p.2 (hid D H')) as kvs → Q (.ref D) H') : DcB J g tt tk tv vs σ Q H := by
  have hlen := hR.len
  intro D nD
  refine ⟨fun i m H' => m = xs.length - i ∧ i ≤ xs.length ∧ ∃ kvs, Same H H' ∧ H' D = some (.dK kvs) ∧ kvs.length = i ∧ Fa (fun a p => p.1 = key a ∧ P a p.2 (hid D H')) (as.take i) kvs, ⟨xs.length, by simp, Nat.zero_le _, [], Same.new nD, upd_same, rfl, .nil⟩, ?_⟩
  rintro i m H' ⟨rfl, hi, kvs, s1, hD, hal, hF⟩
  have q := hG _ s1
  by_cases e : i = xs.length
  · subst e
    refine .inl ⟨w.stops H' q, hd D kvs H' nD s1 hD ?_⟩
    rw [← hlen, List.take_length] at hF
    exact hF
  · have hlt : i < xs.length := by omega
    refine .inr ⟨w.goes i H' hlt q, fun H'' => ∃ kvs, Same H H'' ∧ H'' D = some (.dK kvs) ∧ kvs.length = i + 1 ∧ Fa (fun a p => p.1 = key a ∧ P a p.2 (hid D H'')) (as.take (i + 1)) kvs, fun H'' p' => ⟨xs.length - (i + 1), by omega, rfl, by omega, p'⟩, fun x H2 y => ?_⟩
    obtain ⟨rfl, hx⟩ := w.yields i H' x H2 hlt q y
    obtain ⟨a, ha, r⟩ := hR.get hx
    refine hs D a x H2 nD (List.mem_of_getElem? ha) r s1 ⟨_, hD⟩ (fun r H3 => match r with
      | some (y, z) => ∃ kvs k, y = kV k ∧ H3 D = some (.dK kvs) ∧ kvs.length < sizeLine ∧ ∃ kvs', Same H (upd H3 D (.dK (putK kvs k z))) ∧ (upd H3 D (.dK (putK kvs k z))) D = some (.dK kvs') ∧ kvs'.length = i + 1 ∧ Fa (fun a p => p.1 = key a ∧ P a p.2 (hid D (upd H3 D (.dK (putK kvs k z))))) (as.take (i + 1)) kvs'
      | none => ∃ kvs, Same H H3 ∧ H3 D = some (.dK kvs) ∧ kvs.length = i + 1 ∧ Fa (fun a p => p.1 = key a ∧ P a p.2 (hid D H3)) (as.take (i + 1)) kvs) fun z H3 s2 pz => ?_
    have hD3 : H3 D = some (.dK kvs) := s2 _ _ hD
    have hF3 : Fa (fun a p => p.1 = key a ∧ P a p.2 (hid D H3)) (as.take i) kvs := hF.imp fun b y _ z => ⟨z.1, mono b _ _ _ (hid_mono s2) z.2⟩
    have ek : putK kvs (key a) z = kvs ++ [(key a, z)] := putK_new fun p hp e => by
      obtain ⟨a', ha', e', _⟩ := hF3.right hp
      have h1 : key a' = key a := by rw [← e', e]
      have h2 : (as.take (i + 1)).map key = (as.take i).map key ++ [key a] := by rw [take_next ha, List.map_append]; rfl
      have h3 : ((as.take (i + 1)).map key).Nodup := by rw [List.map_take]; exact nd.sublist (List.take_sublist _ _)
      rw [h2] at h3
      exact (List.nodup_append.mp h3).2.2 _ (List.mem_map.mpr ⟨a', ha', rfl⟩) _ List.mem_cons_self h1
    refine ⟨kvs, key a, rfl, hD3, by omega, kvs ++ [(key a, z)], Same.mut (fun b o z => s2 b o (s1 b o z)) nD, by rw [upd_same, ek], by rw [List.length_append]; simp; omega, ?_⟩
    rw [take_next ha]
    simp only [hid_upd]
    exact hF3.app (.one ⟨rfl, pz⟩)
/-! ### two fors -/
def Turn2 (g1 : TG) (tt1 : TT) (te : TE) (vs1 : List Nat) (σ : L2.St) (x : V) (H : Hp) (R : Option V → Hp → Prop) : Prop :=
  g1 x (wipe σ vs1) H fun σ3 H5 => wipe σ3 vs1 = wipe σ vs1 ∧ tt1 σ3 H5 fun b H6 => if b = true then te σ3 H6 fun y H7 => R (some y) H7 else R none H6
def Lc2In (D : Addr) (J1 : It) (g1 : TG) (tt1 : TT) (te : TE) (vs1 : List Nat) (σ2 : L2.St) (Nx : Hp → Prop) (H4 : Hp) : Prop := ∃ W1 : Nat → Nat → Hp → Prop, (∃ m, W1 0 m H4) ∧ ∀ j k H, W1 j k H →
      (J1.stop j H ∧ Nx H) ∨ (J1.go j H ∧ ∃ Nx1 : Hp → Prop, (∀ H', Nx1 H' → ∃ k', k' < k ∧ W1 (j + 1) k' H') ∧ ∀ x H', J1.yld j H x H' → g1 x (wipe σ2 vs1) H' fun σ3 H5 => wipe σ3 vs1 = wipe σ2 vs1 ∧ tt1 σ3 H5 fun b H6 =>
        if b = true then te σ3 H6 fun y H7 => ∃ acc, H7 D = some (.lst acc) ∧ acc.length < sizeLine ∧ Nx1 (upd H7 D (.lst (acc ++ [y]))) else Nx1 H6)
def TurnO (g : TG) (tt : TT) (wi1 : TI) (vs : List Nat) (σ : L2.St) (x : V) (H : Hp) (B : L2.St → It → Hp → Prop) (R : Hp → Prop) : Prop :=
  g x (wipe σ vs) H fun σ2 H2 => wipe σ2 vs = wipe σ vs ∧ tt σ2 H2 fun b H3 => if b = true then wi1 σ2 H3 fun J1 H4 => B σ2 J1 H4 else R H3
def Lc2B (J : It) (g : TG) (tt : TT) (wi1 : TI) (g1 : TG) (tt1 : TT) (te : TE) (vs vs1 : List Nat) (σ : L2.St) (Q : VK) (H1 : Hp) : Prop := ∀ D, H1 D = none → ∃ W : Nat → Nat → Hp → Prop, (∃ m, W 0 m (upd H1 D (.lst []))) ∧ ∀ i m H, W i m H →
  (J.stop i H ∧ Q (.ref D) H) ∨ (J.go i H ∧ ∃ Nx : Hp → Prop, (∀ H', Nx H' → ∃ m', m' < m ∧ W (i + 1) m' H') ∧ ∀ x H', J.yld i H x H' → TurnO g tt wi1 vs σ x H' (fun σ2 J1 H4 => Lc2In D J1 g1 tt1 te vs1 σ2 Nx H4) Nx)
theorem w_lc2 {wi1 : TI} {g1 : TG} {tt1 : TT} {vs1 : List Nat} (h : wi σ H fun J H1 => Lc2B J g tt wi1 g1 tt1 te vs vs1 σ Q H1) : tLc2 wi g tt wi1 g1 tt1 te vs vs1 σ H Q := h
theorem w_turnO {wi1 : TI} {x : V} {B : L2.St → It → Hp → Prop} {R : Hp → Prop} (h : g x (wipe σ vs) H fun σ2 H2 => wipe σ2 vs = wipe σ vs ∧ tt σ2 H2 fun b H3 => if b = true then wi1 σ2 H3 fun J1 H4 => B σ2 J1 H4 else R H3) : TurnO g tt wi1 vs σ x H B R := h
theorem w_turn2 {x : V} {R : Option V → Hp → Prop} (h : g x (wipe σ vs) H fun σ3 H5 => wipe σ3 vs = wipe σ vs ∧ tt σ3 H5 fun b H6 => if b = true then te σ3 H6 fun y H7 => R (some y) H7 else R none H6) : Turn2 g tt te vs σ x H R := h
/-- the inner row, a filter and a map -/
theorem lc2In_rel {α β : Type} {D : Addr} {Nx : Hp → Prop} {acc0 : List V} {xs : List V} {as : List α} {Ra : α → V → Prop} (hR : Fa Ra as xs) (w : Walk J xs.length G (YAt xs)) (hG : ∀ H', Same (hid D H) (hid D H') → H' D ≠ none → G H') (hD0 : H D = some (.lst acc0)) (hl : acc0.length + xs.length < sizeLine) (f : α → Option β) (e : β → V)
    (hs : ∀ a x H1, a ∈ as → Ra a x → Same (hid D H) (hid D H1) → H1 D ≠ none → ∀ R : Option V → Hp → Prop, R ((f a).map e) H1 → Turn2 g tt te vs σ x H1 R)
    (hd : ∀ H', Same (hid D H) (hid D H') → H' D = some (.lst (acc0 ++ (as.filterMap f).map e)) → Nx H') : Lc2In D J g tt te vs σ Nx H := by
  have hlen := hR.len
  refine ⟨fun i m H' => m = xs.length - i ∧ i ≤ xs.length ∧ Same (hid D H) (hid D H') ∧ H' D = some (.lst (acc0 ++ ((as.take i).filterMap f).map e)), ⟨xs.length, by simp, Nat.zero_le _, fun _ _ z => z, by simpa using hD0⟩, ?_⟩
  rintro i m H' ⟨rfl, hi, s1, hD⟩
  have q := hG H' s1 (by rw [hD]; intro z; cases z)
  by_cases e' : i = xs.length
  · subst e'
    refine .inl ⟨w.stops H' q, hd H' s1 ?_⟩
    rw [← hlen, List.take_length] at hD
    exact hD
  · have hlt : i < xs.length := by omega
    refine .inr ⟨w.goes i H' hlt q, fun H'' => Same (hid D H) (hid D H'') ∧ H'' D = some (.lst (acc0 ++ ((as.take (i + 1)).filterMap f).map e)), fun H'' p' => ⟨xs.length - (i + 1), by omega, rfl, by omega, p'⟩, fun x H2 y => ?_⟩
    obtain ⟨rfl, hx⟩ := w.yields i H' x H2 hlt q y
    obtain ⟨a, ha, r⟩ := hR.get hx
    refine hs a x H2 (List.mem_of_getElem? ha) r s1 (by rw [hD]; intro z; cases z) (fun r H3 => match r with
      | some y => ∃ acc, H3 D = some (.lst acc) ∧ acc.length < sizeLine ∧ Same (hid D H) (hid D (upd H3 D (.lst (acc ++ [y])))) ∧ (upd H3 D (.lst (acc ++ [y]))) D = some (.lst (acc0 ++ ((as.take (i + 1)).filterMap f).map e))
      | none => Same (hid D H) (hid D H3) ∧ H3 D = some (.lst (acc0 ++ ((as.take (i + 1)).filterMap f).map e))) ?_
    rw [take_next ha, List.filterMap_append]
    cases hf : f a with
    | none =>
      simp only [Option.map_none, List.filterMap_cons, hf, List.filterMap_nil, List.append_nil]
      exact ⟨s1, hD⟩
    | some b =>
      simp only [Option.map_some, List.filterMap_cons, hf, List.filterMap_nil]
      refine ⟨_, hD, ?_, ?_, ?_⟩
      · rw [List.length_append, List.length_map]
        have := List.length_filterMap_le f (as.take i)
        rw [List.length_take] at this
        omega
      · rw [hid_upd]; exact s1
      · rw [upd_same, List.map_append, List.append_assoc]; rfl
theorem flat_len {α β : Type} {f : α → List β} {n : Nat} : ∀ (as : List α), (∀ a ∈ as, (f a).length ≤ n) → (as.flatMap f).length ≤ as.length * n
  | [], _ => by simp
  | a :: r, h => by
    have h1 := h a List.mem_cons_self
    have h2 := flat_len r fun x hx => h x (List.mem_cons_of_mem _ hx)
    rw [List.flatMap_cons, List.length_append, List.length_cons, Nat.add_mul]
    omega
/-- the whole: row by row -/
theorem lc2b_rel {α β : Type} {wi1 : TI} {g1 : TG} {tt1 : TT} {vs1 : List Nat} {xs : List V} {as : List α} {Ra : α → V → Prop} (hR : Fa Ra as xs) (w : Walk J xs.length G (YAt xs)) (hG : ∀ H', Same H H' → G H') (f : α → List β) (e : β → V) (N : Nat) (hN : N < 16777000) (hb : ∀ i, ((as.take i).flatMap f).length ≤ N)
    (hs : ∀ D a x H1 acc, acc.length ≤ N → H D = none → a ∈ as → Ra a x → Same H H1 → H1 D = some (.lst acc) → ∀ Nx : Hp → Prop, (∀ H2, Same (hid D H1) (hid D H2) → H2 D = some (.lst (acc ++ (f a).map e)) → Nx H2) → TurnO g tt wi1 vs σ x H1 (fun σ2 J1 H4 => Lc2In D J1 g1 tt1 te vs1 σ2 Nx H4) Nx)
    (hd : ∀ D H', H D = none → Same H H' → H' D = some (.lst ((as.flatMap f).map e)) → Q (.ref D) H') : Lc2B J g tt wi1 g1 tt1 te vs vs1 σ Q H := by
  have hlen := hR.len
  intro D nD
  refine ⟨fun i m H' => m = xs.length - i ∧ i ≤ xs.length ∧ Same H H' ∧ H' D = some (.lst (((as.take i).flatMap f).map e)), ⟨xs.length, by simp, Nat.zero_le _, Same.new nD, upd_same⟩, ?_⟩
  rintro i m H' ⟨rfl, hi, s1, hD⟩
  have q := hG H' s1
  by_cases e' : i = xs.length
  · subst e'
    refine .inl ⟨w.stops H' q, hd D H' nD s1 ?_⟩
    rw [← hlen, List.take_length] at hD
    exact hD
  · have hlt : i < xs.length := by omega
    refine .inr ⟨w.goes i H' hlt q, fun H'' => Same H H'' ∧ H'' D = some (.lst (((as.take (i + 1)).flatMap f).map e)), fun H'' p' => ⟨xs.length - (i + 1), by omega, rfl, by omega, p'⟩, fun x H2 y => ?_⟩
    obtain ⟨rfl, hx⟩ := w.yields i H' x H2 hlt q y
    obtain ⟨a, ha, r⟩ := hR.get hx
    refine hs D a x H2 _ (by rw [List.length_map]; exact hb i) nD (List.mem_of_getElem? ha) r s1 hD _ fun H3 s2 hD3 => ⟨fun b o z => ?_, ?_⟩
    · have nb := ne_of_none z nD
      have := s2 b o (by rw [hid_ne nb]; exact s1 b o z)
      rw [hid_ne nb] at this; exact this
    · rw [hD3, take_next ha, List.flatMap_append, List.map_append]
      simp
end
/-! ### rows apart from an object of another kind -/
def NoT (w : HO) : Prop := (∀ xs, w ≠ .tup xs) ∧ ∀ o u, w ≠ .frz o u
def NoR (w : HO) : Prop := NoT w ∧ ∀ xs, w ≠ .lst xs
theorem noT_lst {xs : List V} : NoT (.lst xs) := ⟨fun _ z => (by cases z), fun _ _ z => (by cases z)⟩
theorem noR_dK {kvs : List (Key × V)} : NoR (.dK kvs) := ⟨⟨fun _ z => (by cases z), fun _ _ z => (by cases z)⟩, fun _ z => (by cases z)⟩
theorem noR_ins {C dx : Addr} {fs : List (Str × V)} : NoR (.ins C dx fs) := ⟨⟨fun _ z => (by cases z), fun _ _ z => (by cases z)⟩, fun _ z => (by cases z)⟩
theorem Rd.hide {H : Hp} {D a : Addr} {w u : HO} (hD : H D = some w) (n : w ≠ u) (n' : ∀ o, w ≠ .frz o u) (h : Rd H a u) : Rd (hid D H) a u := by
  rcases h with h | ⟨o, h⟩
  · exact .inl (by rw [hid_ne (ne_of h hD (Ne.symm n))]; exact h)
  · exact .inr ⟨o, by rw [hid_ne (ne_of h hD (Ne.symm (n' o)))]; exact h⟩
theorem SqT.hide {K : PySem.W.Frag} {H : Hp} {D a : Addr} {w : HO} {xs : List V} (hD : H D = some w) (n : NoT w) (h : SqT K H a xs) : SqT K (hid D H) a xs := h.imp (Rd.hide hD (n.1 xs) fun o => n.2 o _) id
theorem SqL.hide {K : PySem.W.Frag} {H : Hp} {D a : Addr} {w : HO} {xs : List V} (hD : H D = some w) (n : NoR w) (h : SqL K H a xs) : SqL K (hid D H) a xs := h.imp (Rd.hide hD (n.2 xs) fun o => n.1.2 o _) id
theorem Sq2.hide {K : PySem.W.Frag} {H : Hp} {D a : Addr} {w : HO} {xs : List V} (hD : H D = some w) (n : NoR w) (h : SqL K H a xs ∨ SqT K H a xs) : SqL K (hid D H) a xs ∨ SqT K (hid D H) a xs := h.imp (SqL.hide hD n) (SqT.hide hD n.1)
theorem hid_put {x : Addr} {H H' : Hp} {o : HO} (e : Same (hid x H) H') : Same (hid x H) (upd H' x o) := fun b u z => by
  rw [upd_ne (hid_some z).1]; exact e b u z
theorem _root_.L2.Same.vac {H0 H1 : Hp} {D : Addr} (a : Same H0 H1) (n : H1 D = none) : H0 D = none := by
  cases z : H0 D with
  | none => rfl
  | some o => rw [a _ _ z] at n; cases n
theorem same_via {H0 H1 H2 : Hp} {D : Addr} (h : H0 D = none) (a : Same H0 H1) (e : Same (hid D H1) (hid D H2)) : Same H0 H2 := fun b o z => by
  have nb : b ≠ D := ne_of_none z h
  have := e b o (by rw [hid_ne nb]; exact a b o z)
  rw [hid_ne nb] at this
  exact this
/-! ### walking what may be a list or a tuple -/
section
variable {K : PySem.W.Frag} {σ : L2.St} {H : Hp} {p : Addr} {xs : List V}
def Sq2 (K : PySem.W.Frag) (H : Hp) (a : Addr) (xs : List V) : Prop := SqL K H a xs ∨ SqT K H a xs
theorem Sq2.same {H' : Hp} {a : Addr} (e : Same H H') (h : Sq2 K H a xs) : Sq2 K H' a xs := Or.imp e.seq (Same.sqt e) h
theorem w_iQ2 {R : It → Hp → Prop} {H0 : Hp} (h : Sq2 K H0 p xs) (hs : Same H0 H) (g : ∀ J G, Walk J xs.length G (YAt xs) → (∀ H', Same H0 H' → G H') → R J H) :
    ∃ a, V.ref p = .ref a ∧ (((∃ xs, SqL K H a xs) ∧ R (Itl K a) H) ∨ ((∃ xs, SqT K H a xs) ∧ R (Itt K a) H)) := by
  rcases h with h | h
  · exact ⟨p, rfl, .inl ⟨⟨xs, hs.seq h⟩, g _ _ walk_list fun H' a => a.seq h⟩⟩
  · exact ⟨p, rfl, .inr ⟨⟨xs, Same.sqt hs h⟩, g _ _ walk_tup fun H' a => Same.sqt a h⟩⟩
theorem w_lenQ {Q : VK} (h : Sq2 K H p xs) (g : Q (.int xs.length) H) : rLenQ K [.ref p] H Q := ⟨p, xs, rfl, h, g⟩
theorem w_iES {ta tk : TA} {R : It → Hp → Prop} (g : ta σ H fun vs H1 => tk σ H1 fun zs H2 => ∃ a xs b k, vs = [.ref a] ∧ zs = [.int k] ∧ (-(2 ^ 63) ≤ k ∧ k < 2 ^ 63) ∧ SqB K b H2 a xs ∧ R (IteS K b a k) H2) : iEnumS K ta tk σ H R := g
def YEn (xs : List V) (k : Int) : Nat → Hp → V → Hp → Prop := fun i H v H' => ∃ T x, v = .ref T ∧ H T = none ∧ H' = upd H T (.tup [.int (k + (i : Nat)), x]) ∧ xs[i]? = some x
theorem w_iESx {R : It → Hp → Prop} {k : Int} {H0 : Hp} (hk : -(2 ^ 63) ≤ k ∧ k < 2 ^ 63) (h : Sq2 K H0 p xs) (hs : Same H0 H) (g : ∀ J G, Walk J xs.length G (YEn xs k) → (∀ H', Same H0 H' → G H') → R J H) :
    ∃ a xs b k', [V.ref p] = [.ref a] ∧ [V.int k] = [.int k'] ∧ (-(2 ^ 63) ≤ k' ∧ k' < 2 ^ 63) ∧ SqB K b H a xs ∧ R (IteS K b a k') H := by
  have w : ∀ b, Walk (IteS K b p k) xs.length (fun H => SqB K b H p xs) (YEn xs k) := fun b =>
    ⟨fun i H hi q => ⟨xs, xs[i], q, by simp [hi]⟩, fun _ q => ⟨xs, q, rfl⟩, fun i H x H' hi q ⟨T, x', e, n, e', h⟩ => ⟨T, x', e, n, e', h xs q⟩⟩
  rcases h with h | h
  · exact ⟨p, xs, false, k, rfl, rfl, hk, hs.seq h, g _ _ (w false) fun H' a => a.seq h⟩
  · exact ⟨p, xs, true, k, rfl, rfl, hk, Same.sqt hs h, g _ _ (w true) fun H' a => Same.sqt a h⟩
end
/-! ### x[i] by a def __getitem__ -/
section
variable {X : Cx} {CX : CXT} {k : Nat} {C f : Addr} {fd : FuncData} {ps : List Str} {sp : Sp} {E : XK}
theorem e_getO {a b : Expr} {ta tb : TE} {pos : Pos} (hm : Meth X.K C "__getitem__" f) (hf : PySem.W.fnIn X.K f = true) (F : FnOk X.prog X.w X.K X.mg X.base CX k f fd ps sp) (hr : Room (k + 1) X.A) (hb : Binds X.K fd ps []) (hx : Passes CX X E) (ha : PE X a ta) (hb' : PE X b tb)
    (hsl : ∀ o i, subscripted b true o i = runValue (.builtin "lifetime.subscript" ⟨[o, i], []⟩) := by intro _ _; with_unfolding_all rfl) : PE X (.Subscript a b pos) (tOp (rGetO C sp E) ta tb) := by
  refine ⟨fun pins s σ H Q I h => ?_⟩
  refine Subscript_ (binT ha hb' I h fun v u s2 x y H2 I2 rx ry ⟨p, dx, fs, ex, hp, q⟩ => ?_)
  subst ex
  cases (show v = Value.ref p from rx)
  obtain ⟨od, Jn⟩ := inst_of I2 hp
  obtain ⟨m, hF⟩ := I2.fr
  exact PySem.W.sub_K hF I2.ok.mod.kin Jn hm.at_ hf hm.fn (run_in1 (us := [.ref p, u]) (vs := [.ref p, y]) F hr hb hx I2 (.cons rfl (.cons ry .nil)) q) (hsl _ _)
/-! ### dicts of data compared -/
inductive HitsV (K : PySem.W.Frag) (H : Hp) (ls : List (Key × V)) : List (Key × V) → Bool → Prop
  | nil : HitsV K H ls [] true
  | miss {k : Key} {v : V} {r : List (Key × V)} : valV ls k = none → HitsV K H ls ((k, v) :: r) false
  | hit {k : Key} {v y : V} {r : List (Key × V)} {d e : PyData} {b : Bool} : valV ls k = some y → Dp K H v d → Dp K H y e → SeqAt.shaped d = true → SeqAt.shaped e = true → HitsV K H ls r b → HitsV K H ls ((k, v) :: r) (PyData.eqv d e && b)
theorem HitsV.keq {pins : List (Addr × Obj)} {σ : L2.St} {H : Hp} {s : Shared} {ls : List (Key × V)} {vb : List (Key × Value)} (I : Inv X pins σ H s) (rb : KV ls vb) (hu : X.A.in1.units + 64 < cLine) {ks : List (Key × V)} {r : Bool} (h : HitsV X.K H ls ks r) :
    ∀ {va : List (Key × Value)}, KV ks va → PySem.W.KeqHits X.A.in1 s vb va r := by
  induction h with
  | nil => intro va hv; cases hv; exact .nil
  | @miss k v r hm =>
    intro va hv
    cases hv with
    | @cons _ q _ qs h t =>
      obtain ⟨k', v'⟩ := q
      obtain ⟨h1, h2⟩ := h
      have h1' : k = k' := h1
      subst h1'
      have rr := rb.val k
      rw [hm] at rr
      refine .miss ?_
      cases z : valueAt vb k with
      | none => rfl
      | some u => rw [z] at rr; exact rr.elim
  | @hit k v y r d e b hy hd he sd se hr ih =>
    intro va hv
    cases hv with
    | @cons _ q _ qs h t =>
      obtain ⟨k', v'⟩ := q
      obtain ⟨h1, h2⟩ := h
      have h1' : k = k' := h1
      subst h1'
      have rr := rb.val k
      rw [hy] at rr
      obtain ⟨u, hu', ru⟩ := rr.some_of
      obtain ⟨as, r1⟩ := Dp.reads I d v v' hd h2
      obtain ⟨bs, r2⟩ := Dp.reads I e y u he ru
      exact .hit hu' (PySem.W.keq_at r1 r2 sd se hu) (ih t)
theorem u65 {k : Nat} {A : Around} (r : Room k A) : A.in1.units + 64 < cLine := by
  have := r.un
  have e : A.in1.units ≤ A.units + 1 := by first | exact Nat.le_refl _ | exact Nat.le_succ _
  omega
def rEqDD (K : PySem.W.Frag) : R2 := fun x y H Q => ∃ a b ks ls r, x = .ref a ∧ y = .ref b ∧ H a = some (.dK ks) ∧ H b = some (.dK ls) ∧ (ks.length = ls.length → HitsV K H ls ks r) ∧ Q (.bl (ks.length == ls.length && r)) H
theorem k_eqDD (K : PySem.W.Frag) (hu : X.A.in1.units + 64 < cLine) (hK : X.K = K := by rfl) : OpR X (compareOp .Eq) (rEqDD K) := by
  subst hK
  intro pins s σ H x y v u Q I rx ry h
  obtain ⟨a, b, ks, ls, r, rfl, rfl, ea, eb, hh, q⟩ := h
  obtain rfl : v = Value.ref a := rx
  obtain rfl : u = Value.ref b := ry
  obtain ⟨_, ya, va, ra, da⟩ := (show ObjOk X.prog X.w H s.heap a (.dK ks) from I.hok a _ ea)
  obtain ⟨_, yb, vb, rb, db⟩ := (show ObjOk X.prog X.w H s.heap b (.dK ls) from I.hok b _ eb)
  have h1 := ra.length
  have h2 := rb.length
  have hl : (va.length == vb.length) = (ks.length == ls.length) := by rw [← h1, ← h2]
  have hin : X.A.units ≤ X.A.in1.units := by first | exact Nat.le_refl _ | exact Nat.le_succ _
  refine PySem.W.keq_eq (knd := mixKind X.prog X.w) (r := r) ya yb da db (Nat.lt_of_le_of_lt (Nat.le_trans hin (Nat.le_add_right _ 64)) hu) (fun e => HitsV.keq I rb hu (hh (by omega)) ra) ⟨.bl _, H, I, rfl, ?_⟩
  rw [hl]; exact q
end
end Mf

namespace Mf
open PySem L2 PyProof.Rows
/-! ### data stays -/
mutual
theorem Dp.same {K : PySem.W.Frag} {H H' : Hp} (e : Same H H') : ∀ {v : V} {d : PyData}, Dp K H v d → Dp K H' v d
  | _, _, .non => .non
  | _, _, .bl b => .bl b
  | _, _, .int i => .int i
  | _, _, .str x => .str x
  | _, _, .lst h a => .lst (e.seq h) (DpAll.same e a)
  | _, _, .tup h a => .tup (Same.sqt e h) (DpAll.same e a)
theorem DpAll.same {K : PySem.W.Frag} {H H' : Hp} (e : Same H H') : ∀ {vs : List V} {ds : List PyData}, DpAll K H vs ds → DpAll K H' vs ds
  | _, _, .nil => .nil
  | _, _, .cons h r => .cons (Dp.same e h) (DpAll.same e r)
end
theorem dpAll_fa {α : Type} {K : PySem.W.Frag} {H : Hp} {f : α → PyData} {as : List α} {vs : List V} (h : Fa (fun a v => Dp K H v (f a)) as vs) : DpAll K H vs (as.map f) := by
  induction h with
  | nil => exact .nil
  | cons r _ ih => exact .cons r ih
theorem fa_dpAll {α : Type} {K : PySem.W.Frag} {H : Hp} {f : α → PyData} : ∀ {as : List α} {vs : List V}, DpAll K H vs (as.map f) → Fa (fun a v => Dp K H v (f a)) as vs
  | [], _, h => by cases h; exact .nil
  | a :: as, _, h => by cases h with | cons r t => exact .cons r (fa_dpAll t)
theorem len_cps (x : Str) : x.cps.toList.length = x.length := by rw [Array.length_toList]; rfl
theorem letters_mem (z : Nat) : decide (z ∈ (Str.ofString "abcdefghijklmnopqrstuvwxyz").cps.toList) = decide (97 ≤ z ∧ z ≤ 122) := by
  have e : (Str.ofString "abcdefghijklmnopqrstuvwxyz").cps.toList = [97, 98, 99, 100, 101, 102, 103, 104, 105, 106, 107, 108, 109, 110, 111, 112, 113, 114, 115, 116, 117, 118, 119, 120, 121, 122] := by decide +kernel
  rw [e]
  refine decide_eq_decide.mpr ⟨fun h => ?_, fun h => ?_⟩
  · simp only [List.mem_cons, List.not_mem_nil, or_false] at h
    omega
  · simp only [List.mem_cons, List.not_mem_nil, or_false]
    omega
/-! ### steps, bodies, procedures -/
abbrev Stp := Str × Str
abbrev Prc := Str × List Stp
def dStp (s : Stp) : PyData := .tuple [.str s.1, .str s.2]
def dRowT (ss : List Stp) : PyData := .tuple (ss.map dStp)
def dRowL (ss : List Stp) : PyData := .list (ss.map dStp)
def dPrc (p : Prc) : PyData := .tuple [.str p.1, dRowL p.2]
def dPrg (ps : List Prc) : PyData := .list (ps.map dPrc)
def StV (K : PySem.W.Frag) (H : Hp) (s : Stp) (v : V) : Prop := ∃ t, v = .ref t ∧ SqT K H t [.str s.1, .str s.2]
def RowT (K : PySem.W.Frag) (H : Hp) (ss : List Stp) (v : V) : Prop := ∃ b vs, v = .ref b ∧ SqT K H b vs ∧ Fa (StV K H) ss vs
def RowL (K : PySem.W.Frag) (H : Hp) (ss : List Stp) (v : V) : Prop := ∃ b vs, v = .ref b ∧ SqL K H b vs ∧ Fa (StV K H) ss vs
def RowV (K : PySem.W.Frag) (H : Hp) (ss : List Stp) (v : V) : Prop := RowL K H ss v ∨ RowT K H ss v
def PrV (K : PySem.W.Frag) (H : Hp) (R : List Stp → V → Prop) (p : Prc) (v : V) : Prop := ∃ t b, v = .ref t ∧ SqT K H t [.str p.1, b] ∧ R p.2 b
/-- procedures as any rows -/
def PgV (K : PySem.W.Frag) (H : Hp) (ps : List Prc) (v : V) : Prop := ∃ a vs, v = .ref a ∧ (SqL K H a vs ∨ SqT K H a vs) ∧ Fa (PrV K H (RowV K H)) ps vs
/-- a list of (name, list of steps) -/
def PgL (K : PySem.W.Frag) (H : Hp) (ps : List Prc) (v : V) : Prop := ∃ a vs, v = .ref a ∧ SqL K H a vs ∧ Fa (PrV K H (RowL K H)) ps vs
section
variable {K : PySem.W.Frag} {H H' : Hp} {s : Stp} {ss : List Stp} {p : Prc} {ps : List Prc} {v : V}
theorem StV.same (e : Same H H') (h : StV K H s v) : StV K H' s v := let ⟨t, a, b⟩ := h; ⟨t, a, Same.sqt e b⟩
theorem RowT.same (e : Same H H') (h : RowT K H ss v) : RowT K H' ss v := let ⟨t, vs, a, b, c⟩ := h; ⟨t, vs, a, Same.sqt e b, c.imp fun _ _ _ => StV.same e⟩
theorem RowL.same (e : Same H H') (h : RowL K H ss v) : RowL K H' ss v := let ⟨t, vs, a, b, c⟩ := h; ⟨t, vs, a, e.seq b, c.imp fun _ _ _ => StV.same e⟩
theorem RowV.same (e : Same H H') (h : RowV K H ss v) : RowV K H' ss v := h.imp (RowL.same e) (RowT.same e)
theorem PrV.same {R R' : List Stp → V → Prop} (e : Same H H') (f : ∀ ss v, R ss v → R' ss v) (h : PrV K H R p v) : PrV K H' R' p v := let ⟨t, b, a, c, d⟩ := h; ⟨t, b, a, Same.sqt e c, f _ _ d⟩
theorem PgV.same (e : Same H H') (h : PgV K H ps v) : PgV K H' ps v := let ⟨a, vs, b, c, d⟩ := h; ⟨a, vs, b, c.imp e.seq (Same.sqt e), d.imp fun _ _ _ z => z.same e fun _ _ => RowV.same e⟩
theorem PgL.same (e : Same H H') (h : PgL K H ps v) : PgL K H' ps v := let ⟨a, vs, b, c, d⟩ := h; ⟨a, vs, b, e.seq c, d.imp fun _ _ _ z => z.same e fun _ _ => RowL.same e⟩
theorem PgL.any (h : PgL K H ps v) : PgV K H ps v := let ⟨a, vs, b, c, d⟩ := h; ⟨a, vs, b, .inl c, d.imp fun _ _ _ ⟨t, b, x, y, z⟩ => ⟨t, b, x, y, .inl z⟩⟩
theorem StV.dp (h : StV K H s v) : Dp K H v (dStp s) := by
  obtain ⟨t, rfl, h⟩ := h
  exact .tup h (.cons (.str _) (.cons (.str _) .nil))
theorem RowT.dp (h : RowT K H ss v) : Dp K H v (dRowT ss) := by
  obtain ⟨t, vs, rfl, h, f⟩ := h
  exact .tup h (dpAll_fa (f.imp fun _ _ _ z => z.dp))
theorem RowL.dp (h : RowL K H ss v) : Dp K H v (dRowL ss) := by
  obtain ⟨t, vs, rfl, h, f⟩ := h
  exact .lst h (dpAll_fa (f.imp fun _ _ _ z => z.dp))
theorem PrV.dp (h : PrV K H (RowL K H) p v) : Dp K H v (dPrc p) := by
  obtain ⟨t, b, rfl, h, f⟩ := h
  exact .tup h (.cons (.str _) (.cons f.dp .nil))
theorem PgL.dp (h : PgL K H ps v) : Dp K H v (dPrg ps) := by
  obtain ⟨t, vs, rfl, h, f⟩ := h
  exact .lst h (dpAll_fa (f.imp fun _ _ _ z => z.dp))
end
section
variable {K : PySem.W.Frag} {H : Hp} {D : Addr} {w : HO} {s : Stp} {ss : List Stp} {p : Prc} {ps : List Prc} {v : V}
theorem StV.hide (hD : H D = some w) (n : NoT w) (h : StV K H s v) : StV K (hid D H) s v := let ⟨t, a, b⟩ := h; ⟨t, a, SqT.hide hD n b⟩
theorem RowT.hide (hD : H D = some w) (n : NoT w) (h : RowT K H ss v) : RowT K (hid D H) ss v := let ⟨t, vs, a, b, c⟩ := h; ⟨t, vs, a, SqT.hide hD n b, c.imp fun _ _ _ => StV.hide hD n⟩
theorem RowL.hide (hD : H D = some w) (n : NoR w) (h : RowL K H ss v) : RowL K (hid D H) ss v := let ⟨t, vs, a, b, c⟩ := h; ⟨t, vs, a, SqL.hide hD n b, c.imp fun _ _ _ => StV.hide hD n.1⟩
theorem RowV.hide (hD : H D = some w) (n : NoR w) (h : RowV K H ss v) : RowV K (hid D H) ss v := h.imp (RowL.hide hD n) (RowT.hide hD n.1)
theorem PgV.hide (hD : H D = some w) (n : NoR w) (h : PgV K H ps v) : PgV K (hid D H) ps v := let ⟨a, vs, b, c, d⟩ := h; ⟨a, vs, b, Sq2.hide hD n c, d.imp fun _ _ _ ⟨t, b, x, y, z⟩ => ⟨t, b, x, SqT.hide hD n.1 y, z.hide hD n⟩⟩
theorem RowV.sq (h : RowV K H ss v) : ∃ b vs, v = .ref b ∧ Sq2 K H b vs ∧ Fa (StV K H) ss vs := by
  rcases h with ⟨b, vs, e, h, f⟩ | ⟨b, vs, e, h, f⟩
  · exact ⟨b, vs, e, .inl h, f⟩
  · exact ⟨b, vs, e, .inr h, f⟩
end
/-! ### programs that are valid -/
def kinds : List Str := ["read", "say", "call", "try"]
def calls : List Str := ["call", "try"]
def GoodStp (ns : List Str) (s : Stp) : Prop := s.1 ∈ kinds ∧ IsName s.2 ∧ (s.1 ∈ calls → s.2 ∈ ns)
def nms (ps : List Prc) : List Str := ps.map Prod.fst
def rdOf (s : Stp) : Option Str := if s.1 = "read" then some s.2 else none
def reads (ps : List Prc) : List Str := ps.flatMap fun p => p.2.filterMap rdOf
structure Good (ps : List Prc) : Prop where
  pos : 0 < ps.length
  few : ps.length ≤ 16
  nd : (nms ps).Nodup
  name : ∀ p ∈ ps, IsName p.1
  short : ∀ p ∈ ps, p.2.length ≤ 12
  step : ∀ p ∈ ps, ∀ s ∈ p.2, GoodStp (nms ps) s
  plc : (addAll (reads ps)).length < 64
def places (ps : List Prc) : List Str := nset (reads ps)
theorem kinds_ok {x : Str} (h : x ∈ kinds) : PyData.strOk x = true := by
  unfold kinds at h
  simp only [List.mem_cons, List.not_mem_nil, or_false] at h
  rcases h with rfl | rfl | rfl | rfl <;> decide +kernel
theorem kinds_len {x : Str} (h : x ∈ kinds) : x.length ≤ 4 := by
  unfold kinds at h
  simp only [List.mem_cons, List.not_mem_nil, or_false] at h
  rcases h with rfl | rfl | rfl | rfl <;> decide +kernel
theorem GoodStp.lay {ns : List Str} {s : Stp} (h : GoodStp ns s) : PyData.canLay0 (dStp s) = true := by
  unfold dStp
  simp only [PyData.canLay0, PyData.canLayAll0, kinds_ok h.1, h.2.1.ok, Bool.and_self]
theorem lay_all {α : Type} {f : α → PyData} : ∀ {as : List α}, (∀ a ∈ as, PyData.canLay0 (f a) = true) → PyData.canLayAll0 (as.map f) = true
  | [], _ => by simp [PyData.canLayAll0]
  | a :: as, h => by
    simp only [List.map_cons, PyData.canLayAll0, h a List.mem_cons_self, lay_all (as := as) fun x hx => h x (List.mem_cons_of_mem _ hx), Bool.and_self]
theorem depth_all {α : Type} {f : α → PyData} {n : Nat} : ∀ {as : List α}, (∀ a ∈ as, PyData.depth (f a) ≤ n) → PyData.depthAll (as.map f) ≤ n
  | [], _ => by simp [PyData.depthAll]
  | a :: as, h => by
    simp only [List.map_cons, PyData.depthAll]
    exact Nat.max_le.mpr ⟨h a List.mem_cons_self, depth_all (as := as) fun x hx => h x (List.mem_cons_of_mem _ hx)⟩
theorem depth_stp (s : Stp) : PyData.depth (dStp s) ≤ 1 := by
  unfold dStp
  simp [PyData.depth, PyData.depthAll]
theorem shaped_rowT {ns : List Str} {ss : List Stp} (h : ∀ s ∈ ss, GoodStp ns s) : SeqAt.shaped (dRowT ss) = true := by
  unfold SeqAt.shaped dRowT
  rw [Bool.and_eq_true]
  refine ⟨?_, decide_eq_true ?_⟩
  · simp only [PyData.canLay0]
    exact lay_all fun s hs => (h s hs).lay
  · simp only [PyData.depth]
    have := depth_all (f := dStp) (as := ss) (n := 1) fun s _ => depth_stp s
    omega
theorem eqv_stp (s t : Stp) : PyData.eqv (dStp s) (dStp t) = decide (s = t) := by
  obtain ⟨a, b⟩ := s
  obtain ⟨c, d⟩ := t
  unfold dStp
  simp only [PyData.eqv, PyData.eqvAll]
  by_cases h1 : a = c
  · by_cases h2 : b = d <;> simp [h1, h2]
  · simp [h1]
theorem eqvAll_map {α : Type} [DecidableEq α] {f : α → PyData} (hf : ∀ a b, PyData.eqv (f a) (f b) = decide (a = b)) : ∀ as bs : List α, PyData.eqvAll (as.map f) (bs.map f) = decide (as = bs)
  | [], [] => by simp [PyData.eqvAll]
  | [], y :: ys => by simp [PyData.eqvAll]
  | x :: xs, [] => by simp [PyData.eqvAll]
  | x :: xs, y :: ys => by
    simp only [List.map_cons, PyData.eqvAll, hf, eqvAll_map hf xs ys]
    by_cases h1 : x = y
    · by_cases h2 : xs = ys <;> simp [h1, h2]
    · simp [h1]
theorem eqv_rowT (ss ts : List Stp) : PyData.eqv (dRowT ss) (dRowT ts) = decide (ss = ts) := by
  unfold dRowT; simp only [PyData.eqv]; exact eqvAll_map eqv_stp ss ts
theorem eqv_rowL (ss ts : List Stp) : PyData.eqv (dRowL ss) (dRowL ts) = decide (ss = ts) := by
  unfold dRowL; simp only [PyData.eqv]; exact eqvAll_map eqv_stp ss ts
theorem eqv_prc (p q : Prc) : PyData.eqv (dPrc p) (dPrc q) = decide (p = q) := by
  obtain ⟨a, b⟩ := p
  obtain ⟨c, d⟩ := q
  unfold dPrc
  simp only [PyData.eqv, PyData.eqvAll, eqv_rowL]
  by_cases h1 : a = c
  · by_cases h2 : b = d <;> simp [h1, h2]
  · simp [h1]
theorem eqv_prg (ps qs : List Prc) : PyData.eqv (dPrg ps) (dPrg qs) = decide (ps = qs) := by
  unfold dPrg; simp only [PyData.eqv]; exact eqvAll_map eqv_prc ps qs
/-! ### Program -/
def pgF (tn db tp : Addr) : List (Str × V) := [("names", .ref tn), ("bodies", .ref db), ("places", .ref tp)]
structure PgAt (K : PySem.W.Frag) (C : Addr) (H : Hp) (a : Addr) (ps : List Prc) : Prop where
  ex : ∃ dx tn db tp kvs, H a = some (.ins C dx (pgF tn db tp)) ∧ SqT K H tn ((nms ps).map V.str) ∧ H db = some (.dK kvs) ∧ Fa (fun p q => q.1 = Sum.inr p.1 ∧ RowT K H p.2 q.2) ps kvs ∧ SqT K H tp ((places ps).map V.str)
  good : Good ps
theorem PgAt.same {K : PySem.W.Frag} {C : Addr} {H H' : Hp} {a : Addr} {ps : List Prc} (e : Same H H') (h : PgAt K C H a ps) : PgAt K C H' a ps := by
  obtain ⟨⟨dx, tn, db, tp, kvs, h1, h2, h3, h4, h5⟩, g⟩ := h
  exact ⟨⟨dx, tn, db, tp, kvs, e _ _ h1, Same.sqt e h2, e _ _ h3, h4.imp fun _ _ _ z => ⟨z.1, z.2.same e⟩, Same.sqt e h5⟩, g⟩
theorem val_of_mem {kvs : List (Key × V)} {k : Key} {v : V} (nd : (kvs.map (·.1)).Nodup) (h : (k, v) ∈ kvs) : valV kvs k = some v := val_nodup nd (k, v) h
theorem keys_of {K : PySem.W.Frag} {H : Hp} {ps : List Prc} {kvs : List (Key × V)} (h : Fa (fun p q => q.1 = Sum.inr p.1 ∧ RowT K H p.2 q.2) ps kvs) : kvs.map (·.1) = (nms ps).map Sum.inr := by
  induction h with
  | nil => rfl
  | cons r _ ih => unfold nms at *; simp only [List.map_cons]; rw [r.1, ih]
theorem Good.keys {K : PySem.W.Frag} {H : Hp} {ps : List Prc} {kvs : List (Key × V)} (hg : Good ps) (h : Fa (fun p q => q.1 = Sum.inr p.1 ∧ RowT K H p.2 q.2) ps kvs) : (kvs.map (·.1)).Nodup := by
  rw [keys_of h]
  exact List.pairwise_map.mpr (List.Pairwise.imp (fun h z => h (Sum.inr.inj z)) hg.nd)
theorem body_at {K : PySem.W.Frag} {H : Hp} {ps : List Prc} {kvs : List (Key × V)} {n : Str} {ss : List Stp} (hg : Good ps) (h : Fa (fun p q => q.1 = Sum.inr p.1 ∧ RowT K H p.2 q.2) ps kvs) (hm : (n, ss) ∈ ps) : ∃ v, valV kvs (Sum.inr n) = some v ∧ RowT K H ss v := by
  obtain ⟨⟨k, v⟩, hq, e, r⟩ := h.left hm
  have e' : k = Sum.inr n := e
  subst e'
  exact ⟨v, val_of_mem (hg.keys h) hq, r⟩
theorem Good.oks {ps : List Prc} (h : Good ps) : Oks (nms ps) := fun x hx => by
  obtain ⟨p, hp, rfl⟩ := List.mem_map.mp hx
  exact (h.name p hp).ok
theorem nms_inj {ps : List Prc} (nd : (nms ps).Nodup) {p q : Prc} (hp : p ∈ ps) (hq : q ∈ ps) (e : p.1 = q.1) : p = q := by
  induction ps with
  | nil => cases hp
  | cons r rs ih =>
    unfold nms at nd
    rw [List.map_cons, List.nodup_cons] at nd
    rcases List.mem_cons.mp hp with rfl | hp' <;> rcases List.mem_cons.mp hq with rfl | hq'
    · rfl
    · exact absurd (List.mem_map.mpr ⟨q, hq', e.symm⟩) nd.1
    · exact absurd (List.mem_map.mpr ⟨p, hp', e⟩) nd.1
    · exact ih nd.2 hp' hq'
theorem hits_aux {K : PySem.W.Frag} {H : Hp} {ps qs : List Prc} {kvs lvs : List (Key × V)} {ns : List Str} (hs : ∀ p ∈ ps, ∀ s ∈ p.2, GoodStp ns s) (hs' : ∀ p ∈ qs, ∀ s ∈ p.2, GoodStp ns s)
    (look : ∀ q ∈ qs, ∃ v, valV lvs (Sum.inr q.1) = some v ∧ RowT K H q.2 v) (hn : nms ps = nms qs) (hK : Fa (fun p q => q.1 = Sum.inr p.1 ∧ RowT K H p.2 q.2) ps kvs) : HitsV K H lvs kvs (decide (ps = qs)) := by
  induction hK generalizing qs with
  | nil =>
    cases qs with
    | nil => exact .nil
    | cons q qs => cases hn
  | @cons p kv ps' kvs' r t ih =>
    cases qs with
    | nil => cases hn
    | cons q qs' =>
      have hn' : p.1 = q.1 ∧ nms ps' = nms qs' := by
        unfold nms at hn ⊢
        rw [List.map_cons, List.map_cons] at hn
        injection hn with a b
        exact ⟨a, b⟩
      obtain ⟨k, v⟩ := kv
      obtain ⟨rk, rv⟩ := r
      have rk' : k = Sum.inr p.1 := rk
      subst rk'
      obtain ⟨v', hv', rv'⟩ := look q List.mem_cons_self
      rw [← hn'.1] at hv'
      have ih' := ih (qs := qs') (fun a ha => hs a (List.mem_cons_of_mem _ ha)) (fun a ha => hs' a (List.mem_cons_of_mem _ ha)) (fun a ha => look a (List.mem_cons_of_mem _ ha)) hn'.2
      have hit := HitsV.hit hv' rv.dp rv'.dp (shaped_rowT fun s hm => hs p List.mem_cons_self s hm) (shaped_rowT fun s hm => hs' q List.mem_cons_self s hm) ih'
      rw [eqv_rowT] at hit
      have e : (decide (p.2 = q.2) && decide (ps' = qs')) = decide (p :: ps' = q :: qs') := by
        obtain ⟨p1, p2⟩ := p
        obtain ⟨q1, q2⟩ := q
        have : p1 = q1 := hn'.1
        subst this
        by_cases h1 : p2 = q2 <;> by_cases h2 : ps' = qs' <;> simp [h1, h2]
      rw [e] at hit
      exact hit
theorem hits_pg {K : PySem.W.Frag} {H : Hp} {ps qs : List Prc} {kvs lvs : List (Key × V)} (hg : Good ps) (hg' : Good qs) (hn : nms ps = nms qs) (hK : Fa (fun p q => q.1 = Sum.inr p.1 ∧ RowT K H p.2 q.2) ps kvs) (hL : Fa (fun p q => q.1 = Sum.inr p.1 ∧ RowT K H p.2 q.2) qs lvs) : HitsV K H lvs kvs (decide (ps = qs)) :=
  hits_aux (ns := nms ps) hg.step (by rw [hn]; exact hg'.step) (fun q hq => body_at hg' hL hq) hn hK
def sp_isName : Sp := fun vs H Q _ => ∃ v, vs = [v] ∧ ((∃ x : Str, v = .str x ∧ x.length ≤ 1000 ∧ ∀ H', Same H H' → Q (.bl (decide (IsName x))) H') ∨ (∃ i : Int, v = .int i ∧ Q (.bl false) H))
theorem use_isName {x : Str} {H : Hp} {Q : VK} {E : XK} (hl : x.length ≤ 1000) (g : ∀ H', Same H H' → Q (.bl (decide (IsName x))) H') : sp_isName ([.str x] ++ []) H Q E := ⟨_, rfl, .inl ⟨x, rfl, hl, g⟩⟩
/-! ### procedures as they are handed in: names may be any texts or numbers -/
abbrev GStp := Str × V
abbrev GPrc := V × List GStp
def GSt (K : PySem.W.Frag) (H : Hp) (s : GStp) (v : V) : Prop := ∃ t, v = .ref t ∧ SqT K H t [.str s.1, s.2]
def GRow (K : PySem.W.Frag) (H : Hp) (ss : List GStp) (v : V) : Prop := ∃ b vs, v = .ref b ∧ Sq2 K H b vs ∧ Fa (GSt K H) ss vs
def GPr (K : PySem.W.Frag) (H : Hp) (p : GPrc) (v : V) : Prop := ∃ t b, v = .ref t ∧ SqT K H t [p.1, b] ∧ GRow K H p.2 b
def GPg (K : PySem.W.Frag) (H : Hp) (ps : List GPrc) (v : V) : Prop := ∃ a vs, v = .ref a ∧ Sq2 K H a vs ∧ Fa (GPr K H) ps vs
section
variable {K : PySem.W.Frag} {H H' : Hp} {v : V}
theorem GSt.same {s : GStp} (e : Same H H') (h : GSt K H s v) : GSt K H' s v := let ⟨t, a, b⟩ := h; ⟨t, a, Same.sqt e b⟩
theorem GRow.same {ss : List GStp} (e : Same H H') (h : GRow K H ss v) : GRow K H' ss v := let ⟨t, vs, a, b, c⟩ := h; ⟨t, vs, a, b.same e, c.imp fun _ _ _ => GSt.same e⟩
theorem GPr.same {p : GPrc} (e : Same H H') (h : GPr K H p v) : GPr K H' p v := let ⟨t, b, a, c, d⟩ := h; ⟨t, b, a, Same.sqt e c, d.same e⟩
theorem GPg.same {ps : List GPrc} (e : Same H H') (h : GPg K H ps v) : GPg K H' ps v := let ⟨a, vs, b, c, d⟩ := h; ⟨a, vs, b, c.same e, d.imp fun _ _ _ => GPr.same e⟩
end
def gS (s : Stp) : GStp := (s.1, .str s.2)
def gP (p : Prc) : GPrc := (.str p.1, p.2.map gS)
theorem faMap {α β γ : Type} {R : α → β → Prop} {S : γ → β → Prop} {f : α → γ} {as : List α} {bs : List β} (h : Fa R as bs) (i : ∀ a b, R a b → S (f a) b) : Fa S (as.map f) bs := Fa.toMapL (h.imp fun a b _ => i a b)
theorem RowV.g {K : PySem.W.Frag} {H : Hp} {ss : List Stp} {v : V} (h : RowV K H ss v) : GRow K H (ss.map gS) v := by
  rcases h with ⟨b, vs, e, h, f⟩ | ⟨b, vs, e, h, f⟩
  · exact ⟨b, vs, e, .inl h, faMap f fun s v ⟨t, a, b⟩ => ⟨t, a, b⟩⟩
  · exact ⟨b, vs, e, .inr h, faMap f fun s v ⟨t, a, b⟩ => ⟨t, a, b⟩⟩
theorem PgV.g {K : PySem.W.Frag} {H : Hp} {ps : List Prc} {v : V} (h : PgV K H ps v) : GPg K H (ps.map gP) v := by
  obtain ⟨a, vs, e, h, f⟩ := h
  exact ⟨a, vs, e, h, faMap f fun p v ⟨t, b, x, y, z⟩ => ⟨t, b, x, y, z.g⟩⟩
/-- a text or a number -/
def Wd (v : V) : Prop := (∃ x : Str, v = .str x ∧ x.length ≤ 1000) ∨ ∃ i : Int, v = .int i
theorem Wd.flat {v : V} (h : Wd v) : flatV v = true := by
  rcases h with ⟨x, rfl, _⟩ | ⟨i, rfl⟩ <;> rfl
def isNm : V → Bool
  | .str x => decide (IsName x)
  | _ => false
def isSt (s : GStp) : Bool := decide (s.1 ∈ kinds) && isNm s.2
def badA (i : Nat) (p : GPrc) (earlier : List V) : Bool := decide (16 < i + 1) || !isNm p.1 || inV p.1 earlier || decide (12 < p.2.length) || !p.2.all isSt
def scanA : Nat → List V → List GPrc → Option Nat
  | _, _, [] => none
  | i, ea, p :: r => if badA i p ea = true then some (i + 1) else scanA (i + 1) (ea ++ [p.1]) r
def badB (ns : List V) (p : GPrc) : Bool := p.2.any fun s => decide (s.1 ∈ calls) && !inV s.2 ns
def scanB (ns : List V) : Nat → List GPrc → Nat
  | _, [] => 0
  | i, p :: r => if badB ns p = true then i + 1 else scanB ns (i + 1) r
def invLine (ps : List GPrc) : Nat := if ps = [] then 1 else match scanA 0 [] ps with
  | some n => n
  | none => scanB (ps.map Prod.fst) 0 ps
def FlatG (ps : List GPrc) : Prop := ps.length ≤ 1000 ∧ ∀ p ∈ ps, Wd p.1 ∧ p.2.length ≤ 1000 ∧ ∀ s ∈ p.2, Wd s.2
theorem use_nm {v : V} {H : Hp} {Q : VK} {E : XK} (h : Wd v) (g : ∀ H', Same H H' → Q (.bl (isNm v)) H') : sp_isName ([v] ++ []) H Q E := by
  rcases h with ⟨x, rfl, hl⟩ | ⟨i, rfl⟩
  · exact ⟨_, rfl, .inl ⟨x, rfl, hl, g⟩⟩
  · exact ⟨_, rfl, .inr ⟨i, rfl, g _ fun _ _ z => z⟩⟩
def sp_isStep (K : PySem.W.Frag) : Sp := fun vs H Q _ => ∃ v s, vs = [v] ∧ GSt K H s v ∧ Wd s.2 ∧ ∀ H', Same H H' → Q (.bl (isSt s)) H'
theorem use_isStep {K : PySem.W.Frag} {v : V} {s : GStp} {H : Hp} {Q : VK} {E : XK} (h : GSt K H s v) (hl : Wd s.2) (g : ∀ H', Same H H' → Q (.bl (isSt s)) H') : sp_isStep K ([v] ++ []) H Q E := ⟨v, s, rfl, h, hl, g⟩
def sp_invLine (K : PySem.W.Frag) : Sp := fun vs H Q _ => ∃ v ps, vs = [v] ∧ GPg K H ps v ∧ FlatG ps ∧ ∀ H', Same H H' → Q (.int (invLine ps : Nat)) H'
theorem drop_at {α : Type} {ps : List α} {i : Nat} {p : α} (h : ps[i]? = some p) : ps.drop i = p :: ps.drop (i + 1) := by
  obtain ⟨hi, e⟩ := List.getElem?_eq_some_iff.mp h
  rw [List.drop_eq_getElem_cons hi, e]
theorem scanA_yes {ps : List GPrc} {i : Nat} {p : GPrc} {r : Option Nat} (h : ps[i]? = some p) (e : r = scanA i ((ps.take i).map Prod.fst) (ps.drop i)) (hb : badA i p ((ps.take i).map Prod.fst) = true) : r = some (i + 1) := by
  rw [e, drop_at h, scanA, if_pos hb]
theorem scanA_no {ps : List GPrc} {i : Nat} {p : GPrc} {r : Option Nat} (h : ps[i]? = some p) (e : r = scanA i ((ps.take i).map Prod.fst) (ps.drop i)) (hb : badA i p ((ps.take i).map Prod.fst) = false) : r = scanA (i + 1) ((ps.take (i + 1)).map Prod.fst) (ps.drop (i + 1)) := by
  rw [e, drop_at h, scanA, if_neg (by rw [hb]; exact Bool.false_ne_true), take_next h, List.map_append]; rfl
theorem scanB_yes {ns : List V} {ps : List GPrc} {i : Nat} {p : GPrc} {r : Nat} (h : ps[i]? = some p) (e : r = scanB ns i (ps.drop i)) (hb : badB ns p = true) : r = i + 1 := by
  rw [e, drop_at h, scanB, if_pos hb]
theorem scanB_no {ns : List V} {ps : List GPrc} {i : Nat} {p : GPrc} {r : Nat} (h : ps[i]? = some p) (e : r = scanB ns i (ps.drop i)) (hb : badB ns p = false) : r = scanB ns (i + 1) (ps.drop (i + 1)) := by
  rw [e, drop_at h, scanB, if_neg (by rw [hb]; exact Bool.false_ne_true)]
theorem inV_str {x : Str} {xs : List Str} : inV (.str x) (xs.map V.str) = decide (x ∈ xs) := inV_strs ..
theorem scanA_good : ∀ (qs : List Prc) (i : Nat) (es : List Str), i + qs.length ≤ 16 → (∀ p ∈ qs, IsName p.1 ∧ p.2.length ≤ 12 ∧ ∀ s ∈ p.2, s.1 ∈ kinds ∧ IsName s.2) → (es ++ nms qs).Nodup → scanA i (es.map V.str) (qs.map gP) = none
  | [], _, _, _, _, _ => rfl
  | q :: r, i, es, h16, hg, nd => by
    obtain ⟨h1, h2, h3⟩ := hg q List.mem_cons_self
    have hb : badA i (gP q) (es.map V.str) = false := by
      unfold badA gP
      simp only
      have hn : q.1 ∉ es := fun z => by
        rw [List.nodup_append] at nd
        exact nd.2.2 _ z _ (by unfold nms; simp) rfl
      have ha : (q.2.map gS).all isSt = true := by
        rw [List.all_map, List.all_eq_true]
        intro s hs
        obtain ⟨a, b⟩ := h3 s hs
        show (decide (s.1 ∈ kinds) && decide (IsName s.2)) = true
        rw [decide_eq_true a, decide_eq_true b]; rfl
      have hi : isNm (V.str q.1) = true := decide_eq_true h1
      rw [inV_str, decide_eq_false hn, ha, hi, List.length_map, decide_eq_false (show ¬ 12 < q.2.length by omega), decide_eq_false (show ¬ 16 < i + 1 by simp at h16; omega)]
      rfl
    rw [List.map_cons, scanA, if_neg (by rw [hb]; exact Bool.false_ne_true)]
    have e : es.map V.str ++ [(gP q).1] = (es ++ [q.1]).map V.str := by simp [gP]
    rw [e]
    refine scanA_good r (i + 1) (es ++ [q.1]) (by simp at h16; omega) (fun p hp => hg p (List.mem_cons_of_mem _ hp)) ?_
    have : es ++ [q.1] ++ nms r = es ++ nms (q :: r) := by unfold nms; simp
    rw [this]; exact nd
theorem scanB_good {ns : List Str} : ∀ (qs : List Prc) (i : Nat), (∀ p ∈ qs, ∀ s ∈ p.2, s.1 ∈ calls → s.2 ∈ ns) → scanB (ns.map V.str) i (qs.map gP) = 0
  | [], _, _ => rfl
  | q :: r, i, h => by
    have hb : badB (ns.map V.str) (gP q) = false := by
      unfold badB gP
      rw [List.any_eq_false]
      intro s hs
      obtain ⟨s', hs', rfl⟩ := List.mem_map.mp hs
      simp only [gS, inV_str]
      by_cases hc : s'.1 ∈ calls
      · simp [h q List.mem_cons_self s' hs' hc]
      · simp [hc]
    rw [List.map_cons, scanB, if_neg (by rw [hb]; exact Bool.false_ne_true)]
    exact scanB_good r (i + 1) fun p hp => h p (List.mem_cons_of_mem _ hp)
theorem Good.inv {ps : List Prc} (h : Good ps) : invLine (ps.map gP) = 0 := by
  have e1 : scanA 0 [] (ps.map gP) = none := scanA_good ps 0 [] (by have := h.few; omega) (fun p hp => ⟨h.name p hp, h.short p hp, fun s hs => ⟨(h.step p hp s hs).1, (h.step p hp s hs).2.1⟩⟩) (by simpa using h.nd)
  have e2 : (ps.map gP).map Prod.fst = (nms ps).map V.str := by unfold nms; simp [gP, Function.comp_def]
  have hne : ps.map gP ≠ [] := by
    intro z
    have := h.pos
    rw [List.map_eq_nil_iff.mp z] at this
    cases this
  unfold invLine
  rw [if_neg hne, e1, e2]
  exact scanB_good ps 0 fun p hp s hs => (h.step p hp s hs).2.2
theorem IsName.short {x : Str} (h : IsName x) : x.length ≤ 8 := h.2.1
theorem Good.flat {ps : List Prc} (h : Good ps) : FlatG (ps.map gP) := by
  refine ⟨by rw [List.length_map]; have := h.few; omega, fun p hp => ?_⟩
  obtain ⟨q, hq, rfl⟩ := List.mem_map.mp hp
  refine ⟨.inl ⟨q.1, rfl, by have := (h.name q hq).short; omega⟩, by unfold gP; rw [List.length_map]; have := h.short q hq; omega, fun s hs => ?_⟩
  obtain ⟨s', hs', rfl⟩ := List.mem_map.mp hs
  exact .inl ⟨s'.2, rfl, by have := (h.step q hq s' hs').2.1.short; omega⟩
theorem use_invLine {K : PySem.W.Frag} {v : V} {ps : List Prc} {H : Hp} {Q : VK} {E : XK} (h : PgV K H ps v) (hg : Good ps) (g : ∀ H', Same H H' → Q (.int 0) H') : sp_invLine K ([v] ++ []) H Q E :=
  ⟨v, ps.map gP, rfl, h.g, hg.flat, by rw [hg.inv]; exact g⟩
theorem sjoin_len (y : Str) (B : Nat) : ∀ ps : List Str, (∀ p ∈ ps, p.length ≤ B) → (Str.join y ps).length ≤ ps.length * (B + y.length)
  | [], _ => by show (0 : Nat) ≤ _; omega
  | [p], h => by
    have := h p List.mem_cons_self
    show p.length ≤ _
    simp; omega
  | p :: q :: r, h => by
    have h1 := h p List.mem_cons_self
    have h2 := sjoin_len y B (q :: r) fun x hx => h x (List.mem_cons_of_mem _ hx)
    show (p ++ y ++ Str.join y (q :: r)).length ≤ _
    rw [Str.length_append, Str.length_append, List.length_cons, Nat.add_mul]
    omega
theorem join_len {y : Str} {B : Nat} {ps : List Str} (h : ∀ p ∈ ps, p.length ≤ B) : (Txt.join y ps).length ≤ ps.length * (B + y.length) := by
  rw [TL.join_eq]; exact sjoin_len y B ps h
theorem sum_len {B : Nat} : ∀ {ps : List Str}, (∀ p ∈ ps, p.length ≤ B) → (ps.map (·.length)).sum ≤ ps.length * B
  | [], _ => by simp
  | p :: r, h => by
    have h1 := h p List.mem_cons_self
    have h2 := sum_len (ps := r) fun x hx => h x (List.mem_cons_of_mem _ hx)
    rw [List.map_cons, List.sum_cons, List.length_cons, Nat.add_mul]
    omega
def stpTxt (s : Stp) : Str := s.1 ++ Str.ofString " " ++ s.2
def lineOf (p : Prc) : Str := if p.2 = [] then p.1 ++ Str.ofString ":" else p.1 ++ Str.ofString ": " ++ Txt.join (Str.ofString ", ") (p.2.map stpTxt)
def textOf (ps : List Prc) : Str := Txt.join (Str.ofString "\n") (ps.map lineOf)
theorem stpTxt_len {ns : List Str} {s : Stp} (h : GoodStp ns s) : (stpTxt s).length ≤ 13 := by
  unfold stpTxt
  rw [Str.length_append, Str.length_append, show (Str.ofString " ").length = 1 from by decide +kernel]
  have h1 := kinds_len h.1
  have h2 := h.2.1.short
  omega
theorem lineOf_len {ns : List Str} {p : Prc} (hn : IsName p.1) (hl : p.2.length ≤ 12) (h : ∀ s ∈ p.2, GoodStp ns s) : (lineOf p).length ≤ 200 := by
  have e1 : (Str.ofString ":").length = 1 := by decide +kernel
  have e2 : (Str.ofString ": ").length = 2 := by decide +kernel
  have e4 : (Str.ofString ", ").length = 2 := by decide +kernel
  have h8 := hn.short
  unfold lineOf
  by_cases e : p.2 = []
  · rw [if_pos e, Str.length_append]; omega
  · rw [if_neg e, Str.length_append, Str.length_append]
    have := join_len (y := Str.ofString ", ") (B := 13) (ps := p.2.map stpTxt) fun q hq => by
      obtain ⟨s, hs, rfl⟩ := List.mem_map.mp hq
      exact stpTxt_len (h s hs)
    rw [List.length_map, e4] at this
    omega
theorem empty_app (z : Str) : Str.empty ++ z = z := by
  apply str_ext
  simp [Str.cps_append, Str.empty]
def sp_lineText (K : PySem.W.Frag) : Sp := fun vs H Q _ => ∃ (n : Str) (v : V) (ss : List Stp) (ns : List Str), vs = [.str n, v] ∧ RowT K H ss v ∧ IsName n ∧ ss.length ≤ 12 ∧ (∀ s ∈ ss, GoodStp ns s) ∧ ∀ H', Same H H' → Q (.str (lineOf (n, ss))) H'
theorem use_lineText {K : PySem.W.Frag} {n : Str} {v : V} {ss : List Stp} {ns : List Str} {H : Hp} {Q : VK} {E : XK} (h : RowT K H ss v) (hn : IsName n) (hl : ss.length ≤ 12) (hg : ∀ s ∈ ss, GoodStp ns s) (g : ∀ H', Same H H' → Q (.str (lineOf (n, ss))) H') : sp_lineText K ([.str n, v] ++ []) H Q E :=
  ⟨n, v, ss, ns, rfl, h, hn, hl, hg, g⟩
theorem fa_nms : ∀ ps : List Prc, Fa (fun p v => v = V.str p.1) ps ((nms ps).map V.str)
  | [] => .nil
  | _ :: r => .cons rfl (fa_nms r)
def sp_pgInit (K : PySem.W.Frag) (C : Addr) : Sp := fun vs H Q _ => ∃ (x dx : Addr) (v : V) (ps : List Prc), vs = [.ref x, v] ∧ H x = some (.ins C dx []) ∧ PgV K H ps v ∧ Good ps ∧
  ∀ H', (∀ b o, b ≠ x → H b = some o → H' b = some o) → PgAt K C H' x ps → Q .non H'
def sp_pgGet (K : PySem.W.Frag) (C : Addr) : Sp := fun vs H Q _ => ∃ (a : Addr) (n : Str) (ps : List Prc) (ss : List Stp), vs = [.ref a, .str n] ∧ PgAt K C H a ps ∧ (n, ss) ∈ ps ∧ ∀ v, RowT K H ss v → Q v H
theorem u_pgGet {K : PySem.W.Frag} {C : Addr} {a : Addr} {p : Prc} {ps : List Prc} {H : Hp} {Q : VK} {E : XK} (h : PgAt K C H a ps) (hm : p ∈ ps) (g : ∀ v, RowT K H p.2 v → Q v H) : rGetO C (sp_pgGet K C) E (.ref a) (.str p.1) H Q := by
  obtain ⟨⟨dx, tn, db, tp, kvs, ha, h2⟩, h3⟩ := id h
  exact ⟨a, dx, _, rfl, ha, a, p.1, ps, p.2, rfl, h, hm, g⟩
theorem use_pgMake {K : PySem.W.Frag} {C : Addr} {H : Hp} {Q : VK} {E : XK} {v : V} {vs : List V} {ps : List Prc} (hv : vs = [v]) (hC : PgV K H ps v) (hg : Good ps) (g : ∀ x H', Same H H' → H x = none → PgAt K C H' x ps → Q (.ref x) H') : MkB C (sp_pgInit K C) E Q vs H := by
  intro x dx nx nd ne
  subst hv
  have s0 : Same H (upd (upd H dx (.own x)) x (.ins C dx [])) := Same.mut (Same.new nd) nx
  refine ⟨x, dx, v, ps, rfl, upd_same, hC.same s0, hg, fun H' k hx => ⟨rfl, ?_⟩⟩
  exact g x H' (fun b o e => k b o (ne_of_none e nx) (s0 b o e)) nx hx
def sp_pgText (K : PySem.W.Frag) (C : Addr) : Sp := fun vs H Q _ => ∃ (a : Addr) (ps : List Prc), vs = [.ref a] ∧ PgAt K C H a ps ∧ ∀ H', Same H H' → Q (.str (textOf ps)) H'
def sp_pgEq (K : PySem.W.Frag) (C : Addr) : Sp := fun vs H Q _ => ∃ (a : Addr) (y : V) (ps : List Prc), vs = [.ref a, y] ∧ PgAt K C H a ps ∧
  ((∃ b qs, y = .ref b ∧ PgAt K C H b qs ∧ Q (.bl (decide (ps = qs))) H) ∨ (∃ t, TyX K H y t ∧ PySem.W.kitOne K t (.ref C) = some false ∧ Q (.bl false) H))
def isRd (s : Stp) : Bool := decide (s.1 = ("read" : Str))
def rf (p : Prc) : Prc := (p.1, p.2.filter isRd ++ p.2.filter fun s => !isRd s)
def sp_readsFirst (K : PySem.W.Frag) (C : Addr) : Sp := fun vs H Q _ => ∃ (a : Addr) (ps : List Prc), vs = [.ref a] ∧ PgAt K C H a ps ∧ ∀ x H', Same H H' → H x = none → PgAt K C H' x (ps.map rf) → Q (.ref x) H'
def keepIf (b : Stp → Bool) (s : Stp) : Option Stp := if b s = true then some s else none
theorem keepIf_all (b : Stp → Bool) (ss : List Stp) : ss.filterMap (keepIf b) = ss.filter b := by
  induction ss with
  | nil => rfl
  | cons s r ih =>
    rw [List.filterMap_cons, List.filter_cons]
    unfold keepIf at *
    by_cases h : b s = true
    · rw [if_pos h, if_pos h, ih]
    · rw [if_neg h, if_neg h, ih]
theorem rf_fst (ps : List Prc) : nms (ps.map rf) = nms ps := by unfold nms; rw [List.map_map]; rfl
theorem rf_mem {p : Prc} {s : Stp} : s ∈ (rf p).2 ↔ s ∈ p.2 := by
  unfold rf
  simp only [List.mem_append, List.mem_filter]
  constructor
  · rintro (⟨h, _⟩ | ⟨h, _⟩) <;> exact h
  · intro h
    by_cases e : isRd s = true
    · exact .inl ⟨h, e⟩
    · exact .inr ⟨h, by simpa using e⟩
theorem filter_split {α : Type} (b : α → Bool) : ∀ xs : List α, (xs.filter b).length + (xs.filter fun s => !b s).length = xs.length
  | [] => rfl
  | x :: r => by
    have ih := filter_split b r
    rw [List.filter_cons, List.filter_cons]
    cases h : b x <;> simp [h] <;> omega
theorem rf_len (p : Prc) : (rf p).2.length = p.2.length := by
  unfold rf
  rw [List.length_append]
  exact filter_split isRd p.2
theorem mem_reads {ps : List Prc} {x : Str} : x ∈ reads ps ↔ ∃ p ∈ ps, ∃ s ∈ p.2, rdOf s = some x := by
  unfold reads
  simp only [List.mem_flatMap, List.mem_filterMap]
theorem nodup_le {xs ys : List Str} (nd : xs.Nodup) (h : ∀ z ∈ xs, z ∈ ys) : xs.length ≤ ys.length := by
  refine Nat.le_of_not_lt fun z => ?_
  obtain ⟨k, hk, hn⟩ := pigeon xs ys nd z
  exact hn (h k hk)
theorem addAll_sub {xs ys : List Str} (h : ∀ z ∈ xs, z ∈ ys) : (addAll xs).length ≤ (addAll ys).length :=
  nodup_le (addAll_nodup xs) fun z hz => mem_addAll.mpr (h z (mem_addAll.mp hz))
theorem Good.rf {ps : List Prc} (h : Good ps) : Good (ps.map rf) := by
  refine ⟨by rw [List.length_map]; exact h.pos, by rw [List.length_map]; exact h.few, by rw [rf_fst]; exact h.nd, fun p hp => ?_, fun p hp => ?_, fun p hp s hs => ?_, ?_⟩
  · obtain ⟨q, hq, rfl⟩ := List.mem_map.mp hp
    exact h.name q hq
  · obtain ⟨q, hq, rfl⟩ := List.mem_map.mp hp
    rw [rf_len]; exact h.short q hq
  · obtain ⟨q, hq, rfl⟩ := List.mem_map.mp hp
    rw [rf_fst]
    exact h.step q hq s (rf_mem.mp hs)
  · refine Nat.lt_of_le_of_lt (addAll_sub fun z hz => ?_) h.plc
    obtain ⟨p, hp, s, hs, e⟩ := mem_reads.mp hz
    obtain ⟨q, hq, rfl⟩ := List.mem_map.mp hp
    exact mem_reads.mpr ⟨q, hq, s, rf_mem.mp hs, e⟩
end Mf

namespace Mf
open PySem L2 PyProof.Rows
/-! ### how a value stands for a thing -/
def BIG : Nat := 1048576
theorem big_size {n : Nat} (h : n ≤ BIG) : n ≤ sizeLine := by rw [PySem.sizeLine_eq]; unfold BIG at h; omega
theorem big_lt {n : Nat} (h : n ≤ BIG) : n < sizeLine := by rw [PySem.sizeLine_eq]; unfold BIG at h; omega
theorem big_add {n m : Nat} (h : n ≤ BIG) (h' : m ≤ BIG) : n + m ≤ sizeLine := by rw [PySem.sizeLine_eq]; unfold BIG at h h'; omega
structure Rl (α : Type) where
  rel : Hp → α → V → Prop
  mono : ∀ {H H' : Hp} {x : α} {v : V}, Same H H' → rel H x v → rel H' x v
def dInt : Rl Int := ⟨fun _ x v => v = .int x, fun _ h => h⟩
def dStr : Rl Str := ⟨fun _ x v => v = .str x, fun _ h => h⟩
def dBool : Rl Bool := ⟨fun _ x v => v = .bl x, fun _ h => h⟩
def dNone : Rl Unit := ⟨fun _ _ v => v = .non, fun _ h => h⟩
theorem fa_mono {α : Type} {R : Rl α} {H H' : Hp} {xs : List α} {vs : List V} (e : Same H H') (h : Fa (R.rel H) xs vs) : Fa (R.rel H') xs vs := h.imp fun _ _ _ => R.mono e
def dList {α : Type} (R : Rl α) : Rl (List α) := ⟨fun H xs v => ∃ p vs, v = .ref p ∧ H p = some (.lst vs) ∧ Fa (R.rel H) xs vs ∧ xs.length ≤ BIG, fun e ⟨p, vs, a, b, c, d⟩ => ⟨p, vs, a, e _ _ b, fa_mono e c, d⟩⟩
def dTup {α : Type} (K : PySem.W.Frag) (R : Rl α) : Rl (List α) := ⟨fun H xs v => ∃ p vs, v = .ref p ∧ SqT K H p vs ∧ Fa (R.rel H) xs vs ∧ xs.length ≤ BIG, fun e ⟨p, vs, a, b, c, d⟩ => ⟨p, vs, a, Same.sqt e b, fa_mono e c, d⟩⟩
def dSeq {α : Type} (K : PySem.W.Frag) (R : Rl α) : Rl (List α) := ⟨fun H xs v => ∃ p vs, v = .ref p ∧ Sq2 K H p vs ∧ Fa (R.rel H) xs vs ∧ xs.length ≤ BIG, fun e ⟨p, vs, a, b, c, d⟩ => ⟨p, vs, a, Sq2.same e b, fa_mono e c, d⟩⟩
def dOne {α : Type} (K : PySem.W.Frag) (R : Rl α) : Rl α := ⟨fun H x v => ∃ p a, v = .ref p ∧ SqT K H p [a] ∧ R.rel H x a, fun e ⟨p, a, h, s, r⟩ => ⟨p, a, h, Same.sqt e s, R.mono e r⟩⟩
def dPair {α β : Type} (K : PySem.W.Frag) (R : Rl α) (S : Rl β) : Rl (α × β) := ⟨fun H x v => ∃ p a b, v = .ref p ∧ SqT K H p [a, b] ∧ R.rel H x.1 a ∧ S.rel H x.2 b, fun e ⟨p, a, b, h, s, r, t⟩ => ⟨p, a, b, h, Same.sqt e s, R.mono e r, S.mono e t⟩⟩
def dTrip {α β γ : Type} (K : PySem.W.Frag) (R : Rl α) (S : Rl β) (T : Rl γ) : Rl (α × β × γ) := ⟨fun H x v => ∃ p a b c, v = .ref p ∧ SqT K H p [a, b, c] ∧ R.rel H x.1 a ∧ S.rel H x.2.1 b ∧ T.rel H x.2.2 c, fun e ⟨p, a, b, c, h, s, r, t, u⟩ => ⟨p, a, b, c, h, Same.sqt e s, R.mono e r, S.mono e t, T.mono e u⟩⟩
def dQuad {α β γ δ : Type} (K : PySem.W.Frag) (R : Rl α) (S : Rl β) (T : Rl γ) (U : Rl δ) : Rl (α × β × γ × δ) := ⟨fun H x v => ∃ p a b c d, v = .ref p ∧ SqT K H p [a, b, c, d] ∧ R.rel H x.1 a ∧ S.rel H x.2.1 b ∧ T.rel H x.2.2.1 c ∧ U.rel H x.2.2.2 d, fun e ⟨p, a, b, c, d, h, s, r, t, u, w⟩ => ⟨p, a, b, c, d, h, Same.sqt e s, R.mono e r, S.mono e t, T.mono e u, U.mono e w⟩⟩
def FaD {α : Type} (R : Rl α) (H : Hp) (xs : List (Str × α)) (kvs : List (Key × V)) : Prop := Fa (fun x (kv : Key × V) => kv.1 = .inr x.1 ∧ R.rel H x.2 kv.2) xs kvs
theorem faD_mono {α : Type} {R : Rl α} {H H' : Hp} {xs : List (Str × α)} {kvs : List (Key × V)} (e : Same H H') (h : FaD R H xs kvs) : FaD R H' xs kvs := h.imp fun _ _ _ z => ⟨z.1, R.mono e z.2⟩
def dDict {α : Type} (R : Rl α) : Rl (List (Str × α)) := ⟨fun H xs v => ∃ p kvs, v = .ref p ∧ H p = some (.dK kvs) ∧ FaD R H xs kvs ∧ xs.length ≤ BIG, fun e ⟨p, kvs, a, b, c, d⟩ => ⟨p, kvs, a, e _ _ b, faD_mono e c, d⟩⟩
mutual
theorem dp_same {K : PySem.W.Frag} {H H' : Hp} (e : Same H H') : ∀ {v : V} {d : PyData}, Dp K H v d → Dp K H' v d
  | _, _, .non => .non
  | _, _, .bl b => .bl b
  | _, _, .int i => .int i
  | _, _, .str x => .str x
  | _, _, .lst h a => .lst (e.seq h) (dpAll_same e a)
  | _, _, .tup h a => .tup (Same.sqt e h) (dpAll_same e a)
theorem dpAll_same {K : PySem.W.Frag} {H H' : Hp} (e : Same H H') : ∀ {vs : List V} {ds : List PyData}, DpAll K H vs ds → DpAll K H' vs ds
  | _, _, .nil => .nil
  | _, _, .cons h r => .cons (dp_same e h) (dpAll_same e r)
end
def dAny (K : PySem.W.Frag) : Rl PyData := ⟨fun H d v => Dp K H v d, fun e h => dp_same e h⟩
/-- None, or a thing that is not None -/
def dOpt {α : Type} (R : Rl α) : Rl (Option α) := ⟨fun H o v => match o with | none => v = .non | some x => R.rel H x v ∧ v ≠ .non, fun {H H' x v} e h => by cases x with | none => exact h | some x => exact ⟨R.mono e h.1, h.2⟩⟩
/-! ### what stands in an object of one's own that may change -/
structure Cl (α : Type) where
  rel : Hp → α → HO → Prop
  mono : ∀ {H H' : Hp} {x : α} {o : HO}, Same H H' → rel H x o → rel H' x o
def cList {α : Type} (R : Rl α) : Cl (List α) := ⟨fun B xs o => ∃ vs, o = .lst vs ∧ Fa (R.rel B) xs vs ∧ xs.length ≤ BIG, fun e ⟨vs, a, c, d⟩ => ⟨vs, a, fa_mono e c, d⟩⟩
def cDict {α : Type} (R : Rl α) : Cl (List (Str × α)) := ⟨fun B xs o => ∃ kvs, o = .dK kvs ∧ FaD R B xs kvs ∧ xs.length ≤ BIG, fun e ⟨vs, a, c, d⟩ => ⟨vs, a, faD_mono e c, d⟩⟩
/-! ### where one stands: B what stays for ever, cs what is one's own to change -/
structure Fr where
  B : Hp
  H : Hp
  ps : List Addr
structure Sit (Φ : Fr) (B H : Hp) (cs : List (Addr × HO)) : Prop where
  sub : Same B H
  grow : Same Φ.B B
  new : ∀ a, Φ.H a ≠ none → B a = Φ.B a
  keep : ∀ a o, a ∉ Φ.ps → Φ.H a = some o → H a = some o
  cell : ∀ c ∈ cs, H c.1 = some c.2 ∧ B c.1 = none ∧ (c.1 ∈ Φ.ps ∨ Φ.H c.1 = none)
  nd : (cs.map Prod.fst).Nodup
  par : ∀ a ∈ Φ.ps, H a ≠ none
namespace Sit
variable {Φ : Fr} {B H B' H' : Hp} {cs cq : List (Addr × HO)} {p : Addr} {o o' : HO}
theorem stay (S : Sit Φ B H cs) {a : Addr} (h : Φ.H a ≠ none) : H a ≠ none := by
  by_cases e : a ∈ Φ.ps
  · exact S.par a e
  · cases q : Φ.H a with
    | none => exact absurd q h
    | some u => rw [S.keep a u e q]; intro z; cases z
theorem fresh (S : Sit Φ B H cs) (h : H p = none) : Φ.H p = none := by
  cases q : Φ.H p with
  | none => rfl
  | some u => exact absurd h (S.stay (by rw [q]; intro z; cases z))
theorem bn (S : Sit Φ B H cs) (h : H p = none) : B p = none := by
  cases q : B p with
  | none => rfl
  | some u => rw [S.sub _ _ q] at h; cases h
theorem start (h : Same B H) (hc : ∀ c ∈ cs, H c.1 = some c.2 ∧ B c.1 = none) (nd : (cs.map Prod.fst).Nodup) : Sit ⟨B, H, cs.map Prod.fst⟩ B H cs where
  sub := h
  grow := Same.rf _
  new := fun _ _ => rfl
  keep := fun _ _ _ e => e
  cell := fun c m => ⟨(hc c m).1, (hc c m).2, .inl (List.mem_map.mpr ⟨c, m, rfl⟩)⟩
  nd := nd
  par := fun a m => by
    obtain ⟨c, hm, rfl⟩ := List.mem_map.mp m
    rw [(hc c hm).1]; intro z; cases z
theorem start0 (h : Same B H) : Sit ⟨B, H, []⟩ B H [] := start (cs := []) h (fun _ m => by cases m) List.nodup_nil
theorem start1 (h : Same B H) (hp : H p = some o) (hb : B p = none) : Sit ⟨B, H, [p]⟩ B H [(p, o)] := start (cs := [(p, o)]) h (fun c m => by cases List.mem_singleton.mp m; exact ⟨hp, hb⟩) (by simp)
theorem start2 {q : Addr} {u : HO} (h : Same B H) (hp : H p = some o) (hb : B p = none) (hq : H q = some u) (hbq : B q = none) (n : p ≠ q) : Sit ⟨B, H, [p, q]⟩ B H [(p, o), (q, u)] :=
  start (cs := [(p, o), (q, u)]) h (fun c m => by
    simp only [List.mem_cons, List.not_mem_nil, or_false] at m
    rcases m with rfl | rfl
    · exact ⟨hp, hb⟩
    · exact ⟨hq, hbq⟩) (by simp [n])
theorem updB (S : Sit Φ B H cs) (h : H p = none) : Same B (upd B p o) := Same.new (S.bn h)
theorem neC (S : Sit Φ B H cs) (h : H p = none) {c : Addr × HO} (m : c ∈ cs) : c.1 ≠ p := fun e => by
  have := (S.cell c m).1
  rw [e, h] at this; cases this
/-- a new object that stays as it is -/
theorem put (S : Sit Φ B H cs) (h : H p = none) : Sit Φ (upd B p o) (upd H p o) cs where
  sub := fun a u e => by
    by_cases q : a = p
    · subst q; rw [upd_same] at e ⊢; exact e
    · rw [upd_ne q] at e ⊢; exact S.sub a u e
  grow := S.grow.tr (Same.new (S.bn h))
  new := fun a ha => by
    have : a ≠ p := fun e => S.stay ha (e ▸ h)
    rw [upd_ne this]; exact S.new a ha
  keep := fun a u n e => by
    have q := S.keep a u n e
    rw [upd_ne (ne_of_none q h)]; exact q
  cell := fun c m => by
    have q := S.neC h m
    rw [upd_ne q, upd_ne q]; exact S.cell c m
  nd := S.nd
  par := fun a m => by
    by_cases q : a = p
    · subst q; rw [upd_same]; intro z; cases z
    · rw [upd_ne q]; exact S.par a m
/-- a new object that may change -/
theorem own (S : Sit Φ B H cs) (h : H p = none) : Sit Φ B (upd H p o) ((p, o) :: cs) where
  sub := fun a u e => by rw [upd_ne (ne_of_none (S.sub a u e) h)]; exact S.sub a u e
  grow := S.grow
  new := S.new
  keep := fun a u n e => by
    have q := S.keep a u n e
    rw [upd_ne (ne_of_none q h)]; exact q
  cell := fun c m => by
    rcases List.mem_cons.mp m with rfl | m
    · exact ⟨upd_same, S.bn h, .inr (S.fresh h)⟩
    · rw [upd_ne (S.neC h m)]; exact S.cell c m
  nd := by
    rw [List.map_cons, List.nodup_cons]
    refine ⟨fun m => ?_, S.nd⟩
    obtain ⟨c, hm, e⟩ := List.mem_map.mp m
    exact S.neC h hm e
  par := fun a m => by
    by_cases q : a = p
    · subst q; rw [upd_same]; intro z; cases z
    · rw [upd_ne q]; exact S.par a m
theorem at' {i : Nat} (S : Sit Φ B H cs) (h : cs[i]? = some (p, o)) : H p = some o := (S.cell (p, o) (List.mem_of_getElem? h)).1
theorem atB {i : Nat} (S : Sit Φ B H cs) (h : cs[i]? = some (p, o)) : B p = none := (S.cell (p, o) (List.mem_of_getElem? h)).2.1
theorem map_set {i : Nat} (h : cs[i]? = some (p, o)) : (cs.set i (p, o')).map Prod.fst = cs.map Prod.fst := by
  rw [List.map_set]
  refine List.ext_getElem? fun j => ?_
  rw [List.getElem?_set]
  by_cases e : i = j
  · subst e
    rw [if_pos rfl, List.getElem?_map, h]
    have := (List.getElem?_eq_some_iff.mp h).1
    rw [if_pos (by simpa using this)]
    rfl
  · rw [if_neg e]
theorem nodup_inj {α : Type} : ∀ {l : List α} {i j : Nat} {x : α}, l.Nodup → l[i]? = some x → l[j]? = some x → i = j
  | [], _, _, _, _, h, _ => by cases h
  | y :: l, i, j, x, nd, h, h' => by
    rw [List.nodup_cons] at nd
    cases i with
    | zero =>
      cases j with
      | zero => rfl
      | succ j => cases h; exact absurd (List.mem_of_getElem? (show l[j]? = some y from h')) nd.1
    | succ i =>
      cases j with
      | zero => cases h'; exact absurd (List.mem_of_getElem? (show l[i]? = some y from h)) nd.1
      | succ j => rw [nodup_inj nd.2 (show l[i]? = some x from h) (show l[j]? = some x from h')]
theorem inj {i j : Nat} {q : Addr} {u : HO} (nd : (cs.map Prod.fst).Nodup) (h : cs[i]? = some (p, o)) (h' : cs[j]? = some (q, u)) (e : p = q) : i = j := by
  have a : (cs.map Prod.fst)[i]? = some p := by rw [List.getElem?_map, h]; rfl
  have b : (cs.map Prod.fst)[j]? = some p := by rw [List.getElem?_map, h', e]; rfl
  exact nodup_inj nd a b
/-- an own object changes -/
theorem set {i : Nat} (S : Sit Φ B H cs) (h : cs[i]? = some (p, o)) : Sit Φ B (upd H p o') (cs.set i (p, o')) where
  sub := fun a u e => by
    have n : a ≠ p := fun z => by rw [z, S.atB h] at e; cases e
    rw [upd_ne n]; exact S.sub a u e
  grow := S.grow
  new := S.new
  keep := fun a u n e => by
    have q : a ≠ p := fun z => by
      rcases (S.cell (p, o) (List.mem_of_getElem? h)).2.2 with y | y
      · exact n (z ▸ y)
      · rw [z] at e; rw [show Φ.H p = none from y] at e; cases e
    rw [upd_ne q]; exact S.keep a u n e
  cell := fun c m => by
    obtain ⟨j, hj⟩ := List.getElem?_of_mem m
    rw [List.getElem?_set] at hj
    by_cases e : i = j
    · rw [if_pos e] at hj
      have hl := (List.getElem?_eq_some_iff.mp h).1
      rw [if_pos hl] at hj
      cases hj
      exact ⟨upd_same, S.atB h, (S.cell (p, o) (List.mem_of_getElem? h)).2.2⟩
    · rw [if_neg e] at hj
      have n : c.1 ≠ p := fun z => e (inj S.nd h (show cs[j]? = some (c.1, c.2) from hj) z.symm)
      rw [upd_ne n]; exact S.cell c (List.mem_of_getElem? hj)
  nd := by rw [map_set h]; exact S.nd
  par := fun a m => by
    by_cases q : a = p
    · subst q; rw [upd_same]; intro z; cases z
    · rw [upd_ne q]; exact S.par a m
/-- an own object stays from now on -/
theorem frz {i : Nat} (S : Sit Φ B H cs) (h : cs[i]? = some (p, o)) (n : Φ.H p = none) : Sit Φ (upd B p o) H (cs.eraseIdx i) where
  sub := fun a u e => by
    by_cases q : a = p
    · subst q; rw [upd_same] at e; rw [S.at' h]; exact e
    · rw [upd_ne q] at e; exact S.sub a u e
  grow := S.grow.tr (Same.new (S.atB h))
  new := fun a ha => by
    have : a ≠ p := fun e => ha (e ▸ n)
    rw [upd_ne this]; exact S.new a ha
  keep := S.keep
  cell := fun c m => by
    obtain ⟨j, hj, hc⟩ := List.mem_eraseIdx_iff_getElem?.mp m
    have ne : c.1 ≠ p := fun z => hj (inj S.nd (show cs[j]? = some (c.1, c.2) from hc) h z)
    rw [upd_ne ne]; exact S.cell c (List.mem_of_getElem? hc)
  nd := by
    refine S.nd.sublist ?_
    exact (List.eraseIdx_sublist cs i).map _
  par := S.par
theorem frzS {i : Nat} (S : Sit Φ B H cs) (h : cs[i]? = some (p, o)) : Same B (upd B p o) := Same.new (S.atB h)
theorem only (S : Sit Φ B H cs) (hs : cq.Sublist cs) : Sit Φ B H cq := ⟨S.sub, S.grow, S.new, S.keep, fun c m => S.cell c (hs.subset m), S.nd.sublist (hs.map _), S.par⟩
theorem tl {c : Addr × HO} (S : Sit Φ B H (c :: cs)) : Sit Φ B H cs := S.only (List.sublist_cons_self _ _)
theorem none (S : Sit Φ B H cs) : Sit Φ B H [] := S.only (List.nil_sublist _)
/-- a call that owns the cells qs -/
theorem call {cs' : List (Addr × HO)} {qs : List Addr} (S : Sit Φ B H cs) (S' : Sit ⟨B, H, qs⟩ B' H' cq) (hq : ∀ q ∈ qs, ∃ u, (q, u) ∈ cs) (hc : ∀ c ∈ cs', c ∈ cq ∨ (c ∈ cs ∧ c.1 ∉ qs)) (nd : (cs'.map Prod.fst).Nodup) : Sit Φ B' H' cs' where
  sub := S'.sub
  grow := S.grow.tr S'.grow
  new := fun a ha => by
    have : B' a = B a := S'.new a (S.stay ha)
    rw [this]; exact S.new a ha
  keep := fun a u n e => by
    refine S'.keep a u (fun m => ?_) (S.keep a u n e)
    obtain ⟨v, hv⟩ := hq a m
    rcases (S.cell _ hv).2.2 with y | y
    · exact n y
    · rw [show Φ.H a = Option.none from y] at e; cases e
  cell := fun c m => by
    rcases hc c m with m | ⟨m, n⟩
    · obtain ⟨h1, h2, h3⟩ := S'.cell c m
      refine ⟨h1, h2, ?_⟩
      rcases h3 with h3 | h3
      · obtain ⟨v, hv⟩ := hq c.1 h3
        exact (S.cell _ hv).2.2
      · exact .inr (S.fresh h3)
    · obtain ⟨h1, h2, h3⟩ := S.cell c m
      refine ⟨S'.keep _ _ n h1, ?_, h3⟩
      have : B' c.1 = B c.1 := S'.new c.1 (by show H c.1 ≠ Option.none; rw [h1]; intro z; cases z)
      rw [this]; exact h2
  nd := nd
  par := fun a m => S'.stay (show H a ≠ Option.none from S.par a m)
theorem call0 (S : Sit Φ B H cs) (S' : Sit ⟨B, H, []⟩ B' H' cq) : Sit Φ B' H' cs := S.call S' (fun _ m => by cases m) (fun c m => .inr ⟨m, fun z => by cases z⟩) S.nd
theorem call1 {i : Nat} (S : Sit Φ B H cs) (h : cs[i]? = some (p, o)) (S' : Sit ⟨B, H, [p]⟩ B' H' [(p, o')]) : Sit Φ B' H' (cs.set i (p, o')) :=
  S.call S' (fun q m => ⟨o, by rw [List.mem_singleton.mp m]; exact List.mem_of_getElem? h⟩) (fun c m => by
    obtain ⟨j, hj⟩ := List.getElem?_of_mem m
    rw [List.getElem?_set] at hj
    by_cases e : i = j
    · rw [if_pos e] at hj
      have hl := (List.getElem?_eq_some_iff.mp h).1
      rw [if_pos hl] at hj
      cases hj
      exact .inl List.mem_cons_self
    · rw [if_neg e] at hj
      refine .inr ⟨List.mem_of_getElem? hj, fun z => e (inj S.nd h (show cs[j]? = some (c.1, c.2) from hj) (List.mem_singleton.mp z).symm)⟩) (by rw [map_set h]; exact S.nd)
/-- a call that reads own objects as they are (base b), whose answer does not hang on the heap -/
theorem callR {b : Hp} (S : Sit Φ B H cs) (S' : Sit ⟨b, H, []⟩ B' H' cq) : Sit Φ B H' cs where
  sub := fun a u e => S'.keep a u (fun z => by cases z) (S.sub a u e)
  grow := S.grow
  new := S.new
  keep := fun a u n e => S'.keep a u (fun z => by cases z) (S.keep a u n e)
  cell := fun c m => ⟨S'.keep _ _ (fun z => by cases z) (S.cell c m).1, (S.cell c m).2⟩
  nd := S.nd
  par := fun a m => S'.stay (show H a ≠ Option.none from S.par a m)
/-- the base with an own object -/
theorem withC {i : Nat} (S : Sit Φ B H cs) (h : cs[i]? = some (p, o)) : Same (upd B p o) H := fun a u e => by
  by_cases q : a = p
  · subst q; rw [upd_same] at e; rw [S.at' h]; exact e
  · rw [upd_ne q] at e; exact S.sub a u e
end Sit
theorem start_call {Φ : Fr} {B H : Hp} {cs : List (Addr × HO)} (S : Sit Φ B H cs) : Sit Φ B H cs := S
section
variable {α : Type} {K : PySem.W.Frag} {R : Rl α} {B H : Hp} {xs : List α} {o : HO} {p : Addr} {kvs : List (Str × α)} {vs : List V}
theorem frzL (h : (cList R).rel B xs o) (n : B p = none) : (dList R).rel (upd B p o) xs (.ref p) := by
  obtain ⟨vs, rfl, f, l⟩ := h
  exact ⟨p, vs, rfl, upd_same, fa_mono (Same.new n) f, l⟩
theorem frzD {xs : List (Str × α)} (h : (cDict R).rel B xs o) (n : B p = none) : (dDict R).rel (upd B p o) xs (.ref p) := by
  obtain ⟨vs, rfl, f, l⟩ := h
  exact ⟨p, vs, rfl, upd_same, faD_mono (Same.new n) f, l⟩
theorem dList.seq {v : V} (h : (dList R).rel B xs v) : (dSeq K R).rel B xs v := let ⟨p, vs, a, b, c, d⟩ := h; ⟨p, vs, a, .inl (SqL.of b), c, d⟩
theorem dTup.seq {v : V} (h : (dTup K R).rel B xs v) : (dSeq K R).rel B xs v := let ⟨p, vs, a, b, c, d⟩ := h; ⟨p, vs, a, .inr b, c, d⟩
theorem fa_str {xs : List Str} {vs : List V} (h : Fa (dStr.rel H) xs vs) : vs = xs.map V.str := Fa.eq h
theorem fa_int {xs : List Int} {vs : List V} (h : Fa (dInt.rel H) xs vs) : vs = xs.map V.int := Fa.eq h
theorem fa_bool {xs : List Bool} {vs : List V} (h : Fa (dBool.rel H) xs vs) : vs = xs.map V.bl := Fa.eq h
theorem strs_fa {xs : List Str} : Fa (dStr.rel H) xs (xs.map V.str) := Fa.same V.str xs
theorem ints_fa {xs : List Int} : Fa (dInt.rel H) xs (xs.map V.int) := Fa.same V.int xs
theorem fa_at {i : Int} {x : α} (h : Fa (R.rel H) xs vs) (e : atI xs i = some x) : ∃ v, atI vs i = some v ∧ R.rel H x v := by
  unfold atI at e ⊢
  rw [← h.len]
  cases q : ixN xs.length i with
  | none => rw [q] at e; cases e
  | some j => rw [q] at e; exact h.getL e
end
/-! ### mirrors -/
theorem bs {α β : Type} {o : Option α} {f : α → Option β} {r : β} (h : o.bind f = some r) : ∃ a, o = some a ∧ f a = some r := by
  cases o with
  | none => cases h
  | some a => exact ⟨a, rfl, h⟩
inductive Ctl (S R : Type)
  | nx (s : S)
  | brk (s : S)
  | ret (r : R)
def Ctl.on {S R T : Type} (c : Ctl S R) (f : S → Option T) (g : R → Option T) : Option T := match c with
  | .nx s => f s
  | .ret r => g r
  | .brk _ => none
def forL {α S : Type} (f : α → S → Option S) : List α → S → Option S
  | [], s => some s
  | a :: as, s => (f a s).bind fun s' => forL f as s'
def forC {α S R : Type} (f : α → S → Option (Ctl S R)) : List α → S → Option (Ctl S R)
  | [], s => some (.nx s)
  | a :: as, s => (f a s).bind fun o => match o with
    | .nx s' => forC f as s'
    | .brk s' => some (.nx s')
    | .ret r => some (.ret r)
def whC {S R : Type} (f : S → Option (Ctl S R)) : Nat → S → Option (Ctl S R)
  | 0, _ => none
  | n + 1, s => (f s).bind fun o => match o with
    | .nx s' => whC f n s'
    | .brk s' => some (.nx s')
    | .ret r => some (.ret r)
def lcM {α β : Type} (f : α → Option (Option β)) : List α → Option (List β)
  | [] => some []
  | a :: as => (f a).bind fun o => (lcM f as).bind fun bs => some (match o with | some b => b :: bs | none => bs)
def lcS {α β S : Type} (f : α → S → Option (Option β × S)) : List α → S → Option (List β × S)
  | [], s => some ([], s)
  | a :: as, s => (f a s).bind fun o => (lcS f as o.2).bind fun t => some ((match o.1 with | some b => b :: t.1 | none => t.1), t.2)
def dcM {α β : Type} (f : α → Option (Option (Str × β))) : List α → List (Str × β) → Option (List (Str × β)) := fun as kvs => forL (fun a kvs => (f a).bind fun o => match o with
    | none => some kvs
    | some kv => some (if (kvs.any fun x => decide (x.1 = kv.1)) = true then kvs.map (fun x => if x.1 = kv.1 then (x.1, kv.2) else x) else kvs ++ [kv])) as kvs
def pushM {α : Type} (xs : List α) (x : α) : Option (List α) := if xs.length < BIG then some (xs ++ [x]) else none
def catM {α : Type} (xs ys : List α) : Option (List α) := if xs.length + ys.length ≤ BIG then some (xs ++ ys) else none
def rngM (i : Int) : Option (List Int) := if -(2 ^ 62) ≤ i ∧ i ≤ BIG then some ((List.range i.toNat).map fun k => ((k : Nat) : Int)) else none
def rng2M (i j : Int) : Option (List Int) := if (-(2 ^ 62) ≤ i ∧ i < 2 ^ 62 ∧ -(2 ^ 62) ≤ j ∧ j < 2 ^ 62) ∧ j - i ≤ BIG then some ((List.range (j - i).toNat).map fun k => i + ((k : Nat) : Int)) else none
def lenS (z : Str) : Option Int := if z.length ≤ sizeLine then some z.length else none
def ixS (z : Str) (i : Int) : Option Str := if z.length ≤ sizeLine then (atI z.cps.toList i).map fun c => ⟨#[c]⟩ else none
def addS (a b : Str) : Option Str := if a.length + b.length ≤ sizeLine then some (a ++ b) else none
def modM (i j : Int) : Option Int := if 0 < j then some (i % j) else none
def chars (z : Str) : List Str := z.cps.toList.map fun c => ⟨#[c]⟩
def enumM {α : Type} (k : Int) (xs : List α) : List (Int × α) := (List.range xs.length).zipWith (fun i x => (k + ((i : Nat) : Int), x)) xs
theorem lcM_total {α β : Type} (g : α → Option β) (as : List α) : lcM (fun a => some (g a)) as = some (as.filterMap g) := by
  induction as with
  | nil => rfl
  | cons a as ih =>
    unfold lcM
    rw [ih]
    cases h : g a with
    | none => simp [List.filterMap_cons, h]
    | some b => simp [List.filterMap_cons, h]
theorem lcM_map {α β : Type} (g : α → β) (as : List α) : lcM (fun a => some (some (g a))) as = some (as.map g) := by
  rw [lcM_total]; simp
/-! ### cuts: what follows is shown once -/
theorem cutT {tt : TT} {σ : L2.St} {H : Hp} {Q : Bool → Hp → Prop} (P : Bool → Hp → Prop) (h : (∀ b H', P b H' → Q b H') → tt σ H Q) (g : ∀ b H', P b H' → Q b H') : tt σ H Q := h g
theorem cutE {te : TE} {σ : L2.St} {H : Hp} {Q : VK} (P : V → Hp → Prop) (h : (∀ v H', P v H' → Q v H') → te σ H Q) (g : ∀ v H', P v H' → Q v H') : te σ H Q := h g
theorem w_sig {t : TS} {D : Ends} {σ σ' : L2.St} {H : Hp} (e : σ = σ') (g : t D σ' H) : t D σ H := e ▸ g
theorem w_nx {P : L2.St → Hp → Prop} {σ σ' : L2.St} {H : Hp} (e : σ = σ') (g : P σ' H) : P σ H := e ▸ g
end Mf

namespace Mf
open PySem L2 PyProof.Rows
/-! ### what is evaluated and changes nothing -/
def Ev (te : TE) (σ : L2.St) (H : Hp) (v : V) : Prop := ∀ Q : VK, Q v H → te σ H Q
def EvT (tt : TT) (σ : L2.St) (H : Hp) (b : Bool) : Prop := ∀ Q : Bool → Hp → Prop, Q b H → tt σ H Q
def EvA (ta : TA) (σ : L2.St) (H : Hp) (vs : List V) : Prop := ∀ Q : List V → Hp → Prop, Q vs H → ta σ H Q
def RV (r : R2) (x y : V) (H : Hp) (z : V) : Prop := ∀ Q : VK, Q z H → r x y H Q
section
variable {K : PySem.W.Frag} {σ : L2.St} {H : Hp} {ta tb tc te : TE} {tt tu : TT} {tA : TA} {v x y z w : V} {vs : List V} {a b : Bool} {r r' : R2} {i j : Int} {s t : Str}
theorem Ev.var {k : Nat} (h : σ[k]? = some (some v)) : Ev (tVar k) σ H v := fun _ q => ⟨v, h, q⟩
theorem Ev.c : Ev (tC v) σ H v := fun _ q => q
theorem Ev.op (ha : Ev ta σ H x) (hb : Ev tb σ H y) (hr : RV r x y H z) : Ev (tOp r ta tb) σ H z := fun Q q => ha _ (hb _ (hr Q q))
theorem Ev.un {r : V → Hp → VK → Prop} (ha : Ev ta σ H x) (hr : ∀ Q : VK, Q z H → r x H Q) : Ev (tUn r ta) σ H z := fun Q q => ha _ (hr Q q)
theorem EvA.nil : EvA tNil σ H [] := fun _ q => q
theorem EvA.cons (ha : Ev ta σ H x) (hr : EvA tA σ H vs) : EvA (tCons ta tA) σ H (x :: vs) := fun Q q => ha _ (hr _ q)
theorem Ev.cb {r : List V → Hp → VK → Prop} (ha : EvA tA σ H vs) (hr : ∀ Q : VK, Q z H → r vs H Q) : Ev (tCB r tA) σ H z := fun Q q => ha _ (hr Q q)
theorem EvT.test (h : Ev te σ H (.bl b)) : EvT (tTest te) σ H b := fun Q q => h _ ⟨b, rfl, q⟩
theorem EvT.tB (h : Ev te σ H (.bl b)) : EvT (tB te) σ H b := fun Q q => h _ ⟨b, rfl, q⟩
theorem EvT.and (ha : EvT tt σ H a) (hb : a = true → EvT tu σ H b) : EvT (tAnd tt tu) σ H (a && b) := fun Q q => ha _ (by
  cases a with
  | true => exact iteT (hb rfl _ q)
  | false => exact iteF q)
theorem EvT.or (ha : EvT tt σ H a) (hb : a = false → EvT tu σ H b) : EvT (tOr tt tu) σ H (a || b) := fun Q q => ha _ (by
  cases a with
  | true => exact iteT q
  | false => exact iteF (hb rfl _ q))
theorem EvT.not (ha : EvT tt σ H a) : EvT (tNot tt) σ H (!a) := fun Q q => ha _ q
theorem EvT.yes : EvT tYes σ H true := fun _ q => q
theorem Ev.and (ha : Ev ta σ H (.bl a)) (hb : a = true → Ev tb σ H (.bl b)) : Ev (tAndV ta tb) σ H (.bl (a && b)) := fun Q q => ha _ ⟨a, rfl, by
  cases a with
  | true => exact iteT (hb rfl _ q)
  | false => exact iteF q⟩
theorem Ev.or (ha : Ev ta σ H (.bl a)) (hb : a = false → Ev tb σ H (.bl b)) : Ev (tOrV ta tb) σ H (.bl (a || b)) := fun Q q => ha _ ⟨a, rfl, by
  cases a with
  | true => exact iteT q
  | false => exact iteF (hb rfl _ q)⟩
theorem Ev.not (ha : Ev ta σ H (.bl a)) : Ev (tNotV ta) σ H (.bl (!a)) := fun Q q => ha _ ⟨a, rfl, q⟩
theorem Ev.ite (ha : EvT tt σ H a) (h1 : a = true → Ev ta σ H z) (h2 : a = false → Ev tb σ H z) : Ev (tIf tt ta tb) σ H z := fun Q q => ha _ (by
  cases a with
  | true => exact iteT (h1 rfl _ q)
  | false => exact iteF (h2 rfl _ q))
theorem Ev.iteI (ha : EvT tt σ H a) (h1 : a = true → Ev ta σ H (.int i)) (h2 : a = false → Ev tb σ H (.int j)) : Ev (tIf tt ta tb) σ H (.int (if a = true then i else j)) := Ev.ite ha (fun e => by rw [if_pos e]; exact h1 e) (fun e => by rw [if_neg (by rw [e]; decide)]; exact h2 e)
theorem Ev.iteS (ha : EvT tt σ H a) (h1 : a = true → Ev ta σ H (.str s)) (h2 : a = false → Ev tb σ H (.str t)) : Ev (tIf tt ta tb) σ H (.str (if a = true then s else t)) := Ev.ite ha (fun e => by rw [if_pos e]; exact h1 e) (fun e => by rw [if_neg (by rw [e]; decide)]; exact h2 e)
theorem Ev.iteB {c d : Bool} (ha : EvT tt σ H a) (h1 : a = true → Ev ta σ H (.bl c)) (h2 : a = false → Ev tb σ H (.bl d)) : Ev (tIf tt ta tb) σ H (.bl (if a = true then c else d)) := Ev.ite ha (fun e => by rw [if_pos e]; exact h1 e) (fun e => by rw [if_neg (by rw [e]; decide)]; exact h2 e)
theorem Ev.chain (ha : Ev ta σ H x) (hb : Ev tb σ H y) (hc : Ev tc σ H w) (h1 : RV r x y H (.bl a)) (h2 : RV r' y w H (.bl b)) : Ev (tChain r r' ta tb tc) σ H (.bl (a && b)) := fun Q q => ha _ (hb _ (h1 _ ⟨a, rfl, by
  cases a with
  | true => exact iteT (hc _ (h2 _ q))
  | false => exact iteF q⟩))
theorem rv_I0 {f : Int → Int → V} : RV (rI0 f) (.int i) (.int j) H (f i j) := fun _ q => ⟨i, j, rfl, rfl, q⟩
theorem rv_I {C : Int → Int → Prop} {f : Int → Int → V} (h : C i j) : RV (rI C f) (.int i) (.int j) H (f i j) := fun _ q => ⟨i, j, rfl, rfl, h, q⟩
theorem rv_eqI : RV rEq (.int i) (.int j) H (.bl (decide (i = j))) := fun _ q => ⟨rfl, by rw [show decide (V.int i = V.int j) = decide (i = j) from decide_eq_decide.mpr ⟨fun e => by injection e, fun e => by rw [e]⟩]; exact q⟩
theorem rv_neI : RV rNe (.int i) (.int j) H (.bl (!decide (i = j))) := fun _ q => ⟨rfl, by rw [show decide (V.int i = V.int j) = decide (i = j) from decide_eq_decide.mpr ⟨fun e => by injection e, fun e => by rw [e]⟩]; exact q⟩
theorem rv_eqS : RV rEq (.str s) (.str t) H (.bl (decide (s = t))) := fun _ q => ⟨rfl, by rw [show decide (V.str s = V.str t) = decide (s = t) from decide_eq_decide.mpr ⟨fun e => by injection e, fun e => by rw [e]⟩]; exact q⟩
theorem rv_neS : RV rNe (.str s) (.str t) H (.bl (!decide (s = t))) := fun _ q => ⟨rfl, by rw [show decide (V.str s = V.str t) = decide (s = t) from decide_eq_decide.mpr ⟨fun e => by injection e, fun e => by rw [e]⟩]; exact q⟩
theorem rv_eqB : RV rEq (.bl a) (.bl b) H (.bl (decide (a = b))) := fun _ q => ⟨rfl, by rw [show decide (V.bl a = V.bl b) = decide (a = b) from decide_eq_decide.mpr ⟨fun e => by injection e, fun e => by rw [e]⟩]; exact q⟩
theorem rv_neB : RV rNe (.bl a) (.bl b) H (.bl (!decide (a = b))) := fun _ q => ⟨rfl, by rw [show decide (V.bl a = V.bl b) = decide (a = b) from decide_eq_decide.mpr ⟨fun e => by injection e, fun e => by rw [e]⟩]; exact q⟩
theorem inV_ints {zs : List Int} : inV (.int i) (zs.map V.int) = decide (i ∈ zs) := by
  unfold inV
  rw [List.any_map, Bool.eq_iff_iff, decide_eq_true_iff, List.any_eq_true]
  constructor
  · rintro ⟨u, hu, e⟩
    have : u = i := by simpa [eqV] using e
    exact this ▸ hu
  · exact fun h => ⟨i, h, by simp [eqV]⟩
theorem flat_strs {zs : List Str} : (zs.map V.str).all flatV = true := by simp [List.all_eq_true, flatV]
theorem flat_ints {zs : List Int} : (zs.map V.int).all flatV = true := by simp [List.all_eq_true, flatV]
variable {α β γ δ : Type} {R : Rl α} {S : Rl β} {T : Rl γ} {U : Rl δ} {B : Hp}
/-! `in` of texts -/
theorem inV_strs' {zs : List Str} : inV (.str s) (zs.map V.str) = decide (s ∈ zs) := by
  unfold inV
  rw [List.any_map, Bool.eq_iff_iff, decide_eq_true_iff, List.any_eq_true]
  constructor
  · rintro ⟨u, hu, e⟩
    have : u = s := by simpa [eqV] using e
    exact this ▸ hu
  · exact fun h => ⟨s, h, by simp [eqV]⟩
theorem rv_inQ {zs : List Str} (h : (dSeq K dStr).rel H zs v) : RV (rIn K false) (.str s) v H (.bl (decide (s ∈ zs))) := fun Q q => by
  obtain ⟨p, vs, rfl, h, f, _⟩ := h
  cases fa_str f
  exact ⟨p, _, rfl, h, rfl, flat_strs, by rw [← inV_strs'] at q; exact q⟩
theorem rv_niQ {zs : List Str} (h : (dSeq K dStr).rel H zs v) : RV (rIn K true) (.str s) v H (.bl (!decide (s ∈ zs))) := fun Q q => by
  obtain ⟨p, vs, rfl, h, f, _⟩ := h
  cases fa_str f
  exact ⟨p, _, rfl, h, rfl, flat_strs, by rw [← inV_strs'] at q; exact q⟩
theorem rv_inI {zs : List Int} (h : (dSeq K dInt).rel H zs v) : RV (rIn K false) (.int i) v H (.bl (decide (i ∈ zs))) := fun Q q => by
  obtain ⟨p, vs, rfl, h, f, _⟩ := h
  cases fa_int f
  exact ⟨p, _, rfl, h, rfl, flat_ints, by rw [← inV_ints] at q; exact q⟩
theorem rv_niI {zs : List Int} (h : (dSeq K dInt).rel H zs v) : RV (rIn K true) (.int i) v H (.bl (!decide (i ∈ zs))) := fun Q q => by
  obtain ⟨p, vs, rfl, h, f, _⟩ := h
  cases fa_int f
  exact ⟨p, _, rfl, h, rfl, flat_ints, by rw [← inV_ints] at q; exact q⟩
theorem rv_inC {c : Str} (h : c.length = 1) : RV (rInC false) (.str c) (.str t) H (.bl (decide (c ∈ chars t))) := fun Q q => by
  have e : ∃ n, c = ⟨#[n]⟩ := by
    obtain ⟨⟨l⟩⟩ := c
    match l, h with
    | [n], _ => exact ⟨n, rfl⟩
  obtain ⟨n, rfl⟩ := e
  refine ⟨n, t, rfl, rfl, ?_⟩
  have : decide (n ∈ t.cps.toList) = decide ((⟨#[n]⟩ : Str) ∈ chars t) := by
    refine decide_eq_decide.mpr ⟨fun z => List.mem_map.mpr ⟨n, z, rfl⟩, fun z => ?_⟩
    obtain ⟨m, hm, e⟩ := List.mem_map.mp z
    injection e with e
    have : m = n := by simpa using e
    exact this ▸ hm
  simp only [Bool.false_eq_true, if_false]
  rw [this]; exact q
/-! len -/
theorem len_seq (h : (dSeq K R).rel H xs v) : ∀ Q : VK, Q (.int (xs.length : Int)) H → rLenQ K [v] H Q := fun Q q => by
  obtain ⟨p, vs, rfl, h, f, _⟩ := h
  exact ⟨p, vs, rfl, h, by rw [← f.len]; exact q⟩
theorem len_str (h : lenS s = some i) : ∀ Q : VK, Q (.int i) H → rLenS [.str s] H Q := fun Q q => by
  unfold lenS at h
  by_cases e : s.length ≤ sizeLine
  · rw [if_pos e] at h; cases h; exact ⟨s, rfl, e, q⟩
  · rw [if_neg e] at h; cases h
theorem len_dict {xs : List (Str × α)} (h : (dDict R).rel H xs v) : ∀ Q : VK, Q (.int (xs.length : Int)) H → rLenD [v] H Q := fun Q q => by
  obtain ⟨p, kvs, rfl, h, f, _⟩ := h
  exact ⟨p, kvs, rfl, h, by rw [← f.len]; exact q⟩
/-! x[i] -/
theorem ix_L {xs : List α} {a : α} (h : (dList R).rel B xs v) (e : atI xs i = some a) : ∃ w, R.rel B a w ∧ ∀ H, Same B H → RV (rIxL K) v (.int i) H w := by
  obtain ⟨p, vs, rfl, h, f, _⟩ := h
  obtain ⟨w, hw, r⟩ := fa_at f e
  exact ⟨w, r, fun H s Q q => ⟨p, vs, i, w, rfl, rfl, SqL.of (s _ _ h), hw, q⟩⟩
theorem ix_T {xs : List α} {a : α} (h : (dTup K R).rel B xs v) (e : atI xs i = some a) : ∃ w, R.rel B a w ∧ ∀ H, Same B H → RV (rIxT K) v (.int i) H w := by
  obtain ⟨p, vs, rfl, h, f, _⟩ := h
  obtain ⟨w, hw, r⟩ := fa_at f e
  exact ⟨w, r, fun H s Q q => ⟨p, vs, i, w, rfl, rfl, Same.sqt s h, hw, q⟩⟩
theorem ix_C {xs : List α} {a : α} {o : HO} {p : Addr} (h : (cList R).rel B xs o) (e : atI xs i = some a) : ∃ w, R.rel B a w ∧ ∀ H, H p = some o → RV (rIxL K) (.ref p) (.int i) H w := by
  obtain ⟨vs, rfl, f, _⟩ := h
  obtain ⟨w, hw, r⟩ := fa_at f e
  exact ⟨w, r, fun H s Q q => ⟨p, vs, i, w, rfl, rfl, SqL.of s, hw, q⟩⟩
theorem ix_S {z c : Str} (h : ixS z i = some c) : RV rIxS (.str z) (.int i) H (.str c) := fun Q q => by
  unfold ixS at h
  by_cases e : z.length ≤ sizeLine
  · rw [if_pos e] at h
    cases g : atI z.cps.toList i with
    | none => rw [g] at h; cases h
    | some n => rw [g] at h; cases h; exact ⟨z, i, n, rfl, rfl, e, g, q⟩
  · rw [if_neg e] at h; cases h
theorem ix_p0 {x : α × β} (h : (dPair K R S).rel B x v) : ∃ w, R.rel B x.1 w ∧ ∀ H, Same B H → RV (rIxT K) v (.int 0) H w := by
  obtain ⟨p, a, b, rfl, h, r, s⟩ := h
  exact ⟨a, r, fun H e Q q => ⟨p, _, 0, a, rfl, rfl, Same.sqt e h, rfl, q⟩⟩
theorem ix_p1 {x : α × β} (h : (dPair K R S).rel B x v) : ∃ w, S.rel B x.2 w ∧ ∀ H, Same B H → RV (rIxT K) v (.int 1) H w := by
  obtain ⟨p, a, b, rfl, h, r, s⟩ := h
  exact ⟨b, s, fun H e Q q => ⟨p, _, 1, b, rfl, rfl, Same.sqt e h, rfl, q⟩⟩
theorem ix_t0 {x : α × β × γ} (h : (dTrip K R S T).rel B x v) : ∃ w, R.rel B x.1 w ∧ ∀ H, Same B H → RV (rIxT K) v (.int 0) H w := by
  obtain ⟨p, a, b, c, rfl, h, r, s, t⟩ := h
  exact ⟨a, r, fun H e Q q => ⟨p, _, 0, a, rfl, rfl, Same.sqt e h, rfl, q⟩⟩
theorem ix_t1 {x : α × β × γ} (h : (dTrip K R S T).rel B x v) : ∃ w, S.rel B x.2.1 w ∧ ∀ H, Same B H → RV (rIxT K) v (.int 1) H w := by
  obtain ⟨p, a, b, c, rfl, h, r, s, t⟩ := h
  exact ⟨b, s, fun H e Q q => ⟨p, _, 1, b, rfl, rfl, Same.sqt e h, rfl, q⟩⟩
theorem ix_t2 {x : α × β × γ} (h : (dTrip K R S T).rel B x v) : ∃ w, T.rel B x.2.2 w ∧ ∀ H, Same B H → RV (rIxT K) v (.int 2) H w := by
  obtain ⟨p, a, b, c, rfl, h, r, s, t⟩ := h
  exact ⟨c, t, fun H e Q q => ⟨p, _, 2, c, rfl, rfl, Same.sqt e h, rfl, q⟩⟩
/-! unpacking -/
theorem un_p {x : α × β} (h : (dPair K R S).rel B x v) : ∃ a b, R.rel B x.1 a ∧ S.rel B x.2 b ∧ ∀ H, Same B H → ∃ p, v = .ref p ∧ SqT K H p [a, b] := by
  obtain ⟨p, a, b, rfl, h, r, s⟩ := h
  exact ⟨a, b, r, s, fun H e => ⟨p, rfl, Same.sqt e h⟩⟩
theorem un_t {x : α × β × γ} (h : (dTrip K R S T).rel B x v) : ∃ a b c, R.rel B x.1 a ∧ S.rel B x.2.1 b ∧ T.rel B x.2.2 c ∧ ∀ H, Same B H → ∃ p, v = .ref p ∧ SqT K H p [a, b, c] := by
  obtain ⟨p, a, b, c, rfl, h, r, s, t⟩ := h
  exact ⟨a, b, c, r, s, t, fun H e => ⟨p, rfl, Same.sqt e h⟩⟩
theorem un_q {x : α × β × γ × δ} (h : (dQuad K R S T U).rel B x v) : ∃ a b c d, R.rel B x.1 a ∧ S.rel B x.2.1 b ∧ T.rel B x.2.2.1 c ∧ U.rel B x.2.2.2 d ∧ ∀ H, Same B H → ∃ p, v = .ref p ∧ SqT K H p [a, b, c, d] := by
  obtain ⟨p, a, b, c, d, rfl, h, r, s, t, u⟩ := h
  exact ⟨a, b, c, d, r, s, t, u, fun H e => ⟨p, rfl, Same.sqt e h⟩⟩
theorem w_gun {n : Nat} {t : TGs} {QQ : L2.St → Hp → Prop} (h : ∃ p, v = .ref p ∧ SqT K H p vs) (hn : vs.length = n) (g : t vs σ H QQ) : gTup K n t v σ H QQ := by
  obtain ⟨p, rfl, h⟩ := h
  exact ⟨p, vs, rfl, h, hn, g⟩
end
/-! ### what is walked -/
def ItOk {α : Type} (J : It) (Bi B : Hp) (as : List α) (R : Rl α) : Prop := ∃ (G : Hp → Prop) (Y : Nat → Hp → V → Hp → Prop), Walk J as.length G Y ∧ (∀ H, Same Bi H → G H) ∧
  ∀ i H x H', i < as.length → Y i H x H' → ∃ a, as[i]? = some a ∧ ∀ Φ b cs, Sit Φ b H cs → Same B b → ∃ b', Sit Φ b' H' cs ∧ Same b b' ∧ R.rel b' a x
section
variable {α β : Type} {K : PySem.W.Frag} {R : Rl α} {B : Hp} {as : List α} {p : Addr} {v : V}
theorem it_at {J : It} {Bi : Hp} {vs : List V} {G : Hp → Prop} (w : Walk J vs.length G (YAt vs)) (hG : ∀ H, Same Bi H → G H) (f : Fa (R.rel B) as vs) : ItOk J Bi B as R := by
  refine ⟨G, _, by rw [f.len]; exact w, hG, ?_⟩
  rintro i H x H' hi ⟨rfl, hx⟩
  obtain ⟨a, ha, r⟩ := f.get hx
  exact ⟨a, ha, fun Φ b cs S e => ⟨b, S, Same.rf _, R.mono e r⟩⟩
theorem it_pair {J : It} {Bi : Hp} {vs : List V} {k : Int} {G : Hp → Prop} (w : Walk J vs.length G (YEn vs k)) (hG : ∀ H, Same Bi H → G H) (f : Fa (R.rel B) as vs) : ItOk J Bi B (enumM k as) (dPair K dInt R) := by
  have e : (enumM k as).length = as.length := by unfold enumM; simp
  refine ⟨G, _, by rw [e, f.len]; exact w, hG, ?_⟩
  rintro i H x H' hi ⟨T, y, rfl, nT, rfl, hx⟩
  obtain ⟨a, ha, r⟩ := f.get hx
  have hi' := (List.getElem?_eq_some_iff.mp ha).1
  refine ⟨(k + (i : Nat), a), by unfold enumM; rw [List.getElem?_zipWith, ha, List.getElem?_range hi'], fun Φ b cs S e => ⟨upd b T (.tup [.int (k + (i : Nat)), y]), S.put nT, S.updB nT, T, _, _, rfl, SqT.of upd_same, rfl, R.mono (e.tr (S.updB nT)) r⟩⟩
def WL (K : PySem.W.Frag) (R' : It → Hp → Prop) (v : V) (H : Hp) : Prop := ∃ a, v = .ref a ∧ (∃ xs, SqL K H a xs) ∧ R' (Itl K a) H
def WT (K : PySem.W.Frag) (R' : It → Hp → Prop) (v : V) (H : Hp) : Prop := ∃ a, v = .ref a ∧ (∃ xs, SqT K H a xs) ∧ R' (Itt K a) H
def WQ (K : PySem.W.Frag) (R' : It → Hp → Prop) (v : V) (H : Hp) : Prop := ∃ a, v = .ref a ∧ (((∃ xs, SqL K H a xs) ∧ R' (Itl K a) H) ∨ ((∃ xs, SqT K H a xs) ∧ R' (Itt K a) H))
def WE (K : PySem.W.Frag) (R' : It → Hp → Prop) (vs : List V) (H : Hp) : Prop := ∃ a xs, vs = [.ref a] ∧ SqL K H a xs ∧ R' (Ite K a) H
def WES (K : PySem.W.Frag) (R' : It → Hp → Prop) (vs zs : List V) (H : Hp) : Prop := ∃ a xs b k, vs = [.ref a] ∧ zs = [.int k] ∧ (-(2 ^ 63) ≤ k ∧ k < 2 ^ 63) ∧ SqB K b H a xs ∧ R' (IteS K b a k) H
def WR1 (R' : It → Hp → Prop) (vs : List V) (H : Hp) : Prop := ∃ j : Int, vs = [.int j] ∧ -(2 ^ 62) ≤ j ∧ j < 2 ^ 62 ∧ R' (Itr 0 j.toNat) H
def WR2 (R' : It → Hp → Prop) (vs : List V) (H : Hp) : Prop := ∃ i j : Int, vs = [.int i, .int j] ∧ (-(2 ^ 62) ≤ i ∧ i < 2 ^ 62 ∧ -(2 ^ 62) ≤ j ∧ j < 2 ^ 62) ∧ R' (Itr i (j - i).toNat) H
def WS (R' : It → Hp → Prop) (v : V) (H : Hp) : Prop := ∃ x, v = .str x ∧ R' (Its x) H
section
variable {σ : L2.St} {H : Hp} {tl : TE} {ta tk : TA} {R' : It → Hp → Prop}
theorem x_iL (g : tl σ H fun x H1 => WL K R' x H1) : iList K tl σ H R' := g
theorem x_iT (g : tl σ H fun x H1 => WT K R' x H1) : iTup K tl σ H R' := g
theorem x_iQ (g : tl σ H fun x H1 => WQ K R' x H1) : iSeq K tl σ H R' := g
theorem x_iS (g : tl σ H fun x H1 => WS R' x H1) : iStr tl σ H R' := g
theorem x_iE (g : ta σ H fun vs H1 => WE K R' vs H1) : iEnum K ta σ H R' := g
theorem x_iES (g : ta σ H fun vs H1 => tk σ H1 fun zs H2 => WES K R' vs zs H2) : iEnumS K ta tk σ H R' := g
theorem x_iR1 (g : ta σ H fun vs H1 => WR1 R' vs H1) : iRng1 ta σ H R' := g
theorem x_iR2 (g : ta σ H fun vs H1 => WR2 R' vs H1) : iRng2 ta σ H R' := g
end
theorem w_itL {R' : It → Hp → Prop} {H : Hp} (h : (dList R).rel B as v) (s : Same B H) (g : ∀ J, ItOk J B B as R → R' J H) : WL K R' v H := by
  obtain ⟨p, vs, rfl, h, f, _⟩ := h
  exact ⟨p, rfl, ⟨vs, SqL.of (s _ _ h)⟩, g _ (it_at walk_list (fun H' e => SqL.of (e _ _ h)) f)⟩
theorem w_itT {R' : It → Hp → Prop} {H : Hp} (h : (dTup K R).rel B as v) (s : Same B H) (g : ∀ J, ItOk J B B as R → R' J H) : WT K R' v H := by
  obtain ⟨p, vs, rfl, h, f, _⟩ := h
  exact ⟨p, rfl, ⟨vs, Same.sqt s h⟩, g _ (it_at walk_tup (fun H' e => Same.sqt e h) f)⟩
theorem w_itC {R' : It → Hp → Prop} {H : Hp} {o : HO} (h : (cList R).rel B as o) (hp : H p = some o) (g : ∀ J, ItOk J (upd B p o) B as R → R' J H) : WL K R' (.ref p) H := by
  obtain ⟨vs, rfl, f, _⟩ := h
  exact ⟨p, rfl, ⟨vs, SqL.of hp⟩, g _ (it_at walk_list (fun H' e => SqL.of (e _ _ upd_same)) f)⟩
theorem w_itQ {R' : It → Hp → Prop} {H : Hp} (h : (dSeq K R).rel B as v) (s : Same B H) (g : ∀ J, ItOk J B B as R → R' J H) : WQ K R' v H := by
  obtain ⟨p, vs, rfl, h, f, _⟩ := h
  exact w_iQ2 h s fun J G w hG => g J (it_at w hG f)
theorem w_itE {R' : It → Hp → Prop} {H : Hp} (h : (dList R).rel B as v) (s : Same B H) (g : ∀ J, ItOk J B B (enumM 0 as) (dPair K dInt R) → R' J H) : WE K R' [v] H := by
  obtain ⟨p, vs, rfl, h, f, _⟩ := h
  refine ⟨p, vs, rfl, SqL.of (s _ _ h), g _ (it_pair (G := fun H => SqL K H p vs) ?_ (fun H' e => SqL.of (e _ _ h)) f)⟩
  refine (walk_enum (K := K) (a := p) (xs := vs)).mono (fun _ z => z) ?_
  rintro i H x H' hi _ ⟨T, a, b, rfl, n, rfl, ha, hb⟩
  cases ha
  exact ⟨T, b, rfl, n, by rw [Int.zero_add], hb⟩
theorem w_itES {R' : It → Hp → Prop} {H : Hp} {k : Int} (hk : -(2 ^ 63) ≤ k ∧ k < 2 ^ 63) (h : (dSeq K R).rel B as v) (s : Same B H) (g : ∀ J, ItOk J B B (enumM k as) (dPair K dInt R) → R' J H) : WES K R' [v] [.int k] H := by
  obtain ⟨p, vs, rfl, h, f, _⟩ := h
  exact w_iESx hk h s fun J G w hG => g J (it_pair w hG f)
theorem w_itR1 {R' : It → Hp → Prop} {H : Hp} {i : Int} {is : List Int} (h : rngM i = some is) (g : ∀ J, ItOk J B B is dInt → is.length ≤ BIG → R' J H) : WR1 R' [.int i] H := by
  unfold rngM at h
  by_cases e : -(2 ^ 62) ≤ i ∧ i ≤ BIG
  · rw [if_pos e] at h
    cases h
    unfold BIG at e
    have e0 : ((List.range i.toNat).map fun k => ((k : Nat) : Int)).length = i.toNat := by simp
    refine ⟨i, rfl, e.1, by omega, g _ ⟨_, _, by rw [e0]; exact walk_range, fun _ _ => trivial, ?_⟩ (by rw [e0]; unfold BIG; omega)⟩
    rintro k H x H' hk ⟨rfl, rfl⟩
    rw [e0] at hk
    exact ⟨(k : Int), by rw [List.getElem?_map, List.getElem?_range hk]; rfl, fun Φ b cs S e => ⟨b, S, Same.rf _, by show V.int _ = V.int _; rw [Int.zero_add]⟩⟩
  · rw [if_neg e] at h; cases h
theorem w_itR2 {R' : It → Hp → Prop} {H : Hp} {i j : Int} {is : List Int} (h : rng2M i j = some is) (g : ∀ J, ItOk J B B is dInt → is.length ≤ BIG → R' J H) : WR2 R' [.int i, .int j] H := by
  unfold rng2M at h
  by_cases e : (-(2 ^ 62) ≤ i ∧ i < 2 ^ 62 ∧ -(2 ^ 62) ≤ j ∧ j < 2 ^ 62) ∧ j - i ≤ BIG
  · rw [if_pos e] at h
    cases h
    unfold BIG at e
    have e0 : ((List.range (j - i).toNat).map fun k => i + ((k : Nat) : Int)).length = (j - i).toNat := by simp
    refine ⟨i, j, rfl, e.1, g _ ⟨_, _, by rw [e0]; exact walk_range, fun _ _ => trivial, ?_⟩ (by rw [e0]; unfold BIG; omega)⟩
    rintro k H x H' hk ⟨rfl, rfl⟩
    rw [e0] at hk
    exact ⟨i + (k : Int), by rw [List.getElem?_map, List.getElem?_range hk]; rfl, fun Φ b cs S e => ⟨b, S, Same.rf _, rfl⟩⟩
  · rw [if_neg e] at h; cases h
theorem w_itS {R' : It → Hp → Prop} {H : Hp} {z : Str} (g : ∀ J, ItOk J B B (chars z) dStr → R' J H) : WS R' (.str z) H := by
  refine ⟨z, rfl, g _ ?_⟩
  have e : (chars z).length = z.cps.size := by unfold chars; simp
  refine ⟨_, _, by rw [e]; exact walk_str, fun _ _ => trivial, ?_⟩
  rintro i H x H' hi ⟨rfl, c, hc, rfl⟩
  refine ⟨⟨#[c]⟩, by unfold chars; simp [hc], fun Φ b cs S e => ⟨b, S, Same.rf _, rfl⟩⟩
end
/-! ### loops -/
def Nxt {S : Type} (Φ : Fr) (B : Hp) (I : S → Hp → L2.St → List (Addr × HO) → Prop) (s : S) : L2.St → Hp → Prop := fun σ' H' => ∃ b' cs', Sit Φ b' H' cs' ∧ Same B b' ∧ I s b' σ' cs'
def NxC {S R : Type} (Φ : Fr) (B : Hp) (I : S → Hp → L2.St → List (Addr × HO) → Prop) (o : Ctl S R) : L2.St → Hp → Prop := fun σ' H' => ∃ s', o = .nx s' ∧ Nxt Φ B I s' σ' H'
section
variable {α S R' : Type} {Φ : Fr} {as : List α} {R : Rl α} {J : It} {Bi B H : Hp} {cs : List (Addr × HO)} {σ : L2.St} {g : TG} {tb : TS} {nx bk ct : L2.St → Hp → Prop} {rt : VK} {s0 s1 : S}
theorem forS (it : ItOk J Bi B as R) (S0 : Sit Φ B H cs) (I : S → Hp → L2.St → List (Addr × HO) → Prop) (h0 : I s0 B σ cs) {f : α → S → Option S} (hm : forL f as s0 = some s1)
    (hB : ∀ s b H σ cs, Sit Φ b H cs → Same B b → I s b σ cs → Same Bi H)
    (hs : ∀ a s s' x b0 b H σ cs, a ∈ as → Sit Φ b H cs → Same B b0 → Same b0 b → I s b0 σ cs → R.rel b a x → f a s = some s' → g x σ H fun σ2 H2 => tb ⟨Nxt Φ B I s', rt, nx, Nxt Φ B I s'⟩ σ2 H2)
    (hd : ∀ b H σ cs, Sit Φ b H cs → Same B b → I s1 b σ cs → nx σ H) : ForB J g tb ⟨nx, rt, bk, ct⟩ σ H := by
  obtain ⟨G, Y, w, hG, hY⟩ := it
  refine ⟨fun i m σ H => m = as.length - i ∧ i ≤ as.length ∧ ∃ s b cs, Sit Φ b H cs ∧ Same B b ∧ I s b σ cs ∧ forL f (as.drop i) s = some s1, ⟨_, rfl, Nat.zero_le _, s0, B, cs, S0, Same.rf _, h0, hm⟩, ?_⟩
  rintro i m σ H ⟨rfl, hi, s, b, cs, S, e, h, hf⟩
  have q := hG H (hB s b H σ cs S e h)
  by_cases hlt : i < as.length
  · refine .inr ⟨w.goes i H hlt q, ?_⟩
    have hd' : as.drop i = as[i] :: as.drop (i + 1) := List.drop_eq_getElem_cons hlt
    rw [hd'] at hf
    obtain ⟨s', hs', hf⟩ := bs hf
    refine ⟨Nxt Φ B I s', fun σ' H' ⟨b', cs', S', e', h'⟩ => ⟨_, by omega, rfl, by omega, s', b', cs', S', e', h', hf⟩, fun x H' y => ?_⟩
    obtain ⟨a, ha, q2⟩ := hY i H x H' hlt (w.yields i H x H' hlt q y)
    obtain ⟨b', S', e', r⟩ := q2 Φ b cs S e
    rw [List.getElem?_eq_getElem hlt] at ha
    cases ha
    exact hs _ s s' x b b' H' σ cs (List.getElem_mem hlt) S' e e' h r hs'
  · have ei : i = as.length := by omega
    subst ei
    rw [List.drop_length] at hf
    cases hf
    exact .inl ⟨w.stops H q, hd b H σ cs S e h⟩
/-- with return, break -/
theorem forK (it : ItOk J Bi B as R) (S0 : Sit Φ B H cs) (I : S → Hp → L2.St → List (Addr × HO) → Prop) (h0 : I s0 B σ cs) {f : α → S → Option (Ctl S R')} {c : Ctl S R'} (hm : forC f as s0 = some c)
    (hB : ∀ s b H σ cs, Sit Φ b H cs → Same B b → I s b σ cs → Same Bi H)
    (hs : ∀ a s o x b0 b H σ cs, a ∈ as → Sit Φ b H cs → Same B b0 → Same b0 b → I s b0 σ cs → R.rel b a x → f a s = some o → (∀ r, o = .ret r → c = .ret r) → (∀ s' σ' H', o = .brk s' → Nxt Φ B I s' σ' H' → nx σ' H') →
      g x σ H fun σ2 H2 => tb ⟨NxC Φ B I o, rt, nx, NxC Φ B I o⟩ σ2 H2)
    (hd : ∀ s1 b H σ cs, c = .nx s1 → Sit Φ b H cs → Same B b → I s1 b σ cs → nx σ H) : ForB J g tb ⟨nx, rt, bk, ct⟩ σ H := by
  obtain ⟨G, Y, w, hG, hY⟩ := it
  refine ⟨fun i m σ H => m = as.length - i ∧ i ≤ as.length ∧ ∃ s b cs, Sit Φ b H cs ∧ Same B b ∧ I s b σ cs ∧ forC f (as.drop i) s = some c, ⟨_, rfl, Nat.zero_le _, s0, B, cs, S0, Same.rf _, h0, hm⟩, ?_⟩
  rintro i m σ H ⟨rfl, hi, s, b, cs, S, e, h, hf⟩
  have q := hG H (hB s b H σ cs S e h)
  by_cases hlt : i < as.length
  · refine .inr ⟨w.goes i H hlt q, ?_⟩
    have hd' : as.drop i = as[i] :: as.drop (i + 1) := List.drop_eq_getElem_cons hlt
    rw [hd'] at hf
    obtain ⟨o, ho, hf⟩ := bs hf
    refine ⟨NxC Φ B I o, fun σ' H' ⟨s', es, b', cs', S', e', h'⟩ => ⟨_, by omega, rfl, by omega, s', b', cs', S', e', h', by subst es; exact hf⟩, fun x H' y => ?_⟩
    obtain ⟨a, ha, q2⟩ := hY i H x H' hlt (w.yields i H x H' hlt q y)
    obtain ⟨b', S', e', r⟩ := q2 Φ b cs S e
    rw [List.getElem?_eq_getElem hlt] at ha
    cases ha
    refine hs _ s o x b b' H' σ cs (List.getElem_mem hlt) S' e e' h r ho (fun r er => ?_) (fun s' σ' H'' es ⟨b2, cs2, S2, e2, h2⟩ => ?_)
    · subst er; cases hf; rfl
    · subst es; cases hf; exact hd _ _ _ _ _ rfl S2 e2 h2
  · have ei : i = as.length := by omega
    subst ei
    rw [List.drop_length] at hf
    cases hf
    exact .inl ⟨w.stops H q, hd s b H σ cs rfl S e h⟩
theorem wh_go {D : Ends} {o : Ctl S R'} {I : S → Hp → L2.St → List (Addr × HO) → Prop} {W : Nat → L2.St → Hp → Prop} {m : Nat} (hW : ∀ σ' H', NxC Φ B I o σ' H' → ∃ m', m' < m ∧ W m' σ' H') (h : tb ⟨NxC Φ B I o, rt, nx, NxC Φ B I o⟩ σ H) :
    ∃ N : L2.St → Hp → Prop, (∀ σ' H', N σ' H' → ∃ m', m' < m ∧ W m' σ' H') ∧ tb ⟨N, rt, nx, N⟩ σ H := ⟨_, hW, h⟩
theorem whK {c : TT} (S0 : Sit Φ B H cs) (I : S → Hp → L2.St → List (Addr × HO) → Prop) (h0 : I s0 B σ cs) {f : S → Option (Ctl S R')} {oc : Ctl S R'} {n : Nat} (hm : whC f n s0 = some oc)
    (hs : ∀ s o b H σ cs (W : Nat → L2.St → Hp → Prop) m, Sit Φ b H cs → Same B b → I s b σ cs → f s = some o → (∀ r, o = .ret r → oc = .ret r) → (∀ s' σ' H', o = .brk s' → Nxt Φ B I s' σ' H' → nx σ' H') →
      (∀ σ' H', NxC Φ B I o σ' H' → ∃ m', m' < m ∧ W m' σ' H') → c σ H fun q H1 => if q = true then ∃ N : L2.St → Hp → Prop, (∀ σ' H', N σ' H' → ∃ m', m' < m ∧ W m' σ' H') ∧ tb ⟨N, rt, nx, N⟩ σ H1 else nx σ H1)
    (hd : ∀ s1 b H σ cs, oc = .nx s1 → Sit Φ b H cs → Same B b → I s1 b σ cs → nx σ H) : tWhile c tb ⟨nx, rt, bk, ct⟩ σ H := by
  refine ⟨fun m σ H => ∃ s b cs, Sit Φ b H cs ∧ Same B b ∧ I s b σ cs ∧ whC f m s = some oc, ⟨n, s0, B, cs, S0, Same.rf _, h0, hm⟩, ?_⟩
  rintro m σ H ⟨s, b, cs, S, e, h, hf⟩
  cases m with
  | zero => cases hf
  | succ m =>
    obtain ⟨o, ho, hf⟩ := bs hf
    refine hs s o b H σ cs _ (m + 1) S e h ho (fun r er => ?_) (fun s' σ' H'' es ⟨b2, cs2, S2, e2, h2⟩ => ?_) (fun σ' H' ⟨s', es, b', cs', S', e', h'⟩ => ⟨m, Nat.lt_succ_self _, s', b', cs', S', e', h', by subst es; exact hf⟩)
    · subst er; cases hf; rfl
    · subst es; cases hf; exact hd _ _ _ _ _ rfl S2 e2 h2
end
/-! ### comprehensions -/
def Kept {β : Type} (P : Rl β) (o : Option β) (r : Option V) (B : Hp) : Prop := match o with
  | none => r = none
  | some y => ∃ v, r = some v ∧ P.rel B y v
section
variable {α β S : Type} {Φ : Fr} {as : List α} {R : Rl α} {P : Rl β} {J : It} {Bi B H : Hp} {cs : List (Addr × HO)} {σ : L2.St} {g : TG} {tt : TT} {te : TE} {vs : List Nat} {Q : VK} {ys : List β}
theorem lcR (it : ItOk J Bi B as R) (S0 : Sit Φ B H cs) (hl : as.length ≤ BIG) {f : α → Option (Option β)} (hm : lcM f as = some ys)
    (hB : ∀ b H' cs', Sit Φ b H' cs' → Same B b → cs <:+ cs' → Same Bi H')
    (hs : ∀ D acc a o x b0 b H', a ∈ as → Sit Φ b H' ((D, .lst acc) :: cs) → Same B b0 → Same b0 b → R.rel b a x → f a = some o → ∀ RR : Option V → Hp → Prop,
      (∀ r b2 H2, Sit Φ b2 H2 ((D, .lst acc) :: cs) → Same b b2 → Kept P o r b2 → RR r H2) → Turn1 g tt te vs σ x H' RR)
    (hd : ∀ D b H' o, Sit Φ b H' ((D, o) :: cs) → Same B b → Φ.H D = none → (cList P).rel b ys o → Q (.ref D) H') : LcB J g tt te vs σ Q H := by
  obtain ⟨G, Y, w, hG, hY⟩ := it
  refine lcb w (fun D i acc H' => Φ.H D = none ∧ ∃ b zs rest, Sit Φ b H' ((D, .lst acc) :: cs) ∧ Same B b ∧ Fa (P.rel b) zs acc ∧ zs.length ≤ i ∧ lcM f (as.drop i) = some rest ∧ ys = zs ++ rest) (fun D nD => ⟨S0.fresh nD, B, [], ys, S0.own nD, Same.rf _, .nil, Nat.le_refl _, hm, rfl⟩) (fun D i acc H' nD _ ⟨_, b, zs, rest, S, e, _⟩ => hG H' (hB b H' _ S e (List.suffix_cons _ _))) ?_ ?_
  · rintro D i x acc H1 H2 nD hi ⟨n0, b, zs, rest, S, e, hF, hz, hf, ey⟩ y
    obtain ⟨a, ha, q⟩ := hY i H1 x H2 hi y
    obtain ⟨b', S', e', r⟩ := q Φ b _ S e
    have hd' : as.drop i = a :: as.drop (i + 1) := by
      have hi' := (List.getElem?_eq_some_iff.mp ha)
      rw [List.drop_eq_getElem_cons hi'.1, hi'.2]
    rw [hd'] at hf
    obtain ⟨o, ho, hf⟩ := bs hf
    obtain ⟨rs, hrs, hf⟩ := bs hf
    refine hs D acc a o x b b' H2 (List.mem_of_getElem? ha) S' e e' r ho _ fun r b2 H3 S2 e2 hk => ?_
    have hF2 := fa_mono (e'.tr e2) hF
    unfold Kept at hk
    cases o with
    | none =>
      subst hk
      cases hf
      exact lcr_none (acc := acc) ⟨n0, b2, zs, _, S2, (e.tr e').tr e2, hF2, by omega, hrs, ey⟩
    | some y =>
      obtain ⟨v, rfl, hv⟩ := hk
      cases hf
      have la := hF.len
      refine lcr_some (S2.at' (i := 0) rfl) (by rw [← la]; exact big_lt (by omega)) ⟨n0, b2, zs ++ [y], rs, S2.set (i := 0) rfl, (e.tr e').tr e2, hF2.app (.one hv), by rw [List.length_append]; simp; omega, hrs, by rw [ey]; simp⟩
  · rintro D acc H' nD ⟨n0, b, zs, rest, S, e, hF, hz, hf, ey⟩
    rw [List.drop_length] at hf
    cases hf
    rw [List.append_nil] at ey
    subst ey
    exact hd D b H' _ S e n0 ⟨acc, rfl, hF, by omega⟩
/-- with a state (draws) -/
theorem lcRS (it : ItOk J Bi B as R) (S0 : Sit Φ B H cs) (hl : as.length ≤ BIG) (I : S → Hp → List (Addr × HO) → Prop) {s0 s1 : S} (h0 : I s0 B cs) {f : α → S → Option (Option β × S)} (hm : lcS f as s0 = some (ys, s1))
    (hB : ∀ s b H' c cs', Sit Φ b H' (c :: cs') → Same B b → I s b cs' → Same Bi H')
    (hs : ∀ D acc a s o x b0 b H' cs, a ∈ as → Sit Φ b H' ((D, .lst acc) :: cs) → Same B b0 → Same b0 b → I s b0 cs → R.rel b a x → f a s = some o → ∀ RR : Option V → Hp → Prop,
      (∀ r b2 H2 cs2, Sit Φ b2 H2 ((D, .lst acc) :: cs2) → Same b b2 → I o.2 b2 cs2 → Kept P o.1 r b2 → RR r H2) → Turn1 g tt te vs σ x H' RR)
    (hd : ∀ D b H' o cs, Sit Φ b H' ((D, o) :: cs) → Same B b → I s1 b cs → Φ.H D = none → (cList P).rel b ys o → Q (.ref D) H') : LcB J g tt te vs σ Q H := by
  obtain ⟨G, Y, w, hG, hY⟩ := it
  refine lcb w (fun D i acc H' => Φ.H D = none ∧ ∃ b zs rest s cs, Sit Φ b H' ((D, .lst acc) :: cs) ∧ Same B b ∧ I s b cs ∧ Fa (P.rel b) zs acc ∧ zs.length ≤ i ∧ lcS f (as.drop i) s = some (rest, s1) ∧ ys = zs ++ rest) (fun D nD => ⟨S0.fresh nD, B, [], ys, s0, cs, S0.own nD, Same.rf _, h0, .nil, Nat.le_refl _, hm, rfl⟩) (fun D i acc H' nD _ ⟨_, b, zs, rest, s, cs, S, e, hI, _⟩ => hG H' (hB s b H' _ cs S e hI)) ?_ ?_
  · rintro D i x acc H1 H2 nD hi ⟨n0, b, zs, rest, s, cs, S, e, hI, hF, hz, hf, ey⟩ y
    obtain ⟨a, ha, q⟩ := hY i H1 x H2 hi y
    obtain ⟨b', S', e', r⟩ := q Φ b _ S e
    have hd' : as.drop i = a :: as.drop (i + 1) := by
      have hi' := (List.getElem?_eq_some_iff.mp ha)
      rw [List.drop_eq_getElem_cons hi'.1, hi'.2]
    rw [hd'] at hf
    obtain ⟨o, ho, hf⟩ := bs hf
    obtain ⟨⟨rs, s2⟩, hrs, hf⟩ := bs hf
    refine hs D acc a s o x b b' H2 cs (List.mem_of_getElem? ha) S' e e' hI r ho _ fun r b2 H3 cs2 S2 e2 hI2 hk => ?_
    have hF2 := fa_mono (e'.tr e2) hF
    obtain ⟨o1, o2⟩ := o
    unfold Kept at hk
    cases o1 with
    | none =>
      subst hk
      cases hf
      exact lcr_none (acc := acc) ⟨n0, b2, zs, _, _, cs2, S2, (e.tr e').tr e2, hI2, hF2, by omega, hrs, ey⟩
    | some y =>
      obtain ⟨v, rfl, hv⟩ := hk
      cases hf
      have la := hF.len
      refine lcr_some (S2.at' (i := 0) rfl) (by rw [← la]; exact big_lt (by omega)) ⟨n0, b2, zs ++ [y], rs, _, cs2, S2.set (i := 0) rfl, (e.tr e').tr e2, hI2, hF2.app (.one hv), by rw [List.length_append]; simp; omega, hrs, by rw [ey]; simp⟩
  · rintro D acc H' nD ⟨n0, b, zs, rest, s, cs, S, e, hI, hF, hz, hf, ey⟩
    rw [List.drop_length] at hf
    cases hf
    rw [List.append_nil] at ey
    subst ey
    exact hd D b H' _ cs S e hI n0 ⟨acc, rfl, hF, by omega⟩
end
end Mf

namespace Mf
open PySem L2 PyProof.Rows
section
variable {K : PySem.W.Frag} {σ : L2.St} {H B : Hp} {Q : VK} {QT : Bool → Hp → Prop} {QA : List V → Hp → Prop} {ta tb te : TE} {tt : TT} {tA : TA} {v w x y : V} {vs : List V} {b : Bool} {Φ : Fr} {cs : List (Addr × HO)} {p : Addr} {o : HO} {α β γ δ : Type} {R : Rl α} {S : Rl β} {T : Rl γ} {U : Rl δ} {i j : Int} {s z : Str}
theorem w_ev (h : Ev te σ H v) (g : Q v H) : te σ H Q := h Q g
theorem w_evT (h : EvT tt σ H b) (g : QT b H) : tt σ H QT := h QT g
theorem w_evA (h : EvA tA σ H vs) (g : QA vs H) : tA σ H QA := h QA g
theorem w_rv {r : R2} (h : RV r x y H w) (g : Q w H) : r x y H Q := h Q g
theorem dList.le {xs : List α} (h : (dList R).rel H xs v) : xs.length ≤ BIG := let ⟨_, _, _, _, _, d⟩ := h; d
theorem dTup.le {xs : List α} (h : (dTup K R).rel H xs v) : xs.length ≤ BIG := let ⟨_, _, _, _, _, d⟩ := h; d
theorem dSeq.le {xs : List α} (h : (dSeq K R).rel H xs v) : xs.length ≤ BIG := let ⟨_, _, _, _, _, d⟩ := h; d
theorem cList.le {xs : List α} (h : (cList R).rel H xs o) : xs.length ≤ BIG := let ⟨_, _, _, d⟩ := h; d
theorem enum_le {k : Int} {xs : List α} (h : xs.length ≤ BIG) : (enumM k xs).length ≤ BIG := by unfold enumM; simpa using h
/-- a cell, as it may be read -/
theorem cList.seq {xs : List α} (h : (cList R).rel B xs o) (hp : H p = some o) (s : Same B H) : (dSeq K R).rel H xs (.ref p) := by
  obtain ⟨vs, rfl, f, l⟩ := h
  exact ⟨p, vs, rfl, .inl (SqL.of hp), fa_mono s f, l⟩
theorem cList.lst {xs : List α} (h : (cList R).rel B xs o) (n : B p = none) : (dList R).rel (upd B p o) xs (.ref p) := frzL h n
theorem cDict.dct {xs : List (Str × α)} (h : (cDict R).rel B xs o) (n : B p = none) : (dDict R).rel (upd B p o) xs (.ref p) := frzD h n
/-! new things -/
def TupQ (Q : VK) (vs : List V) (H : Hp) : Prop := vs.length ≤ sizeLine ∧ ∀ p, H p = none → Q (.ref p) (upd H p (.tup vs))
def LstQ (Q : VK) (vs : List V) (H : Hp) : Prop := vs.length ≤ sizeLine ∧ ∀ p, H p = none → Q (.ref p) (upd H p (.lst vs))
theorem x_tup (g : tA σ H fun vs H1 => TupQ Q vs H1) : tTup tA σ H Q := g
theorem x_lst (g : tA σ H fun vs H1 => LstQ Q vs H1) : tLst tA σ H Q := g
theorem mk1 {a : V} {x : α} (Z : Sit Φ B H cs) (h1 : R.rel B x a) (k : ∀ v B' H', Sit Φ B' H' cs → Same B B' → (dOne K R).rel B' x v → Q v H') : TupQ Q [a] H :=
  ⟨by show 1 ≤ sizeLine; decide, fun p n => k _ _ _ (Z.put n) (Z.updB n) ⟨p, a, rfl, SqT.of upd_same, R.mono (Z.updB n) h1⟩⟩
theorem mk2 {a b : V} {x : α} {y : β} (Z : Sit Φ B H cs) (h1 : R.rel B x a) (h2 : S.rel B y b) (k : ∀ v B' H', Sit Φ B' H' cs → Same B B' → (dPair K R S).rel B' (x, y) v → Q v H') : TupQ Q [a, b] H :=
  ⟨by show 2 ≤ sizeLine; decide, fun p n => k _ _ _ (Z.put n) (Z.updB n) ⟨p, a, b, rfl, SqT.of upd_same, R.mono (Z.updB n) h1, S.mono (Z.updB n) h2⟩⟩
theorem mk3 {a b c : V} {x : α} {y : β} {z : γ} (Z : Sit Φ B H cs) (h1 : R.rel B x a) (h2 : S.rel B y b) (h3 : T.rel B z c) (k : ∀ v B' H', Sit Φ B' H' cs → Same B B' → (dTrip K R S T).rel B' (x, y, z) v → Q v H') : TupQ Q [a, b, c] H :=
  ⟨by show 3 ≤ sizeLine; decide, fun p n => k _ _ _ (Z.put n) (Z.updB n) ⟨p, a, b, c, rfl, SqT.of upd_same, R.mono (Z.updB n) h1, S.mono (Z.updB n) h2, T.mono (Z.updB n) h3⟩⟩
theorem mk4 {a b c d : V} {x : α} {y : β} {z : γ} {w : δ} (Z : Sit Φ B H cs) (h1 : R.rel B x a) (h2 : S.rel B y b) (h3 : T.rel B z c) (h4 : U.rel B w d) (k : ∀ v B' H', Sit Φ B' H' cs → Same B B' → (dQuad K R S T U).rel B' (x, y, z, w) v → Q v H') : TupQ Q [a, b, c, d] H :=
  ⟨by show 4 ≤ sizeLine; decide, fun p n => k _ _ _ (Z.put n) (Z.updB n) ⟨p, a, b, c, d, rfl, SqT.of upd_same, R.mono (Z.updB n) h1, S.mono (Z.updB n) h2, T.mono (Z.updB n) h3, U.mono (Z.updB n) h4⟩⟩
/-- a tuple of like things -/
theorem mkT {vs : List V} {xs : List α} (Z : Sit Φ B H cs) (h : Fa (R.rel B) xs vs) (hl : xs.length ≤ BIG) (k : ∀ v B' H', Sit Φ B' H' cs → Same B B' → (dTup K R).rel B' xs v → Q v H') : TupQ Q vs H :=
  ⟨by rw [← h.len]; exact big_size hl, fun p n => k _ _ _ (Z.put n) (Z.updB n) ⟨p, vs, rfl, SqT.of upd_same, fa_mono (Z.updB n) h, hl⟩⟩
theorem mkL {vs : List V} {xs : List α} (Z : Sit Φ B H cs) (h : Fa (R.rel B) xs vs) (hl : xs.length ≤ BIG) (k : ∀ v B' H', Sit Φ B' H' cs → Same B B' → (dList R).rel B' xs v → Q v H') : LstQ Q vs H :=
  ⟨by rw [← h.len]; exact big_size hl, fun p n => k _ _ _ (Z.put n) (Z.updB n) ⟨p, vs, rfl, upd_same, fa_mono (Z.updB n) h, hl⟩⟩
/-- a list of one's own -/
theorem mkO {vs : List V} {xs : List α} (Z : Sit Φ B H cs) (h : Fa (R.rel B) xs vs) (hl : xs.length ≤ BIG) (k : ∀ p o H', Sit Φ B H' ((p, o) :: cs) → Φ.H p = none → (cList R).rel B xs o → Q (.ref p) H') : LstQ Q vs H :=
  ⟨by rw [← h.len]; exact big_size hl, fun p n => k _ _ _ (Z.own n) (Z.fresh n) ⟨vs, rfl, h, hl⟩⟩
/-- a list made by a builtin: list(x), x[a:b] .. -/
theorem nwL {vs : List V} {xs : List α} (Z : Sit Φ B H cs) (h : Fa (R.rel B) xs vs) (hl : xs.length ≤ BIG) (k : ∀ v B' H', Sit Φ B' H' cs → Same B B' → (dList R).rel B' xs v → Q v H') : ∀ p, H p = none → Q (.ref p) (upd H p (.lst vs)) := (mkL Z h hl k).2
theorem nwO {vs : List V} {xs : List α} (Z : Sit Φ B H cs) (h : Fa (R.rel B) xs vs) (hl : xs.length ≤ BIG) (k : ∀ p o H', Sit Φ B H' ((p, o) :: cs) → Φ.H p = none → (cList R).rel B xs o → Q (.ref p) H') : ∀ p, H p = none → Q (.ref p) (upd H p (.lst vs)) := (mkO Z h hl k).2
theorem nwT {vs : List V} {xs : List α} (Z : Sit Φ B H cs) (h : Fa (R.rel B) xs vs) (hl : xs.length ≤ BIG) (k : ∀ v B' H', Sit Φ B' H' cs → Same B B' → (dTup K R).rel B' xs v → Q v H') : ∀ p, H p = none → Q (.ref p) (upd H p (.tup vs)) := (mkT Z h hl k).2
/-! list(x), tuple(x) -/
theorem b_list {xs : List α} (h : (dSeq K R).rel H xs v) (hB : ∀ vs, Fa (R.rel H) xs vs → Fa (R.rel B) xs vs) (k : ∀ vs, Fa (R.rel B) xs vs → ∀ l, H l = none → Q (.ref l) (upd H l (.lst vs))) : rListQ K [v] H Q := by
  obtain ⟨p, vs, rfl, h, f, _⟩ := h
  exact ⟨p, vs, rfl, h, k vs (hB vs f)⟩
end
/-! what a sequence holds, told at the base -/
def Sq (K : PySem.W.Frag) {α : Type} (R : Rl α) (B H : Hp) (xs : List α) (v : V) : Prop := ∃ p vs, v = .ref p ∧ Sq2 K H p vs ∧ Fa (R.rel B) xs vs ∧ xs.length ≤ BIG
section
variable {K : PySem.W.Frag} {σ : L2.St} {H B : Hp} {Q : VK} {v : V} {Φ : Fr} {cs : List (Addr × HO)} {p : Addr} {o : HO} {α : Type} {R : Rl α} {xs ys : List α} {i : Int} {z : Str}
theorem sqL (h : (dList R).rel B xs v) (s : Same B H) : Sq K R B H xs v := let ⟨p, vs, a, b, c, d⟩ := h; ⟨p, vs, a, .inl (SqL.of (s _ _ b)), c, d⟩
theorem sqT (h : (dTup K R).rel B xs v) (s : Same B H) : Sq K R B H xs v := let ⟨p, vs, a, b, c, d⟩ := h; ⟨p, vs, a, .inr (Same.sqt s b), c, d⟩
theorem sqQ (h : (dSeq K R).rel B xs v) (s : Same B H) : Sq K R B H xs v := let ⟨p, vs, a, b, c, d⟩ := h; ⟨p, vs, a, Sq2.same s b, c, d⟩
theorem sqC (h : (cList R).rel B xs o) (hp : H p = some o) : Sq K R B H xs (.ref p) := by
  obtain ⟨vs, rfl, f, l⟩ := h
  exact ⟨p, vs, rfl, .inl (SqL.of hp), f, l⟩
theorem Sq.q (h : Sq K R B H xs v) (s : Same B H) : (dSeq K R).rel H xs v := let ⟨p, vs, a, b, c, d⟩ := h; ⟨p, vs, a, b, fa_mono s c, d⟩
theorem q_list (Z : Sit Φ B H cs) (h : Sq K R B H xs v) (k : ∀ v B' H', Sit Φ B' H' cs → Same B B' → (dList R).rel B' xs v → Q v H') : rListQ K [v] H Q := by
  obtain ⟨p, vs, rfl, h, f, l⟩ := h
  exact ⟨p, vs, rfl, h, nwL Z f l k⟩
theorem q_listO (Z : Sit Φ B H cs) (h : Sq K R B H xs v) (k : ∀ p o H', Sit Φ B H' ((p, o) :: cs) → Φ.H p = none → (cList R).rel B xs o → Q (.ref p) H') : rListQ K [v] H Q := by
  obtain ⟨p, vs, rfl, h, f, l⟩ := h
  exact ⟨p, vs, rfl, h, nwO Z f l k⟩
theorem q_tupL (Z : Sit Φ B H cs) (h : (dList R).rel B xs v) (k : ∀ v B' H', Sit Φ B' H' cs → Same B B' → (dTup K R).rel B' xs v → Q v H') : rTupL K [v] H Q := by
  obtain ⟨p, vs, rfl, h, f, l⟩ := h
  exact ⟨p, vs, rfl, SqL.of (Z.sub _ _ h), nwT Z f l k⟩
theorem q_tupC (Z : Sit Φ B H cs) (h : (cList R).rel B xs o) (hp : H p = some o) (k : ∀ v B' H', Sit Φ B' H' cs → Same B B' → (dTup K R).rel B' xs v → Q v H') : rTupL K [.ref p] H Q := by
  obtain ⟨vs, rfl, f, l⟩ := h
  exact ⟨p, vs, rfl, SqL.of hp, nwT Z f l k⟩
theorem q_len (h : Sq K R B H xs v) (g : Q (.int (xs.length : Int)) H) : rLenQ K [v] H Q := by
  obtain ⟨p, vs, rfl, h, f, _⟩ := h
  exact ⟨p, vs, rfl, h, by rw [← f.len]; exact g⟩
theorem rlen_q (h : Sq K R B H xs v) : ∀ Q : VK, Q (.int (xs.length : Int)) H → rLenQ K [v] H Q := fun _ g => q_len h g
theorem rin_s {zs : List Str} {s : Str} (h : Sq K dStr B H zs v) : RV (rIn K false) (.str s) v H (.bl (decide (s ∈ zs))) := by
  obtain ⟨p, vs, rfl, h, f, l⟩ := h
  exact rv_inQ ⟨p, vs, rfl, h, f, l⟩
theorem rni_s {zs : List Str} {s : Str} (h : Sq K dStr B H zs v) : RV (rIn K true) (.str s) v H (.bl (!decide (s ∈ zs))) := by
  obtain ⟨p, vs, rfl, h, f, l⟩ := h
  exact rv_niQ ⟨p, vs, rfl, h, f, l⟩
theorem rin_i {zs : List Int} (h : Sq K dInt B H zs v) : RV (rIn K false) (.int i) v H (.bl (decide (i ∈ zs))) := by
  obtain ⟨p, vs, rfl, h, f, l⟩ := h
  exact rv_inI ⟨p, vs, rfl, h, f, l⟩
theorem rni_i {zs : List Int} (h : Sq K dInt B H zs v) : RV (rIn K true) (.int i) v H (.bl (!decide (i ∈ zs))) := by
  obtain ⟨p, vs, rfl, h, f, l⟩ := h
  exact rv_niI ⟨p, vs, rfl, h, f, l⟩
theorem rall {bs : List Bool} (h : (dList dBool).rel H bs v) : ∀ Q : VK, Q (.bl (bs.all id)) H → rAll K [v] H Q := fun Q q => by
  obtain ⟨p, vs, rfl, h, f, _⟩ := h
  cases fa_bool f
  exact ⟨p, bs, rfl, SqL.of h, q⟩
theorem rany {bs : List Bool} (h : (dList dBool).rel H bs v) : ∀ Q : VK, Q (.bl (bs.any id)) H → rAny K [v] H Q := fun Q q => by
  obtain ⟨p, vs, rfl, h, f, _⟩ := h
  cases fa_bool f
  exact ⟨p, bs, rfl, SqL.of h, q⟩
/-! methods of lists -/
theorem pushM_some {x : α} {ys : List α} (h : pushM xs x = some ys) : xs.length < BIG ∧ ys = xs ++ [x] := by
  unfold pushM at h
  by_cases e : xs.length < BIG
  · rw [if_pos e] at h; cases h; exact ⟨e, rfl⟩
  · rw [if_neg e] at h; cases h
theorem catM_some {zs : List α} (h : catM xs ys = some zs) : xs.length + ys.length ≤ BIG ∧ zs = xs ++ ys := by
  unfold catM at h
  by_cases e : xs.length + ys.length ≤ BIG
  · rw [if_pos e] at h; cases h; exact ⟨e, rfl⟩
  · rw [if_neg e] at h; cases h
theorem w_tyC {P : Prop} (h : (cList R).rel B xs o) (hp : H p = some o) (g : P) : tyV K "list" (.ref p) H ∧ P := by
  obtain ⟨vs, rfl, f, _⟩ := h
  exact w_tyL (SqL.of hp) g
theorem q_append {k : Nat} {x : α} {w : V} (Z : Sit Φ B H cs) (hk : cs[k]? = some (p, o)) (h : (cList R).rel B xs o) (hx : R.rel B x w) (hm : pushM xs x = some ys) (g : ∀ o' H', Sit Φ B H' (cs.set k (p, o')) → (cList R).rel B ys o' → Q .non H') : rAppend (.ref p) [w] H Q := by
  obtain ⟨l, rfl⟩ := pushM_some hm
  obtain ⟨vs, rfl, f, _⟩ := h
  refine w_append (Z.at' hk) (by rw [← f.len]; exact big_lt (by omega)) (g _ _ (Z.set hk) ⟨_, rfl, f.app (.one hx), by rw [List.length_append]; simp; omega⟩)
theorem q_extend {k : Nat} {w : V} {zs : List α} (Z : Sit Φ B H cs) (hk : cs[k]? = some (p, o)) (h : (cList R).rel B xs o) (hx : (dList R).rel B ys w) (hm : catM xs ys = some zs) (g : ∀ o' H', Sit Φ B H' (cs.set k (p, o')) → (cList R).rel B zs o' → Q .non H') : rExtend (.ref p) [w] H Q := by
  obtain ⟨l, rfl⟩ := catM_some hm
  obtain ⟨vs, rfl, f, _⟩ := h
  obtain ⟨q, us, rfl, hq, f2, l2⟩ := hx
  refine ⟨p, q, vs, us, rfl, rfl, Z.at' hk, Z.sub _ _ hq, by rw [← f.len, ← f2.len]; exact big_size l, g _ _ (Z.set hk) ⟨_, rfl, f.app f2, by rw [List.length_append]; exact l⟩⟩
theorem fa_dropLast {R' : α → V → Prop} {xs : List α} {vs : List V} (h : Fa R' xs vs) : Fa R' xs.dropLast vs.dropLast := by
  induction h with
  | nil => exact .nil
  | cons r t ih =>
    cases t with
    | nil => exact .nil
    | cons r2 t2 => exact .cons r ih
theorem q_pop {k : Nat} {x : α} (Z : Sit Φ B H cs) (hk : cs[k]? = some (p, o)) (h : (cList R).rel B xs o) (hm : xs.getLast? = some x) (g : ∀ w o' H', Sit Φ B H' (cs.set k (p, o')) → (cList R).rel B xs.dropLast o' → R.rel B x w → Q w H') : rPop (.ref p) [] H Q := by
  obtain ⟨vs, rfl, f, l⟩ := h
  rw [List.getLast?_eq_getElem?] at hm
  obtain ⟨w, hw, r⟩ := f.getL hm
  rw [f.len] at hw
  exact ⟨p, vs, w, rfl, rfl, Z.at' hk, hw, g w _ _ (Z.set hk) ⟨_, rfl, fa_dropLast f, by rw [List.length_dropLast]; omega⟩ r⟩
theorem q_insert {k : Nat} {x : α} {w : V} (Z : Sit Φ B H cs) (hk : cs[k]? = some (p, o)) (h : (cList R).rel B xs o) (hx : R.rel B x w) (hm : (if 0 ≤ i ∧ i < 2 ^ 63 ∧ xs.length < BIG then some (xs.take i.toNat ++ [x] ++ xs.drop i.toNat) else none) = some ys) (g : ∀ o' H', Sit Φ B H' (cs.set k (p, o')) → (cList R).rel B ys o' → Q .non H') : rInsert (.ref p) [.int i, w] H Q := by
  by_cases e : 0 ≤ i ∧ i < 2 ^ 63 ∧ xs.length < BIG
  · rw [if_pos e] at hm
    cases hm
    obtain ⟨vs, rfl, f, l⟩ := h
    have ft : ∀ n, Fa (R.rel B) (xs.take n) (vs.take n) ∧ Fa (R.rel B) (xs.drop n) (vs.drop n) := fun n => by
      clear l e Z hk g
      induction f generalizing n with
      | nil => simp; exact .nil
      | cons r t ih =>
        cases n with
        | zero => exact ⟨.nil, .cons r t⟩
        | succ n => exact ⟨.cons r (ih n).1, (ih n).2⟩
    refine w_insert (Z.at' hk) (by rw [← f.len]; exact big_lt (by omega)) e.1 e.2.1 (g _ _ (Z.set hk) ⟨_, rfl, ((ft _).1.app (.one hx)).app (ft _).2, ?_⟩)
    simp only [List.length_append, List.length_take, List.length_drop, List.length_cons, List.length_nil]
    omega
  · rw [if_neg e] at hm; cases hm
theorem q_cat {w : V} {zs : List α} (Z : Sit Φ B H cs) (h : (dList R).rel B xs v) (hx : (dList R).rel B ys w) (hm : catM xs ys = some zs) (k : ∀ v B' H', Sit Φ B' H' cs → Same B B' → (dList R).rel B' zs v → Q v H') : rCat v w H Q := by
  obtain ⟨l, rfl⟩ := catM_some hm
  obtain ⟨p, vs, rfl, hp, f, _⟩ := h
  obtain ⟨q, us, rfl, hq, f2, l2⟩ := hx
  exact w_cat (Z.sub _ _ hp) (Z.sub _ _ hq) (by rw [← f.len, ← f2.len]; exact big_size l) (nwL Z (f.app f2) (by rw [List.length_append]; exact l) k)
theorem rv_addS {a b c : Str} (h : addS a b = some c) : RV rAddS (.str a) (.str b) H (.str c) := fun Q q => by
  unfold addS at h
  by_cases e : a.length + b.length ≤ sizeLine
  · rw [if_pos e] at h; cases h; exact ⟨a, b, rfl, rfl, e, q⟩
  · rw [if_neg e] at h; cases h
end
end Mf

namespace Mf
open PySem L2 PyProof.Rows
def MidD (M : L2.St → Hp → Prop) : L2.St → Hp → Prop := M
def FUEL : Nat := 1000000
theorem ifT {c : Bool} {α : Type} {x y : α} (h : c = true) : (if c = true then x else y) = x := if_pos h
theorem ifF {c : Bool} {α : Type} {x y : α} (h : c = false) : (if c = true then x else y) = y := if_neg (by rw [h]; decide)
/-! ### the source of draws -/
structure Src3 where
  g : Int
  s : Int
  c : Int
def Src3.ok (s : Src3) (n : Int) : Prop := 0 ≤ s.s ∧ s.s < 2147483647 ∧ 0 ≤ s.c ∧ s.c ≤ n
def cSrc : Cl Src3 := ⟨fun _ s o => o = .lst [.int s.g, .int s.s, .int s.c], fun _ h => h⟩
def m_draw (s : Src3) (m : Int) : Option (Int × Src3) :=
  if (0 ≤ s.s ∧ s.s < 2147483647 ∧ 0 ≤ s.c ∧ s.c < 1000000000) ∧ 0 < m ∧ m < 2 ^ 1000 then
    (if 1 < s.g then some (s.g % m, ⟨s.g / m, s.s, s.c⟩)
    else some ((((s.s + 7919 * (s.c + 1)) ^ 5 % 2147483647 + (s.c + 1)) * 40692 % 2147483629) % m, ⟨s.g, s.s, s.c + 1⟩)) else none
theorem draw_ok {s : Src3} {n m : Int} (h : s.ok n) (hn : n < 1000000000) (h0 : 0 < m) (h1 : m < 2 ^ 1000) : ∃ v s', m_draw s m = some (v, s') ∧ 0 ≤ v ∧ v < m ∧ s'.ok (n + 1) := by
  unfold m_draw
  obtain ⟨a, b, c, d⟩ := h
  rw [if_pos ⟨⟨a, b, c, by omega⟩, h0, h1⟩]
  by_cases e : 1 < s.g
  · rw [if_pos e]
    exact ⟨_, _, rfl, Int.emod_nonneg _ (by omega), Int.emod_lt_of_pos _ h0, a, b, c, by show s.c ≤ n + 1; omega⟩
  · rw [if_neg e]
    exact ⟨_, _, rfl, Int.emod_nonneg _ (by omega), Int.emod_lt_of_pos _ h0, a, b, by show 0 ≤ s.c + 1; omega, by show s.c + 1 ≤ n + 1; omega⟩
def sp_drawM : Sp := fun vs H Q _ => ∃ (B : Hp) (x_0 : Src3) (p_0 : Addr) (o_0 : HO) (x_1 : Int) (r : Int × Src3), vs = [.ref p_0, .int x_1] ∧ Same B H ∧ (H p_0 = some o_0 ∧ B p_0 = none ∧ cSrc.rel B x_0 o_0) ∧ m_draw x_0 x_1 = some r ∧
  ∀ (v : V) (B' H' : Hp) (op_0 : HO), Sit ⟨B, H, [p_0]⟩ B' H' [(p_0, op_0)] → dInt.rel B' r.1 v → cSrc.rel B' r.2 op_0 → Q v H'
/-! ### signs of a text -/
def dChr : Rl Str := ⟨fun _ x v => v = .str x ∧ x.length = 1, fun _ h => h⟩
def charsM (z : Str) : Option (List Str) := if z.length ≤ BIG then some (chars z) else none
theorem charsM_some {z : Str} {cs : List Str} (h : charsM z = some cs) : z.length ≤ BIG ∧ cs = chars z := by
  unfold charsM at h
  by_cases e : z.length ≤ BIG
  · rw [if_pos e] at h; cases h; exact ⟨e, rfl⟩
  · rw [if_neg e] at h; cases h
theorem chars_len (z : Str) : (chars z).length = z.length := by unfold chars; rw [List.length_map, len_list]
theorem charsM_le {z : Str} {cs : List Str} (h : charsM z = some cs) : cs.length ≤ BIG := by
  obtain ⟨a, rfl⟩ := charsM_some h
  rw [chars_len]; exact a
theorem ixS_len {z c : Str} {i : Int} (h : ixS z i = some c) : c.length = 1 := by
  unfold ixS at h
  by_cases e : z.length ≤ sizeLine
  · rw [if_pos e] at h
    cases g : atI z.cps.toList i with
    | none => rw [g] at h; cases h
    | some n => rw [g] at h; cases h; rfl
  · rw [if_neg e] at h; cases h
section
variable {α : Type} {K : PySem.W.Frag} {R : Rl α} {B H : Hp} {σ : L2.St} {Q : VK} {v : V} {Φ : Fr} {cs : List (Addr × HO)} {p : Addr} {o : HO} {xs : List α} {i j : Int} {s z : Str} {ta tb td ty : TE}
theorem w_itSM {R' : It → Hp → Prop} {zs : List Str} (h : charsM z = some zs) (g : ∀ J, ItOk J B B zs dChr → R' J H) : WS R' (.str z) H := by
  obtain ⟨_, rfl⟩ := charsM_some h
  refine ⟨z, rfl, g _ ?_⟩
  have e : (chars z).length = z.cps.size := by unfold chars; simp
  refine ⟨_, _, by rw [e]; exact walk_str, fun _ _ => trivial, ?_⟩
  rintro i H x H' hi ⟨rfl, c, hc, rfl⟩
  refine ⟨⟨#[c]⟩, by unfold chars; simp [hc], fun Φ b cs S e => ⟨b, S, Same.rf _, rfl, rfl⟩⟩
theorem rv_niC {c t : Str} (h : c.length = 1) : RV (rInC true) (.str c) (.str t) H (.bl (!decide (c ∈ chars t))) := fun Q q => by
  have e : ∃ n, c = ⟨#[n]⟩ := by
    obtain ⟨⟨l⟩⟩ := c
    match l, h with
    | [n], _ => exact ⟨n, rfl⟩
  obtain ⟨n, rfl⟩ := e
  refine ⟨n, t, rfl, rfl, ?_⟩
  have : decide (n ∈ t.cps.toList) = decide ((⟨#[n]⟩ : Str) ∈ chars t) := by
    refine decide_eq_decide.mpr ⟨fun z => List.mem_map.mpr ⟨n, z, rfl⟩, fun z => ?_⟩
    obtain ⟨m, hm, e⟩ := List.mem_map.mp z
    injection e with e
    have : m = n := by simpa using e
    exact this ▸ hm
  simp only [if_true]
  rw [this]; exact q
theorem tupC {a : Addr} {zs : List Str} (h : ∀ H, SqT K H a (zs.map V.str)) (hl : zs.length ≤ BIG) : (dTup K dStr).rel B zs (.ref a) := ⟨a, _, rfl, h _, strs_fa, hl⟩
theorem modM_some {k : Int} (h : modM i j = some k) : 0 < j ∧ k = i % j := by
  unfold modM at h
  by_cases e : 0 < j
  · rw [if_pos e] at h; cases h; exact ⟨e, rfl⟩
  · rw [if_neg e] at h; cases h
/-! None -/
theorem rv_isN {R : Rl α} {x : Option α} (h : (dOpt R).rel B x v) : RV rIsN v .non H (.bl x.isNone) := fun Q q => by
  cases x with
  | none => cases (show v = .non from h); exact ⟨rfl, q⟩
  | some a => exact ⟨rfl, by rw [decide_eq_false h.2]; exact q⟩
theorem rv_notN {R : Rl α} {x : Option α} (h : (dOpt R).rel B x v) : RV rNotN v .non H (.bl (!x.isNone)) := fun Q q => by
  cases x with
  | none => cases (show v = .non from h); exact ⟨rfl, q⟩
  | some a => exact ⟨rfl, by rw [decide_eq_false h.2]; exact q⟩
/-! cuts of texts -/
def cutM (z : Str) (lo hi : Option Int) : Option Str := if z.length ≤ sizeLine then some (cutS z lo hi) else none
theorem q_cut {lo hi : Option Int} {r : Str} (h : cutM z lo hi = some r) (g : Q (.str r) H) : rSlS (.str z) lo hi H Q := by
  unfold cutM at h
  by_cases e : z.length ≤ sizeLine
  · rw [if_pos e] at h; cases h; exact ⟨z, rfl, e, g⟩
  · rw [if_neg e] at h; cases h
def joinM (z : Str) (zs : List Str) : Option Str := if (zs.map (·.length)).sum + zs.length * z.length ≤ 16777216 then some (Txt.join z zs) else none
theorem q_join {zs : List Str} {r : Str} (h : Sq K dStr B H zs v) (hm : joinM z zs = some r) (g : Q (.str r) H) : rJoin K (.str z) [v] H Q := by
  obtain ⟨p, vs, rfl, h, f, _⟩ := h
  cases fa_str f
  unfold joinM at hm
  by_cases e : (zs.map (·.length)).sum + zs.length * z.length ≤ 16777216
  · rw [if_pos e] at hm; cases hm
    exact ⟨z, p, zs, rfl, rfl, h, e, g⟩
  · rw [if_neg e] at hm; cases hm
def insM (xs : List α) (i : Int) (x : α) : Option (List α) := if 0 ≤ i ∧ i < 2 ^ 63 ∧ xs.length < BIG then some (xs.take i.toNat ++ [x] ++ xs.drop i.toNat) else none
def strI (i : Int) : Option Str := if i.natAbs.log2 < 1920 then some (toString i) else none
theorem rstrI {r : Str} (h : strI i = some r) : ∀ Q : VK, Q (.str r) H → rStrI [.int i] H Q := fun Q q => by
  unfold strI at h
  by_cases e : i.natAbs.log2 < 1920
  · rw [if_pos e] at h; cases h; exact ⟨i, rfl, e, q⟩
  · rw [if_neg e] at h; cases h
/-! dicts by texts -/
def dGet (kvs : List (Str × α)) (k : Str) : Option α := (kvs.find? fun x => decide (x.1 = k)).map (·.2)
def dHas (kvs : List (Str × α)) (k : Str) : Bool := (dGet kvs k).isSome
theorem faD_get {kvs : List (Str × α)} {ws : List (Key × V)} (h : FaD R B kvs ws) (k : Str) : match dGet kvs k with
    | none => valV ws (Sum.inr k) = none
    | some x => ∃ w, valV ws (Sum.inr k) = some w ∧ R.rel B x w := by
  unfold dGet
  induction h with
  | nil => rfl
  | @cons a b as bs' r t ih =>
    by_cases e : a.1 = k
    · simp only [List.find?_cons, e, decide_true, Option.map_some]
      exact ⟨b.2, valV_pos (by rw [r.1, e]), r.2⟩
    · simp only [List.find?_cons, e, decide_false]
      rw [valV_neg (fun z => e (by rw [r.1] at z; injection z))]
      exact ih
theorem dget_D {kvs : List (Str × α)} {k : Str} {x : α} (h : (dDict R).rel B kvs v) (e : dGet kvs k = some x) : ∃ w, R.rel B x w ∧ ∀ H, Same B H → ∃ a, v = .ref a ∧ DGet H a (.str k) (some w) := by
  obtain ⟨p, ws, rfl, h, f, _⟩ := h
  have q := faD_get f k
  rw [e] at q
  obtain ⟨w, hw, r⟩ := q
  exact ⟨w, r, fun H s => ⟨p, rfl, by rw [← hw]; exact DGet.k (k := Sum.inr k) (s _ _ h)⟩⟩
theorem dget_C {kvs : List (Str × α)} {k : Str} {x : α} (h : (cDict R).rel B kvs o) (e : dGet kvs k = some x) : ∃ w, R.rel B x w ∧ ∀ H, H p = some o → ∃ a, V.ref p = .ref a ∧ DGet H a (.str k) (some w) := by
  obtain ⟨ws, rfl, f, _⟩ := h
  have q := faD_get f k
  rw [e] at q
  obtain ⟨w, hw, r⟩ := q
  exact ⟨w, r, fun H s => ⟨p, rfl, by rw [← hw]; exact DGet.k (k := Sum.inr k) s⟩⟩
theorem Ev.dget {w : V} {k : Str} (hd : Ev td σ H v) (hy : Ev ty σ H (.str k)) (h : ∃ a, v = .ref a ∧ DGet H a (.str k) (some w)) : Ev (tDGet td ty) σ H w := fun Q q => hd _ (hy _ (let ⟨a, e, g⟩ := h; ⟨a, w, e, g, q⟩))
def Dq (R : Rl α) (B H : Hp) (kvs : List (Str × α)) (v : V) : Prop := ∃ p ws, v = .ref p ∧ H p = some (.dK ws) ∧ FaD R B kvs ws
theorem dqD {kvs : List (Str × α)} (h : (dDict R).rel B kvs v) (s : Same B H) : Dq R B H kvs v := let ⟨p, ws, a, b, c, _⟩ := h; ⟨p, ws, a, s _ _ b, c⟩
theorem dqC {kvs : List (Str × α)} (h : (cDict R).rel B kvs o) (hp : H p = some o) : Dq R B H kvs (.ref p) := by
  obtain ⟨ws, rfl, f, _⟩ := h
  exact ⟨p, ws, rfl, hp, f⟩
theorem Dq.has {kvs : List (Str × α)} {k : Str} (h : Dq R B H kvs v) : ∃ a o, v = .ref a ∧ DGet H a (.str k) o ∧ o.isSome = dHas kvs k := by
  obtain ⟨p, ws, rfl, h, f⟩ := h
  refine ⟨p, _, rfl, DGet.k (k := Sum.inr k) h, ?_⟩
  have q := faD_get f k
  unfold dHas
  cases e : dGet kvs k with
  | none => rw [e] at q; simp [q]
  | some x => rw [e] at q; obtain ⟨w, hw, _⟩ := q; simp [hw]
theorem Ev.din {kvs : List (Str × α)} {k : Str} (hy : Ev ty σ H (.str k)) (hd : Ev td σ H v) (h : Dq R B H kvs v) : Ev (tDIn ty td) σ H (.bl (dHas kvs k)) := fun Q q => hy _ (hd _ (let ⟨a, o, e, g, b⟩ := h.has (k := k); ⟨a, o, e, g, by rw [b]; exact q⟩))
theorem Ev.dni {kvs : List (Str × α)} {k : Str} (hy : Ev ty σ H (.str k)) (hd : Ev td σ H v) (h : Dq R B H kvs v) : Ev (tDNotIn ty td) σ H (.bl (!dHas kvs k)) := fun Q q => hy _ (hd _ (let ⟨a, o, e, g, b⟩ := h.has (k := k); ⟨a, o, e, g, by rw [b]; exact q⟩))
theorem rlen_d {kvs : List (Str × α)} (h : Dq R B H kvs v) : ∀ Q : VK, Q (.int (kvs.length : Int)) H → rLenD [v] H Q := fun Q q => by
  obtain ⟨p, ws, rfl, h, f⟩ := h
  exact ⟨p, ws, rfl, h, by rw [← f.len]; exact q⟩
/-! a walked own list -/
theorem Sit.withB {b : Hp} (Z : Sit Φ b H cs) (e : Same B b) {i : Nat} (h : cs[i]? = some (p, o)) : Same (upd B p o) H := fun a u q => by
  by_cases z : a = p
  · subst z; rw [upd_same] at q; rw [Z.at' h]; exact q
  · rw [upd_ne z] at q; exact Z.sub a u (e a u q)
theorem Sit.withS {b : Hp} {cs' : List (Addr × HO)} (Z : Sit Φ b H cs') (e : Same B b) (q : cs <:+ cs') {i : Nat} (h : cs[i]? = some (p, o)) : Same (upd B p o) H := by
  obtain ⟨j, hj⟩ := List.getElem?_of_mem (q.subset (List.mem_of_getElem? h))
  exact Z.withB e hj
theorem Ev.fld {K : PySem.W.Frag} {f : Str} {w : V} (ha : Ev ta σ H v) (h : ∃ a C dx fs, v = .ref a ∧ H a = some (.ins C dx fs) ∧ Cls K C ∧ NoAttr K C f ∧ fs.lookup f = some w) : Ev (tFld K ta f) σ H w := fun Q q => ha _ (let ⟨a, C, dx, fs, e, h1, h2, h3, h4⟩ := h; ⟨a, C, dx, fs, w, e, h1, h2, h3, h4, q⟩)
end
end Mf
namespace Mm
open PySem L2 Mf
theorem use_draw {Φ : Fr} {B H : Hp} {cs : List (Addr × HO)} {Q : VK} {E : XK} {r : Int × Src3} {x_0 : Src3} {p_0 : Addr} {o_0 : HO} {i1 : Nat} {x_1 : Int} {v_1 : V} (Z : Sit Φ B H cs) (hc_0 : cs[i1]? = some (p_0, o_0)) (h_0 : cSrc.rel B x_0 o_0) (h_1 : dInt.rel B x_1 v_1) (hm : m_draw x_0 x_1 = some r) (k : ∀ (v : V) (B' H' : Hp) (op_0 : HO), Sit Φ B' H' (cs.set i1 (p_0, op_0)) → Same B B' → dInt.rel B' r.1 v → cSrc.rel B' r.2 op_0 → Q v H') : sp_drawM ([.ref p_0, v_1] ++ []) H Q E := by
  cases h_1
  exact ⟨B, x_0, p_0, o_0, x_1, r, rfl, Z.sub, ⟨Z.at' hc_0, Z.atB hc_0, h_0⟩, hm, fun v B' H' op_0 Z' h qp_0 => k v B' H' op_0 (Z.call1 hc_0 Z') Z'.grow h qp_0⟩
end Mm

namespace Mf
open PySem L2 PyProof.Rows
/-! ### objects of the program's classes -/
structure Fl (α : Type) where
  rel : Hp → α → List (Str × V) → Prop
  mono : ∀ {H H' : Hp} {x : α} {fs : List (Str × V)}, Same H H' → rel H x fs → rel H' x fs
def dObj {α : Type} (C : Addr) (F : Fl α) : Rl α := ⟨fun H x v => ∃ p dx fs, v = .ref p ∧ H p = some (.ins C dx fs) ∧ F.rel H x fs, fun e ⟨p, dx, fs, a, b, c⟩ => ⟨p, dx, fs, a, e _ _ b, F.mono e c⟩⟩
/-- __init__: from the arguments (pre) to the fields (post) -/
def SpI (C : Addr) (pre : Hp → List V → Prop) (post : Hp → List (Str × V) → Prop) : Sp := fun vs H Q _ => ∃ B x dx ws, vs = .ref x :: ws ∧ Same B H ∧ H x = some (.ins C dx []) ∧ B x = none ∧ pre B ws ∧
  ∀ B' H' fs, Sit ⟨B, H, [x]⟩ B' H' [(x, .ins C dx fs)] → post B' fs → Q .non H'
section
variable {α : Type} {K : PySem.W.Frag} {C : Addr} {F : Fl α} {Φ : Fr} {B H : Hp} {cs : List (Addr × HO)} {Q : VK} {E : XK} {r : α} {vs : List V} {pre : Hp → List V → Prop} {post : Hp → List (Str × V) → Prop}
theorem mkObj (Z : Sit Φ B H cs) (hpre : ∀ B', Same B B' → pre B' vs) (hpost : ∀ B' fs, post B' fs → F.rel B' r fs) (k : ∀ v B' H', Sit Φ B' H' cs → Same B B' → (dObj C F).rel B' r v → Q v H') : MkB C (SpI C pre post) E Q vs H := by
  intro x dx nx ndx ne
  have Z1 := Z.put (o := .own x) ndx
  have nx1 : upd H dx (.own x) x = none := by rw [upd_ne (Ne.symm ne)]; exact nx
  have Z2 := Z1.own (o := .ins C dx []) nx1
  refine ⟨_, x, dx, vs, rfl, Z2.sub, upd_same, Z2.atB (i := 0) rfl, hpre _ (Z.updB ndx), fun B' H' fs Z' q => ⟨rfl, ?_⟩⟩
  have Z3 : Sit Φ B' H' ((x, .ins C dx fs) :: cs) := Z2.call1 (i := 0) rfl Z'
  have Z4 : Sit Φ (upd B' x (.ins C dx fs)) H' cs := Z3.frz (i := 0) rfl (Z1.fresh nx1)
  have s3 := Z3.frzS (i := 0) rfl
  exact k _ _ _ Z4 ((Z.updB ndx).tr (Z'.grow.tr s3)) ⟨x, dx, fs, rfl, upd_same, F.mono s3 (hpost _ _ q)⟩
theorem q_sfld {i : Nat} {p dx : Addr} {f : Str} {y : V} {fs fs' : List (Str × V)} {R : Hp → Prop} (Z : Sit Φ B H cs) (hk : cs[i]? = some (p, .ins C dx fs)) (hc : Cls K C) (hn : NoAttr K C f) (hl : fs.length < 1000) (hp : putF f y fs = fs') (g : ∀ H', Sit Φ B H' (cs.set i (p, .ins C dx fs')) → R H') :
    ∃ a C dx fs, V.ref p = .ref a ∧ H a = some (.ins C dx fs) ∧ Cls K C ∧ NoAttr K C f ∧ fs.length < 1000 ∧ R (upd H a (.ins C dx (putF f y fs))) :=
  ⟨p, C, dx, fs, rfl, Z.at' hk, hc, hn, hl, g _ (by rw [hp]; exact Z.set hk)⟩
theorem obj_ty {x : α} {v : V} (ic : C8.InsC K C) (h : (dObj C F).rel H x v) : TyX K H v (.ref C) := by
  obtain ⟨p, dx, fs, rfl, h, _⟩ := h
  exact tyx_i ic h
end
/-! ### data compared -/
def Dr (K : PySem.W.Frag) {α : Type} (R : Rl α) (d : α → PyData) : Prop := ∀ {H : Hp} {x : α} {v : V}, R.rel H x v → Dp K H v (d x)
section
variable {α β γ : Type} {K : PySem.W.Frag} {R : Rl α} {S : Rl β} {T : Rl γ} {d : α → PyData} {e : β → PyData} {t : γ → PyData} {H B : Hp} {v w : V} {x y : α} {Q : VK}
theorem drInt : Dr K dInt PyData.int := fun h => by cases h; exact .int _
theorem drStr : Dr K dStr PyData.str := fun h => by cases h; exact .str _
theorem drBool : Dr K dBool PyData.bool := fun h => by cases h; exact .bl _
theorem drAny : Dr K (dAny K) id := fun h => h
theorem dr_fa (D : Dr K R d) {xs : List α} {vs : List V} (h : Fa (R.rel H) xs vs) : DpAll K H vs (xs.map d) := by
  induction h with
  | nil => exact .nil
  | cons r _ ih => exact .cons (D r) ih
theorem drL (D : Dr K R d) : Dr K (dList R) (fun xs => .list (xs.map d)) := fun ⟨p, vs, e, h, f, _⟩ => by
  cases e; exact .lst (SqL.of h) (dr_fa D f)
theorem drT (D : Dr K R d) : Dr K (dTup K R) (fun xs => .tuple (xs.map d)) := fun ⟨p, vs, e, h, f, _⟩ => by
  cases e; exact .tup h (dr_fa D f)
theorem dr1 (D : Dr K R d) : Dr K (dOne K R) (fun x => .tuple [d x]) := fun ⟨p, a, e, h, r⟩ => by
  cases e; exact .tup h (.cons (D r) .nil)
theorem dr2 (D : Dr K R d) (E : Dr K S e) : Dr K (dPair K R S) (fun x => .tuple [d x.1, e x.2]) := fun ⟨p, a, b, q, h, r, s⟩ => by
  cases q; exact .tup h (.cons (D r) (.cons (E s) .nil))
theorem dr3 (D : Dr K R d) (E : Dr K S e) (F : Dr K T t) : Dr K (dTrip K R S T) (fun x => .tuple [d x.1, e x.2.1, t x.2.2]) := fun ⟨p, a, b, c, q, h, r, s, u⟩ => by
  cases q; exact .tup h (.cons (D r) (.cons (E s) (.cons (F u) .nil)))
/-- == of data, where the model tells it -/
def eqM (d : α → PyData) (x y : α) : Option Bool := if SeqAt.shaped (d x) = true ∧ SeqAt.shaped (d y) = true then some (PyData.eqv (d x) (d y)) else none
def eqD (x y : PyData) : Option Bool := if SeqAt.shaped x = true ∧ SeqAt.shaped y = true then some (PyData.eqv x y) else none
theorem rv_eqD {x : α} {y : β} {b : Bool} (D : Dr K R d) (E : Dr K S e) (h1 : R.rel H x v) (h2 : S.rel H y w) (hm : eqD (d x) (e y) = some b) : RV (rEqD K) v w H (.bl b) := fun Q q => by
  unfold eqD at hm
  by_cases c : SeqAt.shaped (d x) = true ∧ SeqAt.shaped (e y) = true
  · rw [if_pos c] at hm; cases hm; exact ⟨_, _, D h1, E h2, c.1, c.2, q⟩
  · rw [if_neg c] at hm; cases hm
theorem rv_neD {x : α} {y : β} {b : Bool} (D : Dr K R d) (E : Dr K S e) (h1 : R.rel H x v) (h2 : S.rel H y w) (hm : eqD (d x) (e y) = some b) : RV (rNeD K) v w H (.bl (!b)) := fun Q q => by
  unfold eqD at hm
  by_cases c : SeqAt.shaped (d x) = true ∧ SeqAt.shaped (e y) = true
  · rw [if_pos c] at hm; cases hm; exact ⟨_, _, D h1, E h2, c.1, c.2, q⟩
  · rw [if_neg c] at hm; cases hm
/-- `in` of data -/
def inD (x : PyData) (ys : List PyData) : Option Bool := if SeqAt.shaped x = true ∧ SeqAt.shaped (.list ys) = true then some (ys.any fun z => PyData.eqv z x) else none
theorem rv_inD {x : α} {ys : List β} {b : Bool} (D : Dr K R d) (E : Dr K (dList S) (fun xs => .list (xs.map e))) (h1 : R.rel H x v) (h2 : (dList S).rel H ys w) (hm : inD (d x) (ys.map e) = some b) : RV (rInD K) v w H (.bl b) := fun Q q => by
  unfold inD at hm
  by_cases c : SeqAt.shaped (d x) = true ∧ SeqAt.shaped (.list (ys.map e)) = true
  · rw [if_pos c] at hm; cases hm; exact ⟨_, _, D h1, E h2, c.1, c.2, q⟩
  · rw [if_neg c] at hm; cases hm
theorem rv_niD {x : α} {ys : List β} {b : Bool} (D : Dr K R d) (E : Dr K (dList S) (fun xs => .list (xs.map e))) (h1 : R.rel H x v) (h2 : (dList S).rel H ys w) (hm : inD (d x) (ys.map e) = some b) : RV (rNotInD K) v w H (.bl (!b)) := fun Q q => by
  unfold inD at hm
  by_cases c : SeqAt.shaped (d x) = true ∧ SeqAt.shaped (.list (ys.map e)) = true
  · rw [if_pos c] at hm; cases hm; exact ⟨_, _, D h1, E h2, c.1, c.2, q⟩
  · rw [if_neg c] at hm; cases hm
/-- == of dicts of data -/
def eqDict (d : α → PyData) (xs ys : List (Str × α)) : Option Bool := if (∀ x ∈ xs, SeqAt.shaped (d x.2) = true) ∧ (∀ x ∈ ys, SeqAt.shaped (d x.2) = true) then some (xs.length == ys.length && xs.all fun x => match dGet ys x.1 with | none => false | some y => PyData.eqv (d x.2) (d y)) else none
theorem hits_of (D : Dr K R d) {ys : List (Str × α)} {ls : List (Key × V)} (hy : FaD R H ys ls) (sy : ∀ x ∈ ys, SeqAt.shaped (d x.2) = true) : ∀ {xs : List (Str × α)} {ks : List (Key × V)}, FaD R H xs ks → (∀ x ∈ xs, SeqAt.shaped (d x.2) = true) → HitsV K H ls ks (xs.all fun x => match dGet ys x.1 with | none => false | some y => PyData.eqv (d x.2) (d y)) := fun {xs ks} hx => by
  unfold FaD at hx
  induction hx with
  | nil => intro _; exact .nil
  | @cons a b as bs' r t ih =>
    intro sx
    obtain ⟨k, v⟩ := b
    obtain ⟨rk, rv⟩ := r
    cases (show k = Sum.inr a.1 from rk)
    have q := faD_get hy a.1
    rw [List.all_cons]
    cases e : dGet ys a.1 with
    | none =>
      rw [e] at q
      simp only [Bool.false_and]
      exact .miss q
    | some y =>
      rw [e] at q
      obtain ⟨w, hw, rw'⟩ := q
      have my : ∃ z ∈ ys, z.2 = y := by
        unfold dGet at e
        cases f : ys.find? (fun x => decide (x.1 = a.1)) with
        | none => rw [f] at e; cases e
        | some z => rw [f] at e; cases e; exact ⟨z, List.mem_of_find?_eq_some f, rfl⟩
      obtain ⟨z, hz, rfl⟩ := my
      exact .hit hw (D rv) (D rw') (sx a List.mem_cons_self) (sy z hz) (ih fun x hx => sx x (List.mem_cons_of_mem _ hx))
theorem rv_eqDict {b : Bool} {xs ys : List (Str × α)} (D : Dr K R d) (h1 : (dDict R).rel H xs v) (h2 : (dDict R).rel H ys w) (hm : eqDict d xs ys = some b) : RV (rEqDD K) v w H (.bl b) := fun Q q => by
  unfold eqDict at hm
  obtain ⟨p, ks, rfl, hp, f, _⟩ := h1
  obtain ⟨p', ls, rfl, hp', f', _⟩ := h2
  by_cases c : (∀ x ∈ xs, SeqAt.shaped (d x.2) = true) ∧ (∀ x ∈ ys, SeqAt.shaped (d x.2) = true)
  · rw [if_pos c] at hm; cases hm
    refine ⟨p, p', ks, ls, _, rfl, rfl, hp, hp', fun _ => hits_of D f' c.2 f c.1, ?_⟩
    rw [← f.len, ← f'.len]; exact q
  · rw [if_neg c] at hm; cases hm
end
/-! ### isinstance -/
section
variable {K : PySem.W.Frag} {H B : Hp} {C : Addr} {α : Type} {R : Rl α} {v : V} {s : Str} {i : Int} {b : Bool}
theorem isi_s {T : String} (hk : PySem.W.kitOne K (.type "str") (.type T) = some b) : ∀ Q : VK, Q (.bl b) H → rIsi K [.str s, .ty T] H Q := fun Q q => w_isi (.ty T) (.base (.str s)) hk q
theorem isi_sC (hk : PySem.W.kitOne K (.type "str") (.ref C) = some b) : ∀ Q : VK, Q (.bl b) H → rIsi K [.str s, .ref C] H Q := fun Q q => w_isi (.own C) (.base (.str s)) hk q
theorem isi_i {T : String} (hk : PySem.W.kitOne K (.type "int") (.type T) = some b) : ∀ Q : VK, Q (.bl b) H → rIsi K [.int i, .ty T] H Q := fun Q q => w_isi (.ty T) (.base (.int i)) hk q
theorem isi_qC {xs : List α} (h : Sq K R B H xs v) (kl : PySem.W.kitOne K (.type "list") (.ref C) = some b) (kt : PySem.W.kitOne K (.type "tuple") (.ref C) = some b) : ∀ Q : VK, Q (.bl b) H → rIsi K [v, .ref C] H Q := fun Q q => by
  obtain ⟨p, vs, rfl, h | h, _, _⟩ := h
  · exact w_isi (.own C) (tyx_l h) kl q
  · exact w_isi (.own C) (tyx_t h) kt q
theorem isi_o {F : Fl α} {x : α} {D : Addr} (ic : C8.InsC K C) (h : (dObj C F).rel B x v) (s : Same B H) (hk : PySem.W.kitOne K (.ref C) (.ref D) = some b) : ∀ Q : VK, Q (.bl b) H → rIsi K [v, .ref D] H Q := fun Q q => w_isi (.own D) (obj_ty ic ((dObj C F).mono s h)) hk q
end
/-! ### f-strings -/
def fcat (acc y : Str) : Option Str := if (acc ++ y).length ≤ sizeLine then some (acc ++ y) else none
def fmtS (y : Str) : Option Str := if y.length ≤ sizeLine then some y else none
section
variable {K : PySem.W.Frag} {σ : L2.St} {H : Hp} {Q : VK} {te : TE} {z : Str} {i : Int} {QS : Str → Hp → Prop} {t : TE} {ts : List TE} {acc r : Str}
theorem q_fmtS {y : Str} (h : fmtS z = some y) (g : Q (.str y) H) : (∃ y : Str, V.str z = .str y ∧ y.length ≤ sizeLine ∧ Q (.str y) H) ∨ ∃ i : Int, V.str z = .int i ∧ i.natAbs.log2 < 1920 ∧ Q (.str (toString i)) H := by
  unfold fmtS at h
  by_cases e : z.length ≤ sizeLine
  · rw [if_pos e] at h; cases h; exact .inl ⟨z, rfl, e, g⟩
  · rw [if_neg e] at h; cases h
theorem q_fmtI {y : Str} (h : strI i = some y) (g : Q (.str y) H) : (∃ y : Str, V.int i = .str y ∧ y.length ≤ sizeLine ∧ Q (.str y) H) ∨ ∃ j : Int, V.int i = .int j ∧ j.natAbs.log2 < 1920 ∧ Q (.str (toString j)) H := by
  unfold strI at h
  by_cases e : i.natAbs.log2 < 1920
  · rw [if_pos e] at h; cases h; exact .inr ⟨i, rfl, e, g⟩
  · rw [if_neg e] at h; cases h
def JsQ (ts : List TE) (acc : Str) (σ : L2.St) (QS : Str → Hp → Prop) (x : V) (H : Hp) : Prop := ∃ y : Str, x = .str y ∧ (acc ++ y).length ≤ sizeLine ∧ tJs ts (acc ++ y) σ H QS
def FmQ (Q : VK) (x : V) (H : Hp) : Prop := (∃ y : Str, x = .str y ∧ y.length ≤ sizeLine ∧ Q (.str y) H) ∨ ∃ i : Int, x = .int i ∧ i.natAbs.log2 < 1920 ∧ Q (.str (toString i)) H
theorem x_js (h : t σ H fun x H1 => JsQ ts acc σ QS x H1) : tJs (t :: ts) acc σ H QS := h
theorem x_fmt (h : te σ H fun x H1 => FmQ Q x H1) : tFmt te σ H Q := h
theorem x_fmtS {y : Str} (h : fmtS z = some y) (g : Q (.str y) H) : FmQ Q (.str z) H := q_fmtS h g
theorem x_fmtI {y : Str} (h : strI i = some y) (g : Q (.str y) H) : FmQ Q (.int i) H := q_fmtI h g
theorem x_jx (h : fcat acc z = some r) (g : tJs ts r σ H QS) : JsQ ts acc σ QS (.str z) H := by
  unfold fcat at h
  by_cases e : (acc ++ z).length ≤ sizeLine
  · rw [if_pos e] at h; cases h; exact ⟨z, rfl, e, g⟩
  · rw [if_neg e] at h; cases h
end
/-! ### sets of texts, sorted -/
def nsetM (xs : List Str) : Option (List Str) := if xs.length + 1 < 4096 ∧ (addAll xs).length < 64 then some (nset xs) else none
section
variable {w : World} {K : PySem.W.Frag} {α : Type} {R : Rl α} {J : It} {Bi B H : Hp} {as : List α} {Φ : Fr} {cs : List (Addr × HO)} {g : TG} {tt : TT} {te : TE} {vs : List Nat} {σ : L2.St} {Q : VK}
theorem scR (it : ItOk J Bi B as R) (S0 : Sit Φ B H cs) {zs : List Str} (hl : zs.length + 1 < 4096) (f : α → Str) (hz : zs = as.map f := by rfl)
    (hB : ∀ b H' cs', Sit Φ b H' cs' → Same B b → cs <:+ cs' → Same Bi H')
    (hs : ∀ D o a x b0 b H', a ∈ as → Sit Φ b H' ((D, o) :: cs) → Same B b0 → Same b0 b → R.rel b a x → ∀ RR : Option V → Hp → Prop, RR (some (.str (f a))) H' → Turn1 g tt te vs σ x H' RR)
    (hd : ∀ D b H', Sit Φ b H' ((D, TxtO w D (addAll (as.map f))) :: cs) → Same B b → Φ.H D = none → Q (.ref D) H') : ScB w J g tt te vs σ Q H := by
  rw [hz, List.length_map] at hl
  obtain ⟨G, Y, wk, hG, hY⟩ := it
  intro D nD
  refine ⟨fun i m H' => m = as.length - i ∧ i ≤ as.length ∧ ∃ b, Sit Φ b H' ((D, TxtO w D (addAll ((as.take i).map f))) :: cs) ∧ Same B b, ⟨_, rfl, Nat.zero_le _, B, S0.own nD, Same.rf _⟩, ?_⟩
  rintro i m H' ⟨rfl, hi, b, S, e⟩
  have q := hG H' (hB b H' _ S e (List.suffix_cons _ _))
  by_cases hlt : i < as.length
  · refine .inr ⟨wk.goes i H' hlt q, fun H'' => ∃ b, Sit Φ b H'' ((D, TxtO w D (addAll ((as.take (i + 1)).map f))) :: cs) ∧ Same B b, fun H'' ⟨b', S', e'⟩ => ⟨as.length - (i + 1), by omega, rfl, by omega, b', S', e'⟩, fun x H2 y => ?_⟩
    obtain ⟨a, ha, q2⟩ := hY i H' x H2 hlt (wk.yields i H' x H2 hlt q y)
    obtain ⟨b', S', e', r⟩ := q2 Φ b _ S e
    have t := hs D _ a x b b' H2 (List.mem_of_getElem? ha) S' e e' r (fun r H4 => match r with
      | some y => ∃ (z : Str) (xs0 : List Str), y = V.str z ∧ H4 D = some (TxtO w D xs0) ∧ xs0.length + 1 < scanBound ∧ ∃ b, Sit Φ b (upd H4 D (TxtO w D (addT xs0 z))) ((D, TxtO w D (addAll ((as.take (i + 1)).map f))) :: cs) ∧ Same B b
      | none => ∃ b, Sit Φ b H4 ((D, TxtO w D (addAll ((as.take (i + 1)).map f))) :: cs) ∧ Same B b) ⟨f a, _, rfl, S'.at' (i := 0) rfl, ?_, b', ?_, e.tr e'⟩
    · exact t
    · have := foldl_len ((as.take i).map f) []
      rw [List.length_map, List.length_take] at this
      simp only [List.length_nil] at this
      unfold addAll
      show _ < 4096
      omega
    · have e2 : addAll ((as.take (i + 1)).map f) = addT (addAll ((as.take i).map f)) (f a) := by
        rw [take_next ha, List.map_append]
        unfold addAll
        rw [List.foldl_append]
        rfl
      rw [e2]
      exact S'.set (i := 0) rfl
  · have ei : i = as.length := by omega
    subst ei
    rw [List.take_length] at S
    exact .inl ⟨wk.stops H' q, hd D b H' S e (S0.fresh nD)⟩
theorem q_sortT {D : Addr} {xs ys : List Str} (Z : Sit Φ B H ((D, TxtO w D (addAll xs)) :: cs)) (hm : nsetM xs = some ys) (k : ∀ v B' H', Sit Φ B' H' cs → Same B B' → (dList dStr).rel B' ys v → Q v H') : rSortT w [.ref D] H Q := by
  unfold nsetM at hm
  by_cases c : xs.length + 1 < 4096 ∧ (addAll xs).length < 64
  · rw [if_pos c] at hm; cases hm
    refine ⟨D, addAll xs, rfl, Z.at' (i := 0) rfl, c.2, fun ys p pm so np => ?_⟩
    have e : ys = nset xs := sorted_is pm so
    subst e
    have l : (nset xs).length < 64 := by unfold nset; rw [srt_len]; exact c.2
    exact k _ _ _ (Z.put np).tl (Z.updB np) ⟨p, _, rfl, upd_same, strs_fa, by unfold BIG; omega⟩
  · rw [if_neg c] at hm; cases hm
theorem nsetM_lt {xs ys : List Str} (hm : nsetM xs = some ys) : xs.length + 1 < 4096 := by
  unfold nsetM at hm
  by_cases c : xs.length + 1 < 4096 ∧ (addAll xs).length < 64
  · exact c.1
  · rw [if_neg c] at hm; cases hm
end
/-! ### dict comprehensions -/
def dPut {α : Type} (kvs : List (Str × α)) (k : Str) (v : α) : List (Str × α) := if (kvs.any fun x => decide (x.1 = k)) = true then kvs.map (fun x => if x.1 = k then (x.1, v) else x) else kvs ++ [(k, v)]
theorem dPut_len {α : Type} (kvs : List (Str × α)) (k : Str) (v : α) : (dPut kvs k v).length ≤ kvs.length + 1 := by
  unfold dPut
  split
  · rw [List.length_map]; omega
  · rw [List.length_append]; simp
def dcL {α β : Type} (f : α → Option (Option (Str × β))) : List α → List (Str × β) → Option (List (Str × β))
  | [], kvs => some kvs
  | a :: as, kvs => (f a).bind fun o => dcL f as (match o with | none => kvs | some x => dPut kvs x.1 x.2)
theorem faD_put {α : Type} {R : Rl α} {B : Hp} {xs : List (Str × α)} {kvs : List (Key × V)} {k : Str} {x : α} {v : V} (h : FaD R B xs kvs) (hx : R.rel B x v) : FaD R B (dPut xs k x) (putK kvs (Sum.inr k) v) := by
  have ea : (xs.any fun z => decide (z.1 = k)) = (kvs.any fun z => decide (z.1 = (Sum.inr k : Key))) := by
    clear hx
    unfold FaD at h
    induction h with
    | nil => rfl
    | @cons a b as bs' r t ih =>
      rw [List.any_cons, List.any_cons, ih]
      congr 1
      refine decide_eq_decide.mpr ⟨fun e => by rw [r.1, e], fun e => by rw [r.1] at e; injection e⟩
  unfold dPut putK
  rw [ea]
  by_cases c : (kvs.any fun z => decide (z.1 = (Sum.inr k : Key))) = true
  · rw [if_pos c, if_pos c]
    clear c ea
    unfold FaD at h ⊢
    induction h with
    | nil => exact .nil
    | @cons a b as bs' r t ih =>
      refine .cons ?_ ih
      dsimp only
      by_cases e : a.1 = k
      · rw [if_pos e, if_pos (by rw [r.1, e])]; exact ⟨r.1, hx⟩
      · rw [if_neg e, if_neg (fun z => e (by rw [r.1] at z; injection z))]; exact r
  · rw [if_neg c, if_neg c]
    exact h.app (.one ⟨rfl, hx⟩)
section
variable {α β : Type} {Φ : Fr} {as : List α} {R : Rl α} {P : Rl β} {J : It} {Bi B H : Hp} {cs : List (Addr × HO)} {σ : L2.St} {g : TG} {tt : TT} {tk tv : TE} {vs : List Nat} {Q : VK} {ys : List (Str × β)}
def KeptD (P : Rl β) (o : Option (Str × β)) (r : Option (V × V)) (B : Hp) : Prop := match o with
  | none => r = none
  | some y => ∃ v, r = some (.str y.1, v) ∧ P.rel B y.2 v
theorem dcR (it : ItOk J Bi B as R) (S0 : Sit Φ B H cs) (hl : as.length ≤ BIG) {f : α → Option (Option (Str × β))} (hm : dcL f as [] = some ys)
    (hB : ∀ b H' cs', Sit Φ b H' cs' → Same B b → cs <:+ cs' → Same Bi H')
    (hs : ∀ D acc a o x b0 b H', a ∈ as → Sit Φ b H' ((D, .dK acc) :: cs) → Same B b0 → Same b0 b → R.rel b a x → f a = some o → ∀ RR : Option (V × V) → Hp → Prop,
      (∀ r b2 H2, Sit Φ b2 H2 ((D, .dK acc) :: cs) → Same b b2 → KeptD P o r b2 → RR r H2) → TurnD g tt tk tv vs σ x H' RR)
    (hd : ∀ D b H' o, Sit Φ b H' ((D, o) :: cs) → Same B b → Φ.H D = none → (cDict P).rel b ys o → Q (.ref D) H') : DcB J g tt tk tv vs σ Q H := by
  obtain ⟨G, Y, w, hG, hY⟩ := it
  intro D nD
  refine ⟨fun i m H' => m = as.length - i ∧ i ≤ as.length ∧ ∃ b acc zs, Sit Φ b H' ((D, .dK acc) :: cs) ∧ Same B b ∧ FaD P b zs acc ∧ zs.length ≤ i ∧ dcL f (as.drop i) zs = some ys, ⟨_, rfl, Nat.zero_le _, B, [], [], S0.own nD, Same.rf _, .nil, Nat.le_refl _, hm⟩, ?_⟩
  rintro i m H' ⟨rfl, hi, b, acc, zs, S, e, hF, hz, hf⟩
  have q := hG H' (hB b H' _ S e (List.suffix_cons _ _))
  by_cases hlt : i < as.length
  · have hd' : as.drop i = as[i] :: as.drop (i + 1) := List.drop_eq_getElem_cons hlt
    rw [hd'] at hf
    obtain ⟨o, ho, hf⟩ := bs hf
    refine .inr ⟨w.goes i H' hlt q, fun H'' => ∃ b acc zs, Sit Φ b H'' ((D, .dK acc) :: cs) ∧ Same B b ∧ FaD P b zs acc ∧ zs.length ≤ i + 1 ∧ dcL f (as.drop (i + 1)) zs = some ys, fun H'' z => ⟨as.length - (i + 1), by omega, rfl, by omega, z⟩, fun x H2 y => ?_⟩
    obtain ⟨a, ha, q2⟩ := hY i H' x H2 hlt (w.yields i H' x H2 hlt q y)
    obtain ⟨b', S', e', r⟩ := q2 Φ b _ S e
    rw [List.getElem?_eq_getElem hlt] at ha
    cases ha
    refine hs D acc _ o x b b' H2 (List.getElem_mem hlt) S' e e' r ho (fun r H3 => match r with
      | some (y, z) => ∃ kvs k, y = kV k ∧ H3 D = some (.dK kvs) ∧ kvs.length < sizeLine ∧ ∃ b acc zs, Sit Φ b (upd H3 D (.dK (putK kvs k z))) ((D, .dK acc) :: cs) ∧ Same B b ∧ FaD P b zs acc ∧ zs.length ≤ i + 1 ∧ dcL f (as.drop (i + 1)) zs = some ys
      | none => ∃ b acc zs, Sit Φ b H3 ((D, .dK acc) :: cs) ∧ Same B b ∧ FaD P b zs acc ∧ zs.length ≤ i + 1 ∧ dcL f (as.drop (i + 1)) zs = some ys) fun r b2 H3 S2 e2 hk => ?_
    have hF2 := faD_mono (e'.tr e2) hF
    unfold KeptD at hk
    cases o with
    | none =>
      subst hk
      exact ⟨b2, acc, zs, S2, (e.tr e').tr e2, hF2, by omega, hf⟩
    | some y =>
      obtain ⟨v, rfl, hv⟩ := hk
      have la := hF.len
      have lp := dPut_len zs y.1 y.2
      refine ⟨acc, Sum.inr y.1, rfl, S2.at' (i := 0) rfl, by rw [← la]; exact big_lt (by omega), b2, _, dPut zs y.1 y.2, S2.set (i := 0) rfl, (e.tr e').tr e2, faD_put hF2 hv, by omega, hf⟩
  · have ei : i = as.length := by omega
    subst ei
    rw [List.drop_length] at hf
    cases hf
    exact .inl ⟨w.stops H' q, hd D b H' _ S e (S0.fresh nD) ⟨acc, rfl, hF, by omega⟩⟩
end
/-! ### comprehensions with two fors -/
def lc2M {α β γ : Type} (f : α → Option (List γ)) (g : α → γ → Option (Option β)) : List α → Option (List β)
  | [] => some []
  | a :: as => (f a).bind fun cs => (lcM (g a) cs).bind fun bs => (lc2M f g as).bind fun rs => if (bs ++ rs).length ≤ BIG then some (bs ++ rs) else none
section
variable {α β γ : Type} {Φ : Fr} {as : List α} {R : Rl α} {T : Rl γ} {P : Rl β} {J : It} {Bi B H : Hp} {cs : List (Addr × HO)} {σ : L2.St} {g : TG} {tt : TT} {te : TE} {vs : List Nat} {Q : VK} {ys : List β}
theorem big_lt2 {n m : Nat} (h : n ≤ BIG) (h' : m ≤ BIG) : n + m < sizeLine := by rw [PySem.sizeLine_eq]; unfold BIG at h h'; omega
theorem lcM_len {f : α → Option (Option β)} : ∀ {as : List α} {ys : List β}, lcM f as = some ys → ys.length ≤ as.length
  | [], _, h => by cases h; exact Nat.le_refl _
  | a :: as, ys, h => by
    obtain ⟨o, ho, h⟩ := bs h
    obtain ⟨zs, hz, h⟩ := bs h
    have := lcM_len hz
    cases h
    cases o with
    | none => exact Nat.le_succ_of_le this
    | some b => exact Nat.succ_le_succ this
/-- the inner row -/
theorem lc2In {D : Addr} {zs0 : List β} {acc0 : List V} {Nx : Hp → Prop} (it : ItOk J Bi B as R) (S0 : Sit Φ B H ((D, .lst acc0) :: cs)) (hF0 : Fa (P.rel B) zs0 acc0) (hl : zs0.length + as.length < sizeLine) {f : α → Option (Option β)} (hm : lcM f as = some ys)
    (hB : ∀ b H' cs', Sit Φ b H' cs' → Same B b → cs <:+ cs' → Same Bi H')
    (hs : ∀ acc a o x b0 b H', a ∈ as → Sit Φ b H' ((D, .lst acc) :: cs) → Same B b0 → Same b0 b → R.rel b a x → f a = some o → ∀ RR : Option V → Hp → Prop,
      (∀ r b2 H2, Sit Φ b2 H2 ((D, .lst acc) :: cs) → Same b b2 → Kept P o r b2 → RR r H2) → Turn2 g tt te vs σ x H' RR)
    (hd : ∀ b H' acc, Sit Φ b H' ((D, .lst acc) :: cs) → Same B b → Fa (P.rel b) (zs0 ++ ys) acc → Nx H') : Lc2In D J g tt te vs σ Nx H := by
  obtain ⟨G, Y, w, hG, hY⟩ := it
  refine ⟨fun i m H' => m = as.length - i ∧ i ≤ as.length ∧ ∃ b acc zs rest, Sit Φ b H' ((D, .lst acc) :: cs) ∧ Same B b ∧ Fa (P.rel b) (zs0 ++ zs) acc ∧ zs.length ≤ i ∧ lcM f (as.drop i) = some rest ∧ ys = zs ++ rest, ⟨_, rfl, Nat.zero_le _, B, acc0, [], ys, S0, Same.rf _, by rw [List.append_nil]; exact hF0, Nat.le_refl _, hm, rfl⟩, ?_⟩
  rintro i m H' ⟨rfl, hi, b, acc, zs, rest, S, e, hF, hz, hf, ey⟩
  have q := hG H' (hB b H' _ S e (List.suffix_cons _ _))
  by_cases hlt : i < as.length
  · have hd' : as.drop i = as[i] :: as.drop (i + 1) := List.drop_eq_getElem_cons hlt
    rw [hd'] at hf
    obtain ⟨o, ho, hf⟩ := bs hf
    obtain ⟨rs, hrs, hf⟩ := bs hf
    refine .inr ⟨w.goes i H' hlt q, fun H'' => ∃ b acc zs rest, Sit Φ b H'' ((D, .lst acc) :: cs) ∧ Same B b ∧ Fa (P.rel b) (zs0 ++ zs) acc ∧ zs.length ≤ i + 1 ∧ lcM f (as.drop (i + 1)) = some rest ∧ ys = zs ++ rest, fun H'' z => ⟨as.length - (i + 1), by omega, rfl, by omega, z⟩, fun x H2 y => ?_⟩
    obtain ⟨a, ha, q2⟩ := hY i H' x H2 hlt (w.yields i H' x H2 hlt q y)
    obtain ⟨b', S', e', r⟩ := q2 Φ b _ S e
    rw [List.getElem?_eq_getElem hlt] at ha
    cases ha
    refine hs acc _ o x b b' H2 (List.getElem_mem hlt) S' e e' r ho (fun r H7 => match r with
      | some y => ∃ acc, H7 D = some (.lst acc) ∧ acc.length < sizeLine ∧ ∃ b acc' zs rest, Sit Φ b (upd H7 D (.lst (acc ++ [y]))) ((D, .lst acc') :: cs) ∧ Same B b ∧ Fa (P.rel b) (zs0 ++ zs) acc' ∧ zs.length ≤ i + 1 ∧ lcM f (as.drop (i + 1)) = some rest ∧ ys = zs ++ rest
      | none => ∃ b acc zs rest, Sit Φ b H7 ((D, .lst acc) :: cs) ∧ Same B b ∧ Fa (P.rel b) (zs0 ++ zs) acc ∧ zs.length ≤ i + 1 ∧ lcM f (as.drop (i + 1)) = some rest ∧ ys = zs ++ rest) fun r b2 H3 S2 e2 hk => ?_
    have hF2 := fa_mono (e'.tr e2) hF
    unfold Kept at hk
    cases o with
    | none =>
      subst hk
      cases hf
      exact ⟨b2, acc, zs, _, S2, (e.tr e').tr e2, hF2, by omega, hrs, ey⟩
    | some y =>
      obtain ⟨v, rfl, hv⟩ := hk
      cases hf
      have la := hF.len
      rw [List.length_append] at la
      refine ⟨acc, S2.at' (i := 0) rfl, by omega, b2, _, zs ++ [y], rs, S2.set (i := 0) rfl, (e.tr e').tr e2, by rw [← List.append_assoc]; exact hF2.app (.one hv), by rw [List.length_append]; simp; omega, hrs, by rw [ey]; simp⟩
  · have ei : i = as.length := by omega
    subst ei
    rw [List.drop_length] at hf
    cases hf
    rw [List.append_nil] at ey
    subst ey
    exact .inl ⟨w.stops H' q, hd b H' acc S e hF⟩
/-- the whole -/
theorem lc2R {wi1 : TI} {g1 : TG} {tt1 : TT} {vs1 : List Nat} (it : ItOk J Bi B as R) (S0 : Sit Φ B H cs) {f : α → Option (List γ)} {gg : α → γ → Option (Option β)} (hm : lc2M f gg as = some ys)
    (hB : ∀ b H' cs', Sit Φ b H' cs' → Same B b → cs <:+ cs' → Same Bi H')
    (hs : ∀ D zs0 acc a zs ws x b0 b H', a ∈ as → Sit Φ b H' ((D, .lst acc) :: cs) → Same B b0 → Same b0 b → Fa (P.rel b) zs0 acc → R.rel b a x → f a = some zs → lcM (gg a) zs = some ws → zs0.length ≤ BIG → ∀ Nx : Hp → Prop,
      (∀ b2 H2 acc2, Sit Φ b2 H2 ((D, .lst acc2) :: cs) → Same b b2 → Fa (P.rel b2) (zs0 ++ ws) acc2 → Nx H2) → TurnO g tt wi1 vs σ x H' (fun σ2 J1 H4 => Lc2In D J1 g1 tt1 te vs1 σ2 Nx H4) Nx)
    (hd : ∀ D b H' o, Sit Φ b H' ((D, o) :: cs) → Same B b → Φ.H D = none → (cList P).rel b ys o → Q (.ref D) H') : Lc2B J g tt wi1 g1 tt1 te vs vs1 σ Q H := by
  have big : ∀ {as : List α} {ys : List β}, lc2M f gg as = some ys → ys.length ≤ BIG := fun {as ys} h => by
    cases as with
    | nil => cases h; exact Nat.zero_le _
    | cons a as =>
      obtain ⟨cs, hc, h⟩ := bs h
      obtain ⟨b1, h1, h⟩ := bs h
      obtain ⟨b2, h2, h⟩ := bs h
      by_cases c : (b1 ++ b2).length ≤ BIG
      · rw [if_pos c] at h; cases h; exact c
      · rw [if_neg c] at h; cases h
  obtain ⟨G, Y, w, hG, hY⟩ := it
  intro D nD
  refine ⟨fun i m H' => m = as.length - i ∧ i ≤ as.length ∧ ∃ b acc zs rest, Sit Φ b H' ((D, .lst acc) :: cs) ∧ Same B b ∧ Fa (P.rel b) zs acc ∧ lc2M f gg (as.drop i) = some rest ∧ ys = zs ++ rest, ⟨_, rfl, Nat.zero_le _, B, [], [], ys, S0.own nD, Same.rf _, .nil, hm, rfl⟩, ?_⟩
  rintro i m H' ⟨rfl, hi, b, acc, zs, rest, S, e, hF, hf, ey⟩
  have q := hG H' (hB b H' _ S e (List.suffix_cons _ _))
  have hyl := big hm
  by_cases hlt : i < as.length
  · have hd' : as.drop i = as[i] :: as.drop (i + 1) := List.drop_eq_getElem_cons hlt
    rw [hd'] at hf
    obtain ⟨ds, hds, hf⟩ := bs hf
    obtain ⟨ws, hws, hf⟩ := bs hf
    obtain ⟨rs, hrs, hf⟩ := bs hf
    have hr : rest = ws ++ rs := by
      by_cases c : (ws ++ rs).length ≤ BIG
      · rw [if_pos c] at hf; cases hf; rfl
      · rw [if_neg c] at hf; cases hf
    refine .inr ⟨w.goes i H' hlt q, fun H'' => ∃ b acc zs rest, Sit Φ b H'' ((D, .lst acc) :: cs) ∧ Same B b ∧ Fa (P.rel b) zs acc ∧ lc2M f gg (as.drop (i + 1)) = some rest ∧ ys = zs ++ rest, fun H'' z => ⟨as.length - (i + 1), by omega, rfl, by omega, z⟩, fun x H2 y => ?_⟩
    obtain ⟨a, ha, q2⟩ := hY i H' x H2 hlt (w.yields i H' x H2 hlt q y)
    obtain ⟨b', S', e', r⟩ := q2 Φ b _ S e
    rw [List.getElem?_eq_getElem hlt] at ha
    cases ha
    have ll : zs.length ≤ BIG := by rw [ey, List.length_append] at hyl; omega
    exact hs D zs acc _ ds ws x b b' H2 (List.getElem_mem hlt) S' e e' (fa_mono e' hF) r hds hws ll _ fun b2 H3 acc2 S2 e2 hF2 => ⟨b2, acc2, zs ++ ws, rs, S2, (e.tr e').tr e2, hF2, hrs, by rw [ey, hr, List.append_assoc]⟩
  · have ei : i = as.length := by omega
    subst ei
    rw [List.drop_length] at hf
    cases hf
    rw [List.append_nil] at ey
    subst ey
    exact .inl ⟨w.stops H' q, hd D b H' _ S e (S0.fresh nD) ⟨acc, rfl, hF, hyl⟩⟩
end
end Mf

namespace Mf
open PySem L2 PyProof.Rows
def Sub {α : Type} (R S : Rl α) : Prop := ∀ {H : Hp} {x : α} {v : V}, R.rel H x v → S.rel H x v
section
variable {α β γ : Type} {K : PySem.W.Frag} {R R' : Rl α} {S S' : Rl β} {T T' : Rl γ}
theorem subR : Sub R R := fun h => h
theorem subLQ (h : Sub R R') : Sub (dList R) (dSeq K R') := fun ⟨p, vs, e, a, f, l⟩ => ⟨p, vs, e, .inl (SqL.of a), f.imp fun _ _ _ z => h z, l⟩
theorem subTQ (h : Sub R R') : Sub (dTup K R) (dSeq K R') := fun ⟨p, vs, e, a, f, l⟩ => ⟨p, vs, e, .inr a, f.imp fun _ _ _ z => h z, l⟩
theorem subQQ (h : Sub R R') : Sub (dSeq K R) (dSeq K R') := fun ⟨p, vs, e, a, f, l⟩ => ⟨p, vs, e, a, f.imp fun _ _ _ z => h z, l⟩
theorem subLL (h : Sub R R') : Sub (dList R) (dList R') := fun ⟨p, vs, e, a, f, l⟩ => ⟨p, vs, e, a, f.imp fun _ _ _ z => h z, l⟩
theorem subTT (h : Sub R R') : Sub (dTup K R) (dTup K R') := fun ⟨p, vs, e, a, f, l⟩ => ⟨p, vs, e, a, f.imp fun _ _ _ z => h z, l⟩
theorem subP2 (h : Sub R R') (g : Sub S S') : Sub (dPair K R S) (dPair K R' S') := fun ⟨p, a, b, e, q, r, s⟩ => ⟨p, a, b, e, q, h r, g s⟩
theorem subP3 (h : Sub R R') (g : Sub S S') (k : Sub T T') : Sub (dTrip K R S T) (dTrip K R' S' T') := fun ⟨p, a, b, c, e, q, r, s, t⟩ => ⟨p, a, b, c, e, q, h r, g s, k t⟩
end
section
variable {α β : Type} {K : PySem.W.Frag} {C : Addr} {F : Fl α} {x : α} {B H : Hp} {v y : V} {Q : VK} {E : XK} {sp : Sp} {t : Value} {σ : L2.St}
theorem q_cmpO (h : (dObj C F).rel B x v) (s : Same B H) (ht : TyX K H y t) (hn : PySem.W.notFirst K C t = true) (g : sp [v, y] H Q E) : rCmpO K C sp E v y H Q := by
  obtain ⟨p, dx, fs, rfl, h, _⟩ := h
  exact ⟨p, dx, fs, t, rfl, s _ _ h, ht, hn, g⟩
def NeQ (Q : VK) : VK := fun v H' => ∃ b, v = .bl b ∧ Q (.bl (!b)) H'
theorem q_neO (h : (dObj C F).rel B x v) (s : Same B H) (ht : TyX K H y t) (hn : PySem.W.notFirst K C t = true) (g : sp [v, y] H (NeQ Q) E) : rNeO K C sp E v y H Q := by
  obtain ⟨p, dx, fs, rfl, h, _⟩ := h
  exact ⟨p, dx, fs, t, rfl, s _ _ h, ht, hn, g⟩
def InQ (Q : VK) : VK := fun v H' => ∃ b, v = .bl b ∧ Q (.bl b) H'
theorem q_inO (h : (dObj C F).rel B x v) (s : Same B H) (g : sp [v, y] H (InQ Q) E) : rInO C sp E false y v H Q := by
  obtain ⟨p, dx, fs, rfl, h, _⟩ := h
  exact ⟨p, dx, fs, rfl, s _ _ h, g⟩
theorem q_niO (h : (dObj C F).rel B x v) (s : Same B H) (g : sp [v, y] H (NeQ Q) E) : rInO C sp E true y v H Q := by
  obtain ⟨p, dx, fs, rfl, h, _⟩ := h
  exact ⟨p, dx, fs, rfl, s _ _ h, g⟩
def LenQ (Q : VK) : VK := fun v H' => ∃ n : Nat, v = .int n ∧ n ≤ sizeLine ∧ Q (.int n) H'
theorem q_lenO (h : (dObj C F).rel B x v) (s : Same B H) (g : sp [v] H (LenQ Q) E) : rLenO C sp E [v] H Q := by
  obtain ⟨p, dx, fs, rfl, h, _⟩ := h
  exact ⟨p, dx, fs, rfl, s _ _ h, g⟩
theorem q_getO (h : (dObj C F).rel B x v) (s : Same B H) (g : sp [v, y] H Q E) : rGetO C sp E v y H Q := by
  obtain ⟨p, dx, fs, rfl, h, _⟩ := h
  exact ⟨p, dx, fs, rfl, s _ _ h, g⟩
theorem q_binO {x' : α} (h : (dObj C F).rel B x v) (h' : (dObj C F).rel B x' y) (s : Same B H) (g : sp [v, y] H Q E) : rBinO C sp E v y H Q := by
  obtain ⟨p, dx, fs, rfl, h, _⟩ := h
  obtain ⟨p', dx', fs', rfl, h', _⟩ := h'
  exact ⟨p, dx, fs, p', dx', fs', rfl, rfl, s _ _ h, s _ _ h', g⟩
def MeQ (C : Addr) (m : Str) (P : V → Hp → Prop) (v : V) (H : Hp) : Prop := ∃ a dx fs, v = .ref a ∧ H a = some (.ins C dx fs) ∧ fs.lookup m = none ∧ P v H
theorem x_meth {m : Str} {dvs : List V} {ta : TE} {tA : TA} (g : ta σ H fun x H1 => MeQ C m (fun x H1 => tA σ H1 fun vs H2 => sp (x :: (vs ++ dvs)) H2 Q E) x H1) : tMeth C m sp dvs E ta tA σ H Q := g
theorem q_meth {m : Str} {P : V → Hp → Prop} (h : (dObj C F).rel B x v) (s : Same B H) (hl : ∀ fs, F.rel B x fs → fs.lookup m = none) (g : P v H) : MeQ C m P v H := by
  obtain ⟨p, dx, fs, rfl, h, q⟩ := h
  exact ⟨p, dx, fs, rfl, s _ _ h, hl fs q, g⟩
theorem putF_nil {f : Str} {v : V} : putF f v [] = [(f, v)] := rfl
theorem putF_cons {f g : Str} {v y : V} {r r' : List (Str × V)} (h : g ≠ f) (e : putF f v r = r') : putF f v ((g, y) :: r) = (g, y) :: r' := by
  show (if g = f then _ else _) = _
  rw [if_neg h, e]
theorem len_lt {n : Nat} {i : Int} (h : i = (n : Int)) (hb : n ≤ BIG) (g : Q (.int i) H) : LenQ Q (.int i) H := ⟨n, by rw [h], big_size hb, by rw [← h]; exact g⟩
theorem lenQ (i : Nat) (hb : i ≤ sizeLine) (g : Q (.int (i : Int)) H) : LenQ Q (.int (i : Int)) H := ⟨i, rfl, hb, g⟩
theorem w_neQ {b : Bool} (g : Q (.bl (!b)) H) : NeQ Q (.bl b) H := ⟨b, rfl, g⟩
theorem w_inQ {b : Bool} (g : Q (.bl b) H) : InQ Q (.bl b) H := ⟨b, rfl, g⟩
end
section
variable {α β γ δ : Type} {K : PySem.W.Frag} {R : Rl α} {S : Rl β} {T : Rl γ} {U : Rl δ} {H : Hp} {v : V} {C : Addr} {F : Fl α}
theorem nnL {x : List α} (h : (dList R).rel H x v) : v ≠ .non := by obtain ⟨p, vs, rfl, _⟩ := h; intro z; cases z
theorem nnT {x : List α} (h : (dTup K R).rel H x v) : v ≠ .non := by obtain ⟨p, vs, rfl, _⟩ := h; intro z; cases z
theorem nnQ {x : List α} (h : (dSeq K R).rel H x v) : v ≠ .non := by obtain ⟨p, vs, rfl, _⟩ := h; intro z; cases z
theorem nnD {x : List (Str × α)} (h : (dDict R).rel H x v) : v ≠ .non := by obtain ⟨p, vs, rfl, _⟩ := h; intro z; cases z
theorem nnO {x : α} (h : (dObj C F).rel H x v) : v ≠ .non := by obtain ⟨p, vs, _, rfl, _⟩ := h; intro z; cases z
theorem nn1 {x : α} (h : (dOne K R).rel H x v) : v ≠ .non := by obtain ⟨p, a, rfl, _⟩ := h; intro z; cases z
theorem nn2 {x : α × β} (h : (dPair K R S).rel H x v) : v ≠ .non := by obtain ⟨p, a, b, rfl, _⟩ := h; intro z; cases z
theorem nn3 {x : α × β × γ} (h : (dTrip K R S T).rel H x v) : v ≠ .non := by obtain ⟨p, a, b, c, rfl, _⟩ := h; intro z; cases z
theorem nn4 {x : α × β × γ × δ} (h : (dQuad K R S T U).rel H x v) : v ≠ .non := by obtain ⟨p, a, b, c, d, rfl, _⟩ := h; intro z; cases z
theorem someN {x : α} (h : R.rel H x v) (n : v ≠ .non) : (dOpt R).rel H (some x) v := ⟨h, n⟩
end
theorem retB {Q : VK} {H : Hp} {b : Bool} (e : b = true) (k : ∀ H', Q (.bl true) H') : Q (.bl b) H := e ▸ k H
theorem src_of {B H : Hp} {p : Addr} (h : Src H p 0) : ∃ (s : Src3) (o : HO), s.ok 0 ∧ H p = some o ∧ cSrc.rel B s o := by
  obtain ⟨g, s, h, h0, h1⟩ := h
  exact ⟨⟨g, s, 0⟩, _, ⟨h0, h1, Int.le_refl _, Int.le_refl _⟩, h, rfl⟩
theorem Sit.src {Φ : Fr} {B H H' : Hp} {p : Addr} {o : HO} (Z : Sit Φ B H []) (e : Same H H') (n : H p = Option.none) (h : H' p = some o) : Sit Φ B H' [(p, o)] where
  sub := fun a u q => e a u (Z.sub a u q)
  grow := Z.grow
  new := Z.new
  keep := fun a u q w => e a u (Z.keep a u q w)
  cell := fun c m => by cases List.mem_singleton.mp m; exact ⟨h, Z.bn n, .inr (Z.fresh n)⟩
  nd := by simp
  par := fun a m => by
    cases q : H a with
    | none => exact absurd q (Z.par a m)
    | some u => rw [e a u q]; intro z; cases z
end Mf

namespace Mf
open PySem L2 PyProof.Rows
/-! ### what a mirror gives -/
def Wp {α : Type} (m : Option α) (P : α → Prop) : Prop := ∃ a, m = some a ∧ P a
section
variable {α β S R : Type} {m : Option α} {P Q : α → Prop}
theorem Wp.some {a : α} (h : P a) : Wp (some a) P := ⟨a, rfl, h⟩
theorem Wp.of {a : α} (e : m = .some a) (h : P a) : Wp m P := ⟨a, e, h⟩
theorem Wp.bind {f : α → Option β} {Q : β → Prop} (h : Wp m P) (g : ∀ a, P a → Wp (f a) Q) : Wp (m.bind f) Q := by
  obtain ⟨a, rfl, p⟩ := h
  exact g a p
theorem Wp.go {f : α → Option β} {Q : β → Prop} {a : α} (h : m = .some a) (g : Wp (f a) Q) : Wp (m.bind f) Q := by
  subst h; exact g
theorem Wp.mono (h : Wp m P) (g : ∀ a, P a → Q a) : Wp m Q := let ⟨a, e, p⟩ := h; ⟨a, e, g a p⟩
theorem Wp.ite {c : Bool} {x y : Option α} (h1 : c = true → Wp x P) (h2 : c = false → Wp y P) : Wp (if c = true then x else y) P := by
  cases c with
  | true => rw [if_pos rfl]; exact h1 rfl
  | false => rw [if_neg (by decide)]; exact h2 rfl
theorem Wp.yes {c : Bool} {x y : Option α} (h : c = true) (g : Wp x P) : Wp (if c = true then x else y) P := by rw [if_pos h]; exact g
theorem Wp.no {c : Bool} {x y : Option α} (h : c = false) (g : Wp y P) : Wp (if c = true then x else y) P := by rw [if_neg (by rw [h]; decide)]; exact g
theorem Wp.eq {a : α} (h : Wp m (fun x => x = a)) : m = .some a := by
  obtain ⟨x, e, rfl⟩ := h
  exact e
theorem Wp.and (h : Wp m P) (g : Wp m Q) : Wp m (fun x => P x ∧ Q x) := by
  obtain ⟨x, e, p⟩ := h
  obtain ⟨y, e', q⟩ := g
  rw [e] at e'
  cases e'
  exact ⟨x, e, p, q⟩
theorem wp_forL {f : α → S → Option S} {as : List α} {s0 : S} (I : Nat → S → Prop) (h0 : I 0 s0) (hs : ∀ i a s, as[i]? = some a → I i s → Wp (f a s) (I (i + 1))) : Wp (forL f as s0) (I as.length) := by
  have gen : ∀ (bs : List α) (i : Nat) (s : S), (∀ j a, bs[j]? = some a → as[i + j]? = some a) → I i s → Wp (forL f bs s) (I (i + bs.length)) := by
    intro bs
    induction bs with
    | nil => intro i s _ h; exact ⟨s, rfl, h⟩
    | cons b bs ih =>
      intro i s hb h
      refine (hs i b s (hb 0 b rfl) h).bind fun s' h' => ?_
      have := ih (i + 1) s' (fun j a ha => by have := hb (j + 1) a ha; rw [show i + 1 + j = i + (j + 1) by omega]; exact this) h'
      rw [show i + (b :: bs).length = i + 1 + bs.length by simp; omega]
      exact this
  have := gen as 0 s0 (fun j a h => by rw [Nat.zero_add]; exact h) h0
  rw [Nat.zero_add] at this
  exact this
theorem wp_lcS {f : α → S → Option (Option β × S)} {as : List α} {s0 : S} (I : Nat → List β → S → Prop) (h0 : I 0 [] s0) (hs : ∀ i a ys s, as[i]? = some a → I i ys s → Wp (f a s) (fun o => I (i + 1) (ys ++ o.1.toList) o.2)) : Wp (lcS f as s0) (fun r => I as.length r.1 r.2) := by
  have gen : ∀ (bs : List α) (i : Nat) (ys : List β) (s : S), (∀ j a, bs[j]? = some a → as[i + j]? = some a) → I i ys s → Wp (lcS f bs s) (fun r => I (i + bs.length) (ys ++ r.1) r.2) := by
    intro bs
    induction bs with
    | nil => intro i ys s _ h; exact ⟨([], s), rfl, by simpa using h⟩
    | cons b bs ih =>
      intro i ys s hb h
      refine (hs i b ys s (hb 0 b rfl) h).bind fun o h' => ?_
      refine (ih (i + 1) (ys ++ o.1.toList) o.2 (fun j a ha => by have := hb (j + 1) a ha; rw [show i + 1 + j = i + (j + 1) by omega]; exact this) h').bind fun r hr => ?_
      refine ⟨_, rfl, ?_⟩
      rw [show i + (b :: bs).length = i + 1 + bs.length by simp; omega]
      obtain ⟨o1, o2⟩ := o
      cases o1 with
      | none => simpa using hr
      | some b => simpa using hr
  have := gen as 0 [] s0 (fun j a h => by rw [Nat.zero_add]; exact h) h0
  simpa using this
theorem wp_lcM {f : α → Option (Option β)} {as : List α} (g : α → Option β) (h : ∀ a ∈ as, f a = some (g a)) : lcM f as = some (as.filterMap g) := by
  induction as with
  | nil => rfl
  | cons a as ih =>
    unfold lcM
    rw [h a List.mem_cons_self, ih fun b hb => h b (List.mem_cons_of_mem _ hb)]
    cases e : g a with
    | none => simp [List.filterMap_cons, e]
    | some b => simp [List.filterMap_cons, e]
theorem lcM_mapE {f : α → Option (Option β)} {as : List α} (g : α → β) (h : ∀ a ∈ as, f a = some (some (g a))) : lcM f as = some (as.map g) := by
  rw [wp_lcM (fun a => some (g a)) h]; simp
theorem wp_forC {f : α → S → Option (Ctl S R)} {as : List α} {s0 : S} {P : Ctl S R → Prop} (I : Nat → S → Prop) (h0 : I 0 s0) (hs : ∀ i a s, as[i]? = some a → I i s → Wp (f a s) (fun o => match o with | .nx s' => I (i + 1) s' | .brk s' => P (.nx s') | .ret r => P (.ret r))) (hd : ∀ s, I as.length s → P (.nx s)) : Wp (forC f as s0) P := by
  have gen : ∀ (bs : List α) (i : Nat) (s : S), (∀ j a, bs[j]? = some a → as[i + j]? = some a) → i + bs.length = as.length → I i s → Wp (forC f bs s) P := by
    intro bs
    induction bs with
    | nil => intro i s _ e h; exact ⟨_, rfl, hd s (by rw [← e]; exact h)⟩
    | cons b bs ih =>
      intro i s hb e h
      refine (hs i b s (hb 0 b rfl) h).bind fun o h' => ?_
      cases o with
      | nx s' => exact ih (i + 1) s' (fun j a ha => by have := hb (j + 1) a ha; rw [show i + 1 + j = i + (j + 1) by omega]; exact this) (by rw [List.length_cons] at e; omega) h'
      | brk s' => exact ⟨_, rfl, h'⟩
      | ret r => exact ⟨_, rfl, h'⟩
  exact gen as 0 s0 (fun j a h => by rw [Nat.zero_add]; exact h) (Nat.zero_add _) h0
theorem wp_whC {f : S → Option (Ctl S R)} {s0 : S} {n : Nat} {P : Ctl S R → Prop} (I : S → Prop) (μ : S → Nat) (h0 : I s0) (hn : μ s0 < n) (hs : ∀ s, I s → Wp (f s) (fun o => match o with | .nx s' => I s' ∧ μ s' < μ s | .brk s' => P (.nx s') | .ret r => P (.ret r))) : Wp (whC f n s0) P := by
  induction n generalizing s0 with
  | zero => omega
  | succ n ih =>
    refine (hs s0 h0).bind fun o h' => ?_
    cases o with
    | nx s' => exact ih h'.1 (by omega)
    | brk s' => exact ⟨_, rfl, h'⟩
    | ret r => exact ⟨_, rfl, h'⟩
theorem wp_atI {xs : List α} {i : Int} (h0 : 0 ≤ i) (h1 : i < xs.length) : Wp (atI xs i) (fun x => xs[i.toNat]? = some x) := by
  unfold atI ixN
  rw [if_pos h0, if_pos h1]
  have : i.toNat < xs.length := by omega
  exact ⟨xs[i.toNat], by simp [this], by simp [this]⟩
theorem wp_atM {xs : List α} {i : Int} (h0 : 0 ≤ i) (h1 : i < xs.length) (h : ∀ x ∈ xs, P x) : Wp (atI xs i) P := (wp_atI h0 h1).mono fun x e => h x (List.mem_of_getElem? e)
theorem rngM_eq {i : Int} (h0 : 0 ≤ i) (h1 : i ≤ 1000000) : rngM i = some ((List.range i.toNat).map fun k => ((k : Nat) : Int)) := by
  unfold rngM BIG
  rw [if_pos ⟨by omega, by omega⟩]
theorem pushM_eq {xs : List α} {x : α} (h : xs.length < 1000000) : pushM xs x = some (xs ++ [x]) := by
  unfold pushM BIG
  rw [if_pos (by omega)]
theorem catM_eq {xs ys : List α} (h : xs.length + ys.length < 1000000) : catM xs ys = some (xs ++ ys) := by
  unfold catM BIG
  rw [if_pos (by omega)]
theorem addS_eq {a b : Str} (h : a.length + b.length < 1000000) : addS a b = some (a ++ b) := by
  unfold addS
  rw [if_pos (by rw [PySem.sizeLine_eq]; omega)]
theorem cutM_eq {z : Str} {lo hi : Option Int} (h : z.length < 1000000) : cutM z lo hi = some (cutS z lo hi) := by
  unfold cutM
  rw [if_pos (by rw [PySem.sizeLine_eq]; omega)]
theorem charsM_eq {z : Str} (h : z.length < 1000000) : charsM z = some (chars z) := by
  unfold charsM BIG
  rw [if_pos (by omega)]
theorem lenS_eq {z : Str} (h : z.length < 1000000) : lenS z = some (z.length : Int) := by
  unfold lenS
  rw [if_pos (by rw [PySem.sizeLine_eq]; omega)]
theorem modM_eq {i j : Int} (h : 0 < j) : modM i j = some (i % j) := by unfold modM; rw [if_pos h]
theorem insM_eq {xs : List α} {i : Int} {x : α} (h0 : 0 ≤ i) (h1 : i < 1000000) (hl : xs.length < 1000000) : insM xs i x = some (xs.take i.toNat ++ [x] ++ xs.drop i.toNat) := by
  unfold insM BIG
  rw [if_pos ⟨h0, by omega, by omega⟩]
theorem fcat_eq {a b : Str} (h : a.length + b.length < 1000000) : fcat a b = some (a ++ b) := by
  unfold fcat
  rw [if_pos (by rw [PySem.sizeLine_eq, Str.length_append]; omega)]
theorem fmtS_eq {a : Str} (h : a.length < 1000000) : fmtS a = some a := by
  unfold fmtS
  rw [if_pos (by rw [PySem.sizeLine_eq]; omega)]
theorem nsetM_eq {xs : List Str} (h : xs.length < 4000) (h2 : (addAll xs).length < 64) : nsetM xs = some (nset xs) := by
  unfold nsetM
  rw [if_pos ⟨by omega, h2⟩]
theorem Src3.ok.le {s : Src3} {n m : Int} (h : s.ok n) (e : n ≤ m) : s.ok m := ⟨h.1, h.2.1, h.2.2.1, by have := h.2.2.2; omega⟩
theorem wp_draw {s : Src3} {n m : Int} (h : s.ok n) (hn : n < 1000000000) (h0 : 0 < m) (h1 : m < 1000000) : Wp (m_draw s m) (fun r => 0 ≤ r.1 ∧ r.1 < m ∧ r.2.ok (n + 1)) := by
  obtain ⟨v, s', e, a, b, c⟩ := draw_ok h hn h0 (Int.lt_trans h1 (by decide))
  exact ⟨_, e, a, b, c⟩
theorem all_true {as : List α} {f : α → Bool} (h : ∀ a ∈ as, f a = true) : ((as.map f).all id) = true := by
  rw [List.all_map, List.all_eq_true]; exact h
theorem any_false {bs : List Bool} (h : ∀ b ∈ bs, b = false) : (bs.any id) = false := by
  rw [List.any_eq_false]; intro b hb; simp [h b hb]
end
end Mf

namespace Mf
open PySem L2 PyProof.Rows
/-! ### defs with defaults -/
def DefAtD (K : PySem.W.Frag) (mg : Str → Option Value) (x : Str) (st : Stmt) (dvs : List V) (kws : List (Str × V)) : Prop := ∃ f fd, FunD K x x (defArgs st) (defBody st) (defScope st) dvs kws f fd ∧ mg x = some (.ref f)
def CoreD (P : Program) (w : World) (K : PySem.W.Frag) (mg : Str → Option Value) (base : Heap) (CX : CXT) (lv : Nat) (x : Str) (st : Stmt) (dvs : List V) (kws : List (Str × V)) (ps : List Str) (sp : Sp) : Prop :=
  ∃ f fd, FnOk P w K mg base CX lv f fd ps sp ∧ FunD K x x (defArgs st) (defBody st) (defScope st) dvs kws f fd ∧ mg x = some (.ref f)
def DoesD (P : Program) (w : World) (K : PySem.W.Frag) (mg : Str → Option Value) (base : Heap) (CX : CXT) (lv : Nat) (x : Str) (ps : List Str) (dvs : List V) (sp : Sp) : Prop :=
  ∃ f fd ds, FnOk P w K mg base CX lv f fd ps sp ∧ mg x = some (.ref f) ∧ PySem.W.keepIn K (.ref f) = true ∧ Binds K fd ps ds ∧ Vals dvs ds
def MkAtD (K : PySem.W.Frag) (C : Addr) (q : Str) (st : Stmt) (dvs : List V) (kws : List (Str × V)) : Prop := ∃ f fd, FunD K "__init__" q (defArgs st) (defBody st) (defScope st) dvs kws f fd ∧ Mk K C f
def CoreI (P : Program) (w : World) (K : PySem.W.Frag) (mg : Str → Option Value) (base : Heap) (CX : CXT) (lv : Nat) (x : Str) (C : Addr) (q : Str) (st : Stmt) (dvs : List V) (kws : List (Str × V)) (ps : List Str) (sp : Sp) : Prop :=
  ∃ f fd, FnOk P w K mg base CX lv f fd ps sp ∧ FunD K "__init__" q (defArgs st) (defBody st) (defScope st) dvs kws f fd ∧ Mk K C f ∧ mg x = some (.ref C)
section
variable {P : Program} {w : World} {K : PySem.W.Frag} {mg : Str → Option Value} {base : Heap} {CX : CXT} {lv : Nat} {x q : Str} {st : Stmt} {dvs : List V} {kws : List (Str × V)} {ps : List Str} {sp : Sp} {C : Addr}
theorem CoreD.form (h : CoreD P w K mg base CX lv x st dvs kws ps sp) (n j : Nat) (hd : dvs ≠ []) (hn : n + (dvs.length - j) = ps.length)
    (hb : ∀ (T : Addr) (kV doc pm : Value) (an : Option Addr) (cdv ct : Value) (us its : List Value), us.length = n → its.length = dvs.length →
      ∃ k, bindArgs (PySem.W.fnOf x x (defArgs st) (defBody st) (defScope st) (.ref T) kV doc pm an cdv ct) ⟨us, []⟩ = seqItems? (.ref T) >>= k ∧ k (some its.toArray) = pure (ps.zip (us ++ its.drop j))) : DoesD P w K mg base CX lv x ps (dvs.drop j) sp := by
  obtain ⟨f, fd, F, A, g⟩ := h
  obtain ⟨ds, v, b⟩ := A.binds1 n j hd hn hb
  exact ⟨f, fd, ds, F, g, A.kp, b, v⟩
theorem CoreI.form (h : CoreI P w K mg base CX lv x C q st dvs kws ps sp) (n j : Nat) (hd : dvs ≠ []) (hn : n + (dvs.length - j) = ps.length)
    (hb : ∀ (T : Addr) (kV doc pm : Value) (an : Option Addr) (cdv ct : Value) (us its : List Value), us.length = n → its.length = dvs.length →
      ∃ k, bindArgs (PySem.W.fnOf "__init__" q (defArgs st) (defBody st) (defScope st) (.ref T) kV doc pm an cdv ct) ⟨us, []⟩ = seqItems? (.ref T) >>= k ∧ k (some its.toArray) = pure (ps.zip (us ++ its.drop j))) : MkDoes P w K mg base CX lv x C ps (dvs.drop j) sp := by
  obtain ⟨f, fd, F, A, M, g⟩ := h
  obtain ⟨ds, v, b⟩ := A.binds1 n j hd hn hb
  exact ⟨f, fd, ds, M, F, b, v, g⟩
theorem tupC0 {α : Type} {R : Rl α} {T : Addr} {B : Hp} (h : ∀ H, SqT K H T []) : (dTup K R).rel B [] (.ref T) := ⟨T, [], rfl, h _, .nil, Nat.zero_le _⟩
/-- sorted(list of texts) -/
def srtM (xs : List Str) : Option (List Str) := if xs.length < 64 then some (srt xs) else none
theorem q_sortS {Φ : Fr} {B H : Hp} {cs : List (Addr × HO)} {Q : VK} {v : V} {xs ys : List Str} (Z : Sit Φ B H cs) (h : (dList dStr).rel B xs v) (hm : srtM xs = some ys) (k : ∀ v B' H', Sit Φ B' H' cs → Same B B' → (dList dStr).rel B' ys v → Q v H') : rSortedS K [v] H Q := by
  unfold srtM at hm
  by_cases c : xs.length < 64
  · rw [if_pos c] at hm; cases hm
    obtain ⟨p, vs, rfl, h, f, _⟩ := h
    cases fa_str f
    refine w_sort (SqL.of (Z.sub _ _ h)) c fun ys q pm so np => ?_
    have e : ys = srt xs := sorted_is pm so
    subst e
    exact k _ _ _ (Z.put np) (Z.updB np) ⟨q, _, rfl, upd_same, strs_fa, by rw [srt_len]; unfold BIG; omega⟩
  · rw [if_neg c] at hm; cases hm
end
section
variable {α : Type} {K : PySem.W.Frag} {R : Rl α} {B H : Hp} {σ : L2.St} {Q : VK} {QA : List V → Hp → Prop} {v w : V} {te : TE} {t : TA} {xs ys : List α} {vs : List V}
def FldQ (K : PySem.W.Frag) (f : Str) (Q : VK) (x : V) (H : Hp) : Prop := ∃ a C dx fs v, x = .ref a ∧ H a = some (.ins C dx fs) ∧ Cls K C ∧ NoAttr K C f ∧ fs.lookup f = some v ∧ Q v H
theorem x_fld {f : Str} (g : te σ H fun x H1 => FldQ K f Q x H1) : tFld K te f σ H Q := g
theorem q_fld {f : Str} (h : ∃ a C dx fs, v = .ref a ∧ H a = some (.ins C dx fs) ∧ Cls K C ∧ NoAttr K C f ∧ fs.lookup f = some w) (g : Q w H) : FldQ K f Q v H := let ⟨a, C, dx, fs, e, h1, h2, h3, h4⟩ := h; ⟨a, C, dx, fs, w, e, h1, h2, h3, h4, g⟩
def StQ (K : PySem.W.Frag) (t : TA) (σ : L2.St) (QA : List V → Hp → Prop) (x : V) (H : Hp) : Prop := ∃ p xs, x = V.ref p ∧ (SqT K H p xs ∨ SqL K H p xs) ∧ t σ H fun ys H2 => QA (xs ++ ys) H2
theorem x_star (g : te σ H fun x H1 => StQ K t σ QA x H1) : StX.tStar K te t σ H QA := g
theorem q_star (h : Sq K R B H xs v) (g : ∀ vs, Fa (R.rel B) xs vs → t σ H fun ys H2 => QA (vs ++ ys) H2) : StQ K t σ QA v H := by
  obtain ⟨p, vs, rfl, h, f, _⟩ := h
  exact ⟨p, vs, rfl, h.symm, g vs f⟩
theorem q_tupT (h : (dTup K R).rel H xs v) (g : Q v H) : rTupT K [v] H Q := by
  obtain ⟨p, vs, rfl, h, f, l⟩ := h
  exact ⟨p, vs, rfl, h, g⟩
def capM (xs : List α) : Option (List α) := if xs.length ≤ BIG then some xs else none
theorem capM_some (h : capM xs = some ys) : xs = ys ∧ ys.length ≤ BIG := by
  unfold capM at h
  by_cases e : xs.length ≤ BIG
  · rw [if_pos e] at h; cases h; exact ⟨rfl, e⟩
  · rw [if_neg e] at h; cases h
theorem capM_fa (h : capM xs = some ys) (f : Fa (R.rel B) xs vs) : Fa (R.rel B) ys vs := by rw [← (capM_some h).1]; exact f
theorem capM_le (h : capM xs = some ys) : ys.length ≤ BIG := (capM_some h).2
theorem capM_eq (h : xs.length < 1000000) : capM xs = some xs := by unfold capM BIG; rw [if_pos (by omega)]
end
end Mf

namespace Mf
open PySem L2 PyProof.Rows
/-! ### which procedures lead to which other ones -/
theorem dGet_mem {α : Type} {ps : List (Str × α)} {p : Str × α} (nd : (ps.map Prod.fst).Nodup) (h : p ∈ ps) : dGet ps p.1 = some p.2 := by
  unfold dGet
  induction ps with
  | nil => cases h
  | cons q ps ih =>
    rw [List.map_cons, List.nodup_cons] at nd
    by_cases e : q.1 = p.1
    · rcases List.mem_cons.mp h with rfl | h
      · simp
      · exact absurd (by rw [e]; exact List.mem_map.mpr ⟨p, h, rfl⟩) nd.1
    · rcases List.mem_cons.mp h with rfl | h
      · exact absurd rfl e
      · simp [List.find?_cons, e]
        have := ih nd.2 h
        simpa using this
def bodyOf (ps : List Prc) (x : Str) : List Stp := (dGet ps x).getD []
theorem body_of {ps : List Prc} (hg : Good ps) {x : Str} (h : x ∈ nms ps) : dGet ps x = some (bodyOf ps x) ∧ (x, bodyOf ps x) ∈ ps := by
  obtain ⟨p, hp, rfl⟩ := List.mem_map.mp h
  have e := dGet_mem hg.nd hp
  have eb : bodyOf ps p.1 = p.2 := by unfold bodyOf; rw [e]; rfl
  rw [eb]
  exact ⟨e, hp⟩
def nexts (ps : List Prc) (ks st : List Str) (x : Str) : List Str := (bodyOf ps x).filterMap fun s => if s.1 ∈ ks ∧ s.2 ∉ st then some s.2 else none
inductive Rch (ps : List Prc) (ks st S : List Str) : Str → Prop
  | start {x : Str} : x ∈ S → x ∉ st → Rch ps ks st S x
  | step {x y : Str} : Rch ps ks st S x → y ∈ nexts ps ks st x → Rch ps ks st S y
def sprStep (ps : List Prc) (ks st : List Str) (s : List Str × List Str) : Ctl (List Str × List Str) (List Str) := match s.1.getLast? with
  | none => .brk s
  | some x => if x ∈ s.2 then .nx (s.1.dropLast, s.2) else .nx (s.1.dropLast ++ nexts ps ks st x, s.2 ++ [x])
theorem nexts_len {ps : List Prc} (hg : Good ps) {ks st : List Str} {x : Str} (h : x ∈ nms ps) : (nexts ps ks st x).length ≤ 12 := by
  refine Nat.le_trans (List.length_filterMap_le _ _) ?_
  exact hg.short _ (body_of hg h).2
theorem mem_nexts {ps : List Prc} {ks st : List Str} {x y : Str} : y ∈ nexts ps ks st x ↔ ∃ k, k ∈ ks ∧ (k, y) ∈ bodyOf ps x ∧ y ∉ st := by
  unfold nexts
  rw [List.mem_filterMap]
  constructor
  · rintro ⟨s, hs, e⟩
    by_cases c : s.1 ∈ ks ∧ s.2 ∉ st
    · rw [if_pos c] at e; cases e; exact ⟨s.1, c.1, hs, c.2⟩
    · rw [if_neg c] at e; cases e
  · rintro ⟨k, hk, hm, hn⟩
    exact ⟨(k, y), hm, by rw [if_pos ⟨hk, hn⟩]⟩
theorem nexts_sub {ps : List Prc} (hg : Good ps) {ks st : List Str} (hk : ∀ k ∈ ks, k ∈ calls) {x y : Str} (hx : x ∈ nms ps) (h : y ∈ nexts ps ks st x) : y ∈ nms ps := by
  obtain ⟨k, hk', hm, _⟩ := mem_nexts.mp h
  exact (hg.step _ (body_of hg hx).2 _ hm).2.2 (hk k hk')
structure SprI (ps : List Prc) (ks st S : List Str) (s : List Str × List Str) : Prop where
  nd : s.2.Nodup
  fs : ∀ x ∈ s.2, x ∈ nms ps
  ws : ∀ x ∈ s.1, x ∈ nms ps
  rw' : ∀ x ∈ s.1, Rch ps ks st S x
  rf' : ∀ x ∈ s.2, Rch ps ks st S x
  st' : ∀ x ∈ S, x ∉ st → x ∈ s.1 ∨ x ∈ s.2
  cl : ∀ x ∈ s.2, ∀ y ∈ nexts ps ks st x, y ∈ s.1 ∨ y ∈ s.2
  len : s.1.length + 13 * (16 - s.2.length) ≤ 16 + 13 * 16
theorem getLast_split {α : Type} {xs : List α} {x : α} (h : xs.getLast? = some x) : xs = xs.dropLast ++ [x] := by
  cases xs with
  | nil => cases h
  | cons a l =>
    rw [List.getLast?_eq_some_getLast (by simp)] at h
    injection h with h
    rw [← h]
    exact (List.dropLast_concat_getLast (by simp)).symm
def sprMu (s : List Str × List Str) : Nat := s.1.length + 13 * (16 - s.2.length)
theorem spr_step {ps : List Prc} (hg : Good ps) {ks st S : List Str} (hk : ∀ k ∈ ks, k ∈ calls) {s : List Str × List Str} (h : SprI ps ks st S s) :
    match sprStep ps ks st s with
    | .nx s' => SprI ps ks st S s' ∧ sprMu s' < sprMu s
    | .brk s' => s' = s ∧ s.1 = []
    | .ret _ => False := by
  unfold sprStep
  cases e : s.1.getLast? with
  | none => exact ⟨rfl, List.getLast?_eq_none_iff.mp e⟩
  | some x =>
    have es := getLast_split e
    have hx : x ∈ s.1 := by rw [es]; simp
    have hxn := h.ws x hx
    have hd : ∀ y ∈ s.1.dropLast, y ∈ s.1 := fun y hy => by rw [es]; exact List.mem_append_left _ hy
    have hl : s.1.length = s.1.dropLast.length + 1 := by
      conv => lhs; rw [es]
      simp
    have hor : ∀ y ∈ s.1, y ∈ s.1.dropLast ∨ y = x := fun y hy => by
      rw [es] at hy
      rcases List.mem_append.mp hy with z | z
      · exact .inl z
      · exact .inr (List.mem_singleton.mp z)
    have hlen := h.len
    by_cases c : x ∈ s.2
    · simp only [c, if_true]
      refine ⟨⟨h.nd, h.fs, fun y hy => h.ws y (hd y hy), fun y hy => h.rw' y (hd y hy), h.rf', fun y hy hn => ?_, fun a ha y hy => ?_, ?_⟩, ?_⟩
      · rcases h.st' y hy hn with z | z
        · rcases hor y z with z | rfl
          · exact .inl z
          · exact .inr c
        · exact .inr z
      · rcases h.cl a ha y hy with z | z
        · rcases hor y z with z | rfl
          · exact .inl z
          · exact .inr c
        · exact .inr z
      · show s.1.dropLast.length + 13 * (16 - s.2.length) ≤ _
        omega
      · show s.1.dropLast.length + 13 * (16 - s.2.length) < s.1.length + 13 * (16 - s.2.length)
        omega
    · simp only [c, if_false]
      have hr := h.rw' x hx
      have nl := nexts_len hg (ks := ks) (st := st) hxn
      have nd2 : (s.2 ++ [x]).Nodup := by
        rw [List.nodup_append]
        exact ⟨h.nd, by simp, fun a ha b hb => by rw [List.mem_singleton.mp hb]; rintro rfl; exact c ha⟩
      have fs2 : ∀ y ∈ s.2 ++ [x], y ∈ nms ps := fun y hy => by
        rcases List.mem_append.mp hy with z | z
        · exact h.fs y z
        · rw [List.mem_singleton.mp z]; exact hxn
      have f16 : s.2.length + 1 ≤ 16 := by
        have := nodup_le nd2 fs2
        rw [List.length_append] at this
        have h16 := hg.few
        unfold nms at this
        rw [List.length_map] at this
        simp at this
        omega
      refine ⟨⟨nd2, fs2, fun y hy => ?_, fun y hy => ?_, fun y hy => ?_, fun y hy hn => ?_, fun a ha y hy => ?_, ?_⟩, ?_⟩
      · rcases List.mem_append.mp hy with z | z
        · exact h.ws y (hd y z)
        · exact nexts_sub hg hk hxn z
      · rcases List.mem_append.mp hy with z | z
        · exact h.rw' y (hd y z)
        · exact .step hr z
      · rcases List.mem_append.mp hy with z | z
        · exact h.rf' y z
        · rw [List.mem_singleton.mp z]; exact hr
      · rcases h.st' y hy hn with z | z
        · rcases hor y z with z | rfl
          · exact .inl (List.mem_append_left _ z)
          · exact .inr (by simp)
        · exact .inr (List.mem_append_left _ z)
      · rcases List.mem_append.mp ha with z | z
        · rcases h.cl a z y hy with z | z
          · rcases hor y z with z | rfl
            · exact .inl (List.mem_append_left _ z)
            · exact .inr (by simp)
          · exact .inr (List.mem_append_left _ z)
        · rw [List.mem_singleton.mp z] at hy
          exact .inl (List.mem_append_right _ hy)
      · show (s.1.dropLast ++ nexts ps ks st x).length + 13 * (16 - (s.2 ++ [x]).length) ≤ _
        rw [List.length_append, List.length_append]
        simp only [List.length_cons, List.length_nil]
        omega
      · show (s.1.dropLast ++ nexts ps ks st x).length + 13 * (16 - (s.2 ++ [x]).length) < s.1.length + 13 * (16 - s.2.length)
        rw [List.length_append, List.length_append]
        simp only [List.length_cons, List.length_nil]
        omega
theorem whC_congr {S R : Type} {f g : S → Option (Ctl S R)} (I : S → Prop) (he : ∀ s, I s → f s = g s) (hI : ∀ s s', I s → g s = some (.nx s') → I s') : ∀ (n : Nat) (s : S), I s → whC f n s = whC g n s
  | 0, _, _ => rfl
  | n + 1, s, h => by
    unfold whC
    rw [he s h]
    cases e : g s with
    | none => rfl
    | some o =>
      cases o with
      | nx s' => exact whC_congr I he hI n s' (hI s s' h e)
      | brk s' => rfl
      | ret r => rfl
/-- what the walk finds: each once, just what is reached -/
structure Found (ps : List Prc) (ks st S f : List Str) : Prop where
  nd : f.Nodup
  sub : ∀ x ∈ f, x ∈ nms ps
  mem : ∀ x, x ∈ f ↔ Rch ps ks st S x
theorem spr_found {ps : List Prc} (hg : Good ps) {ks st S : List Str} (hk : ∀ k ∈ ks, k ∈ calls) (hS : ∀ x ∈ S, x ∈ nms ps) (hl : S.length ≤ 16) :
    ∃ f, Found ps ks st S f ∧ ∀ g : List Str × List Str → Option (Ctl (List Str × List Str) (List Str)), (∀ s, SprI ps ks st S s → g s = some (sprStep ps ks st s)) → whC g FUEL (S.filter (fun x => decide (x ∉ st)), []) = some (.nx ([], f)) := by
  have h0 : SprI ps ks st S (S.filter (fun x => decide (x ∉ st)), []) := by
    refine ⟨List.nodup_nil, by simp, fun x hx => hS x (List.mem_filter.mp hx).1, fun x hx => ?_, by simp, fun x hx hn => .inl (List.mem_filter.mpr ⟨hx, by simpa using hn⟩), by simp, ?_⟩
    · have := List.mem_filter.mp hx
      exact .start this.1 (by simpa using this.2)
    · show (S.filter _).length + 13 * (16 - 0) ≤ _
      have := List.length_filter_le (fun x => decide (x ∉ st)) S
      omega
  obtain ⟨c, hc, s1, rfl, hI, hw⟩ : Wp (whC (fun s => some (sprStep ps ks st s)) FUEL (S.filter (fun x => decide (x ∉ st)), [])) (fun c => ∃ s, c = .nx s ∧ SprI ps ks st S s ∧ s.1 = []) := by
    refine wp_whC (SprI ps ks st S) sprMu h0 ?_ fun s h => ⟨_, rfl, ?_⟩
    · have := h0.len
      show (S.filter _).length + 13 * (16 - 0) < 1000000
      have := List.length_filter_le (fun x => decide (x ∉ st)) S
      omega
    · have := spr_step hg hk h
      cases e : sprStep ps ks st s with
      | nx s' => rw [e] at this; exact this
      | brk s' => rw [e] at this; obtain ⟨rfl, hw⟩ := this; exact ⟨_, rfl, h, hw⟩
      | ret r => rw [e] at this; exact this.elim
  obtain ⟨w, f⟩ := s1
  simp only at hw
  subst hw
  refine ⟨f, ⟨hI.nd, hI.fs, fun x => ⟨hI.rf' x, fun hr => ?_⟩⟩, fun g hg' => ?_⟩
  · induction hr with
    | start h1 h2 =>
      rcases hI.st' _ h1 h2 with z | z
      · cases z
      · exact z
    | step _ h2 ih =>
      rcases hI.cl _ ih _ h2 with z | z
      · cases z
      · exact z
  · rw [← hc]
    refine whC_congr (SprI ps ks st S) hg' (fun s s' h e => ?_) _ _ h0
    injection e with e
    have := spr_step hg hk h
    rw [e] at this
    exact this.1
/-- one turn of such a walk, however the next ones are got -/
theorem spr_turn {ρ : Type} {ps : List Prc} (hg : Good ps) {ks st S : List Str} {F : Str → Option ρ} {G : ρ → List Str} (hF : ∀ x ∈ nms ps, ∃ r, F x = some r ∧ G r = nexts ps ks st x) {s : List Str × List Str} (h : SprI ps ks st S s) :
    (if (decide ((0 : Int) < (s.1.length : Int))) = true then (s.1.getLast?).bind fun x => if (!decide (x ∈ s.2)) = true then (pushM s.2 x).bind fun f => (F x).bind fun r => (catM s.1.dropLast (G r)).bind fun w => some (.nx (w, f)) else some (.nx (s.1.dropLast, s.2)) else some (.brk (s.1, s.2))) = some (sprStep ps ks st s) := by
  obtain ⟨w, f⟩ := s
  unfold sprStep
  simp only
  cases e : w.getLast? with
  | none =>
    have : w = [] := List.getLast?_eq_none_iff.mp e
    subst this
    rfl
  | some x =>
    have es := getLast_split e
    have hx : x ∈ w := by rw [es]; simp
    have hxn := h.ws x hx
    have hl : 0 < w.length := by rw [es]; simp
    have hlen := h.len
    simp only at hlen
    rw [if_pos (decide_eq_true (by omega)), Option.bind_some]
    dsimp only
    by_cases c : x ∈ f
    · rw [if_neg (by simp [c]), if_pos c]
    · rw [if_pos (by simp [c]), if_neg c]
      obtain ⟨r, e1, e2⟩ := hF x hxn
      have fl : f.length ≤ 16 := by
        have := nodup_le h.nd h.fs
        have h16 := hg.few
        unfold nms at this
        rw [List.length_map] at this
        exact Nat.le_trans this h16
      have nl := nexts_len hg (ks := ks) (st := st) hxn
      have hd : w.dropLast.length ≤ w.length := by rw [List.length_dropLast]; omega
      rw [pushM_eq (by omega), Option.bind_some, e1, Option.bind_some, e2, catM_eq (by omega)]
      rfl
open Classical in
/-- the procedures that are reached, ascending -/
noncomputable def rset (ps : List Prc) (ks st S : List Str) : List Str := nset ((nms ps).filter fun x => decide (Rch ps ks st S x))
theorem mem_rset {ps : List Prc} {ks st S : List Str} {x : Str} : x ∈ rset ps ks st S ↔ x ∈ nms ps ∧ Rch ps ks st S x := by
  unfold rset
  rw [mem_nset, List.mem_filter]
  simp
theorem Found.nset {ps : List Prc} {ks st S f : List Str} (h : Found ps ks st S f) : nset f = rset ps ks st S := by
  unfold rset
  refine nset_congr fun z => ?_
  rw [List.mem_filter]
  exact ⟨fun m => ⟨h.sub z m, by simpa using (h.mem z).mp m⟩, fun m => (h.mem z).mpr (by simpa using m.2)⟩
theorem Found.len {ps : List Prc} (hg : Good ps) {ks st S f : List Str} (h : Found ps ks st S f) : f.length ≤ 16 := by
  have := nodup_le h.nd h.sub
  have h16 := hg.few
  unfold nms at this
  rw [List.length_map] at this
  exact Nat.le_trans this h16
theorem rset_sub {ps : List Prc} {ks st S : List Str} {x : Str} (h : x ∈ rset ps ks st S) : x ∈ nms ps := (mem_rset.mp h).1
theorem rset_oks {ps : List Prc} (hg : Good ps) {ks st S : List Str} : Oks (rset ps ks st S) := fun x hx => hg.oks x (rset_sub hx)
theorem rch_sub {ps : List Prc} (hg : Good ps) {ks st S : List Str} (hk : ∀ k ∈ ks, k ∈ calls) (hS : ∀ x ∈ S, x ∈ nms ps) {x : Str} (h : Rch ps ks st S x) : x ∈ nms ps := by
  induction h with
  | start h1 _ => exact hS _ h1
  | step _ h2 ih => exact nexts_sub hg hk ih h2
theorem rch_congr {ps : List Prc} {ks st S S' : List Str} (h : ∀ x, x ∈ S ↔ x ∈ S') {x : Str} : Rch ps ks st S x ↔ Rch ps ks st S' x := by
  constructor
  · intro r
    induction r with
    | start h1 h2 => exact .start ((h _).mp h1) h2
    | step _ h2 ih => exact .step ih h2
  · intro r
    induction r with
    | start h1 h2 => exact .start ((h _).mpr h1) h2
    | step _ h2 ih => exact .step ih h2
theorem rset_congr {ps : List Prc} {ks st S S' : List Str} (h : ∀ x, x ∈ S ↔ x ∈ S') : rset ps ks st S = rset ps ks st S' := by
  unfold rset
  refine nset_congr fun z => ?_
  rw [List.mem_filter, List.mem_filter]
  simp only [decide_eq_true_iff]
  rw [rch_congr h]
theorem names_few {ps : List Prc} (hg : Good ps) {xs : List Str} (h : ∀ x ∈ xs, x ∈ nms ps) : (addAll xs).length ≤ 16 := by
  have := nodup_le (addAll_nodup xs) (fun z hz => h z (mem_addAll.mp hz))
  have h16 := hg.few
  unfold nms at this
  rw [List.length_map] at this
  exact Nat.le_trans this h16
theorem fm_notin (xs st : List Str) : (xs.filterMap fun (a : Str) => if (!decide (a ∈ st)) = true then some a else none) = xs.filter (fun x => decide (x ∉ st)) := by
  induction xs with
  | nil => rfl
  | cons x xs ih =>
    by_cases c : x ∈ st
    · simp [List.filterMap_cons, c] at ih ⊢; exact ih
    · simp [List.filterMap_cons, c] at ih ⊢; exact ih
theorem srtM_eq {xs : List Str} (h : xs.length < 64) : srtM xs = some (srt xs) := by unfold srtM; rw [if_pos h]
theorem eq_strsT {xs ys : List Str} (h1 : Oks xs) (h2 : Oks ys) : eqD (PyData.tuple (xs.map PyData.str)) (PyData.tuple (ys.map PyData.str)) = some (decide (xs = ys)) := by
  unfold eqD
  rw [if_pos ⟨shaped_strsT h1, shaped_strsT h2⟩, eqv_strsT]
theorem eq_strsL {xs ys : List Str} (h1 : Oks xs) (h2 : Oks ys) : eqD (PyData.list (xs.map PyData.str)) (PyData.list (ys.map PyData.str)) = some (decide (xs = ys)) := by
  unfold eqD
  rw [if_pos ⟨shaped_strsL h1, shaped_strsL h2⟩, eqv_strsL]
def ALLK : List Str := [Str.ofString "call", Str.ofString "try"]
def HARDK : List Str := [Str.ofString "call"]
theorem allk_calls : ∀ k ∈ ALLK, k ∈ calls := by decide +kernel
theorem hardk_calls : ∀ k ∈ HARDK, k ∈ calls := by decide +kernel
section
variable {ps : List Prc} {ks ks' st S S' : List Str} {x y : Str}
theorem rch_mono (h : ∀ x ∈ S, x ∈ S') (r : Rch ps ks st S x) : Rch ps ks st S' x := by
  induction r with
  | start h1 h2 => exact .start (h _ h1) h2
  | step _ h2 ih => exact .step ih h2
theorem rch_trans (r : Rch ps ks st S y) (r' : Rch ps ks st [y] x) : Rch ps ks st S x := by
  induction r' with
  | start h1 h2 => rw [List.mem_singleton.mp h1]; exact r
  | step _ h2 ih => exact .step ih h2
theorem rch_one (r : Rch ps ks st S x) : ∃ y ∈ S, Rch ps ks st [y] x := by
  induction r with
  | start h1 h2 => exact ⟨_, h1, .start (by simp) h2⟩
  | step _ h2 ih => obtain ⟨y, hy, r⟩ := ih; exact ⟨y, hy, .step r h2⟩
theorem rch_bind (r : Rch ps ks st S' x) (h : ∀ y ∈ S', Rch ps ks st S y) : Rch ps ks st S x := by
  obtain ⟨y, hy, r⟩ := rch_one r
  exact rch_trans (h y hy) r
theorem rch_kinds (h : ∀ k ∈ ks, k ∈ ks') (r : Rch ps ks st S x) : Rch ps ks' st S x := by
  induction r with
  | start h1 h2 => exact .start h1 h2
  | step _ h2 ih =>
    obtain ⟨k, hk, hm, hn⟩ := mem_nexts.mp h2
    exact .step ih (mem_nexts.mpr ⟨k, h k hk, hm, hn⟩)
theorem hard_all : ∀ k ∈ HARDK, k ∈ ALLK := by decide +kernel
end
end Mf

namespace Mf
open PySem L2 PyProof.Rows
/-! ### calls with keywords -/
def DoesN (P : Program) (w : World) (K : PySem.W.Frag) (mg : Str → Option Value) (base : Heap) (CX : CXT) (lv : Nat) (x : Str) (ps : List Str) (n : Nat) (ks : List Str) (gV : List V → List V → List V) (sp : Sp) : Prop :=
  ∃ f fd g, FnOk P w K mg base CX lv f fd ps sp ∧ mg x = some (.ref f) ∧ PySem.W.keepIn K (.ref f) = true ∧ KBn K fd ps n ks g gV
def MkN (P : Program) (w : World) (K : PySem.W.Frag) (mg : Str → Option Value) (base : Heap) (CX : CXT) (lv : Nat) (x : Str) (C : Addr) (ps : List Str) (n : Nat) (ks : List Str) (gV : List V → List V → List V) (sp : Sp) : Prop :=
  ∃ f fd g, Mk K C f ∧ FnOk P w K mg base CX lv f fd ps sp ∧ mg x = some (.ref C) ∧ KBn K fd ps n ks g gV
/-- the values behind the positional ones: from the lacking ones (false) or the given ones (true) -/
def arrs {α : Type} (mv ws : List α) : List (Bool × Nat) → List α
  | [] => []
  | (true, i) :: r => (ws.drop i).take 1 ++ arrs mv ws r
  | (false, i) :: r => (mv.drop i).take 1 ++ arrs mv ws r
theorem vals_take {vs : List V} {us : List Value} (h : Vals vs us) : Vals (vs.take 1) (us.take 1) := by
  cases h with
  | nil => exact .nil
  | cons r _ => exact .cons r .nil
theorem arrs_rel {mz zs : List V} {mv ws : List Value} (h1 : Vals mz mv) (h2 : Vals zs ws) : ∀ l, Vals (arrs mz zs l) (arrs mv ws l)
  | [] => .nil
  | (true, i) :: r => (vals_take (h2.drop i)).append (arrs_rel h1 h2 r)
  | (false, i) :: r => (vals_take (h1.drop i)).append (arrs_rel h1 h2 r)
def kwV (dv : List V) (l : List (Bool × Nat)) (vs zs : List V) : List V := vs ++ arrs dv zs l
section
variable {P : Program} {w : World} {K : PySem.W.Frag} {mg : Str → Option Value} {base : Heap} {CX : CXT} {lv : Nat} {x q : Str} {st : Stmt} {dvs : List V} {kws : List (Str × V)} {ps : List Str} {sp : Sp} {C : Addr}
/-- keyword-only defaults alone, none given -/
theorem CoreD.form0 (h : CoreD P w K mg base CX lv x st [] kws ps sp) (n : Nat) (hk : kws ≠ []) (hn : n + kws.length = ps.length)
    (hb : ∀ (D : Addr) (doc pm : Value) (an : Option Addr) (cdv ct : Value) (us ks : List Value), us.length = n → ks.length = kws.length →
      KwChain D ((kws.map (·.1)).zip ks) (bindArgs (PySem.W.fnOf x x (defArgs st) (defBody st) (defScope st) .none (.ref D) doc pm an cdv ct) ⟨us, []⟩) (ps.zip (us ++ ks))) : DoesD P w K mg base CX lv x ps (kws.map (·.2)) sp := by
  obtain ⟨f, fd, F, A, g⟩ := h
  obtain ⟨ds, v, b⟩ := A.binds0 n hk hn hb
  exact ⟨f, fd, ds, F, g, A.kp, b, v⟩
/-- keyword-only defaults alone; ms lack -/
theorem CoreD.formN (h : CoreD P w K mg base CX lv x st [] kws ps sp) (n : Nat) (ks : List Str) (ms : List (Str × V)) (l : List (Bool × Nat)) (hk : kws ≠ []) (hms : ∀ q ∈ ms, q ∈ kws)
    (hb : ∀ (D : Addr) (doc pm : Value) (an : Option Addr) (cdv ct : Value) (us mv ws : List Value), us.length = n → mv.length = ms.length → ws.length = ks.length →
      KwChain D ((ms.map (·.1)).zip mv) (bindArgs (PySem.W.fnOf x x (defArgs st) (defBody st) (defScope st) .none (.ref D) doc pm an cdv ct) ⟨us, ks.zip ws⟩) (ps.zip (us ++ arrs mv ws l))) :
    DoesN P w K mg base CX lv x ps n ks (kwV (ms.map (·.2)) l) sp := by
  obtain ⟨f, fd, F, A, g⟩ := h
  obtain ⟨mv, b⟩ := A.kbinds0 n ks ms (fun us mv ws => us ++ arrs mv ws l) hk hms (fun h1 h2 h3 => h1.append (arrs_rel h2 h3 l)) hb
  exact ⟨f, fd, _, F, g, A.kp, b⟩
theorem kw_nil {D : Addr} : ∀ q ∈ ([] : List (Str × V)), ∃ u, PySem.W.nsIn K D q.1 = some (some u) ∧ RelV q.2 u := fun q hq => by cases hq
theorem kw_cons {D : Addr} {y : Str} {v : V} {u : Value} (h : PySem.W.nsIn K D y = some (some u)) (r : RelV v u) (t : ∀ q ∈ kws, ∃ u, PySem.W.nsIn K D q.1 = some (some u) ∧ RelV q.2 u) : ∀ q ∈ (y, v) :: kws, ∃ u, PySem.W.nsIn K D q.1 = some (some u) ∧ RelV q.2 u := by
  intro q hq
  rcases List.mem_cons.mp hq with e | e
  · rw [e]; exact ⟨u, h, r⟩
  · exact t q e
theorem funD_mkK {f D : Addr} {oc : Value} {od an : Option Addr} {osl : Array (Option Value)} {doc pm cdv ct : Value}
    (l : K.lookup f = some ⟨oc, od, .func (PySem.W.fnOf x q (defArgs st) (defBody st) (defScope st) .none (.ref D) doc pm an cdv ct), osl⟩) (c : PySem.W.codeIn K cdv q = true) (k : PySem.W.keepIn K (.ref f) = true)
    (h : ∀ q ∈ kws, ∃ u, PySem.W.nsIn K D q.1 = some (some u) ∧ RelV q.2 u) :
    FunD K x q (defArgs st) (defBody st) (defScope st) [] kws f (PySem.W.fnOf x q (defArgs st) (defBody st) (defScope st) .none (.ref D) doc pm an cdv ct) :=
  ⟨⟨oc, od, .none, .ref D, doc, pm, an, cdv, ct, osl, rfl, l, c, .inl ⟨rfl, rfl⟩, .inr ⟨D, rfl, h⟩⟩, k⟩
end
section
variable {α β : Type} {K : PySem.W.Frag} {R : Rl α} {S : Rl β} {B H : Hp} {σ : L2.St} {Q : VK} {t tk : TA} {sp : Sp} {gV : List V → List V → List V} {E : XK} {n m : Nat} {vs zs : List V} {v w : V} {as : List α} {bs : List β}
def KwZ (n m : Nat) (sp : Sp) (gV : List V → List V → List V) (E : XK) (Q : VK) (vs zs : List V) (H : Hp) : Prop := vs.length = n ∧ zs.length = m ∧ sp (gV vs zs) H Q E
theorem w_callN (g : t σ H fun vs H1 => tk σ H1 fun zs H2 => KwZ n m sp gV E Q vs zs H2) : tCallN n m sp gV E t tk σ H Q := g
theorem q_kw {us : List V} (h1 : vs.length = n) (h2 : zs.length = m) (e : gV vs zs = us) (g : sp (us ++ []) H Q E) : KwZ n m sp gV E Q vs zs H := ⟨h1, h2, by rw [e, ← List.append_nil us]; exact g⟩
/-! ### zip -/
theorem k_iZ {X : Cx} (K : PySem.W.Frag) {e e2 : Expr} {ta : TA} {p pos tpos : Pos} {elts : List Expr} {kk : Nat} (hg : Gl X "zip") (hm : X.mg "zip" = none) (ha : PA X [e, e2] ta)
    (hs : starEach [e, e2] X.env = (false, eval e X.env) :: starEach [e2] X.env := by rfl) (hpl : (backTo pos (starEach [e2] X.env)).any (·.1) = false := by rfl) (hK : X.K = K := by rfl) :
    PI X (.Tuple elts kk tpos) (.Call (.Name "zip" p) [e, e2] [] pos) (iZip K ta) := by
  subst hK
  exact pi_zip hg hm ha hs hpl
def WZ (K : PySem.W.Frag) (R' : It → Hp → Prop) (vs : List V) (H : Hp) : Prop := ∃ a b xs ys, vs = [.ref a, .ref b] ∧ SqL K H a xs ∧ SqL K H b ys ∧ R' (Itz K a b) H
theorem x_iZ {R' : It → Hp → Prop} (g : t σ H fun vs H1 => WZ K R' vs H1) : iZip K t σ H R' := g
theorem w_itZ {R' : It → Hp → Prop} (h : (dList R).rel B as v) (h2 : (dList S).rel B bs w) (s : Same B H) (g : ∀ J, ItOk J B B (as.zip bs) (dPair K R S) → R' J H) : WZ K R' [v, w] H := by
  obtain ⟨p, xs, rfl, h, f, _⟩ := h
  obtain ⟨p2, ys, rfl, h2, f2, _⟩ := h2
  refine ⟨p, p2, xs, ys, rfl, SqL.of (s _ _ h), SqL.of (s _ _ h2), g _ ⟨fun H => SqL K H p xs ∧ SqL K H p2 ys, _, walk_zip (by rw [List.length_zip, f.len, f2.len]), fun H' e => ⟨SqL.of (e _ _ h), SqL.of (e _ _ h2)⟩, ?_⟩⟩
  rintro i H x H' hi ⟨T, a, b, rfl, nT, rfl, hx, hy⟩
  obtain ⟨a', ha, r⟩ := f.get hx
  obtain ⟨b', hb, r2⟩ := f2.get hy
  refine ⟨(a', b'), ?_, fun Φ b cs Z e => ⟨upd b T (.tup [a, _]), Z.put nT, Z.updB nT, T, _, _, rfl, SqT.of upd_same, R.mono (e.tr (Z.updB nT)) r, S.mono (e.tr (Z.updB nT)) r2⟩⟩
  simp [List.getElem?_zip_eq_some, ha, hb]
theorem zip_le (h : as.length ≤ BIG) : (as.zip bs).length ≤ BIG := by rw [List.length_zip]; omega
end
end Mf

namespace Mf
open PySem PySem.Spec PyProof.Rows L2 NdefX
/-! ### a def that says super() in its first statement -/
/-- a statement that is run as one of a def's body -/
structure PSa (X : Cx) (body : List Stmt) (st : Stmt) (t : TS) : Prop where
  run : ∀ (pins : List (Addr × Obj)) (s : Shared) (σ : L2.St) (H : Hp) (D : Ends), Inv X pins σ H s → t D σ H → _root_.PySem.wpAt (model X.prog X.w) X.A (.func body X.env) (exec st X.env) (SP X pins D) X.xe s
abbrev supF (name qual : Str) (params : Arguments) (body : List Stmt) (scope : Scope) (cc c : Addr) : NF := ⟨name, qual, params, body, scope, [("__class__", cc)], c⟩
theorem fnS_of {CX : CXT} {P : Program} {w : World} {K : PySem.W.Frag} {mg : Str → Option Value} {base : Heap} {k : Nat} {f cc c D : Addr} {name qual : Str} {params : Arguments} {st0 : Stmt} {rest : List Stmt} {scope : Scope} {dV kV doc pm ct oc cl : Value} {an od cld : Option Addr}
    {osl csl : Array (Option Value)} {N ps : List Str} {sp : Sp}
    (lk : K.lookup f = some ⟨oc, od, .func (PySem.W.fnX name qual params (st0 :: rest) scope [("__class__", cc)] dV kV doc pm an (.ref c) ct), osl⟩) (hcd : PySem.W.codeIn K (.ref c) qual = true)
    (hcc : K.lookup cc = some ⟨cl, cld, .cell (some (.ref D)), csl⟩) (S : NScope N ps ["__class__"] scope) (len : ∀ vs H Q E, sp vs H Q E → vs.length = ps.length)
    (hbody : ∀ (A : Around) (outer : List Env) (s : Shared) (H : Hp) (vs : List V) (Q : VK) (E : XK), Room k (A.deeper (envF (supF name qual params (st0 :: rest) scope cc c) f s.heap.objs.size)) → sp vs H Q E →
      ∃ t0 t, PSa (ncx CX P w K mg base N (supF name qual params (st0 :: rest) scope cc c) f A outer s H E) (st0 :: rest) st0 t0 ∧ PSs (ncx CX P w K mg base N (supF name qual params (st0 :: rest) scope cc c) f A outer s H E) rest t ∧
        tSeq t0 t { nx := fun _ H' => Q .non H', rt := Q } (startF N vs [none]) H) :
    FnOk P w K mg base CX (k + 1) f (PySem.W.fnX name qual params (st0 :: rest) scope [("__class__", cc)] dV kV doc pm an (.ref c) ct) ps sp := by
  refine ⟨len, fun A outer s H args us vs Q E hr e0 hb r hsp => ?_⟩
  have hl := len _ _ _ _ hsp
  have KX : K.In s.heap := e0.mod.kin.keeps fun b o e => (e0.bs b o e).1
  have lim : s.heap.NoLimit := e0.mod.nolimit.keeps fun b o e => (e0.bs b o e).1
  have C : CellsAt [("__class__", cc)] ["__class__"] [none] s.heap H := by
    refine ⟨rfl, fun y c' e => ?_, fun x y c' e1 e2 => ?_, fun i y e => ?_⟩
    · have hc' : c' = cc := by
        rw [List.lookup_cons] at e
        split at e
        · exact (Option.some.inj e).symm
        · cases e
      subst hc'
      exact ⟨(e0.bs _ _ (e0.mod.kin _ _ hcc)).2, _, _, KX _ _ hcc, rfl⟩
    · rw [List.lookup_cons] at e1 e2
      split at e1
      · rename_i h1
        split at e2
        · rename_i h2
          exact (beq_iff_eq.mp h1).trans (beq_iff_eq.mp h2).symm
        · cases e2
      · cases e1
    · cases i with
      | zero =>
        have hy : y = "__class__" := (Option.some.inj e).symm
        subst hy
        exact ⟨cc, by rw [List.lookup_cons]; simp, fun v h => by simp at h⟩
      | succ i => simp at e
  refine codeAny_call_function hr.depth (KX _ _ lk) rfl S.co S.gen rfl (PySem.W.codeRec_of KX hcd) (hb _ _ _ _ ?_)
  refine wpAny_newFunctionEnv S.nocell (fun ⟨n, _⟩ hy => S.par n (List.of_mem_zip hy).1) (fun h₁ hns hsb => ⟨lim.fresh _ hsb, ?_⟩) S.kind
  show codeAny _ _ (.func (st0 :: rest) (envF (supF name qual params (st0 :: rest) scope cc c) f s.heap.objs.size)) _ _
  have kp : ∀ b o, s.heap.get? b = some o → h₁.get? b = some o := fun b o e => hsb.extBut b o (Nat.ne_of_lt (Heap.lt_size e)) (Heap.get?_push_of_some _ e)
  obtain ⟨t0, t, ht0, ht, hq⟩ := hbody A outer s H vs Q E (hr.deeper _) hsp
  have I : Inv (ncx CX P w K mg base N (supF name qual params (st0 :: rest) scope cc c) f A outer s H E) [] (startF N vs [none]) H { s with heap := h₁, toks := s.toks + (ps.zip us).length } := inv_startN S hr.hd e0 hl r C hns kp
  refine PySem.ks_codeAny_funcAt (PySem.ks_wpAt_execs_cons ?_)
  have fin : ∀ {σ' : L2.St} {H' : Hp} {v : V} {u : Value} {s' : Shared}, Inv (ncx CX P w K mg base N (supF name qual params (st0 :: rest) scope cc c) f A outer s H E) [] σ' H' s' → L2.RelV v u → Q v H' → CE outer P w H s Q u s' :=
    fun {σ' H' v u s'} J rv q => ⟨v, H', J.os, J.bare, J.base, J.hok, rv, q⟩
  refine PySem.ks_wpAt_mono (ht0.run [] _ _ _ _ I hq) (fun fl s' hs => ?_) fun e s' hs => hs
  cases fl with
  | ret u =>
    obtain ⟨v, σ', H', J, rv, q⟩ := hs
    exact fin J rv q
  | next =>
    obtain ⟨σ', H', J, q⟩ := hs
    refine wpAt_of_wpAny (wpAny_mono (ht.run [] _ σ' H' _ J q) (fun fl s' hs => ?_) fun e s' hs => hs)
    cases fl with
    | ret u =>
      obtain ⟨v, σ', H', J, rv, q⟩ := hs
      exact fin J rv q
    | next =>
      obtain ⟨σ', H', J, q⟩ := hs
      exact fin (v := V.non) (u := Value.none) J rfl q
    | brk =>
      obtain ⟨_, _, _, q⟩ := hs
      exact False.elim q
    | cont =>
      obtain ⟨_, _, _, q⟩ := hs
      exact False.elim q
  | brk =>
    obtain ⟨_, _, _, q⟩ := hs
    exact False.elim q
  | cont =>
    obtain ⟨_, _, _, q⟩ := hs
    exact False.elim q
/-! ### super().__init__(..) of an own exception over ValueError -/
section
open PySem.W PySem.Calls
variable {prog : Program} {w : World} {A : Around} {E : Value → Shared → Prop} {h : Heap} {g : Array GenState} {d : Drawn} {t : Nat} {os : OsState}
variable {nm q : Str} {C N : Addr} {bs bm : List Value} {hdct : Bool} {sn : List Str} {sub : List Value} {ab : Bool} {col : Option Bool} {dd : Option Addr} {k0 k1 k2 k3 k5 : Option Value}
theorem call_mw {u e t0 : Addr} {rest : List Value} {Q : Value → Shared → Prop}
    (hC : h.get? C = some (excClassObj nm q C N bs bm hdct sn sub ab col dd k0 k1 k2 k3 k5 "ValueError.__new__")) (he : h.get? e = some (excObj C t0 none .none)) (hu : h.get? u = some (kxs_mw "ValueError.__init__" e)) (hrest : rest.length ≤ sizeLine)
    (hq : ∀ h' t1, (∀ b o, b ≠ e → h.get? b = some o → h'.get? b = some o) → h'.get? e = some (excObj C t1 none .none) → Q .none ⟨h', g, d, t, os⟩) :
    wpAny (model prog w) A (call (.ref u) rest) Q E ⟨h, g, d, t, os⟩ := by
  refine wpAny_call (codeAny_of_tree ?_)
  show wpAny _ A.in1 (callAny (.ref u) ⟨rest, []⟩) _ _ _
  simp only [callAny]
  refine wpAny_bind (wpAny_load hu ?_)
  simp only [kxs_mw, show (Value.type "method-wrapper" == Value.type "method" || Value.type "method-wrapper" == Value.type "builtin_function_or_method" || Value.type "method-wrapper" == Value.type "method-wrapper") = true by decide, if_true]
  refine KFB.if_so (by decide) ?_
  refine wpAny_bind (check_bound_init F.excBase_ValueError.toExcCallFacts hC he rfl ?_)
  refine wpAny_bind (wpAny_pure (wpAny_pure ?_))
  refine ⟨plainId_quiet F.excBase_ValueError.init.plain _, codeAny_builtin F.excBase_ValueError.initEntry ?_⟩
  exact exc_init_tree (cls := .ref C) (t0 := t0) (dv := none) (c2 := .none) (c3 := .none) (b4 := .bool false) he hrest fun h' k1 k2 _ => hq h' _ k1 k2
end
/-- what K tells of a def that says super() -/
structure SupC (K : PySem.W.Frag) (P : Program) (mg : Str → Option Value) (C D f cc c : Addr) (slf : Str) : Prop where
  fn : ∃ oc od fd osl ar, K.lookup f = some ⟨oc, od, .func fd, osl⟩ ∧ (fd.params.posonlyargs ++ fd.params.args).head? = some ar ∧ ar.arg = slf
  cell : ∃ cl cld csl, K.lookup cc = some ⟨cl, cld, .cell (some (.ref D)), csl⟩
  code : ∃ ccl cdd vs ccs file tf, K.lookup c = some ⟨ccl, cdd, .fields vs, ccs⟩ ∧ vs[2]? = some (.str file tf) ∧ ((P.main.file : Str) == file) = true
  cls : ∃ cd, PySem.W.clsIn K D = some cd
  sub : PySem.W.mroIn K C (.ref D) = some true
  opq : PySem.W.nsIn K cStatics "thirdparty.any" = some none
  top : (P.main.scope.names.lookup ("super" : Str)).isSome = false
  none : mg "super" = none
def tSup (C : Addr) (ta : TA) : TS := fun D σ H => ∃ a, σ[0]? = some (some (.ref a)) ∧ H a = some (exo a C none) ∧ ta σ H fun vs H1 => vs.length ≤ 1000 ∧ H1 a = some (exo a C none) ∧ D.nx σ H1
section
variable {X : Cx} {C D f cc c : Addr} {slf : Str} {body : List Stmt} {p0 p1 p2 pos pos' : Pos} {e : Expr} {es : List Expr} {ta : TA} {pl : Sem Bool}
theorem psa_sup (T : OexC X.K C) (W : SupC X.K X.prog X.mg C D f cc c slf) (hm : PySem.W.ks_superIn X.K C D "__init__" = some (some (.builtin "ValueError.__init__"))) (hB : PySem.W.subIn X.K (.ref C) (.type "ValueError") = some true)
    (hks : X.env.kindOf "super" = some .globalImplicit) (hkc : X.env.kindOf "__class__" = some .free) (hka : X.env.kindOf slf = some .local) (hfu : X.env.func = some f) (hco : X.env.code = .ref c) (hce : X.env.cells.lookup ("__class__" : Str) = some cc) (hN : X.N[0]? = some slf)
    (ha : PA X (e :: es) ta) (hboot : bootBuiltins "super" = some (.type "super") := by rfl)
    (hev : eval (.Call (.Attribute (.Call (.Name "super" p0) [] [] p1) "__init__" p2) (e :: es) [] pos) X.env = (do
      let ov ← attributeBase (.Call (.Name "super" p0) [] [] p1) "__init__" X.env (eval (.Call (.Name "super" p0) [] [] p1) X.env)
      standAt p2.atName
      let (f, first) ← holding [ov] (getMethod ov "__init__" pl)
      callWith pos f first (backTo pos (starEach (e :: es) X.env)) []) := by rfl)
    (hi : interactive X.env = false := by rfl) (hsw : swapsWith (.Call (.Attribute (.Call (.Name "super" p0) [] [] p1) "__init__" p2) (e :: es) [] pos) Option.none pos'.line X.env = pure false := by rfl)
    (he : starEach (e :: es) X.env = (false, eval e X.env) :: starEach es X.env := by rfl) (hpl : (backTo pos (starEach es X.env)).any (·.1) = false := by rfl) :
    PSa X body (.Expr (.Call (.Attribute (.Call (.Name "super" p0) [] [] p1) "__init__" p2) (e :: es) [] pos) pos') (tSup C ta) := by
  refine ⟨fun pins s σ H Dn I h => ?_⟩
  obtain ⟨a, hσ, ea, q⟩ := h
  refine PySem.ks_wpAt_Expr_any ?_ hi hsw
  refine PySem.ks_wpAt_MethodCall (pl := pl) ?_ hev
  obtain ⟨oc, od, fd, osl, ar, hf, hp, har⟩ := W.fn
  obtain ⟨cl, cld, csl, hcell⟩ := W.cell
  obtain ⟨ccl, cdd, vs2, ccs, file, tf, hcode, hvs, hfile⟩ := W.code
  obtain ⟨cdD, hD⟩ := W.cls
  have KX := I.kIn
  obtain ⟨mb, hb1, hb2⟩ := I.mod.blt
  obtain ⟨t1, ho⟩ := exo_at I.hok ea
  obtain ⟨m, hns, hloc⟩ := I.loc
  have hself : m slf = some (.ref a) := by
    obtain ⟨u, ru, lk⟩ := hloc 0 slf (.ref a) hN hσ (.inl hka)
    obtain rfl : u = Value.ref a := ru
    rcases lk with ⟨_, z⟩ | ⟨z, _⟩
    · exact z
    · rw [hka] at z
      rcases z with z | z <;> cases z
  obtain ⟨oD, hD1, hD2⟩ : ∃ oD, s.heap.get? D = some oD ∧ oD.data = .cls cdD := by
    unfold PySem.W.clsIn at hD
    split at hD
    · rename_i c' d' cd' sl' hoD
      cases hD
      exact ⟨_, KX _ _ hoD, rfl⟩
    · cases hD
  refine PySem.ks_wpAt_super_base (env := X.env) hks hkc (by decide) hfu (KX _ _ hf) rfl hp hco (KX _ _ hcode) rfl hvs hfile W.top ?_
  refine PySem.W.ks_loadName_global I.ok.kind hks (Calls.loadGlobal_builtin (by rw [I.ok.glob]; exact I.mod.glob.keeps I.bk) W.none (by rw [I.ok.blt]; exact hb1.keeps I.bk) ((hb2 "super" (by decide)).trans hboot) ⟨rfl, ?_⟩)
  refine wpAny_loadName_free I.ok.kind hkc hce ⟨_, KX _ _ hcell, rfl⟩ ?_
  rw [har]
  refine wpAny_loadName_local I.ok.kind hka hns hself ?_
  obtain ⟨hp0, g0, d0, t0, os0⟩ := s
  refine PySem.ks_wpAny_isType_cls hD1 hD2 ⟨rfl, ?_⟩
  refine PySem.ks_wpAny_call_super hD1 hD2 ho rfl (fun c' z => by cases z) (PySem.W.looks_mroIn KX W.sub) (fun h' hso k => ?_)
  have J := ClX.pin_new (t' := t0) I k (Nat.le_refl _) hso (fun v z => by cases z)
  have KX2 : X.K.In h' := J.kIn
  have ho2 := k _ _ ho
  have aC : a ≠ C := fun z => by
    obtain ⟨nm, q', N', bs, bm, sn, sub, ab, col, dd, k0, k1, k2, k3, k5, hC, _⟩ := T.cls
    have e2 := KX _ _ hC
    rw [← z] at e2
    rw [e2] at ho
    cases ho
  obtain ⟨nm, q', N', bs, bm, sn, sub, ab, col, dd, k0, k1, k2, k3, k5, hC, hbm⟩ := T.cls
  have hcl : PySem.W.clsIn X.K C = some { name := nm, bases := bs, mro := .ref C :: bm, ns := N', qualname := q', hasDict := true, slotNames := sn, subclasses := sub, abstract := ab, collection := col, hasDel := false } := by unfold PySem.W.clsIn; rw [hC] <;> rfl
  unfold PySem.W.ks_superIn at hm
  rw [hcl] at hm
  have IA : PySem.W.InstAt h' a _ C none := ⟨ho2, rfl, rfl, trivial⟩
  refine PySem.W.kxs_getMethod PySem.W.kxs_ValueError hso (PySem.W.looks_opaque KX2 W.opq) (l₀ := .ref C :: bm) ?_ rfl KX2 hm (IA.type.andThen (PySem.W.looks_subIn KX2 hB)) aC (by decide) ?_
  · exact fun A Q E s k q => wpAny_bind ((PySem.W.looks_clsIn KX2 hcl) A _ E s k (wpAny_pure q))
  have J2 := ClX.pin_new (t' := t0 + 1) J (h' := h'.push (PySem.W.kxs_mw "ValueError.__init__" a)) (o := PySem.W.kxs_mw "ValueError.__init__" a) (a := h'.objs.size) (fun b o z => Heap.get?_push_of_some _ z) (Nat.le_refl _) (Heap.get?_push_at rfl rfl) (fun v z => by cases z)
  show wpAny _ _ (callWith pos (Value.ref h'.objs.size) [] (backTo pos (starEach (e :: es) X.env)) []) _ _ _
  have hrun := ha.run pos _ _ σ H _ J2 q
  rw [he] at hrun ⊢
  refine PySem.W.kxs_callWith (i := "ValueError.__init__") (x := a) (by show (false || (backTo pos (starEach es X.env)).any (·.1)) = false; rw [hpl]; rfl) (PySem.Calls.evalArgs_plain ?_)
  refine thn hrun fun us s1 hh => ?_
  obtain ⟨vs, H1, I1, r1, hl, ea1, qn⟩ := hh
  refine ⟨ClX.pin_at I1, ?_⟩
  obtain ⟨t2, ho3⟩ := exo_at I1.hok ea1
  have hu := ClX.pin_at I1
  have hus : us.length ≤ sizeLine := by
    rw [← r1.length, sizeLine_eq]
    omega
  obtain ⟨h1, g1, d1, tk1, os1⟩ := s1
  refine call_mw (I1.kIn _ _ hC) ho3 hu hus fun h2 t3 k2 hx => ?_
  have I2 := ClX.unpin (ClX.unpin I1)
  have J3 := I2.write (t' := tk1) (x := a) (e := a) (o := exo a C none) (by rw [ea1]; exact True.intro) (.inl rfl) k2 ⟨_, hx⟩ (exo_ok hx)
  have eu : upd H1 a (exo a C none) = H1 := by
    funext b
    by_cases hb : b = a
    · rw [hb, upd_same, ea1]
    · rw [upd_ne hb]
  rw [eu] at J3
  exact ⟨σ, H1, J3, qn⟩
end
/-- what the __init__ of an own exception keeps: its fields, in their order -/
def spX (C : Addr) (fs : List Str) : Sp := fun vs H Q _ => ∃ (a : Addr) (ws : List V), vs = .ref a :: ws ∧ ws.length = fs.length ∧ H a = some (exo a C none) ∧ ∀ dx, H dx = none → dx ≠ a → Q .non (upd (upd H dx (exd dx (fs.zip ws).reverse)) a (exo a C (some dx)))
def XQ (C : Addr) (fs : List Str) (Q : XK) (vs : List V) (H1 : Hp) : Prop := vs.length ≤ 1000 ∧ ∀ a, H1 a = none → spX C fs (.ref a :: (vs ++ [])) (upd H1 a (exo a C none))
  (fun v H2 => v = .non ∧ ∃ (d : Addr) (fs : List (Str × V)), H2 a = some (exo a C (some d)) ∧ H2 d = some (exd d fs) ∧ H1 d = none ∧ Q (.ref C) (some d) (upd (del H2 a) d (.xd fs))) (fun _ _ _ => False)
theorem w_exc {C : Addr} {fs : List Str} {ta : TA} {σ : L2.St} {H : Hp} {Q : XK} (g : ta σ H fun vs H1 => XQ C fs Q vs H1) : tMkO C (spX C fs) [] ta σ H Q := g
theorem q_exc {C : Addr} {fs : List Str} {Q : XK} {vs : List V} {H : Hp} (hl : vs.length = fs.length) (hb : vs.length ≤ 1000) (g : ∀ d, H d = none → Q (.ref C) (some d) (upd H d (.xd (fs.zip vs).reverse))) : XQ C fs Q vs H := by
  refine ⟨hb, fun a ha => ⟨a, vs ++ [], rfl, by rw [List.append_nil]; exact hl, upd_same, fun dx hdx hne => ⟨rfl, dx, _, upd_same, by rw [upd_ne hne, upd_same], ?_, ?_⟩⟩⟩
  · rw [upd_ne hne] at hdx; exact hdx
  · rw [upd_ne hne] at hdx
    have e : ∀ l, upd (del (upd (upd (upd H a (exo a C none)) dx (exd dx l)) a (exo a C (some dx))) a) dx (.xd l) = upd H dx (.xd l) := by
      intro l
      funext b
      by_cases h1 : b = dx
      · rw [h1, upd_same, upd_same]
      · rw [upd_ne h1, upd_ne h1]
        by_cases h2 : b = a
        · rw [h2, del_same, ha]
        · rw [del_ne h2, upd_ne h2, upd_ne h1, upd_ne h2]
    rw [e, List.append_nil]
    exact g dx hdx
end Mf

namespace Mf
open PySem PySem.Spec PyProof.Rows L2
/-! ### what a def gives that may raise -/
/-- the program's errors: k tells the class -/
inductive Exn
  | txt (k : Nat) (s : Str)
  | num (k : Nat) (i : Int)
  | pth (k : Nat) (p : List Int)
  | fail (n : Str) (p : List Str) (pl : Str)
inductive Rs (α : Type)
  | ok (a : α)
  | ex (e : Exn)
def Rs.on {α β : Type} (r : Rs α) (f : α → Option (Rs β)) : Option (Rs β) := match r with
  | .ok a => f a
  | .ex e => some (.ex e)
def Rs.tr {α β : Type} (r : Rs α) (f : α → β) (g : Exn → β) : β := match r with
  | .ok a => f a
  | .ex e => g e
/-- the field of an error of class k -/
def exFld : Nat → Str
  | 1 => "name"
  | 2 => "place"
  | 6 => "name"
  | 7 => "path"
  | _ => "line"
/-- an exception in flight stands for e; cx: the classes -/
def ExR (K : PySem.W.Frag) (cx : Nat → Addr) (e : Exn) (cls : Value) (d : Option Addr) (B : Hp) : Prop := match e with
  | .txt k s => cls = .ref (cx k) ∧ ∃ dd, d = some dd ∧ B dd = some (.xd [(exFld k, .str s)])
  | .num k i => cls = .ref (cx k) ∧ ∃ dd, d = some dd ∧ B dd = some (.xd [(exFld k, .int i)])
  | .pth k p => cls = .ref (cx k) ∧ ∃ dd v, d = some dd ∧ B dd = some (.xd [(exFld k, v)]) ∧ (dTup K dInt).rel B p v
  | .fail n p pl => cls = .ref (cx 0) ∧ ∃ dd v, d = some dd ∧ B dd = some (.xd [("place", .str pl), ("path", v), ("name", .str n)]) ∧ (dTup K dStr).rel B p v
theorem ExR.mono {K : PySem.W.Frag} {cx : Nat → Addr} {e : Exn} {cls : Value} {d : Option Addr} {B B' : Hp} (s : Same B B') (h : ExR K cx e cls d B) : ExR K cx e cls d B' := by
  cases e with
  | txt k x => obtain ⟨h1, dd, h2, h3⟩ := h; exact ⟨h1, dd, h2, s _ _ h3⟩
  | num k x => obtain ⟨h1, dd, h2, h3⟩ := h; exact ⟨h1, dd, h2, s _ _ h3⟩
  | pth k p => obtain ⟨h1, dd, v, h2, h3, h4⟩ := h; exact ⟨h1, dd, v, h2, s _ _ h3, (dTup K dInt).mono s h4⟩
  | fail n p pl => obtain ⟨h1, dd, v, h2, h3, h4⟩ := h; exact ⟨h1, dd, v, h2, s _ _ h3, (dTup K dStr).mono s h4⟩
/-- the promise of such a def, behind its arguments -/
def Prm {α : Type} (K : PySem.W.Frag) (cx : Nat → Addr) (R : Rl α) (B H : Hp) (r : Rs α) (Q : VK) (E : XK) : Prop :=
  (∀ a, r = .ok a → ∀ (v : V) (B' H' : Hp), Sit ⟨B, H, []⟩ B' H' [] → R.rel B' a v → Q v H') ∧ ∀ e, r = .ex e → ∀ (cls : Value) (d : Option Addr) (B' H' : Hp), Sit ⟨B, H, []⟩ B' H' [] → ExR K cx e cls d B' → E cls d H'
theorem Prm.use {α : Type} {K : PySem.W.Frag} {cx : Nat → Addr} {R : Rl α} {Φ : Fr} {B H : Hp} {cs : List (Addr × HO)} {r : Rs α} {Q : VK} {E : XK} (Z : Sit Φ B H cs)
    (k : ∀ a, r = .ok a → ∀ (v : V) (B' H' : Hp), Sit Φ B' H' cs → Same B B' → R.rel B' a v → Q v H') (kx : ∀ e, r = .ex e → ∀ (cls : Value) (d : Option Addr) (B' H' : Hp), Sit Φ B' H' cs → Same B B' → ExR K cx e cls d B' → E cls d H') : Prm K cx R B H r Q E :=
  ⟨fun a ha v B' H' Z' h => k a ha v B' H' (Z.call0 Z') Z'.grow h, fun e he cls d B' H' Z' h => kx e he cls d B' H' (Z.call0 Z') Z'.grow h⟩
theorem passE {X : Cx} {E : XK} (tk : Takes X (fun cls d _ H => E cls d H)) : Passes (L2.CX X.prog X.w) X E := fun _ _ _ _ e s' I c => tk e s' (XE.of_call I (fun _ _ _ h => h) c)
/-- raise C(x) -/
theorem x_raise {C : Addr} {fs : List Str} {ta : TA} {σ : L2.St} {H : Hp} {D : Ends} {W : WX} (g : ta σ H fun vs H1 => XQ C fs (fun cls d H' => W cls d σ H') vs H1) : (fun (_ : Ends) σ H => tMkO C (spX C fs) [] ta σ H fun cls d H' => W cls d σ H') D σ H := g
/-- an own exception class, as a def that raises it needs it -/
structure ExcF (P : Program) (w : World) (K : PySem.W.Frag) (mg : Str → Option Value) (base : Heap) (x : Str) (C : Addr) (ps fs : List Str) : Prop where
  T : OexC K C
  ini : ∃ fI fd, PySem.W.findIn K (.ref C) "__init__" = some (some (.ref fI)) ∧ PySem.W.typeIn K (.ref fI) = some (.type "function") ∧ FnOk P w K mg base CX0 1 fI fd ps (spX C fs) ∧ Binds K fd ps []
  g : mg x = some (.ref C)
theorem pmk_x {X : Cx} {x : Str} {C : Addr} {ps fs : List Str} {e : Expr} {es : List Expr} {ta : TA} {p pos : Pos} (F : ExcF X.prog X.w X.K X.mg X.base x C ps fs) (hr : Room 2 X.A) (hg : Gl X x) (ha : PA X (e :: es) ta)
    (hdb : (x == ("__debug__" : Str)) = false := by decide) (he : starEach (e :: es) X.env = (false, eval e X.env) :: starEach es X.env := by rfl) (hpl : (backTo pos (starEach es X.env)).any (·.1) = false := by rfl) :
    PMk X (.Call (.Name x p) (e :: es) [] pos) (tMkO C (spX C fs) [] ta) := by
  obtain ⟨fI, fd, h1, h2, h3, h4⟩ := F.ini
  exact pmk_oex F.T h1 h2 h3 hr h4 .nil pass0 hg F.g ha hdb he hpl
theorem on_ok {α β : Type} {a : α} {f : α → Option (Rs β)} : (Rs.ok a).on f = f a := rfl
theorem on_ex {α β : Type} {e : Exn} {f : α → Option (Rs β)} : (Rs.ex e : Rs α).on f = some (.ex e) := rfl
theorem okX {P : Program} {w : World} {K : PySem.W.Frag} {mg : Str → Option Value} {base : Heap} {x qual : Str} {st : Stmt} {f : Addr} {fd : FuncData} {N ps : List Str} {k : Nat} {sp : Sp} (F : Fun K x qual st f fd) (S : FnScope N ps (defScope st)) (len : ∀ vs H Q E, sp vs H Q E → vs.length = ps.length)
    (hbody : ∀ (cdv : Value) (A : Around) (outer : List Env) (s : Shared) (H : Hp) (vs : List V) (Q : VK) (E : XK), Room k (A.deeper (envOfC qual (defScope st) s.heap.objs.size f cdv)) → sp vs H Q E →
      ∃ t, PSs (cxOf (L2.CX P w) P w K mg base N qual (defScope st) f cdv A outer s H E) (defBody st) t ∧ t { nx := fun _ H' => Q .non H', rt := Q } (start N vs) H) : FnOk P w K mg base (L2.CX P w) (k + 1) f fd ps sp := by
  obtain ⟨oc, od, kV, doc, pm, an, cdv, ct, osl, rfl, lk, hcd⟩ := F.ex
  exact fn_of lk hcd S len fun A outer s H vs Q E hr hsp => hbody cdv A outer s H vs Q E hr hsp
theorem okNX {P : Program} {w : World} {K : PySem.W.Frag} {mg : Str → Option Value} {base : Heap} {x qual : Str} {params : Arguments} {body : List Stmt} {scope : Scope} {dvs : List V} {kws : List (Str × V)} {f : Addr} {fd : FuncData} {N ps : List Str} {k : Nat} {sp : Sp}
    (F : FunD K x qual params body scope dvs kws f fd) (S : FnScope N ps scope) (len : ∀ vs H Q E, sp vs H Q E → vs.length = ps.length)
    (hbody : ∀ (cdv : Value) (A : Around) (outer : List Env) (s : Shared) (H : Hp) (vs : List V) (Q : VK) (E : XK), Room k (A.deeper (envOfC qual scope s.heap.objs.size f cdv)) → sp vs H Q E →
      ∃ t, PSs (cxOf (L2.CX P w) P w K mg base N qual scope f cdv A outer s H E) body t ∧ t { nx := fun _ H' => Q .non H', rt := Q } (start N vs) H) : FnOk P w K mg base (L2.CX P w) (k + 1) f fd ps sp := by
  obtain ⟨⟨oc, od, dT, kV, doc, pm, an, cdv, ct, osl, rfl, lk, hcd, _⟩, _⟩ := F
  exact fn_of lk hcd S len fun A outer s H vs Q E hr hsp => hbody cdv A outer s H vs Q E hr hsp
def optG : Option Str → Str
  | some s => s
  | none => Str.empty
theorem optN {B : Hp} {r : Option Str} {v : V} (h : (dOpt dStr).rel B r v) (c : (!r.isNone) = true) : v = V.str (optG r) := by
  cases r with
  | none => cases c
  | some s => exact h.1
end Mf

namespace Mf
open PySem PySem.Spec PyProof.Rows L2
/-! ### calls within a try: what is raised is wished for at the slots -/
theorem passN {X : Cx} : Passes (L2.CX X.prog X.w) X (fun _ _ _ => False) := fun _ _ _ _ _ _ _ c => by
  obtain ⟨_, _, _, _, _, _, _, _, _, _, _, _, z⟩ := c
  exact z.elim
theorem tkN {X : Cx} : Takes X (fun _ _ _ _ => False) := fun _ _ c => by
  obtain ⟨_, _, _, _, _, _, _, _, _, _, _, _, _, _, _, _, z⟩ := c
  exact z.elim
section
variable {X : Cx} {CX : CXT} {k n : Nat} {f C : Addr} {fd : FuncData} {ps ks : List Str} {sp : Sp} {dvs : List V} {ds : List Value} {E : L2.St → XK} {x : Str} {p pos : Pos} {e : Expr} {es : List Expr} {kws : List Keyword} {t tk : TA} {pins : List (Addr × Obj)} {σ : L2.St} {H : Hp} {s : Shared}
  {g : List Value → List Value → List Value} {gV : List V → List V → List V}
theorem getS1 {Q : VK} {us : List Value} {vs : List V} (F : FnOk X.prog X.w X.K X.mg X.base CX k f fd ps sp) (hr : Room (k + 1) X.A) (hb : Binds X.K fd ps []) (hx : PassesAt CX X σ (E σ)) (I : Inv X pins σ H s) (r : Vals vs us) (h : sp vs H Q (E σ)) :
    wpAny (model X.prog X.w) X.A.in1 (call (.ref f) us) (EP X pins σ Q) X.xe s := by
  have b := hb s us I.kIn (by rw [List.append_nil, ← r.length]; exact F.len _ _ _ _ h)
  rw [List.append_nil] at b
  refine wpAny_call (codeAny_mono (F.run X.A.in1 X.stack s H ⟨us, []⟩ us vs Q (E σ) hr.in1 I.env0.in1 b r h) fun w s2 z => ?_)
  cases w with
  | error u => exact hx pins H s u s2 I z
  | ok fl => cases fl <;> first | exact I.after z | exact z.elim
def tOpS (r : L2.St → R2) (ta tb : TE) : TE := fun σ H Q => ta σ H fun x H1 => tb σ H1 fun y H2 => r σ x y H2 Q
theorem w_opS {r : L2.St → R2} {ta tb : TE} {Q : VK} (h : ta σ H fun x H1 => tb σ H1 fun y H2 => r σ x y H2 Q) : tOpS r ta tb σ H Q := h
theorem e_getS {a b : Expr} {ta tb : TE} (hm : Meth X.K C "__getitem__" f) (hf : PySem.W.fnIn X.K f = true) (F : FnOk X.prog X.w X.K X.mg X.base CX k f fd ps sp) (hr : Room (k + 1) X.A) (hb : Binds X.K fd ps []) (hx : ∀ σ, PassesAt CX X σ (E σ)) (ha : PE X a ta) (hb' : PE X b tb)
    (hsl : ∀ o i, subscripted b true o i = runValue (.builtin "lifetime.subscript" ⟨[o, i], []⟩) := by intro _ _; with_unfolding_all rfl) : PE X (.Subscript a b pos) (tOpS (fun σ => rGetO C sp (E σ)) ta tb) := by
  refine ⟨fun pins s σ H Q I h => ?_⟩
  refine Subscript_ (binT (R := fun x y H => rGetO C sp (E σ) x y H Q) ha hb' I h fun v u s2 x y H2 I2 rx ry ⟨p, dx, fs, ex, hp, q⟩ => ?_)
  subst ex
  cases (show v = Value.ref p from rx)
  obtain ⟨od, Jn⟩ := inst_of I2 hp
  obtain ⟨m, hF⟩ := I2.fr
  exact PySem.W.sub_K hF I2.ok.mod.kin Jn hm.at_ hf hm.fn (getS1 (us := [.ref p, u]) (vs := [.ref p, y]) F hr hb (hx σ) I2 (.cons rfl (.cons ry .nil)) q) (hsl _ _)
/-- C(e, ..) -/
def tMakeS (C : Addr) (sp : Sp) (dvs : List V) (E : L2.St → XK) (t : TA) : TE := fun σ H Q => t σ H fun vs H1 => MkB C sp (E σ) Q (vs ++ dvs) H1
theorem makS1 {Q : VK} {us : List Value} {vs : List V} (M : Mk X.K C f) (F : FnOk X.prog X.w X.K X.mg X.base CX k f fd ps sp) (hr : Room (k + 1) X.A) (hb : Binds X.K fd ps ds) (hd : Vals dvs ds) (hx : PassesAt CX X σ (E σ)) (I : Inv X pins σ H s) (r : Vals vs us)
    (h : MkB C sp (E σ) Q (vs ++ dvs) H) : wpAny (model X.prog X.w) X.A (call (.ref C) us) (EP X pins σ Q) X.xe s := by
  obtain ⟨z, hz⟩ : ∃ z, z = s.heap.objs.size := ⟨_, rfl⟩
  have hq := h (s.heap.objs.size + 1) s.heap.objs.size (I.hok.fresh (Nat.le_succ _)) (I.hok.fresh (Nat.le_refl _)) (Nat.ne_of_lt (Nat.lt_succ_self _))
  have J := Inv.made (C := C) I
  have rr : Vals (V.ref (s.heap.objs.size + 1) :: (vs ++ dvs)) (Value.ref (s.heap.objs.size + 1) :: (us ++ ds)) := .cons rfl (r.append hd)
  have hl : (Value.ref (s.heap.objs.size + 1) :: us ++ ds).length = ps.length := (rr.length.symm.trans (F.len _ _ _ _ hq))
  refine wpAny_call (make_map (f := f) I.kIn M.makes M.init (beq_iff_eq.mp M.fn) (codeAny_mono (F.run _ X.stack _ _ ⟨Value.ref (s.heap.objs.size + 1) :: us, []⟩ (Value.ref (s.heap.objs.size + 1) :: (us ++ ds)) _ _ (E σ)
    (hr.make C us []) (J.env0.make C us []) (hb _ (Value.ref (s.heap.objs.size + 1) :: us) J.kIn hl) rr hq) fun w s2 z => ?_))
  cases w with
  | error u => exact hx pins _ _ u s2 J z
  | ok fl =>
    cases fl with
    | ret u =>
      obtain ⟨v, H3, J3, rv, ev, q3⟩ := J.after z
      subst ev
      exact ⟨rv, ⟨V.ref (s.heap.objs.size + 1), H3, J3, rfl, q3⟩⟩
    | next => exact z.elim
    | brk => exact z.elim
    | cont => exact z.elim
theorem e_makeS (M : Mk X.K C f) (F : FnOk X.prog X.w X.K X.mg X.base CX k f fd ps sp) (hr : Room (k + 1) X.A) (hg : Gl X x) (hm : X.mg x = some (.ref C)) (hb : Binds X.K fd ps ds) (hd : Vals dvs ds) (hx : ∀ σ, PassesAt CX X σ (E σ))
    (ha : PA X (e :: es) t) (hdb : (x == ("__debug__" : Str)) = false := by decide) (he : starEach (e :: es) X.env = (false, eval e X.env) :: starEach es X.env := by rfl) (hpl : (backTo pos (starEach es X.env)).any (·.1) = false := by rfl) :
    PE X (.Call (.Name x p) (e :: es) [] pos) (tMakeS C sp dvs E t) := by
  refine ⟨fun pins s σ H Q I h => wpAny_Call_Name_kw (ld_glob I hg hm ?_ hdb)⟩
  exact PySem.W.callWith_K (h₀ := X.base) I.ok.mod.kin M.kp (thn (ha.run pos pins s σ H _ I h) fun us s1 ⟨vs, H1, I1, r, q⟩ => ⟨I1.kIn, makS1 M F hr hb hd (hx σ) I1 r q⟩) he hpl
/-- f(e, .., k = v, ..) -/
def tCallNS (n m : Nat) (sp : Sp) (gV : List V → List V → List V) (E : L2.St → XK) (t tk : TA) : TE := fun σ H Q => tCallN n m sp gV (E σ) t tk σ H Q
theorem e_callNS (F : FnOk X.prog X.w X.K X.mg X.base CX k f fd ps sp) (hr : Room k X.A) (hg : Gl X x) (hm : X.mg x = some (.ref f)) (hk : PySem.W.keepIn X.K (.ref f) = true) (hb : KBn X.K fd ps n ks g gV) (hx : ∀ σ, PassesAt CX X σ (E σ))
    (ha : PA X (e :: es) t) (hkw : PK X kws tk) (hall : (backToKw pos (keywordEach kws X.env)).all (·.1.isSome) = true := by rfl) (hks : (backToKw pos (keywordEach kws X.env)).filterMap (·.1) = ks := by rfl)
    (hdb : (x == ("__debug__" : Str)) = false := by decide) (he : starEach (e :: es) X.env = (false, eval e X.env) :: starEach es X.env := by rfl)
    (hpl : ((backTo pos (starEach (e :: es) X.env)).any (·.1) || (backToKw pos (keywordEach kws X.env)).any (·.1.isNone)) = false := by rfl) :
    PE X (.Call (.Name x p) (e :: es) kws pos) (tCallNS n ks.length sp gV E t tk) := by
  refine ⟨fun pins s σ H Q I h => wpAny_Call_Name_kw (ld_glob I hg hm ?_ hdb)⟩
  refine PySem.W.callWith_KW (h₀ := X.base) I.ok.mod.kin hk hall (thn (ha.run pos pins s σ H _ I h) fun us s1 ⟨vs, H1, I1, r, q⟩ => ?_) hpl he
  refine thn (hkw.run pos pins s1 σ H1 _ I1 q) fun ws s2 ⟨zs, H2, I2, rz, l1, l2, q2⟩ => ⟨I2.kIn, ?_⟩
  rw [hks]
  refine wpAny_call (codeAny_mono (F.run X.A X.stack s2 H2 ⟨us, ks.zip ws⟩ (g us ws) (gV vs zs) Q (E σ) hr I2.env0 (hb.to s2 us ws I2.kIn (r.length.symm.trans l1) (rz.length.symm.trans l2)) (hb.rel r rz) q2) fun w s3 z => ?_)
  cases w with
  | error u => exact hx σ pins H2 s2 u s3 I2 z
  | ok fl => cases fl <;> first | exact I2.after z | exact z.elim
end
/-! ### the except clause -/
section
variable {K : PySem.W.Frag} {c cls : Value} {i : Nat} {ts : Addr → Value → Option Addr → TS} {Wout : WX} {D : Ends} {σ σ' : L2.St} {H : Hp} {d : Option Addr} {P : L2.St → Hp → Prop}
theorem w_as (hx : PySem.W.exmOne K cls c = some true) (g : ∀ a, H a = none → ts a cls d { nx := fun σ' H' => D.nx (σ'.set i none) H', rt := D.rt, bk := fun σ' H' => D.bk (σ'.set i none) H', ct := fun σ' H' => D.ct (σ'.set i none) H' } (σ.set i (some (.ref a))) H) : L2.WE (wAs K c i ts Wout D) σ cls d H :=
  ⟨true, hx, fun _ => g, fun z => by cases z⟩
theorem w_unas (e : σ.set i none = σ') (g : P σ' H) : (fun (s : L2.St) (h : Hp) => P (s.set i none) h) σ H := by
  subst e
  exact g
theorem w_pnx {a b c : L2.St → Hp → Prop} {r : VK} (g : a σ H) : (Ends.mk a r b c).nx σ H := g
theorem Ev.xf {a C dd : Addr} {f : Str} {te : TE} {v : V} {fs : List (Str × V)} (h : Ev te σ H (.ref a)) (hd : H dd = some (.xd fs)) (hl : fs.lookup f = some v) : Ev (tXf a (.ref C) (some dd) C f te) σ H v := fun Q q => h _ ⟨rfl, rfl, dd, fs, v, rfl, hd, hl, q⟩
end
section
variable {α β γ : Type} {K : PySem.W.Frag} {R : Rl α} {S : Rl β} {T' : Rl γ} {B H : Hp} {v : V} {b : Bool} {T : String}
theorem isi_xT {x : List α} (h : (dTup K R).rel B x v) (s : Same B H) (hk : PySem.W.kitOne K (.type "tuple") (.type T) = some b) : ∀ Q : VK, Q (.bl b) H → rIsi K [v, .ty T] H Q := fun Q q => by
  obtain ⟨p, vs, rfl, h, _⟩ := h
  exact w_isi (.ty T) (tyx_t (Same.sqt s h)) hk q
theorem isi_xL {x : List α} (h : (dList R).rel B x v) (s : Same B H) (hk : PySem.W.kitOne K (.type "list") (.type T) = some b) : ∀ Q : VK, Q (.bl b) H → rIsi K [v, .ty T] H Q := fun Q q => by
  obtain ⟨p, vs, rfl, h, _⟩ := h
  exact w_isi (.ty T) (tyx_l (SqL.of (s _ _ h))) hk q
theorem isi_x1 {x : α} (h : (dOne K R).rel B x v) (s : Same B H) (hk : PySem.W.kitOne K (.type "tuple") (.type T) = some b) : ∀ Q : VK, Q (.bl b) H → rIsi K [v, .ty T] H Q := fun Q q => by
  obtain ⟨p, a, rfl, h, _⟩ := h
  exact w_isi (.ty T) (tyx_t (Same.sqt s h)) hk q
theorem isi_x2 {x : α × β} (h : (dPair K R S).rel B x v) (s : Same B H) (hk : PySem.W.kitOne K (.type "tuple") (.type T) = some b) : ∀ Q : VK, Q (.bl b) H → rIsi K [v, .ty T] H Q := fun Q q => by
  obtain ⟨p, a, c, rfl, h, _⟩ := h
  exact w_isi (.ty T) (tyx_t (Same.sqt s h)) hk q
theorem isi_x3 {x : α × β × γ} (h : (dTrip K R S T').rel B x v) (s : Same B H) (hk : PySem.W.kitOne K (.type "tuple") (.type T) = some b) : ∀ Q : VK, Q (.bl b) H → rIsi K [v, .ty T] H Q := fun Q q => by
  obtain ⟨p, a, c, d, rfl, h, _⟩ := h
  exact w_isi (.ty T) (tyx_t (Same.sqt s h)) hk q
theorem q_catO {Φ : Fr} {cs : List (Addr × HO)} {Q : VK} {w : V} {xs ys zs : List α} (Z : Sit Φ B H cs) (h : (dList R).rel B xs v) (hx : (dList R).rel B ys w) (hm : catM xs ys = some zs) (k : ∀ p o H', Sit Φ B H' ((p, o) :: cs) → Φ.H p = none → (cList R).rel B zs o → Q (.ref p) H') : rCat v w H Q := by
  obtain ⟨l, rfl⟩ := catM_some hm
  obtain ⟨p, vs, rfl, hp, f, _⟩ := h
  obtain ⟨q, us, rfl, hq, f2, l2⟩ := hx
  exact w_cat (Z.sub _ _ hp) (Z.sub _ _ hq) (by rw [← f.len, ← f2.len]; exact big_size l) (nwO Z (f.app f2) (by rw [List.length_append]; exact l) k)
def natM (i : Int) : Option Int := if 0 ≤ i ∧ i ≤ BIG then some i else none
theorem lenI {i j : Int} {Q : VK} (h : natM i = some j) (g : Q (.int j) H) : LenQ Q (.int i) H := by
  unfold natM at h
  by_cases e : 0 ≤ i ∧ i ≤ BIG
  · rw [if_pos e] at h
    cases h
    have e' : i = ((i.toNat : Nat) : Int) := by omega
    exact len_lt e' (by have := e.2; omega) g
  · rw [if_neg e] at h; cases h
theorem natM_eq {i : Nat} (h : i < 1000000) : natM (i : Int) = some (i : Int) := by
  unfold natM BIG
  rw [if_pos ⟨by omega, by omega⟩]
theorem w_callSD {sp : Sp} {dvs : List V} {E : L2.St → XK} {t : TA} {σ : L2.St} {Q : VK} (g : t σ H fun vs H1 => sp (vs ++ dvs) H1 Q (E σ)) : tCallSD sp dvs E t σ H Q := g
theorem w_makeS {C : Addr} {sp : Sp} {dvs : List V} {E : L2.St → XK} {t : TA} {σ : L2.St} {Q : VK} (g : t σ H fun vs H1 => MkB C sp (E σ) Q (vs ++ dvs) H1) : tMakeS C sp dvs E t σ H Q := g
theorem w_callNS {n m : Nat} {sp : Sp} {gV : List V → List V → List V} {E : L2.St → XK} {t tk : TA} {σ : L2.St} {Q : VK} (g : tCallN n m sp gV (E σ) t tk σ H Q) : tCallNS n m sp gV E t tk σ H Q := g
end
theorem tr_ok {α β : Type} {a : α} {f : α → β} {g : Exn → β} : (Rs.ok a).tr f g = f a := rfl
theorem tr_ex {α β : Type} {e : Exn} {f : α → β} {g : Exn → β} : (Rs.ex e : Rs α).tr f g = g e := rfl
def exTxt (k : Nat) : Exn → Option Str
  | .txt j s => if j = k then some s else none
  | _ => none
def exNum (k : Nat) : Exn → Option Int
  | .num j s => if j = k then some s else none
  | _ => none
def exPth (k : Nat) : Exn → Option (List Int)
  | .pth j s => if j = k then some s else none
  | _ => none
def exFail : Exn → Option (Str × List Str × Str)
  | .fail n p pl => some (n, p, pl)
  | _ => none
section
variable {K : PySem.W.Frag} {cx : Nat → Addr} {e : Exn} {k : Nat} {cls : Value} {d : Option Addr} {B : Hp}
theorem exTxt_some {s : Str} (h : exTxt k e = some s) (hx : ExR K cx e cls d B) : cls = .ref (cx k) ∧ ∃ dd, d = some dd ∧ B dd = some (.xd [(exFld k, .str s)]) := by
  cases e with
  | txt j z =>
    replace h : (if j = k then some z else none) = some s := h
    by_cases c : j = k
    · rw [if_pos c] at h; cases h; subst c; exact hx
    · rw [if_neg c] at h; cases h
  | num _ _ => cases h
  | pth _ _ => cases h
  | fail _ _ _ => cases h
theorem exNum_some {s : Int} (h : exNum k e = some s) (hx : ExR K cx e cls d B) : cls = .ref (cx k) ∧ ∃ dd, d = some dd ∧ B dd = some (.xd [(exFld k, .int s)]) := by
  cases e with
  | num j z =>
    replace h : (if j = k then some z else none) = some s := h
    by_cases c : j = k
    · rw [if_pos c] at h; cases h; subst c; exact hx
    · rw [if_neg c] at h; cases h
  | txt _ _ => cases h
  | pth _ _ => cases h
  | fail _ _ _ => cases h
theorem exPth_some {s : List Int} (h : exPth k e = some s) (hx : ExR K cx e cls d B) : cls = .ref (cx k) ∧ ∃ dd v, d = some dd ∧ B dd = some (.xd [(exFld k, v)]) ∧ (dTup K dInt).rel B s v := by
  cases e with
  | pth j z =>
    replace h : (if j = k then some z else none) = some s := h
    by_cases c : j = k
    · rw [if_pos c] at h; cases h; subst c; exact hx
    · rw [if_neg c] at h; cases h
  | txt _ _ => cases h
  | num _ _ => cases h
  | fail _ _ _ => cases h
theorem exFail_some {r : Str × List Str × Str} (h : exFail e = some r) (hx : ExR K cx e cls d B) : cls = .ref (cx 0) ∧ ∃ dd v, d = some dd ∧ B dd = some (.xd [("place", .str r.2.2), ("path", v), ("name", .str r.1)]) ∧ (dTup K dStr).rel B r.2.1 v := by
  cases e with
  | fail _ _ _ => cases h; exact hx
  | txt _ _ => cases h
  | num _ _ => cases h
  | pth _ _ => cases h
end
theorem w_nxM {C : Addr} {sp : Sp} {dvs : List V} {ta : TA} {σ σ' : L2.St} {H : Hp} {X : XK} (e : σ = σ') (g : tMkO C sp dvs ta σ' H X) : tMkO C sp dvs ta σ H X := e ▸ g
end Mf

namespace Mf
open PySem L2 PyProof.Rows
/-! ### data that the model compares -/
def Ly (n : Nat) (d : PyData) : Prop := PyData.canLay0 d = true ∧ PyData.depth d ≤ n
section
variable {α : Type} {n m : Nat} {d e : PyData} {f : α → PyData}
theorem Ly.le (h : Ly n d) (k : n ≤ m) : Ly m d := ⟨h.1, Nat.le_trans h.2 k⟩
theorem Ly.int {i : Int} : Ly n (.int i) := ⟨by simp [PyData.canLay0], by simp [PyData.depth]⟩
theorem Ly.bool {i : Bool} : Ly n (.bool i) := ⟨by simp [PyData.canLay0], by simp [PyData.depth]⟩
theorem Ly.none : Ly n .none := ⟨by simp [PyData.canLay0], by simp [PyData.depth]⟩
theorem Ly.str {x : Str} (h : PyData.strOk x = true) : Ly n (.str x) := ⟨by simp [PyData.canLay0, h], by simp [PyData.depth]⟩
theorem Ly.all {ds : List PyData} (h : ∀ d ∈ ds, Ly n d) : PyData.canLayAll0 ds = true ∧ PyData.depthAll ds ≤ n := by
  induction ds with
  | nil => exact ⟨by simp [PyData.canLayAll0], by simp [PyData.depthAll]⟩
  | cons d ds ih =>
    have h1 := h d List.mem_cons_self
    have h2 := ih fun e he => h e (List.mem_cons_of_mem _ he)
    exact ⟨by simp [PyData.canLayAll0, h1.1, h2.1], by simp only [PyData.depthAll]; exact Nat.max_le.mpr ⟨h1.2, h2.2⟩⟩
theorem Ly.list {ds : List PyData} (h : ∀ d ∈ ds, Ly n d) : Ly (n + 1) (.list ds) := ⟨by simp only [PyData.canLay0]; exact (Ly.all h).1, by simp only [PyData.depth]; have := (Ly.all h).2; omega⟩
theorem Ly.tuple {ds : List PyData} (h : ∀ d ∈ ds, Ly n d) : Ly (n + 1) (.tuple ds) := ⟨by simp only [PyData.canLay0]; exact (Ly.all h).1, by simp only [PyData.depth]; have := (Ly.all h).2; omega⟩
theorem Ly.mapL {xs : List α} (h : ∀ x ∈ xs, Ly n (f x)) : Ly (n + 1) (.list (xs.map f)) := Ly.list fun d hd => by
  obtain ⟨x, hx, rfl⟩ := List.mem_map.mp hd
  exact h x hx
theorem Ly.mapT {xs : List α} (h : ∀ x ∈ xs, Ly n (f x)) : Ly (n + 1) (.tuple (xs.map f)) := Ly.tuple fun d hd => by
  obtain ⟨x, hx, rfl⟩ := List.mem_map.mp hd
  exact h x hx
theorem Ly.t0 : Ly (n + 1) (.tuple []) := Ly.tuple fun _ h => by cases h
theorem Ly.t1 {a : PyData} (h : Ly n a) : Ly (n + 1) (.tuple [a]) := Ly.tuple fun d hd => by
  rw [List.mem_singleton.mp hd]; exact h
theorem Ly.t2 {a b : PyData} (h : Ly n a) (k : Ly n b) : Ly (n + 1) (.tuple [a, b]) := Ly.tuple fun d hd => by
  simp only [List.mem_cons, List.not_mem_nil, or_false] at hd
  rcases hd with rfl | rfl
  · exact h
  · exact k
theorem Ly.t3 {a b c : PyData} (h : Ly n a) (k : Ly n b) (l : Ly n c) : Ly (n + 1) (.tuple [a, b, c]) := Ly.tuple fun d hd => by
  simp only [List.mem_cons, List.not_mem_nil, or_false] at hd
  rcases hd with rfl | rfl | rfl
  · exact h
  · exact k
  · exact l
theorem Ly.t4 {a b c z : PyData} (h : Ly n a) (k : Ly n b) (l : Ly n c) (m : Ly n z) : Ly (n + 1) (.tuple [a, b, c, z]) := Ly.tuple fun d hd => by
  simp only [List.mem_cons, List.not_mem_nil, or_false] at hd
  rcases hd with rfl | rfl | rfl | rfl
  · exact h
  · exact k
  · exact l
  · exact m
theorem Ly.shaped (h : Ly n d) (hn : n ≤ 64) : SeqAt.shaped d = true := by
  unfold SeqAt.shaped
  rw [h.1, Bool.true_and]
  exact decide_eq_true (Nat.le_trans h.2 hn)
theorem eqD_of (h : Ly n d) (k : Ly m e) (hn : n ≤ 64) (hm : m ≤ 64) : eqD d e = some (PyData.eqv d e) := by
  unfold eqD
  rw [if_pos ⟨h.shaped hn, k.shaped hm⟩]
theorem eqD_self (h : Ly n d) (hn : n ≤ 64) : eqD d d = some true := by
  rw [eqD_of h h hn hn, SeqAt.eqv_refl d h.1]
theorem strs_ly {xs : List Str} (h : Oks xs) : Ly 1 (.list (xs.map PyData.str)) := Ly.mapL fun x hx => Ly.str (h x hx)
theorem strsT_ly {xs : List Str} (h : Oks xs) : Ly 1 (.tuple (xs.map PyData.str)) := Ly.mapT fun x hx => Ly.str (h x hx)
theorem bools_ly {xs : List Bool} : Ly 1 (.list (xs.map PyData.bool)) := Ly.mapL fun x hx => Ly.bool
theorem ints_ly {xs : List Int} : Ly 1 (.list (xs.map PyData.int)) := Ly.mapL fun x hx => Ly.int
theorem intsT_ly {xs : List Int} : Ly 1 (.tuple (xs.map PyData.int)) := Ly.mapT fun x hx => Ly.int
theorem strOk_app {a b : Str} (h : PyData.strOk a = true) (k : PyData.strOk b = true) : PyData.strOk (a ++ b) = true := by
  unfold PyData.strOk at h k ⊢
  rw [Array.all_eq_true'] at h k ⊢
  intro x hx
  have hx : x ∈ a.cps ++ b.cps := hx
  rcases Array.mem_append.mp hx with z | z
  · exact h x z
  · exact k x z
end
/-! eqv tells data without truth values apart -/
def nb : PyData → Bool
  | .bool _ => false
  | .list xs => nbAll xs
  | .tuple xs => nbAll xs
  | .dict _ => false
  | _ => true
where nbAll : List PyData → Bool
  | [] => true
  | x :: xs => nb x && nbAll xs
mutual
theorem eqv_nb : ∀ d e : PyData, nb d = true → nb e = true → (PyData.eqv d e = true ↔ d = e)
  | .none, e, _, h => by cases e <;> simp_all [PyData.eqv, nb]
  | .bool _, _, h, _ => by simp [nb] at h
  | .int i, e, _, h => by cases e <;> simp_all [PyData.eqv, nb]
  | .str x, e, _, h => by cases e <;> simp_all [PyData.eqv, nb]
  | .list xs, e, h1, h => by
    cases e with
    | list ys =>
      have := eqvAll_nb xs ys (by simpa [nb] using h1) (by simpa [nb] using h)
      simp [PyData.eqv, this]
    | _ => simp_all [PyData.eqv, nb]
  | .tuple xs, e, h1, h => by
    cases e with
    | tuple ys =>
      have := eqvAll_nb xs ys (by simpa [nb] using h1) (by simpa [nb] using h)
      simp [PyData.eqv, this]
    | _ => simp_all [PyData.eqv, nb]
  | .dict _, _, h, _ => by simp [nb] at h
theorem eqvAll_nb : ∀ ds es : List PyData, nb.nbAll ds = true → nb.nbAll es = true → (PyData.eqvAll ds es = true ↔ ds = es)
  | [], [], _, _ => by simp [PyData.eqvAll]
  | [], _ :: _, _, _ => by simp [PyData.eqvAll]
  | _ :: _, [], _, _ => by simp [PyData.eqvAll]
  | d :: ds, e :: es, h1, h2 => by
    simp only [nb.nbAll, Bool.and_eq_true] at h1 h2
    simp [PyData.eqvAll, eqv_nb d e h1.1 h2.1, eqvAll_nb ds es h1.2 h2.2]
end
theorem eqv_dec {d e : PyData} (h1 : nb d = true) (h2 : nb e = true) {P : Prop} [Decidable P] (h : d = e ↔ P) : PyData.eqv d e = decide P := by
  rw [Bool.eq_iff_iff, eqv_nb d e h1 h2, decide_eq_true_iff, h]
end Mf

namespace Mf
open PySem L2 PyProof.Rows
/-! ### data of any kind, used as one kind -/
def asI : PyData → Option Int
  | .int i => some i
  | _ => none
def asS : PyData → Option Str
  | .str x => some x
  | _ => none
def asL : PyData → Option (List PyData)
  | .list xs => some xs
  | _ => none
def asT : PyData → Option (List PyData)
  | .tuple xs => some xs
  | _ => none
def isInt : PyData → Bool
  | .int _ => true
  | .bool _ => true
  | _ => false
def isBool : PyData → Bool
  | .bool _ => true
  | _ => false
def isStr : PyData → Bool
  | .str _ => true
  | _ => false
def isTup : PyData → Bool
  | .tuple _ => true
  | _ => false
def isLst : PyData → Bool
  | .list _ => true
  | _ => false
/-- a value of one kind as a value of another -/
def Mp {α β : Type} (R : Rl α) (S : Rl β) (f : α → β) : Prop := ∀ {H : Hp} {x : α} {v : V}, R.rel H x v → S.rel H (f x) v
section
variable {α β γ δ : Type} {K : PySem.W.Frag} {R : Rl α} {S : Rl β} {T : Rl γ} {U : Rl δ} {d : α → PyData} {f : α → β} {σ : L2.St} {H B : Hp} {v w : V} {Q : VK} {te : TE}
theorem Ev.cast (h : Ev te σ H v) (e : v = w) : Ev te σ H w := e ▸ h
theorem asI_v {x : PyData} {i : Int} (h : (dAny K).rel B x v) (e : asI x = some i) : v = .int i := by
  have h : Dp K B v x := h
  cases h <;> simp_all [asI]
theorem asS_v {x : PyData} {i : Str} (h : (dAny K).rel B x v) (e : asS x = some i) : v = .str i := by
  have h : Dp K B v x := h
  cases h <;> simp_all [asS]
theorem asI_f {x : PyData} {i : Int} (h : (dAny K).rel B x v) (e : asI x = some i) : dInt.rel B i v := asI_v h e
theorem asS_f {x : PyData} {i : Str} (h : (dAny K).rel B x v) (e : asS x = some i) : dStr.rel B i v := asS_v h e
theorem mpI : Mp R R id := fun h => h
theorem mpS {R' : Rl α} (h : Sub R R') : Mp R R' id := fun q => h q
theorem mpA (D : Dr K R d) : Mp R (dAny K) d := fun h => D h
theorem fa_map (m : Mp R S f) {xs : List α} {vs : List V} (h : Fa (R.rel H) xs vs) : Fa (S.rel H) (xs.map f) vs := by
  induction h with
  | nil => exact .nil
  | cons r _ ih => exact .cons (m r) ih
theorem mpL (m : Mp R S f) : Mp (dList R) (dList S) (fun xs => xs.map f) := fun ⟨p, vs, e, a, g, l⟩ => ⟨p, vs, e, a, fa_map m g, by simpa using l⟩
theorem mpT (m : Mp R S f) : Mp (dTup K R) (dTup K S) (fun xs => xs.map f) := fun ⟨p, vs, e, a, g, l⟩ => ⟨p, vs, e, a, fa_map m g, by simpa using l⟩
theorem mpLQ (m : Mp R S f) : Mp (dList R) (dSeq K S) (fun xs => xs.map f) := fun ⟨p, vs, e, a, g, l⟩ => ⟨p, vs, e, .inl (SqL.of a), fa_map m g, by simpa using l⟩
theorem mpTQ (m : Mp R S f) : Mp (dTup K R) (dSeq K S) (fun xs => xs.map f) := fun ⟨p, vs, e, a, g, l⟩ => ⟨p, vs, e, .inr a, fa_map m g, by simpa using l⟩
theorem mpQQ (m : Mp R S f) : Mp (dSeq K R) (dSeq K S) (fun xs => xs.map f) := fun ⟨p, vs, e, a, g, l⟩ => ⟨p, vs, e, a, fa_map m g, by simpa using l⟩
theorem mpO (m : Mp R S f) : Mp (dOpt R) (dOpt S) (fun x => x.map f) := fun {H x v} h => by
  cases x with
  | none => exact h
  | some x => exact ⟨m h.1, h.2⟩
theorem mp1 (m : Mp R S f) : Mp (dOne K R) (dTup K S) (fun x => [f x]) := fun ⟨p, a, e, h, r⟩ => ⟨p, [a], e, h, .cons (m r) .nil, by show 1 ≤ BIG; decide⟩
theorem mp2 {g : γ → β} (m : Mp R S f) (n : Mp T S g) : Mp (dPair K R T) (dTup K S) (fun x => [f x.1, g x.2]) := fun ⟨p, a, b, e, h, r, t⟩ => ⟨p, [a, b], e, h, .cons (m r) (.cons (n t) .nil), by show 2 ≤ BIG; decide⟩
theorem mp3 {g : γ → β} {k : δ → β} (m : Mp R S f) (n : Mp T S g) (o : Mp U S k) : Mp (dTrip K R T U) (dTup K S) (fun x => [f x.1, g x.2.1, k x.2.2]) := fun ⟨p, a, b, c, e, h, r, t, u⟩ => ⟨p, [a, b, c], e, h, .cons (m r) (.cons (n t) (.cons (o u) .nil)), by show 3 ≤ BIG; decide⟩
theorem mp4 {ε : Type} {W : Rl ε} {g : γ → β} {k : δ → β} {l : ε → β} (m : Mp R S f) (n : Mp T S g) (o : Mp U S k) (q : Mp W S l) : Mp (dQuad K R T U W) (dTup K S) (fun x => [f x.1, g x.2.1, k x.2.2.1, l x.2.2.2]) := fun ⟨p, a, b, c, d, e, h, r, t, u, v⟩ => ⟨p, [a, b, c, d], e, h, .cons (m r) (.cons (n t) (.cons (o u) (.cons (q v) .nil))), by show 4 ≤ BIG; decide⟩
theorem dr4 {ε : Type} {W : Rl ε} {a : α → PyData} {b : β → PyData} {c : γ → PyData} {e : δ → PyData} (D : Dr K R a) (E : Dr K S b) (F : Dr K T c) (G : Dr K U e) : Dr K (dQuad K R S T U) (fun x => .tuple [a x.1, b x.2.1, c x.2.2.1, e x.2.2.2]) := fun ⟨p, v1, v2, v3, v4, q, h, r, s, t, u⟩ => by
  cases q; exact .tup h (.cons (D r) (.cons (E s) (.cons (F t) (.cons (G u) .nil))))
theorem mpP1 (m : Mp R S f) : Mp (dOne K R) (dOne K S) f := fun ⟨p, a, e, h, r⟩ => ⟨p, a, e, h, m r⟩
theorem mpP2 {g : γ → δ} (m : Mp R S f) (n : Mp T U g) : Mp (dPair K R T) (dPair K S U) (fun x => (f x.1, g x.2)) := fun ⟨p, a, b, e, h, r, t⟩ => ⟨p, a, b, e, h, m r, n t⟩
theorem mpP3 {α' β' : Type} {R' : Rl α'} {S' : Rl β'} {g : γ → δ} {k : α' → β'} (m : Mp R S f) (n : Mp T U g) (o : Mp R' S' k) : Mp (dTrip K R T R') (dTrip K S U S') (fun x => (f x.1, g x.2.1, k x.2.2)) := fun ⟨p, a, b, c, e, h, r, t, u⟩ => ⟨p, a, b, c, e, h, m r, n t, o u⟩
theorem drNon : Dr K dNone (fun _ => PyData.none) := fun h => by cases h; exact .non
theorem drOpt (D : Dr K R d) : Dr K (dOpt R) (fun x => match x with | none => PyData.none | some x => d x) := fun {H x v} h => by
  cases x with
  | none => cases h; exact .non
  | some x => exact D h.1
/-! isinstance of data -/
theorem isi_aI {x : PyData} (h : (dAny K).rel H x v) : ∀ Q : VK, Q (.bl (isInt x)) H → rIsi K [v, .ty "int"] H Q := fun Q q => by
  have h : Dp K H v x := h
  cases h with
  | non => exact w_isi (.ty "int") (.base .non) (kit_ty (r := false) (by decide +kernel)) q
  | bl b => exact w_isi (.ty "int") (.base (.bl b)) (kit_ty (r := true) (by decide +kernel)) q
  | int i => exact w_isi (.ty "int") (.base (.int i)) (kit_ty (r := true) (by decide +kernel)) q
  | str i => exact w_isi (.ty "int") (.base (.str i)) (kit_ty (r := false) (by decide +kernel)) q
  | lst hq a => exact w_isi (.ty "int") (tyx_l hq) (kit_ty (r := false) (by decide +kernel)) q
  | tup hq a => exact w_isi (.ty "int") (tyx_t hq) (kit_ty (r := false) (by decide +kernel)) q
theorem isi_aB {x : PyData} (h : (dAny K).rel H x v) : ∀ Q : VK, Q (.bl (isBool x)) H → rIsi K [v, .ty "bool"] H Q := fun Q q => by
  have h : Dp K H v x := h
  cases h with
  | non => exact w_isi (.ty "bool") (.base .non) (kit_ty (r := false) (by decide +kernel)) q
  | bl b => exact w_isi (.ty "bool") (.base (.bl b)) (kit_ty (r := true) (by decide +kernel)) q
  | int i => exact w_isi (.ty "bool") (.base (.int i)) (kit_ty (r := false) (by decide +kernel)) q
  | str i => exact w_isi (.ty "bool") (.base (.str i)) (kit_ty (r := false) (by decide +kernel)) q
  | lst hq a => exact w_isi (.ty "bool") (tyx_l hq) (kit_ty (r := false) (by decide +kernel)) q
  | tup hq a => exact w_isi (.ty "bool") (tyx_t hq) (kit_ty (r := false) (by decide +kernel)) q
theorem isi_aS {x : PyData} (h : (dAny K).rel H x v) : ∀ Q : VK, Q (.bl (isStr x)) H → rIsi K [v, .ty "str"] H Q := fun Q q => by
  have h : Dp K H v x := h
  cases h with
  | non => exact w_isi (.ty "str") (.base .non) (kit_ty (r := false) (by decide +kernel)) q
  | bl b => exact w_isi (.ty "str") (.base (.bl b)) (kit_ty (r := false) (by decide +kernel)) q
  | int i => exact w_isi (.ty "str") (.base (.int i)) (kit_ty (r := false) (by decide +kernel)) q
  | str i => exact w_isi (.ty "str") (.base (.str i)) (kit_ty (r := true) (by decide +kernel)) q
  | lst hq a => exact w_isi (.ty "str") (tyx_l hq) (kit_ty (r := false) (by decide +kernel)) q
  | tup hq a => exact w_isi (.ty "str") (tyx_t hq) (kit_ty (r := false) (by decide +kernel)) q
theorem isi_aT {x : PyData} (h : (dAny K).rel H x v) : ∀ Q : VK, Q (.bl (isTup x)) H → rIsi K [v, .ty "tuple"] H Q := fun Q q => by
  have h : Dp K H v x := h
  cases h with
  | non => exact w_isi (.ty "tuple") (.base .non) (kit_ty (r := false) (by decide +kernel)) q
  | bl b => exact w_isi (.ty "tuple") (.base (.bl b)) (kit_ty (r := false) (by decide +kernel)) q
  | int i => exact w_isi (.ty "tuple") (.base (.int i)) (kit_ty (r := false) (by decide +kernel)) q
  | str i => exact w_isi (.ty "tuple") (.base (.str i)) (kit_ty (r := false) (by decide +kernel)) q
  | lst hq a => exact w_isi (.ty "tuple") (tyx_l hq) (kit_ty (r := false) (by decide +kernel)) q
  | tup hq a => exact w_isi (.ty "tuple") (tyx_t hq) (kit_ty (r := true) (by decide +kernel)) q
/-- data is no object of an own class -/
theorem isi_aC {x : PyData} {C : Addr} (h : (dAny K).rel H x v) (k0 : PySem.W.kitOne K (.type "NoneType") (.ref C) = some false) (k1 : PySem.W.kitOne K (.type "bool") (.ref C) = some false) (k2 : PySem.W.kitOne K (.type "int") (.ref C) = some false) (k3 : PySem.W.kitOne K (.type "str") (.ref C) = some false) (k4 : PySem.W.kitOne K (.type "list") (.ref C) = some false) (k5 : PySem.W.kitOne K (.type "tuple") (.ref C) = some false) : ∀ Q : VK, Q (.bl false) H → rIsi K [v, .ref C] H Q := fun Q q => by
  have h : Dp K H v x := h
  cases h with
  | non => exact w_isi (.own C) (.base .non) k0 q
  | bl b => exact w_isi (.own C) (.base (.bl b)) k1 q
  | int i => exact w_isi (.own C) (.base (.int i)) k2 q
  | str i => exact w_isi (.own C) (.base (.str i)) k3 q
  | lst hq a => exact w_isi (.own C) (tyx_l hq) k4 q
  | tup hq a => exact w_isi (.own C) (tyx_t hq) k5 q
theorem any_ty {x : PyData} {C : Addr} (h : (dAny K).rel H x v) (n0 : PySem.W.notFirst K C (.type "NoneType") = true) (n1 : PySem.W.notFirst K C (.type "bool") = true) (n2 : PySem.W.notFirst K C (.type "int") = true) (n3 : PySem.W.notFirst K C (.type "str") = true) (n4 : PySem.W.notFirst K C (.type "list") = true) (n5 : PySem.W.notFirst K C (.type "tuple") = true) : ∃ t, TyX K H v t ∧ PySem.W.notFirst K C t = true := by
  have h : Dp K H v x := h
  cases h with
  | non => exact ⟨_, .base .non, n0⟩
  | bl b => exact ⟨_, .base (.bl b), n1⟩
  | int i => exact ⟨_, .base (.int i), n2⟩
  | str i => exact ⟨_, .base (.str i), n3⟩
  | lst hq a => exact ⟨_, tyx_l hq, n4⟩
  | tup hq a => exact ⟨_, tyx_t hq, n5⟩
/-! a tuple of like things, taken apart -/
def un2 (xs : List α) : Option (α × α) := match xs with | [a, b] => some (a, b) | _ => none
def un3 (xs : List α) : Option (α × α × α) := match xs with | [a, b, c] => some (a, b, c) | _ => none
theorem un_T2 {xs : List α} {x : α × α} (h : (dTup K R).rel B xs v) (e : un2 xs = some x) : ∃ a b, R.rel B x.1 a ∧ R.rel B x.2 b ∧ ∀ H, Same B H → ∃ p, v = .ref p ∧ SqT K H p [a, b] := by
  obtain ⟨p, vs, rfl, h, f, _⟩ := h
  cases f with
  | nil => cases e
  | cons r f =>
    cases f with
    | nil => cases e
    | cons t f =>
      cases f with
      | nil => cases e; exact ⟨_, _, r, t, fun H s => ⟨p, rfl, Same.sqt s h⟩⟩
      | cons u f => cases e
theorem un_T3 {xs : List α} {x : α × α × α} (h : (dTup K R).rel B xs v) (e : un3 xs = some x) : ∃ a b c, R.rel B x.1 a ∧ R.rel B x.2.1 b ∧ R.rel B x.2.2 c ∧ ∀ H, Same B H → ∃ p, v = .ref p ∧ SqT K H p [a, b, c] := by
  obtain ⟨p, vs, rfl, h, f, _⟩ := h
  cases f with
  | nil => cases e
  | cons r f =>
    cases f with
    | nil => cases e
    | cons t f =>
      cases f with
      | nil => cases e
      | cons u f =>
        cases f with
        | nil => cases e; exact ⟨_, _, _, r, t, u, fun H s => ⟨p, rfl, Same.sqt s h⟩⟩
        | cons u f => cases e
theorem opt_some {x : α} {o : Option α} (h : (dOpt R).rel B o v) (e : o = some x) : R.rel B x v := by
  subst e; exact h.1
end
section
variable {α β : Type} {K : PySem.W.Frag} {R : Rl α} {S : Rl β} {d : α → PyData} {e : β → PyData} {σ : L2.St} {H B : Hp} {v w : V} {Q : VK} {Φ : Fr} {cs : List (Addr × HO)} {p : Addr} {o : HO} {xs ys : List α} {i : Int}
/-! in of data, in a list of one's own -/
theorem cL_d (h : (cList R).rel B xs o) (hp : H p = some o) (s : Same B H) : (dList R).rel H xs (.ref p) := by
  obtain ⟨vs, rfl, f, l⟩ := h
  exact ⟨p, vs, rfl, hp, fa_mono s f, l⟩
/-! x.index(y) -/
def fIx (p : α → Bool) (xs : List α) : Option Int := (xs.findIdx? p).map fun j => ((j : Nat) : Int)
theorem fIx_some {p : α → Bool} {xs : List α} {i : Int} (h : fIx p xs = some i) : ∃ j : Nat, i = j ∧ (∃ z, xs[j]? = some z ∧ p z = true) ∧ ∀ m z, m < j → xs[m]? = some z → p z = false := by
  unfold fIx at h
  cases e : xs.findIdx? p with
  | none => rw [e] at h; cases h
  | some j =>
    rw [e] at h
    cases h
    obtain ⟨hl, h1, h2⟩ := List.findIdx?_eq_some_iff_getElem.mp e
    refine ⟨j, rfl, ⟨xs[j], by simp [hl], h1⟩, fun m z hm hz => ?_⟩
    obtain ⟨h3, h4⟩ := List.getElem?_eq_some_iff.mp hz
    have := h2 m hm
    rw [h4] at this
    simpa using this
def ixOf [DecidableEq α] (x : α) (xs : List α) : Option Int := fIx (fun y => decide (y = x)) xs
def ixD (d : PyData) (ds : List PyData) : Option Int := if SeqAt.shaped (.list ds) = true ∧ SeqAt.shaped d = true then fIx (fun z => PyData.eqv z d) ds else none
theorem r_ixI {zs : List Int} {j : Int} (h : (dList dInt).rel H zs v) (e : ixOf i zs = some j) (g : Q (.int j) H) : rIndex K v [.int i] H Q := by
  obtain ⟨p, vs, rfl, h, f, _⟩ := h
  cases fa_int f
  obtain ⟨n, rfl, ⟨z, h3, h4⟩, h5⟩ := fIx_some e
  have h4 := of_decide_eq_true h4
  subst h4
  refine ⟨_, _, _, n, .int z, rfl, rfl, SqL.of h, rfl, flat_ints, by rw [List.getElem?_map, h3]; rfl, by simp [eqV], fun m z' hm hz => ?_, g⟩
  rw [List.getElem?_map] at hz
  cases q : zs[m]? with
  | none => rw [q] at hz; cases hz
  | some y =>
    rw [q] at hz
    cases hz
    have := h5 m y hm q
    simp only [decide_eq_false_iff_not] at this
    simp [eqV, this]
theorem r_ixS {zs : List Str} {x : Str} {j : Int} (h : (dList dStr).rel H zs v) (e : ixOf x zs = some j) (g : Q (.int j) H) : rIndex K v [.str x] H Q := by
  obtain ⟨p, vs, rfl, h, f, _⟩ := h
  cases fa_str f
  obtain ⟨n, rfl, ⟨z, h3, h4⟩, h5⟩ := fIx_some e
  have h4 := of_decide_eq_true h4
  subst h4
  refine ⟨_, _, _, n, .str z, rfl, rfl, SqL.of h, rfl, flat_strs, by rw [List.getElem?_map, h3]; rfl, by simp [eqV], fun m z' hm hz => ?_, g⟩
  rw [List.getElem?_map] at hz
  cases q : zs[m]? with
  | none => rw [q] at hz; cases hz
  | some y =>
    rw [q] at hz
    cases hz
    have := h5 m y hm q
    simp only [decide_eq_false_iff_not] at this
    simp [eqV, this]
theorem r_ixD {x : α} {zs : List β} {j : Int} (D : Dr K R d) (E : Dr K S e) (h : (dList S).rel H zs v) (hx : R.rel H x w) (hm : ixD (d x) (zs.map e) = some j) (g : Q (.int j) H) : rIndexD K v [w] H Q := by
  unfold ixD at hm
  by_cases c : SeqAt.shaped (.list (zs.map e)) = true ∧ SeqAt.shaped (d x) = true
  · rw [if_pos c] at hm
    obtain ⟨n, rfl, ⟨z, h3, h4⟩, h5⟩ := fIx_some hm
    have hd := drL E h
    obtain ⟨p, vs, rfl, h, f, _⟩ := h
    exact ⟨p, w, _, _, n, z, rfl, rfl, hd, D hx, c.1, c.2, h3, h4, h5, g⟩
  · rw [if_neg c] at hm; cases hm
/-! xs.pop(i), xs[i] = y, x[a:b], x * n, max(i, j) -/
def popM (xs : List α) (i : Int) : Option (α × List α) := if -(2 ^ 63) ≤ i ∧ i < 2 ^ 63 then (seqIndex? i xs.length).bind fun k => (xs[k]?).map fun x => (x, xs.eraseIdx k) else none
theorem fa_erase {R' : α → V → Prop} : ∀ {xs : List α} {vs : List V} {k : Nat}, Fa R' xs vs → Fa R' (xs.eraseIdx k) (vs.eraseIdx k)
  | _, _, _, .nil => .nil
  | _, _, 0, .cons _ t => t
  | _, _, k + 1, .cons r t => .cons r (fa_erase t)
theorem fa_set {R' : α → V → Prop} {x : α} {w : V} (h : R' x w) : ∀ {xs : List α} {vs : List V} {k : Nat}, Fa R' xs vs → Fa R' (xs.set k x) (vs.set k w)
  | _, _, _, .nil => .nil
  | _, _, 0, .cons _ t => .cons h t
  | _, _, k + 1, .cons r t => .cons r (fa_set h t)
theorem fa_take {R' : α → V → Prop} : ∀ {n : Nat} {xs : List α} {vs : List V}, Fa R' xs vs → Fa R' (xs.take n) (vs.take n)
  | _, _, _, .nil => by simp; exact .nil
  | 0, _, _, _ => by simp; exact .nil
  | n + 1, _, _, .cons r t => .cons r (fa_take t)
theorem fa_drop {R' : α → V → Prop} : ∀ {n : Nat} {xs : List α} {vs : List V}, Fa R' xs vs → Fa R' (xs.drop n) (vs.drop n)
  | _, _, _, .nil => by simp; exact .nil
  | 0, _, _, h => h
  | n + 1, _, _, .cons r t => fa_drop (n := n) t
theorem q_popAt {k : Nat} {x : α} (Z : Sit Φ B H cs) (hk : cs[k]? = some (p, o)) (h : (cList R).rel B xs o) (hm : popM xs i = some (x, ys)) (g : ∀ w o' H', Sit Φ B H' (cs.set k (p, o')) → (cList R).rel B ys o' → R.rel B x w → Q w H') : rPopAt (.ref p) [.int i] H Q := by
  unfold popM at hm
  by_cases c : -(2 ^ 63) ≤ i ∧ i < 2 ^ 63
  · rw [if_pos c] at hm
    obtain ⟨n, hn, hm⟩ := bs hm
    obtain ⟨y, hy, hm⟩ := bs (show ((xs[n]?).bind fun x => some (x, xs.eraseIdx n)) = _ by rw [← hm]; cases xs[n]? <;> rfl)
    cases hm
    obtain ⟨vs, rfl, f, l⟩ := h
    obtain ⟨w, hw, r⟩ := f.getL hy
    exact ⟨p, vs, i, n, w, rfl, rfl, Z.at' hk, c.1, c.2, by rw [← f.len]; exact hn, hw, g w _ _ (Z.set hk) ⟨_, rfl, fa_erase f, by rw [List.length_eraseIdx]; split <;> omega⟩ r⟩
  · rw [if_neg c] at hm; cases hm
def setM (xs : List α) (i : Int) (x : α) : Option (List α) := (ixN xs.length i).map fun n => xs.set n x
theorem q_setL {k : Nat} {x : α} {w : V} {RR : Hp → Prop} (Z : Sit Φ B H cs) (hk : cs[k]? = some (p, o)) (h : (cList R).rel B xs o) (hx : R.rel B x w) (hm : setM xs i x = some ys) (g : ∀ o' H', Sit Φ B H' (cs.set k (p, o')) → (cList R).rel B ys o' → RR H') : rSetL (.ref p) (.int i) w H RR := by
  unfold setM at hm
  obtain ⟨vs, rfl, f, l⟩ := h
  cases e : ixN xs.length i with
  | none => rw [e] at hm; cases hm
  | some n =>
    rw [e] at hm
    cases hm
    exact ⟨p, vs, i, n, rfl, rfl, Z.at' hk, by rw [← f.len]; exact e, g _ _ (Z.set hk) ⟨_, rfl, fa_set hx f, by rw [List.length_set]; exact l⟩⟩
def cutL (xs : List α) (lo hi : Option Int) : List α := (xs.drop (HT.sIx xs.length 0 lo)).take (HT.sIx xs.length xs.length hi - HT.sIx xs.length 0 lo)
theorem cutL_len (xs : List α) (lo hi : Option Int) : (cutL xs lo hi).length ≤ xs.length := by
  unfold cutL; rw [List.length_take, List.length_drop]; omega
theorem fa_cut {R' : α → V → Prop} {xs : List α} {vs : List V} {lo hi : Option Int} (f : Fa R' xs vs) : Fa R' (cutL xs lo hi) (cutV vs lo hi) := by
  unfold cutL cutV
  rw [f.len]
  exact fa_take (fa_drop f)
theorem q_slD {lo hi : Option Int} (Z : Sit Φ B H cs) (h : (dList R).rel B xs v) (k : ∀ v B' H', Sit Φ B' H' cs → Same B B' → (dList R).rel B' (cutL xs lo hi) v → Q v H') : rSlL K v lo hi H Q := by
  obtain ⟨p, vs, rfl, h, f, l⟩ := h
  exact ⟨p, vs, rfl, SqL.of (Z.sub _ _ h), nwL Z (fa_cut f) (Nat.le_trans (cutL_len _ _ _) l) k⟩
theorem q_slDO {lo hi : Option Int} (Z : Sit Φ B H cs) (h : (dList R).rel B xs v) (k : ∀ p o H', Sit Φ B H' ((p, o) :: cs) → Φ.H p = none → (cList R).rel B (cutL xs lo hi) o → Q (.ref p) H') : rSlL K v lo hi H Q := by
  obtain ⟨p, vs, rfl, h, f, l⟩ := h
  exact ⟨p, vs, rfl, SqL.of (Z.sub _ _ h), nwO Z (fa_cut f) (Nat.le_trans (cutL_len _ _ _) l) k⟩
theorem cut_all {lo hi : Option Int} (h : HT.sIx xs.length 0 lo = 0 ∧ HT.sIx xs.length xs.length hi = xs.length) : cutL xs lo hi = xs := by
  unfold cutL
  rw [h.1, h.2]
  simp
theorem q_slT {lo hi : Option Int} (Z : Sit Φ B H cs) (h : (dTup K R).rel B xs v) (k : ∀ v B' H', Sit Φ B' H' cs → Same B B' → (dTup K R).rel B' (cutL xs lo hi) v → Q v H') : rSlA K v lo hi H Q := by
  obtain ⟨p, vs, rfl, h, f, l⟩ := h
  refine ⟨p, vs, rfl, Same.sqt Z.sub h, fun c => ?_, fun _ => nwT Z (fa_cut f) (Nat.le_trans (cutL_len _ _ _) l) k⟩
  rw [← f.len] at c
  exact k _ _ _ Z (Same.rf _) ⟨p, vs, rfl, h, by rw [cut_all c]; exact f, by rw [cut_all c]; exact l⟩
def repM (xs : List α) (n : Int) : Option (List α) := if -(2 ^ 63) ≤ n ∧ n < 2 ^ 63 ∧ xs.length * n.toNat ≤ BIG then some (List.replicate n.toNat xs).flatten else none
theorem fa_rep {R' : α → V → Prop} {xs : List α} {vs : List V} (f : Fa R' xs vs) : ∀ n, Fa R' (List.replicate n xs).flatten (List.replicate n vs).flatten
  | 0 => .nil
  | n + 1 => by rw [List.replicate_succ, List.replicate_succ, List.flatten_cons, List.flatten_cons]; exact f.app (fa_rep f n)
theorem rep_len (xs : List α) (n : Nat) : ((List.replicate n xs).flatten).length = n * xs.length := by
  induction n with
  | zero => simp
  | succ n ih => rw [List.replicate_succ, List.flatten_cons, List.length_append, ih, Nat.succ_mul]; omega
theorem repM_some {n : Int} (h : repM xs n = some ys) : (-(2 ^ 63) ≤ n ∧ n < 2 ^ 63 ∧ xs.length * n.toNat ≤ BIG) ∧ ys = (List.replicate n.toNat xs).flatten := by
  unfold repM at h
  by_cases c : -(2 ^ 63) ≤ n ∧ n < 2 ^ 63 ∧ xs.length * n.toNat ≤ BIG
  · rw [if_pos c] at h; cases h; exact ⟨c, rfl⟩
  · rw [if_neg c] at h; cases h
theorem q_rep {n : Int} (Z : Sit Φ B H cs) (h : (dList R).rel B xs v) (hm : repM xs n = some ys) (k : ∀ v B' H', Sit Φ B' H' cs → Same B B' → (dList R).rel B' ys v → Q v H') : rRep v (.int n) H Q := by
  obtain ⟨c, rfl⟩ := repM_some hm
  obtain ⟨p, vs, rfl, h, f, l⟩ := h
  have := rep_len xs n.toNat
  rw [Nat.mul_comm] at this
  exact ⟨p, n, vs, rfl, rfl, Z.sub _ _ h, c.1, c.2.1, by rw [← f.len]; exact big_size c.2.2, nwL Z (fa_rep f _) (by omega) k⟩
theorem q_repO {n : Int} (Z : Sit Φ B H cs) (h : (dList R).rel B xs v) (hm : repM xs n = some ys) (k : ∀ p o H', Sit Φ B H' ((p, o) :: cs) → Φ.H p = none → (cList R).rel B ys o → Q (.ref p) H') : rRep v (.int n) H Q := by
  obtain ⟨c, rfl⟩ := repM_some hm
  obtain ⟨p, vs, rfl, h, f, l⟩ := h
  have := rep_len xs n.toNat
  rw [Nat.mul_comm] at this
  exact ⟨p, n, vs, rfl, rfl, Z.sub _ _ h, c.1, c.2.1, by rw [← f.len]; exact big_size c.2.2, nwO Z (fa_rep f _) (by omega) k⟩
theorem w_tyD {P : Prop} (h : (dList R).rel B xs v) (s : Same B H) (g : P) : tyV K "list" v H ∧ P := by
  obtain ⟨p, vs, rfl, h, f, _⟩ := h
  exact w_tyL (SqL.of (s _ _ h)) g
theorem k_slA {X : Cx} (K : PySem.W.Frag) (h : X.K = K := by rfl) : SlR X (rSlA K) := by subst h; exact sl_tupA
def maxI (i j : Int) : Int := if j > i then j else i
theorem rmax2 {j : Int} : ∀ Q : VK, Q (.int (maxI i j)) H → rMax2 [.int i, .int j] H Q := fun Q q => ⟨i, j, rfl, q⟩
end
end Mf

namespace Mf
open PySem L2 PyProof.Rows
/-! ### a call that gives a list of one's own -/
theorem Sit.call0F {Φ : Fr} {B H B' H' : Hp} {cs : List (Addr × HO)} {p : Addr} {o : HO} (S : Sit Φ B H cs) (S' : Sit ⟨B, H, []⟩ B' H' [(p, o)]) (n : H p = Option.none) : Sit Φ B' H' ((p, o) :: cs) :=
  S.call S' (fun _ m => by cases m) (fun c m => by
    rcases List.mem_cons.mp m with rfl | m
    · exact .inl (by simp)
    · exact .inr ⟨m, fun z => by cases z⟩) (by
    rw [List.map_cons, List.nodup_cons]
    refine ⟨fun m => ?_, S.nd⟩
    obtain ⟨c, hm, e⟩ := List.mem_map.mp m
    exact S.neC n hm e)
theorem Sit.call1F {Φ : Fr} {B H B' H' : Hp} {cs : List (Addr × HO)} {i : Nat} {p q : Addr} {o u u' : HO} (S : Sit Φ B H cs) (h : cs[i]? = some (q, u)) (S' : Sit ⟨B, H, [q]⟩ B' H' [(p, o), (q, u')]) (n : H p = Option.none) : Sit Φ B' H' ((p, o) :: cs.set i (q, u')) := by
  have h1 := S.call1 h (S'.only (.cons _ (.cons₂ _ .slnil)))
  have hp := S'.cell (p, o) (by simp)
  have nd : p ∉ cs.map Prod.fst := fun m => by
    obtain ⟨c, hm, e⟩ := List.mem_map.mp m
    exact S.neC n hm e
  refine S.call S' (fun z m => ⟨u, by rw [List.mem_singleton.mp m]; exact List.mem_of_getElem? h⟩) (fun c m => ?_) ?_
  · rcases List.mem_cons.mp m with rfl | m
    · exact .inl (by simp)
    · obtain ⟨j, hj⟩ := List.getElem?_of_mem m
      rw [List.getElem?_set] at hj
      by_cases e : i = j
      · rw [if_pos e, if_pos (List.getElem?_eq_some_iff.mp h).1] at hj
        cases hj
        exact .inl (by simp)
      · rw [if_neg e] at hj
        exact .inr ⟨List.mem_of_getElem? hj, fun z => e (Sit.inj S.nd h (show cs[j]? = some (c.1, c.2) from hj) (List.mem_singleton.mp z).symm)⟩
  · rw [List.map_cons, List.nodup_cons, Sit.map_set h]
    exact ⟨nd, S.nd⟩
/-! ### dicts of one's own: by whole numbers too -/
section
variable {κ α : Type} [DecidableEq κ] {ky : κ → Key} {K : PySem.W.Frag} {R : Rl α} {σ : L2.St} {H B : Hp} {v w : V} {Q : VK} {Φ : Fr} {cs : List (Addr × HO)} {p : Addr} {o : HO} {kvs : List (κ × α)} {k : κ} {x : α}
def FaG (ky : κ → Key) (R : Rl α) (H : Hp) (xs : List (κ × α)) (kvs : List (Key × V)) : Prop := Fa (fun x (kv : Key × V) => kv.1 = ky x.1 ∧ R.rel H x.2 kv.2) xs kvs
omit [DecidableEq κ] in
theorem faG_mono {H H' : Hp} {xs : List (κ × α)} {kvs : List (Key × V)} (e : Same H H') (h : FaG ky R H xs kvs) : FaG ky R H' xs kvs := h.imp fun _ _ _ z => ⟨z.1, R.mono e z.2⟩
def dDictG (ky : κ → Key) (R : Rl α) : Rl (List (κ × α)) := ⟨fun H xs v => ∃ p kvs, v = .ref p ∧ H p = some (.dK kvs) ∧ FaG ky R H xs kvs ∧ xs.length ≤ BIG, fun e ⟨p, kvs, a, b, c, d⟩ => ⟨p, kvs, a, e _ _ b, faG_mono e c, d⟩⟩
def cDictG (ky : κ → Key) (R : Rl α) : Cl (List (κ × α)) := ⟨fun B xs o => ∃ kvs, o = .dK kvs ∧ FaG ky R B xs kvs ∧ xs.length ≤ BIG, fun e ⟨vs, a, c, d⟩ => ⟨vs, a, faG_mono e c, d⟩⟩
def gGet (kvs : List (κ × α)) (k : κ) : Option α := (kvs.find? fun x => decide (x.1 = k)).map (·.2)
def gHas (kvs : List (κ × α)) (k : κ) : Bool := (gGet kvs k).isSome
def gPut (kvs : List (κ × α)) (k : κ) (v : α) : List (κ × α) := if (kvs.any fun x => decide (x.1 = k)) = true then kvs.map (fun x => if x.1 = k then (x.1, v) else x) else kvs ++ [(k, v)]
def gDel (kvs : List (κ × α)) (k : κ) : List (κ × α) := kvs.filter fun x => decide (x.1 ≠ k)
theorem faG_get (inj : ∀ a b, ky a = ky b → a = b) {ws : List (Key × V)} (h : FaG ky R B kvs ws) (k : κ) : match gGet kvs k with
    | none => valV ws (ky k) = none
    | some x => ∃ w, valV ws (ky k) = some w ∧ R.rel B x w := by
  unfold gGet
  induction h with
  | nil => rfl
  | @cons a b as bs' r t ih =>
    by_cases e : a.1 = k
    · simp only [List.find?_cons, e, decide_true, Option.map_some]
      exact ⟨b.2, valV_pos (by rw [r.1, e]), r.2⟩
    · simp only [List.find?_cons, e, decide_false]
      rw [valV_neg (fun z => e (by rw [r.1] at z; exact inj _ _ z))]
      exact ih
theorem faG_any (inj : ∀ a b, ky a = ky b → a = b) {ws : List (Key × V)} (h : FaG ky R B kvs ws) (k : κ) : (ws.any fun kv => decide (kv.1 = ky k)) = kvs.any fun x => decide (x.1 = k) := by
  induction h with
  | nil => rfl
  | @cons a b as bs' r t ih =>
    rw [List.any_cons, List.any_cons, ih, r.1]
    congr 1
    exact decide_eq_decide.mpr ⟨inj _ _, fun e => by rw [e]⟩
theorem faG_put (inj : ∀ a b, ky a = ky b → a = b) {ws : List (Key × V)} (h : FaG ky R B kvs ws) (hx : R.rel B x w) : FaG ky R B (gPut kvs k x) (putK ws (ky k) w) := by
  unfold gPut putK
  rw [faG_any inj h k]
  by_cases c : (kvs.any fun x => decide (x.1 = k)) = true
  · rw [if_pos c, if_pos c]
    clear c
    induction h with
    | nil => exact .nil
    | @cons a b as bs' r t ih =>
      rw [List.map_cons, List.map_cons]
      refine .cons ?_ ih
      by_cases e : a.1 = k
      · rw [if_pos e, if_pos (by rw [r.1, e])]
        exact ⟨r.1, hx⟩
      · rw [if_neg e, if_neg (fun z => e (by rw [r.1] at z; exact inj _ _ z))]
        exact r
  · rw [if_neg c, if_neg c]
    exact h.app (.one ⟨rfl, hx⟩)
theorem faG_del (inj : ∀ a b, ky a = ky b → a = b) {ws : List (Key × V)} (h : FaG ky R B kvs ws) : FaG ky R B (gDel kvs k) (dropK ws (ky k)) := by
  unfold gDel dropK
  induction h with
  | nil => exact .nil
  | @cons a b as bs' r t ih =>
    by_cases e : a.1 = k
    · rw [List.filter_cons, List.filter_cons, if_neg (by simp [e]), if_neg (by simp [r.1, e])]
      exact ih
    · have e' : b.1 ≠ ky k := fun z => e (by rw [r.1] at z; exact inj _ _ z)
      rw [List.filter_cons, List.filter_cons, if_pos (by simp [e]), if_pos (by simp [e'])]
      exact .cons r ih
theorem gPut_len (kvs : List (κ × α)) (k : κ) (v : α) : (gPut kvs k v).length ≤ kvs.length + 1 := by
  unfold gPut
  split <;> simp
def DqG (ky : κ → Key) (R : Rl α) (B H : Hp) (kvs : List (κ × α)) (v : V) : Prop := ∃ p ws, v = .ref p ∧ H p = some (.dK ws) ∧ FaG ky R B kvs ws
omit [DecidableEq κ] in
theorem dqGD (h : (dDictG ky R).rel B kvs v) (s : Same B H) : DqG ky R B H kvs v := let ⟨p, ws, a, b, c, _⟩ := h; ⟨p, ws, a, s _ _ b, c⟩
omit [DecidableEq κ] in
theorem dqGC (h : (cDictG ky R).rel B kvs o) (hp : H p = some o) : DqG ky R B H kvs (.ref p) := by
  obtain ⟨ws, rfl, f, _⟩ := h
  exact ⟨p, ws, rfl, hp, f⟩
theorem DqG.get (inj : ∀ a b, ky a = ky b → a = b) (h : DqG ky R B H kvs v) (e : gGet kvs k = some x) : ∃ w, R.rel B x w ∧ ∃ a, v = .ref a ∧ DGet H a (kV (ky k)) (some w) := by
  obtain ⟨p, ws, rfl, h, f⟩ := h
  have q := faG_get inj f k
  rw [e] at q
  obtain ⟨w, hw, r⟩ := q
  exact ⟨w, r, p, rfl, by rw [← hw]; exact DGet.k h⟩
theorem DqG.has (inj : ∀ a b, ky a = ky b → a = b) (h : DqG ky R B H kvs v) : ∃ a o, v = .ref a ∧ DGet H a (kV (ky k)) o ∧ o.isSome = gHas kvs k := by
  obtain ⟨p, ws, rfl, h, f⟩ := h
  refine ⟨p, _, rfl, DGet.k h, ?_⟩
  have q := faG_get inj f k
  unfold gHas
  cases e : gGet kvs k with
  | none => rw [e] at q; simp [q]
  | some x => rw [e] at q; obtain ⟨w, hw, _⟩ := q; simp [hw]
omit [DecidableEq κ] in
theorem rlen_g (h : DqG ky R B H kvs v) : ∀ Q : VK, Q (.int (kvs.length : Int)) H → rLenD [v] H Q := fun Q q => by
  obtain ⟨p, ws, rfl, h, f⟩ := h
  exact ⟨p, ws, rfl, h, by rw [← f.len]; exact q⟩
def putM (kvs : List (κ × α)) (k : κ) (x : α) : Option (List (κ × α)) := if kvs.length < BIG then some (gPut kvs k x) else none
theorem q_dputG (inj : ∀ a b, ky a = ky b → a = b) {i : Nat} {ys : List (κ × α)} {D : Ends} (Z : Sit Φ B H cs) (hk : cs[i]? = some (p, o)) (h : (cDictG ky R).rel B kvs o) (hx : R.rel B x w) (hm : putM kvs k x = some ys) (g : ∀ o' H', Sit Φ B H' (cs.set i (p, o')) → (cDictG ky R).rel B ys o' → D.nx σ H') : ∃ a H4, V.ref p = .ref a ∧ DPut H a (kV (ky k)) w H4 ∧ D.nx σ H4 := by
  unfold putM at hm
  by_cases c : kvs.length < BIG
  · rw [if_pos c] at hm
    cases hm
    obtain ⟨ws, rfl, f, l⟩ := h
    exact ⟨p, _, rfl, DPut.k (Z.at' hk) (by rw [← f.len]; exact big_lt (by omega)), g _ _ (Z.set hk) ⟨_, rfl, faG_put inj f hx, Nat.le_trans (gPut_len _ _ _) (by omega)⟩⟩
  · rw [if_neg c] at hm; cases hm
theorem q_ddelG (inj : ∀ a b, ky a = ky b → a = b) {i : Nat} {D : Ends} (Z : Sit Φ B H cs) (hk : cs[i]? = some (p, o)) (h : (cDictG ky R).rel B kvs o) (hm : gGet kvs k = some x) (g : ∀ o' H', Sit Φ B H' (cs.set i (p, o')) → (cDictG ky R).rel B (gDel kvs k) o' → D.nx σ H') : ∃ a ws k', V.ref p = .ref a ∧ H a = some (.dK ws) ∧ kV (ky k) = kV k' ∧ (valV ws k').isSome = true ∧ D.nx σ (upd H a (.dK (dropK ws k'))) := by
  obtain ⟨ws, rfl, f, l⟩ := h
  have q := faG_get inj f k
  rw [hm] at q
  obtain ⟨w, hw, r⟩ := q
  exact ⟨p, ws, ky k, rfl, Z.at' hk, rfl, by rw [hw]; rfl, g _ _ (Z.set hk) ⟨_, rfl, faG_del inj f, Nat.le_trans (by unfold gDel; exact List.length_filter_le _ _) l⟩⟩
theorem q_dpopG (inj : ∀ a b, ky a = ky b → a = b) {i : Nat} (Z : Sit Φ B H cs) (hk : cs[i]? = some (p, o)) (h : (cDictG ky R).rel B kvs o) (hm : gGet kvs k = some x) (g : ∀ w o' H', Sit Φ B H' (cs.set i (p, o')) → (cDictG ky R).rel B (gDel kvs k) o' → R.rel B x w → Q w H') : ∃ ws k' v, H p = some (.dK ws) ∧ kV (ky k) = kV k' ∧ valV ws k' = some v ∧ Q v (upd H p (.dK (dropK ws k'))) := by
  obtain ⟨ws, rfl, f, l⟩ := h
  have q := faG_get inj f k
  rw [hm] at q
  obtain ⟨w, hw, r⟩ := q
  exact ⟨ws, ky k, w, Z.at' hk, rfl, hw, g w _ _ (Z.set hk) ⟨_, rfl, faG_del inj f, Nat.le_trans (by unfold gDel; exact List.length_filter_le _ _) l⟩ r⟩
omit [DecidableEq κ] in
theorem frzG (h : (cDictG ky R).rel B kvs o) (n : B p = none) : (dDictG ky R).rel (upd B p o) kvs (.ref p) := by
  obtain ⟨ws, rfl, f, l⟩ := h
  exact ⟨p, ws, rfl, upd_same, faG_mono (Same.new n) f, l⟩
theorem q_get2 (inj : ∀ a b, ky a = ky b → a = b) (h : DqG ky R B H kvs v) {y : α} {z : V} (hz : R.rel B y z) (g : ∀ w, R.rel B ((gGet kvs k).getD y) w → Q w H) : ∃ a, v = .ref a ∧ ∃ o, DGet H a (kV (ky k)) o ∧ Q (o.getD z) H := by
  obtain ⟨p, ws, rfl, h, f⟩ := h
  refine ⟨p, rfl, _, DGet.k h, ?_⟩
  have q := faG_get inj f k
  cases e : gGet kvs k with
  | none => rw [e] at q; rw [q]; exact g z (by rw [e]; exact hz)
  | some x => rw [e] at q; obtain ⟨w, hw, r⟩ := q; rw [hw]; exact g w (by rw [e]; exact r)
end
theorem inlI : ∀ a b : Int, (Sum.inl a : Key) = Sum.inl b → a = b := fun _ _ e => by injection e
theorem inrI : ∀ a b : Str, (Sum.inr a : Key) = Sum.inr b → a = b := fun _ _ e => by injection e
abbrev dDictI {α : Type} (R : Rl α) : Rl (List (Int × α)) := dDictG Sum.inl R
abbrev cDictI {α : Type} (R : Rl α) : Cl (List (Int × α)) := cDictG Sum.inl R
section
variable {α : Type} {R : Rl α} {σ : L2.St} {H B : Hp} {v w : V} {Q : VK} {Φ : Fr} {cs : List (Addr × HO)} {td ty : TE} {i : Int} {kvs : List (Int × α)}
theorem Ev.iget (hd : Ev td σ H v) (hy : Ev ty σ H (.int i)) (h : ∃ a, v = .ref a ∧ DGet H a (kV (Sum.inl i)) (some w)) : Ev (tDGet td ty) σ H w := fun Q q => hd _ (hy _ (let ⟨a, e, g⟩ := h; ⟨a, w, e, g, q⟩))
theorem Ev.iin (hy : Ev ty σ H (.int i)) (hd : Ev td σ H v) (h : DqG Sum.inl R B H kvs v) : Ev (tDIn ty td) σ H (.bl (gHas kvs i)) := fun Q q => hy _ (hd _ (let ⟨a, o, e, g, b⟩ := h.has inlI (k := i); ⟨a, o, e, g, by rw [b]; exact q⟩))
theorem Ev.ini (hy : Ev ty σ H (.int i)) (hd : Ev td σ H v) (h : DqG Sum.inl R B H kvs v) : Ev (tDNotIn ty td) σ H (.bl (!gHas kvs i)) := fun Q q => hy _ (hd _ (let ⟨a, o, e, g, b⟩ := h.has inlI (k := i); ⟨a, o, e, g, by rw [b]; exact q⟩))
/-- {} -/
theorem q_dnewG {κ : Type} {ky : κ → Key} (Z : Sit Φ B H cs) (k : ∀ p o H', Sit Φ B H' ((p, o) :: cs) → Φ.H p = none → (cDictG ky R).rel B [] o → Q (.ref p) H') : tDNewK σ H Q := fun p n => k _ _ _ (Z.own n) (Z.fresh n) ⟨[], rfl, .nil, Nat.zero_le _⟩
theorem q_dnew (Z : Sit Φ B H cs) (k : ∀ p o H', Sit Φ B H' ((p, o) :: cs) → Φ.H p = none → (cDict R).rel B [] o → Q (.ref p) H') : tDNewK σ H Q := fun p n => k _ _ _ (Z.own n) (Z.fresh n) ⟨[], rfl, .nil, Nat.zero_le _⟩
theorem w_dput {td ty tv : TE} {D : Ends} (g : tv σ H fun v H1 => td σ H1 fun x H2 => ty σ H2 fun y H3 => ∃ a H4, x = .ref a ∧ DPut H3 a y v H4 ∧ D.nx σ H4) : sDPut td ty tv D σ H := g
/-! a text or a number, written -/
def strD : PyData → Option Str
  | .str x => some x
  | .int i => strI i
  | _ => none
def fmtD : PyData → Option Str
  | .str x => fmtS x
  | .int i => strI i
  | _ => none
def rStrA : List V → Hp → VK → Prop := fun xs H Q => rStrI xs H Q ∨ rStrS xs H Q
theorem c_strA {X : Cx} : CallR X (.type "str") rStrA := fun pins s σ H xs us Q I r h => h.elim (fun h => c_strI pins s σ H xs us Q I r h) fun h => c_strS pins s σ H xs us Q I r h
theorem rstrA {K : PySem.W.Frag} {x : PyData} {r : Str} (h : (dAny K).rel B x v) (e : strD x = some r) : ∀ Q : VK, Q (.str r) H → rStrA [v] H Q := fun Q q => by
  have h : Dp K B v x := h
  cases h with
  | int i => exact .inl (rstrI e Q q)
  | str i => cases e; exact .inr ⟨_, rfl, q⟩
  | _ => cases e
theorem x_fmtD {K : PySem.W.Frag} {x : PyData} {r : Str} (h : (dAny K).rel B x v) (e : fmtD x = some r) (g : Q (.str r) H) : FmQ Q v H := by
  have h : Dp K B v x := h
  cases h with
  | int i => exact x_fmtI e g
  | str i => exact x_fmtS e g
  | _ => cases e
/-! dict(d), list(d), d.get(k, x) -/
def DqX {κ : Type} (ky : κ → Key) (R : Rl α) (B H : Hp) (kvs : List (κ × α)) (v : V) : Prop := DqG ky R B H kvs v ∧ kvs.length ≤ BIG
theorem dqxD {κ : Type} {ky : κ → Key} {kvs : List (κ × α)} (h : (dDictG ky R).rel B kvs v) (s : Same B H) : DqX ky R B H kvs v := ⟨dqGD h s, let ⟨_, _, _, _, _, l⟩ := h; l⟩
theorem dqxC {κ : Type} {ky : κ → Key} {kvs : List (κ × α)} {p : Addr} {o : HO} (h : (cDictG ky R).rel B kvs o) (hp : H p = some o) : DqX ky R B H kvs (.ref p) := ⟨dqGC h hp, let ⟨_, _, _, l⟩ := h; l⟩
def rDictD : List V → Hp → VK → Prop := fun xs H Q => ∃ (a : Addr) (kvs : List (Key × V)), xs = [.ref a] ∧ Rd H a (.dK kvs) ∧ ∀ p, H p = none → Q (.ref p) (upd H p (.dK kvs))
theorem c_dictD {X : Cx} : CallR X (.type "dict") rDictD := call_dictD
theorem q_dictO {κ : Type} {ky : κ → Key} {kvs : List (κ × α)} (Z : Sit Φ B H cs) (h : DqX ky R B H kvs v) (k : ∀ p o H', Sit Φ B H' ((p, o) :: cs) → Φ.H p = none → (cDictG ky R).rel B kvs o → Q (.ref p) H') : rDictD [v] H Q := by
  obtain ⟨⟨p, ws, rfl, h, f⟩, l⟩ := h
  exact ⟨p, ws, rfl, .inl h, fun q n => k _ _ _ (Z.own n) (Z.fresh n) ⟨ws, rfl, f, l⟩⟩
def rListD2 : List V → Hp → VK → Prop := fun xs H Q => ∃ (a : Addr) (kvs : List (Key × V)), xs = [.ref a] ∧ Rd H a (.dK kvs) ∧ ∀ p, H p = none → Q (.ref p) (upd H p (.lst (kvs.map fun kv => kV kv.1)))
theorem c_listD {X : Cx} (hc : X.calm = true) : CallR X (.type "list") rListD2 := call_listD hc
theorem faG_keysS {kvs : List (Str × α)} {ws : List (Key × V)} (h : FaG Sum.inr R B kvs ws) : Fa (dStr.rel B) (kvs.map Prod.fst) (ws.map fun kv => kV kv.1) := by
  induction h with
  | nil => exact .nil
  | @cons a b as bs' r t ih => exact .cons (congrArg kV r.1) ih
theorem faG_keysI {kvs : List (Int × α)} {ws : List (Key × V)} (h : FaG Sum.inl R B kvs ws) : Fa (dInt.rel B) (kvs.map Prod.fst) (ws.map fun kv => kV kv.1) := by
  induction h with
  | nil => exact .nil
  | @cons a b as bs' r t ih => exact .cons (congrArg kV r.1) ih
theorem q_keysS {kvs : List (Str × α)} (Z : Sit Φ B H cs) (h : DqX Sum.inr R B H kvs v) (k : ∀ v B' H', Sit Φ B' H' cs → Same B B' → (dList dStr).rel B' (kvs.map Prod.fst) v → Q v H') : rListD2 [v] H Q := by
  obtain ⟨⟨p, ws, rfl, h, f⟩, l⟩ := h
  exact ⟨p, ws, rfl, .inl h, nwL Z (faG_keysS f) (by simpa using l) k⟩
theorem q_keysSO {kvs : List (Str × α)} (Z : Sit Φ B H cs) (h : DqX Sum.inr R B H kvs v) (k : ∀ p o H', Sit Φ B H' ((p, o) :: cs) → Φ.H p = none → (cList dStr).rel B (kvs.map Prod.fst) o → Q (.ref p) H') : rListD2 [v] H Q := by
  obtain ⟨⟨p, ws, rfl, h, f⟩, l⟩ := h
  exact ⟨p, ws, rfl, .inl h, nwO Z (faG_keysS f) (by simpa using l) k⟩
theorem q_keysI (Z : Sit Φ B H cs) (h : DqX Sum.inl R B H kvs v) (k : ∀ v B' H', Sit Φ B' H' cs → Same B B' → (dList dInt).rel B' (kvs.map Prod.fst) v → Q v H') : rListD2 [v] H Q := by
  obtain ⟨⟨p, ws, rfl, h, f⟩, l⟩ := h
  exact ⟨p, ws, rfl, .inl h, nwL Z (faG_keysI f) (by simpa using l) k⟩
theorem w_get2 {κ : Type} [DecidableEq κ] {ky : κ → Key} {tx : TE} {kvs : List (κ × α)} {k : κ} {y : α} {z : V} (inj : ∀ a b, ky a = ky b → a = b) (hd : Ev td σ H v) (h : DqX ky R B H kvs v) (hy : Ev ty σ H (kV (ky k))) (hx : Ev tx σ H z) (hz : R.rel B y z) (g : ∀ w, R.rel B ((gGet kvs k).getD y) w → Q w H) : tDGet2 td ty tx σ H Q := by
  refine hd _ ?_
  obtain ⟨a, e, o, hg, q⟩ := q_get2 (k := k) inj h.1 hz g
  obtain ⟨⟨p, ws, e2, h2, _⟩, _⟩ := h
  subst e2
  cases e
  exact ⟨_, rfl, .inl ⟨ws, .inl h2⟩, hy _ (hx _ ⟨o, hg, q⟩)⟩
/-! own objects that change -/
theorem putF_hit {f : Str} {v y : V} {r : List (Str × V)} : putF f v ((f, y) :: r) = (f, v) :: r := by
  unfold putF
  simp
theorem frzO {α : Type} {F : Fl α} {C dx p : Addr} {x : α} {fs : List (Str × V)} (h : F.rel B x fs) (n : B p = none) : (dObj C F).rel (upd B p (.ins C dx fs)) x (.ref p) := ⟨p, dx, fs, rfl, upd_same, F.mono (Same.new n) h⟩
theorem mkObjO {α : Type} {F : Fl α} {C : Addr} {E : XK} {r : α} {vs : List V} {pre : Hp → List V → Prop} {post : Hp → List (Str × V) → Prop} (Z : Sit Φ B H cs) (hpre : ∀ B', Same B B' → pre B' vs) (hpost : ∀ B' fs, post B' fs → F.rel B' r fs) (k : ∀ p dx fs B' H', Sit Φ B' H' ((p, .ins C dx fs) :: cs) → Same B B' → Φ.H p = none → F.rel B' r fs → Q (.ref p) H') : MkB C (SpI C pre post) E Q vs H := by
  intro x dx nx ndx ne
  have Z1 := Z.put (o := .own x) ndx
  have nx1 : upd H dx (.own x) x = none := by rw [upd_ne (Ne.symm ne)]; exact nx
  have Z2 := Z1.own (o := .ins C dx []) nx1
  refine ⟨_, x, dx, vs, rfl, Z2.sub, upd_same, Z2.atB (i := 0) rfl, hpre _ (Z.updB ndx), fun B' H' fs Z' q => ⟨rfl, ?_⟩⟩
  have Z3 : Sit Φ B' H' ((x, .ins C dx fs) :: cs) := Z2.call1 (i := 0) rfl Z'
  exact k _ _ _ _ _ Z3 ((Z.updB ndx).tr Z'.grow) (Z1.fresh nx1) (hpost _ _ q)
/-! list(range(..)), a dict with one key -/
theorem faI {is : List Int} {B : Hp} : Fa (dInt.rel B) is (is.map V.int) := by
  induction is with
  | nil => exact .nil
  | cons i is ih => exact .cons rfl ih
theorem rng_of {i : Int} {is : List Int} (h : rngM i = some is) : (-(2 ^ 62) ≤ i ∧ i < 2 ^ 62) ∧ i ≤ BIG ∧ is = (List.range i.toNat).map fun k => ((k : Nat) : Int) := by
  unfold rngM at h
  split at h
  · cases h
    rename_i c
    exact ⟨by unfold BIG at c; omega, by omega, rfl⟩
  · cases h
theorem rgV_eq {a b : Int} : rgV a b = ((List.range (b - a).toNat).map fun k => a + ((k : Nat) : Int)).map V.int := by unfold rgV; rw [List.map_map]; rfl
theorem w_lrg1 {ta : TE} {i : Int} {is : List Int} (ha : Ev ta σ H (.int i)) (hm : rngM i = some is) (Z : Sit Φ B H cs) (k : ∀ v B' H', Sit Φ B' H' cs → Same B B' → (dList dInt).rel B' is v → Q v H') : tLstRg (tRg1 ta) σ H Q := by
  obtain ⟨⟨h1, h2⟩, h3, rfl⟩ := rng_of hm
  refine ha _ ⟨i, rfl, ⟨by omega, by omega, by omega, by omega, by unfold BIG at h3; omega⟩, ?_⟩
  rw [rgV_eq]
  have e : ((List.range (i - 0).toNat).map fun k => (0 : Int) + ((k : Nat) : Int)) = (List.range i.toNat).map fun k => ((k : Nat) : Int) := by simp
  rw [e]
  exact nwL Z faI (by simp; omega) k
theorem w_lrg1O {ta : TE} {i : Int} {is : List Int} (ha : Ev ta σ H (.int i)) (hm : rngM i = some is) (Z : Sit Φ B H cs) (k : ∀ p o H', Sit Φ B H' ((p, o) :: cs) → Φ.H p = none → (cList dInt).rel B is o → Q (.ref p) H') : tLstRg (tRg1 ta) σ H Q := by
  obtain ⟨⟨h1, h2⟩, h3, rfl⟩ := rng_of hm
  refine ha _ ⟨i, rfl, ⟨by omega, by omega, by omega, by omega, by unfold BIG at h3; omega⟩, ?_⟩
  rw [rgV_eq]
  have e : ((List.range (i - 0).toNat).map fun k => (0 : Int) + ((k : Nat) : Int)) = (List.range i.toNat).map fun k => ((k : Nat) : Int) := by simp
  rw [e]
  exact nwO Z faI (by simp; omega) k
theorem q_disp1 {kx : Str} {y : α} {w : V} {tk tv : TE} (hk : ∀ H, Ev tk σ H (.str kx)) (hv : ∀ H, Ev tv σ H w) (Z : Sit Φ B H cs) (hy : R.rel B y w) (k : ∀ p o H', Sit Φ B H' ((p, o) :: cs) → Φ.H p = none → (cDict R).rel B [(kx, y)] o → Q (.ref p) H') : tDisp [(tk, tv)] σ H Q := by
  intro p n
  refine hk _ _ (hv _ _ ⟨upd_same, [(Sum.inr kx, w)], rfl, by show 1 ≤ 15; decide, ?_⟩)
  have Z1 := Z.own (o := .dK []) n
  have Z2 := Z1.set (i := 0) (o' := .dK [(Sum.inr kx, w)]) rfl
  exact k p _ _ Z2 (Z.fresh n) ⟨_, rfl, .cons ⟨rfl, hy⟩ .nil, by show 1 ≤ BIG; decide⟩
theorem rv_mulI {i j : Int} (h : CMul i j) : RV (rI CMul fun i j => .int (i * j)) (.int i) (.int j) H (.int (i * j)) := rv_I h
theorem rv_powI {i j : Int} (h : CPow i j) : RV (rI CPow fun i j => .int (i ^ j.toNat)) (.int i) (.int j) H (.int (i ^ j.toNat)) := rv_I h
end
end Mf

namespace Mf
open PySem L2 PyProof.Rows
/-! ### distinct things, numbered by first occurrence -/
theorem nd_le {α : Type} [DecidableEq α] : ∀ {l m : List α}, l.Nodup → (∀ z ∈ l, z ∈ m) → l.length ≤ m.length
  | [], _, _, _ => Nat.zero_le _
  | x :: l, m, nd, h => by
    rw [List.nodup_cons] at nd
    have hx := h x List.mem_cons_self
    have := nd_le (l := l) (m := m.erase x) nd.2 (fun z hz => by
      have := h z (List.mem_cons_of_mem _ hz)
      exact (List.mem_erase_of_ne (fun (e : z = x) => nd.1 (e ▸ hz))).mpr this)
    rw [List.length_erase_of_mem hx] at this
    have := List.length_pos_of_mem hx
    rw [List.length_cons]
    omega
theorem nd_of_len {α : Type} [DecidableEq α] : ∀ {m l : List α}, l.Nodup → (∀ z ∈ l, z ∈ m) → m.length ≤ l.length → m.Nodup
  | [], _, _, _, _ => List.nodup_nil
  | y :: m, l, nd, h, hl => by
    rw [List.length_cons] at hl
    have no : ¬ (∀ z ∈ l, z ∈ m) := fun k => by have := nd_le nd k; omega
    rw [List.nodup_cons]
    refine ⟨fun hy => no fun z hz => ?_, ?_⟩
    · rcases List.mem_cons.mp (h z hz) with e | e
      · exact e ▸ hy
      · exact e
    · by_cases hy : y ∈ l
      · refine nd_of_len (l := l.erase y) (nd.erase y) (fun z hz => ?_) (by rw [List.length_erase_of_mem hy]; omega)
        have hz2 := (List.Nodup.mem_erase_iff nd).mp hz
        rcases List.mem_cons.mp (h z hz2.2) with e | e
        · exact absurd e hz2.1
        · exact e
      · exact absurd (fun z hz => by
          rcases List.mem_cons.mp (h z hz) with e | e
          · exact absurd (e ▸ hz) hy
          · exact e) no
section
variable {α β : Type} [DecidableEq α] [DecidableEq β]
def push1 (acc : List α) (x : α) : List α := if x ∈ acc then acc else acc ++ [x]
def dis (xs : List α) : List α := xs.foldl push1 []
theorem push1_mem {acc : List α} {x z : α} : z ∈ push1 acc x ↔ z ∈ acc ∨ z = x := by
  unfold push1
  by_cases h : x ∈ acc
  · rw [if_pos h]; exact ⟨.inl, fun e => e.elim id fun e => e ▸ h⟩
  · rw [if_neg h]; simp
theorem push1_nd {acc : List α} {x : α} (nd : acc.Nodup) : (push1 acc x).Nodup := by
  unfold push1
  by_cases h : x ∈ acc
  · rw [if_pos h]; exact nd
  · rw [if_neg h, List.nodup_append]
    exact ⟨nd, by simp, fun a ha b hb e => h (by rw [← List.mem_singleton.mp hb, ← e]; exact ha)⟩
theorem disF_mem : ∀ {xs acc : List α} {z : α}, z ∈ xs.foldl push1 acc ↔ z ∈ acc ∨ z ∈ xs
  | [], acc, z => by simp
  | x :: xs, acc, z => by rw [List.foldl_cons, disF_mem, push1_mem, List.mem_cons, or_assoc]
theorem disF_nd : ∀ {xs acc : List α}, acc.Nodup → (xs.foldl push1 acc).Nodup
  | [], acc, h => h
  | x :: xs, acc, h => by rw [List.foldl_cons]; exact disF_nd (push1_nd h)
theorem mem_dis {xs : List α} {z : α} : z ∈ dis xs ↔ z ∈ xs := by unfold dis; rw [disF_mem]; simp
theorem dis_nd (xs : List α) : (dis xs).Nodup := disF_nd List.nodup_nil
theorem dis_len (xs : List α) : (dis xs).length ≤ xs.length := nd_le (dis_nd xs) fun z hz => mem_dis.mp hz
theorem disF_map {φ : α → β} : ∀ {xs acc : List α}, (∀ a ∈ acc ++ xs, ∀ b ∈ acc ++ xs, φ a = φ b → a = b) → (xs.map φ).foldl push1 (acc.map φ) = (xs.foldl push1 acc).map φ
  | [], acc, _ => rfl
  | x :: xs, acc, h => by
    rw [List.map_cons, List.foldl_cons, List.foldl_cons]
    have e : push1 (acc.map φ) (φ x) = (push1 acc x).map φ := by
      unfold push1
      by_cases c : x ∈ acc
      · rw [if_pos c, if_pos (List.mem_map.mpr ⟨x, c, rfl⟩)]
      · rw [if_neg c, if_neg, List.map_append, List.map_singleton]
        intro z
        obtain ⟨a, ha, e⟩ := List.mem_map.mp z
        have := h a (List.mem_append_left _ ha) x (List.mem_append_right _ List.mem_cons_self) e
        exact c (this ▸ ha)
    rw [e]
    refine disF_map fun a ha b hb e => ?_
    have hs : ∀ z, z ∈ push1 acc x ++ xs → z ∈ acc ++ x :: xs := fun z hz => by
      rcases List.mem_append.mp hz with q | q
      · rcases push1_mem.mp q with q | q
        · exact List.mem_append_left _ q
        · rw [q]; exact List.mem_append_right _ List.mem_cons_self
      · exact List.mem_append_right _ (List.mem_cons_of_mem _ q)
    exact h a (hs a ha) b (hs b hb) e
theorem dis_map {φ : α → β} {xs : List α} (h : ∀ a ∈ xs, ∀ b ∈ xs, φ a = φ b → a = b) : dis (xs.map φ) = (dis xs).map φ := disF_map (acc := []) (by simpa using h)
theorem idx_map {φ : α → β} : ∀ {xs : List α} {x : α}, (∀ a ∈ xs, φ a = φ x → a = x) → (xs.map φ).idxOf (φ x) = xs.idxOf x
  | [], x, _ => rfl
  | y :: xs, x, h => by
    rw [List.map_cons, List.idxOf_cons, List.idxOf_cons]
    by_cases e : y = x
    · subst e; simp
    · have e' : φ y ≠ φ x := fun z => e (h y List.mem_cons_self z)
      have h1 : (y == x) = false := by simpa using e
      have h2 : (φ y == φ x) = false := by simpa using e'
      rw [h1, h2, cond_false, cond_false, idx_map fun a ha => h a (List.mem_cons_of_mem _ ha)]
def pos (xs : List α) (x : α) : Nat := xs.idxOf x
theorem pos_lt {xs : List α} {x : α} (h : x ∈ xs) : pos xs x < xs.length := List.idxOf_lt_length_of_mem h
theorem pos_map {φ : α → β} {xs : List α} {x : α} (h : ∀ a ∈ xs, φ a = φ x → a = x) : pos (xs.map φ) (φ x) = pos xs x := idx_map h
def num (xs : List α) : List Nat := xs.map fun x => pos (dis xs) x
theorem num_len (xs : List α) : (num xs).length = xs.length := by unfold num; simp
theorem num_inj {φ : α → β} {xs : List α} (h : ∀ a ∈ xs, ∀ b ∈ xs, φ a = φ b → a = b) : num (xs.map φ) = num xs := by
  unfold num
  rw [dis_map h, List.map_map]
  refine List.map_congr_left fun x hx => ?_
  exact pos_map fun a ha e => h a (mem_dis.mp ha) x hx e
theorem get_idx {xs : List α} {x : α} (h : x ∈ xs) : xs[pos xs x]? = some x := by
  unfold pos
  have hl := List.idxOf_lt_length_of_mem h
  rw [List.getElem?_eq_getElem hl, List.getElem_idxOf]
theorem num_fac (F : α → β) (xs : List α) : ∃ g : Nat → Nat, num (xs.map F) = (num xs).map g := by
  refine ⟨fun n => match (dis xs)[n]? with | some y => pos (dis (xs.map F)) (F y) | none => 0, ?_⟩
  unfold num
  rw [List.map_map, List.map_map]
  refine List.map_congr_left fun x hx => ?_
  simp only [Function.comp]
  rw [get_idx (mem_dis.mpr hx)]
theorem num_eq {xs : List α} {a b : α} (ha : a ∈ xs) (hb : b ∈ xs) (h : pos (dis xs) a = pos (dis xs) b) : a = b := by
  have h1 := get_idx (mem_dis.mpr ha)
  have h2 := get_idx (mem_dis.mpr hb)
  rw [h, h2] at h1
  cases h1
  rfl
def cnt (xs : List α) : Nat := (dis xs).length
theorem cnt_le (xs : List α) : cnt xs ≤ xs.length := dis_len xs
theorem cnt_map (F : α → β) (xs : List α) : cnt (xs.map F) ≤ cnt xs := by
  unfold cnt
  have := nd_le (l := dis (xs.map F)) (m := (dis xs).map F) (dis_nd _) (fun z hz => by
    obtain ⟨x, hx, rfl⟩ := List.mem_map.mp (mem_dis.mp hz)
    exact List.mem_map.mpr ⟨x, mem_dis.mpr hx, rfl⟩)
  simpa using this
theorem nd_map_inj {F : α → β} : ∀ {l : List α}, (l.map F).Nodup → ∀ a ∈ l, ∀ b ∈ l, F a = F b → a = b
  | [], _, a, ha, _, _, _ => by cases ha
  | x :: l, nd, a, ha, b, hb, e => by
    rw [List.map_cons, List.nodup_cons] at nd
    rcases List.mem_cons.mp ha with ea | ha <;> rcases List.mem_cons.mp hb with eb | hb
    · rw [ea, eb]
    · exact absurd (List.mem_map.mpr ⟨b, hb, by rw [← e, ea]⟩) nd.1
    · exact absurd (List.mem_map.mpr ⟨a, ha, by rw [e, eb]⟩) nd.1
    · exact nd_map_inj nd.2 a ha b hb e
theorem cnt_inj {F : α → β} {xs : List α} (h : cnt (xs.map F) = cnt xs) : ∀ a ∈ xs, ∀ b ∈ xs, F a = F b → a = b := by
  have nd : ((dis xs).map F).Nodup := nd_of_len (l := dis (xs.map F)) (dis_nd _) (fun z hz => by
    obtain ⟨x, hx, rfl⟩ := List.mem_map.mp (mem_dis.mp hz)
    exact List.mem_map.mpr ⟨x, mem_dis.mpr hx, rfl⟩) (by unfold cnt at h; simp; omega)
  exact fun a ha b hb e => nd_map_inj nd a (mem_dis.mpr ha) b (mem_dis.mpr hb) e
theorem num_small {xs : List α} (h : cnt xs ≤ 1) : num xs = List.replicate xs.length 0 := by
  unfold num
  rw [List.eq_replicate_iff]
  refine ⟨by simp, fun n hn => ?_⟩
  obtain ⟨x, hx, rfl⟩ := List.mem_map.mp hn
  have := pos_lt (mem_dis.mpr hx)
  unfold cnt at h
  omega
end
/-! ### items, rows -/
inductive Item
  | gap
  | word (s : Str)
  | num (i : Int)
  | node (k : Nat)
  deriving DecidableEq
abbrev Row : Type := List Item
abbrev Tbl : Type := List Row
def Item.ren (f : Nat → Nat) : Item → Item
  | .node k => .node (f k)
  | x => x
def cls (c : List Nat) (k : Nat) : Nat := c.getD k 0
def shape (c : List Nat) (r : Row) : Row := r.map (Item.ren (cls c))
def keysC (t : Tbl) (c : List Nat) : Tbl := t.map (shape c)
def stepC (t : Tbl) (c : List Nat) : List Nat := num (keysC t c)
def seqC (t : Tbl) : Nat → List Nat
  | 0 => List.replicate t.length 0
  | k + 1 => stepC t (seqC t k)
def Tok (t : Tbl) : Prop := ∀ r ∈ t, ∀ k, Item.node k ∈ r → k < t.length
def C (t : Tbl) : List Nat := seqC t t.length
theorem seqC_len (t : Tbl) : ∀ k, (seqC t k).length = t.length
  | 0 => by unfold seqC; simp
  | k + 1 => by unfold seqC stepC keysC; rw [num_len]; simp
theorem cls_map {c : List Nat} {f : Nat → Nat} {k : Nat} (h : k < c.length) : cls (c.map f) k = f (cls c k) := by
  unfold cls
  simp [List.getD, List.getElem?_map, h]
theorem shape_map {t : Tbl} (hok : Tok t) {c : List Nat} (hc : c.length = t.length) (f : Nat → Nat) : keysC t (c.map f) = (keysC t c).map (fun r => r.map (Item.ren f)) := by
  unfold keysC
  rw [List.map_map]
  refine List.map_congr_left fun r hr => ?_
  simp only [Function.comp]
  unfold shape
  rw [List.map_map]
  refine List.map_congr_left fun x hx => ?_
  cases x with
  | node k => simp only [Function.comp, Item.ren]; rw [cls_map (by rw [hc]; exact hok r hr k hx)]
  | _ => rfl
theorem seq_fac {t : Tbl} (hok : Tok t) : ∀ k, ∃ f, seqC t k = (seqC t (k + 1)).map f
  | 0 => ⟨fun _ => 0, by
    show List.replicate t.length 0 = _
    symm
    rw [List.eq_replicate_iff]
    refine ⟨by rw [List.length_map, seqC_len], fun n hn => ?_⟩
    obtain ⟨_, _, rfl⟩ := List.mem_map.mp hn
    rfl⟩
  | k + 1 => by
    obtain ⟨f, hf⟩ := seq_fac hok k
    have e : keysC t (seqC t k) = (keysC t (seqC t (k + 1))).map (fun r => r.map (Item.ren f)) := by
      rw [hf]; exact shape_map hok (seqC_len t _) f
    obtain ⟨g, hg⟩ := num_fac (fun r : Row => r.map (Item.ren f)) (keysC t (seqC t (k + 1)))
    exact ⟨g, by show num (keysC t (seqC t k)) = _; rw [e, hg]; rfl⟩
def cntC (t : Tbl) (k : Nat) : Nat := cnt (keysC t (seqC t k))
theorem cntC_le {t : Tbl} (hok : Tok t) (k : Nat) : cntC t k ≤ cntC t (k + 1) := by
  obtain ⟨f, hf⟩ := seq_fac hok k
  unfold cntC
  rw [show keysC t (seqC t k) = (keysC t (seqC t (k + 1))).map (fun r => r.map (Item.ren f)) by rw [hf]; exact shape_map hok (seqC_len t _) f]
  exact cnt_map _ _
theorem cntC_eq {t : Tbl} (hok : Tok t) {k : Nat} (h : cntC t k = cntC t (k + 1)) : seqC t (k + 1) = seqC t (k + 2) := by
  obtain ⟨f, hf⟩ := seq_fac hok k
  have e : keysC t (seqC t k) = (keysC t (seqC t (k + 1))).map (fun r => r.map (Item.ren f)) := by rw [hf]; exact shape_map hok (seqC_len t _) f
  show num (keysC t (seqC t k)) = num (keysC t (seqC t (k + 1)))
  unfold cntC at h
  rw [e] at h
  rw [e]
  exact num_inj (cnt_inj h)
theorem cntC_top (t : Tbl) (k : Nat) : cntC t k ≤ t.length := by
  have := cnt_le (keysC t (seqC t k))
  unfold keysC at this
  rw [List.length_map] at this
  exact this
theorem seq_stay {t : Tbl} {k : Nat} (h : seqC t (k + 1) = seqC t k) : ∀ j, seqC t (k + j) = seqC t k
  | 0 => rfl
  | j + 1 => by
    show stepC t (seqC t (k + j)) = _
    rw [seq_stay h j]
    exact h
theorem seq_two {t : Tbl} {k j : Nat} (hk : seqC t (k + 1) = seqC t k) (hj : seqC t (j + 1) = seqC t j) : seqC t k = seqC t j := by
  rcases Nat.le_total k j with h | h
  · have := seq_stay hk (j - k)
    rw [show k + (j - k) = j by omega] at this
    exact this.symm
  · have := seq_stay hj (k - j)
    rw [show j + (k - j) = k by omega] at this
    exact this
theorem seq_grow {t : Tbl} (hok : Tok t) {n : Nat} (h : ∀ k, k ≤ n → seqC t (k + 1) ≠ seqC t k) : ∀ k, k ≤ n → k + 2 ≤ cntC t k
  | 0, h0 => by
    refine Nat.le_of_not_lt fun hl => h 0 h0 ?_
    show num (keysC t (seqC t 0)) = List.replicate t.length 0
    rw [num_small (by unfold cntC at hl; omega)]
    unfold keysC
    rw [List.length_map]
  | k + 1, hk => by
    have ih := seq_grow hok h k (by omega)
    have h1 := cntC_le hok k
    have h2 : cntC t k ≠ cntC t (k + 1) := fun e => h (k + 1) hk (cntC_eq hok e).symm
    omega
theorem seq_end {t : Tbl} (hok : Tok t) (h0 : 0 < t.length) : ∃ k, k < t.length ∧ seqC t (k + 1) = seqC t k := by
  refine Classical.byContradiction fun no => ?_
  have h := seq_grow (n := t.length - 1) hok (fun k hk e => no ⟨k, by omega, e⟩) (t.length - 1) (Nat.le_refl _)
  have := cntC_top t (t.length - 1)
  omega
theorem C_fix {t : Tbl} (hok : Tok t) (h0 : 0 < t.length) : stepC t (C t) = C t := by
  obtain ⟨k, hk, e⟩ := seq_end hok h0
  have h1 := seq_stay e (t.length - k)
  have h2 := seq_stay e (t.length - k + 1)
  rw [show k + (t.length - k) = t.length by omega] at h1
  rw [show k + (t.length - k + 1) = t.length + 1 by omega] at h2
  show seqC t (t.length + 1) = seqC t t.length
  rw [h1, h2]
theorem C_of {t : Tbl} (hok : Tok t) (h0 : 0 < t.length) {k : Nat} (e : seqC t (k + 1) = seqC t k) : seqC t k = C t := seq_two e (C_fix hok h0)
theorem C_len (t : Tbl) : (C t).length = t.length := seqC_len t _
/-! ### the rows of point 9 -/
def addN (c : List Nat) (o : List Nat) (k : Nat) : List Nat := if cls c k ∈ o.map (cls c) then o else o ++ [k]
def cItem (c : List Nat) (o : List Nat) : Item → Item × List Nat
  | .node k => (.node (pos ((addN c o k).map (cls c)) (cls c k)), addN c o k)
  | x => (x, o)
def cRow (c : List Nat) : List Nat → Row → Row × List Nat
  | o, [] => ([], o)
  | o, x :: r => ((cItem c o x).1 :: (cRow c (cItem c o x).2 r).1, (cRow c (cItem c o x).2 r).2)
def cGo (t : Tbl) (c : List Nat) : Nat → Tbl → List Nat → Tbl
  | 0, acc, _ => acc
  | n + 1, acc, o => if acc.length < o.length then cGo t c n (acc ++ [(cRow c o (t.getD (o.getD acc.length 0) [])).1]) (cRow c o (t.getD (o.getD acc.length 0) [])).2 else acc
def canonAt (t : Tbl) (s : Nat) : Tbl := cGo t (C t) (t.length + 1) [] [s]
abbrev canon (t : Tbl) : Tbl := canonAt t 0
/-- the order of a walk: below n, of unlike classes -/
structure Ord (c : List Nat) (n : Nat) (o : List Nat) : Prop where
  nd : (o.map (cls c)).Nodup
  lt : ∀ k ∈ o, k < n
theorem Ord.len {c : List Nat} {n : Nat} {o : List Nat} (h : Ord c n o) : o.length ≤ n := by
  have nd : o.Nodup := by
    have := h.nd
    clear h
    induction o with
    | nil => exact List.nodup_nil
    | cons x o ih =>
      rw [List.map_cons, List.nodup_cons] at this
      rw [List.nodup_cons]
      exact ⟨fun m => this.1 (List.mem_map.mpr ⟨x, m, rfl⟩), ih this.2⟩
  have := nd_le (m := List.range n) nd (fun z hz => List.mem_range.mpr (h.lt z hz))
  simpa using this
theorem Ord.add {c : List Nat} {n : Nat} {o : List Nat} {k : Nat} (h : Ord c n o) (hk : k < n) : Ord c n (addN c o k) := by
  unfold addN
  by_cases e : cls c k ∈ o.map (cls c)
  · rw [if_pos e]; exact h
  · rw [if_neg e]
    refine ⟨?_, fun z hz => ?_⟩
    · rw [List.map_append, List.nodup_append]
      exact ⟨h.nd, by simp, fun a ha b hb q => e (by
        have hb := List.mem_singleton.mp hb
        rw [← hb, ← q]; exact ha)⟩
    · rcases List.mem_append.mp hz with q | q
      · exact h.lt z q
      · rw [List.mem_singleton.mp q]; exact hk
theorem addN_mem {c o : List Nat} {k : Nat} : cls c k ∈ (addN c o k).map (cls c) := by
  unfold addN
  by_cases e : cls c k ∈ o.map (cls c)
  · rw [if_pos e]; exact e
  · rw [if_neg e]; simp
theorem addN_le {c o : List Nat} {k : Nat} : o.length ≤ (addN c o k).length := by
  unfold addN; split <;> simp
theorem cRow_ord {c : List Nat} {n : Nat} : ∀ {r : Row} {o : List Nat}, Ord c n o → (∀ k, Item.node k ∈ r → k < n) → Ord c n (cRow c o r).2 ∧ o.length ≤ (cRow c o r).2.length
  | [], o, h, _ => ⟨h, Nat.le_refl _⟩
  | x :: r, o, h, hr => by
    unfold cRow
    have hx : Ord c n (cItem c o x).2 ∧ o.length ≤ (cItem c o x).2.length := by
      cases x with
      | node k => exact ⟨h.add (hr k List.mem_cons_self), addN_le⟩
      | _ => exact ⟨h, Nat.le_refl _⟩
    have := cRow_ord (r := r) hx.1 fun k hk => hr k (List.mem_cons_of_mem _ hk)
    exact ⟨this.1, Nat.le_trans hx.2 this.2⟩
theorem cRow_len {c : List Nat} : ∀ {r : Row} {o : List Nat}, (cRow c o r).1.length = r.length
  | [], o => rfl
  | x :: r, o => by unfold cRow; simp [cRow_len (r := r)]
end Mf

namespace Mf
open PySem L2 PyProof.Rows
def Item.d : Item → List PyData
  | .gap => [.str (Str.ofString "gap")]
  | .word s => [.str (Str.ofString "word"), .str s]
  | .num i => [.str (Str.ofString "number"), .int i]
  | .node k => [.str (Str.ofString "node"), .int (k : Int)]
def Item.isNode : Item → Bool
  | .node _ => true
  | _ => false
def rD (r : Row) : List (List PyData) := r.map Item.d
def tD (t : Tbl) : List (List (List PyData)) := t.map rD
def nI (c : List Nat) : List Int := c.map fun (n : Nat) => ((n : Nat) : Int)
def iD : List PyData → PyData := fun xs => PyData.tuple (xs.map id)
structure GoodI (n : Nat) (x : Item) : Prop where
  node : ∀ k, x = .node k → k < n
  word : ∀ s, x = .word s → IsName s
  num : ∀ i, x = .num i → -(1000000000000000000000000000000000000000000000000000000000000 : Int) < i ∧ i < 1000000000000000000000000000000000000000000000000000000000000
structure GoodT (t : Tbl) : Prop where
  pos : 0 < t.length
  few : t.length ≤ 40
  short : ∀ r ∈ t, r.length ≤ 12
  item : ∀ r ∈ t, ∀ x ∈ r, GoodI t.length x
theorem GoodT.tok {t : Tbl} (h : GoodT t) : Tok t := fun r hr k hk => (h.item r hr _ hk).node k rfl
theorem eqS {a b : Str} (ha : PyData.strOk a = true) (hb : PyData.strOk b = true) : eqD (.str a) (.str b) = some (decide (a = b)) := by
  rw [eqD_of (n := 0) (m := 0) (Ly.str ha) (Ly.str hb) (by decide) (by decide)]
  exact congrArg some (eqv_dec rfl rfl ⟨fun h => by injection h, fun h => by rw [h]⟩)
theorem kok1 : PyData.strOk (Str.ofString "gap") = true := by decide +kernel
theorem kok2 : PyData.strOk (Str.ofString "word") = true := by decide +kernel
theorem kok3 : PyData.strOk (Str.ofString "number") = true := by decide +kernel
theorem kok4 : PyData.strOk (Str.ofString "node") = true := by decide +kernel
theorem it_node {β : Type} (x : Item) (f : Bool → Option β) : ((atI x.d (0 : Int)).bind fun y => (eqD y (PyData.str (Str.ofString "node"))).bind f) = f x.isNode := by
  cases x with
  | gap => show (eqD (.str _) _).bind f = _; rw [eqS kok1 kok4]; rfl
  | word s => show (eqD (.str _) _).bind f = _; rw [eqS kok2 kok4]; rfl
  | num s => show (eqD (.str _) _).bind f = _; rw [eqS kok3 kok4]; rfl
  | node s => show (eqD (.str _) _).bind f = _; rw [eqS kok4 kok4]; rfl
theorem it_ix {β : Type} (k : Nat) (f : Int → Option β) : ((atI (Item.node k).d (1 : Int)).bind fun y => (asI y).bind f) = f (k : Int) := rfl
theorem node_d (k : Nat) : ([(PyData.str (Str.ofString "node")), (PyData.int (k : Int))] : List PyData) = (Item.node k).d := rfl
theorem atI_nI {β : Type} {c : List Nat} {k : Nat} (h : k < c.length) (f : Int → Option β) : (atI (nI c) (k : Int)).bind f = f (cls c k : Int) := by
  unfold atI ixN nI cls
  rw [if_pos (by omega), if_pos (by rw [List.length_map]; omega)]
  simp [h, List.getD]
theorem atI_get {α β : Type} {xs : List α} {k : Nat} {x : α} (h : xs[k]? = some x) (f : α → Option β) : (atI xs (k : Int)).bind f = f x := by
  have hl := (List.getElem?_eq_some_iff.mp h).1
  unfold atI ixN
  rw [if_pos (by omega), if_pos (by omega)]
  simp [h]
theorem lcM_on {α β γ : Type} {f : β → Option (Option γ)} {e : α → β} : ∀ {xs : List α}, lcM f (xs.map e) = lcM (fun x => f (e x)) xs
  | [] => rfl
  | x :: xs => by rw [List.map_cons]; unfold lcM; rw [lcM_on]
theorem rD_len (r : Row) : (rD r).length = r.length := by unfold rD; simp
theorem tD_len (t : Tbl) : (tD t).length = t.length := by unfold tD; simp
theorem nI_len (t : List Nat) : (nI t).length = t.length := by unfold nI; simp
theorem tD_get {t : Tbl} {k : Nat} {r : Row} (h : t[k]? = some r) : (tD t)[k]? = some (rD r) := by unfold tD; rw [List.getElem?_map, h]; rfl
theorem item_ly {x : Item} {n : Nat} (h : GoodI n x) : Ly 1 (iD x.d) := by
  cases x with
  | gap => exact Ly.t1 (Ly.str kok1)
  | word s => exact Ly.t2 (Ly.str kok2) (Ly.str (h.word s rfl).ok)
  | num i => exact Ly.t2 (Ly.str kok3) Ly.int
  | node i => exact Ly.t2 (Ly.str kok4) Ly.int
theorem GoodI.ren {x : Item} {n m : Nat} {f : Nat → Nat} (h : GoodI n x) (hf : ∀ k, f k < m) : GoodI m (x.ren f) := by
  cases x with
  | node k => exact ⟨fun j e => (by cases e; exact hf k), fun s e => (by cases e), fun s e => (by cases e)⟩
  | gap => exact ⟨fun j e => (by cases e), h.word, h.num⟩
  | word s => exact ⟨fun j e => (by cases e), h.word, h.num⟩
  | num s => exact ⟨fun j e => (by cases e), h.word, h.num⟩
theorem kne : Str.ofString "gap" ≠ Str.ofString "word" ∧ Str.ofString "gap" ≠ Str.ofString "number" ∧ Str.ofString "gap" ≠ Str.ofString "node" ∧ Str.ofString "word" ≠ Str.ofString "number" ∧ Str.ofString "word" ≠ Str.ofString "node" ∧ Str.ofString "number" ≠ Str.ofString "node" := by decide +kernel
theorem d_inj {x y : Item} (h : x.d = y.d) : x = y := by
  have k := kne
  cases x <;> cases y <;> simp only [Item.d, List.cons.injEq, PyData.str.injEq, PyData.int.injEq, and_true, reduceCtorEq, and_false] at h
  all_goals first | rfl | (rw [h.2]; done) | exact absurd h.1 k.2.2.2.1 | exact absurd h.1 k.2.2.2.2.1 | exact absurd h.1.symm k.2.2.2.1 | exact absurd h.1.symm k.2.2.2.2.1 | exact absurd h.1 k.2.2.2.2.2 | exact absurd h.1.symm k.2.2.2.2.2 | (congr 1; have := h.2; omega)
theorem item_inj {x y : Item} : iD x.d = iD y.d ↔ x = y := by
  constructor
  · intro h
    unfold iD at h
    rw [PyData.tuple.injEq, List.map_id, List.map_id] at h
    exact d_inj h
  · rintro rfl; rfl
theorem item_nb (x : Item) : nb (iD x.d) = true := by cases x <;> rfl
theorem nbAll_map {α : Type} {f : α → PyData} (h : ∀ x, nb (f x) = true) : ∀ xs : List α, nb.nbAll (xs.map f) = true
  | [] => rfl
  | x :: xs => by rw [List.map_cons]; show (nb (f x) && nb.nbAll (xs.map f)) = true; rw [h x, nbAll_map h xs]; rfl
theorem map_inj' {α β : Type} {f : α → β} (h : ∀ a b, f a = f b ↔ a = b) : ∀ {xs ys : List α}, xs.map f = ys.map f ↔ xs = ys
  | [], [] => by simp
  | [], _ :: _ => by simp
  | _ :: _, [] => by simp
  | x :: xs, y :: ys => by rw [List.map_cons, List.map_cons, List.cons.injEq, List.cons.injEq, h, map_inj' h]
/-- a row as a tuple, as a list; a table -/
def rowT : List (List PyData) → PyData := fun xs => PyData.tuple (xs.map (fun xs => PyData.tuple (xs.map id)))
def rowL : List (List PyData) → PyData := fun xs => PyData.list (xs.map (fun xs => PyData.tuple (xs.map id)))
def tblL : List (List (List PyData)) → PyData := fun xs => PyData.list (xs.map (fun xs => PyData.list (xs.map (fun xs => PyData.tuple (xs.map id)))))
theorem rowT_eq (r : Row) : rowT (rD r) = .tuple (r.map fun x => iD x.d) := by unfold rowT rD iD; rw [List.map_map]; rfl
theorem rowL_eq (r : Row) : rowL (rD r) = .list (r.map fun x => iD x.d) := by unfold rowL rD iD; rw [List.map_map]; rfl
theorem tblL_eq (t : Tbl) : tblL (tD t) = .list (t.map fun r => rowL (rD r)) := by unfold tblL tD rowL; rw [List.map_map]; rfl
theorem rowT_ly {r : Row} {n : Nat} (h : ∀ x ∈ r, GoodI n x) : Ly 2 (rowT (rD r)) := by rw [rowT_eq]; exact Ly.mapT fun x hx => item_ly (h x hx)
theorem rowL_ly {r : Row} {n : Nat} (h : ∀ x ∈ r, GoodI n x) : Ly 2 (rowL (rD r)) := by rw [rowL_eq]; exact Ly.mapL fun x hx => item_ly (h x hx)
theorem tblL_ly {t : Tbl} {n : Nat} (h : ∀ r ∈ t, ∀ x ∈ r, GoodI n x) : Ly 3 (tblL (tD t)) := by rw [tblL_eq]; exact Ly.mapL fun r hr => rowL_ly (h r hr)
theorem rowT_nb (r : Row) : nb (rowT (rD r)) = true := by rw [rowT_eq]; exact nbAll_map (fun x => item_nb x) r
theorem rowL_nb (r : Row) : nb (rowL (rD r)) = true := by rw [rowL_eq]; exact nbAll_map (fun x => item_nb x) r
theorem ints_nb (xs : List Int) : nb (.list (xs.map PyData.int)) = true := nbAll_map (f := PyData.int) (fun _ => rfl) xs
theorem tblL_nb (t : Tbl) : nb (tblL (tD t)) = true := by rw [tblL_eq]; exact nbAll_map (fun x => rowL_nb x) t
theorem rowT_inj {a b : Row} : rowT (rD a) = rowT (rD b) ↔ a = b := by rw [rowT_eq, rowT_eq, PyData.tuple.injEq]; exact map_inj' fun x y => item_inj
theorem rowL_inj {a b : Row} : rowL (rD a) = rowL (rD b) ↔ a = b := by rw [rowL_eq, rowL_eq, PyData.list.injEq]; exact map_inj' fun x y => item_inj
theorem tblL_inj {a b : Tbl} : tblL (tD a) = tblL (tD b) ↔ a = b := by rw [tblL_eq, tblL_eq, PyData.list.injEq]; exact map_inj' fun x y => rowL_inj
theorem tbl_eqD {a b : Tbl} {n m : Nat} (ha : ∀ r ∈ a, ∀ x ∈ r, GoodI n x) (hb : ∀ r ∈ b, ∀ x ∈ r, GoodI m x) : eqD (tblL (tD a)) (tblL (tD b)) = some (decide (a = b)) := by
  rw [eqD_of (tblL_ly ha) (tblL_ly hb) (by decide) (by decide)]
  congr 1
  exact eqv_dec (tblL_nb a) (tblL_nb b) tblL_inj
/-! distinct things in a loop -/
theorem fIx_mem {α : Type} [DecidableEq α] {x : α} : ∀ {xs : List α}, x ∈ xs → fIx (fun a => decide (a = x)) xs = some ((pos xs x : Nat) : Int)
  | [], h => by cases h
  | y :: xs, h => by
    unfold fIx pos
    rw [List.findIdx?_cons, List.idxOf_cons]
    by_cases e : y = x
    · subst e; simp
    · have hx : x ∈ xs := by rcases List.mem_cons.mp h with z | z; exact absurd z.symm e; exact z
      have ih := fIx_mem hx
      unfold fIx pos at ih
      have h1 : (y == x) = false := by simpa using e
      simp only [e, decide_false, Bool.false_eq_true, if_false, h1, cond_false]
      cases q : xs.findIdx? (fun a => decide (a = x)) with
      | none => rw [q] at ih; cases ih
      | some j =>
        rw [q] at ih
        simp only [Option.map_some, Option.some.injEq] at ih ⊢
        omega
theorem fIx_on {α β : Type} {p : β → Bool} {e : α → β} (xs : List α) : fIx p (xs.map e) = fIx (fun x => p (e x)) xs := by
  unfold fIx
  rw [List.findIdx?_map]
  rfl
theorem dis_loop {α β : Type} [DecidableEq α] {e : α → β} {F : β → PyData} {n : Nat} {xs : List α} (inj : ∀ a b, F (e a) = F (e b) ↔ a = b) (hnb : ∀ a, nb (F (e a)) = true) (ly : ∀ a ∈ xs, Ly n (F (e a))) (hn : n + 1 ≤ 64) (hl : xs.length < 1000000) :
    forL (fun (a : β) (st : List β) => (inD (F a) (st.map F)).bind fun b => if (!b) = true then (pushM st a).bind fun x => some x else some st) (xs.map e) [] = some ((dis xs).map e) := by
  have hmem : ∀ i z, z ∈ (xs.take i).foldl push1 [] → z ∈ xs := fun i z hz => by
    rw [disF_mem] at hz
    rcases hz with hz | hz
    · cases hz
    · exact List.mem_of_mem_take hz
  refine Wp.eq ?_
  refine (wp_forL (fun i (st : List β) => st = ((xs.take i).foldl push1 []).map e) rfl ?_).mono ?_
  · rintro i b st hb rfl
    rw [List.getElem?_map] at hb
    cases q : xs[i]? with
    | none => rw [q] at hb; cases hb
    | some a =>
      rw [q] at hb
      cases hb
      have ha := List.mem_of_getElem? q
      have hi := (List.getElem?_eq_some_iff.mp q).1
      have e1 : inD (F (e a)) ((((xs.take i).foldl push1 []).map e).map F) = some (decide (a ∈ (xs.take i).foldl push1 [])) := by
        unfold inD
        rw [if_pos ⟨(ly a ha).shaped (by omega), (Ly.mapL (f := fun x => F x) fun y hy => by
          obtain ⟨z, hz, rfl⟩ := List.mem_map.mp hy
          exact ly z (hmem i z hz)).shaped hn⟩]
        congr 1
        rw [List.map_map, List.any_map, Bool.eq_iff_iff, List.any_eq_true, decide_eq_true_iff]
        constructor
        · rintro ⟨z, hz, h⟩
          have := (eqv_nb _ _ (hnb z) (hnb a)).mp h
          rw [inj] at this
          exact this ▸ hz
        · intro h
          exact ⟨a, h, (eqv_nb _ _ (hnb a) (hnb a)).mpr rfl⟩
      refine Wp.go e1 ?_
      rw [take_next q, List.foldl_append]
      show Wp _ (fun st => st = (push1 ((xs.take i).foldl push1 []) a).map e)
      have hlen : ((xs.take i).foldl push1 []).length < 1000000 := by
        have := dis_len (xs.take i)
        unfold dis at this
        rw [List.length_take] at this
        omega
      by_cases c : a ∈ (xs.take i).foldl push1 []
      · rw [show push1 ((xs.take i).foldl push1 []) a = (xs.take i).foldl push1 [] from if_pos c]
        exact Wp.no (by simp [c]) (Wp.some rfl)
      · rw [show push1 ((xs.take i).foldl push1 []) a = (xs.take i).foldl push1 [] ++ [a] from if_neg c]
        refine Wp.yes (by simp [c]) (Wp.go (pushM_eq (by rw [List.length_map]; exact hlen)) (Wp.some ?_))
        rw [List.map_append, List.map_singleton]
  · rintro st rfl
    rw [List.length_map, List.take_length]
    rfl
theorem ixD_dis {α β : Type} [DecidableEq α] {e : α → β} {F : β → PyData} {n : Nat} {xs : List α} {x : α} (inj : ∀ a b, F (e a) = F (e b) ↔ a = b) (hnb : ∀ a, nb (F (e a)) = true) (ly : ∀ a ∈ xs, Ly n (F (e a))) (hn : n + 1 ≤ 64) (hx : x ∈ xs) :
    ixD (F (e x)) (((dis xs).map e).map F) = some ((pos (dis xs) x : Nat) : Int) := by
  unfold ixD
  rw [if_pos ⟨(Ly.mapL (f := fun x => F x) fun y hy => by
    obtain ⟨z, hz, rfl⟩ := List.mem_map.mp hy
    exact ly z (mem_dis.mp hz)).shaped hn, (ly x hx).shaped (by omega)⟩, List.map_map, fIx_on]
  rw [← fIx_mem (mem_dis.mpr hx)]
  congr 1
  funext a
  exact eqv_dec (hnb a) (hnb x) (inj a x)
theorem mem_nI {l : List Nat} {k : Nat} : ((k : Nat) : Int) ∈ nI l ↔ k ∈ l := by
  unfold nI
  rw [List.mem_map]
  exact ⟨fun ⟨a, ha, e⟩ => (by have : a = k := by omega
                               exact this ▸ ha), fun h => ⟨k, h, rfl⟩⟩
theorem ixOf_nI {l : List Nat} {k : Nat} (h : k ∈ l) : ixOf ((k : Nat) : Int) (nI l) = some ((pos l k : Nat) : Int) := by
  unfold ixOf nI
  rw [fIx_on, ← fIx_mem h]
  congr 1
  funext a
  exact decide_eq_decide.mpr (by omega)
theorem nI_push (l : List Nat) (k : Nat) : nI (l ++ [k]) = nI l ++ [(k : Int)] := by unfold nI; simp
theorem rD_push (l : Row) (x : Item) : rD (l ++ [x]) = rD l ++ [x.d] := by unfold rD; simp
theorem tD_push (l : Tbl) (x : Row) : tD (l ++ [x]) = tD l ++ [rD x] := by unfold tD; simp
theorem nI_get {l : List Nat} {i k : Nat} (h : l[i]? = some k) : (nI l)[i]? = some (k : Int) := by unfold nI; rw [List.getElem?_map, h]; rfl
theorem cRow_snoc {c : List Nat} {x : Item} : ∀ {r : Row} {o : List Nat}, cRow c o (r ++ [x]) = ((cRow c o r).1 ++ [(cItem c (cRow c o r).2 x).1], (cItem c (cRow c o r).2 x).2)
  | [], o => rfl
  | y :: r, o => by
    rw [List.cons_append]
    show ((cItem c o y).1 :: (cRow c (cItem c o y).2 (r ++ [x])).1, (cRow c (cItem c o y).2 (r ++ [x])).2) = _
    rw [cRow_snoc]
    rfl
theorem chars_letters' (x : Str) : ((chars x).map (fun a => decide (a ∈ chars (Str.ofString "abcdefghijklmnopqrstuvwxyz")))).all id = decide (∀ c ∈ x.cps.toList, 97 ≤ c ∧ c ≤ 122) := by
  have e : ∀ c : Nat, decide ((⟨#[c]⟩ : Str) ∈ chars (Str.ofString "abcdefghijklmnopqrstuvwxyz")) = decide (97 ≤ c ∧ c ≤ 122) := fun c => by
    rw [← letters_mem]
    refine decide_eq_decide.mpr ⟨fun z => ?_, fun z => List.mem_map.mpr ⟨c, z, rfl⟩⟩
    obtain ⟨m, hm, e⟩ := List.mem_map.mp z
    injection e with e
    have : m = c := by simpa using e
    exact this ▸ hm
  rw [Bool.eq_iff_iff, decide_eq_true_iff, List.all_map, List.all_eq_true]
  unfold chars
  constructor
  · intro h c hc
    have := h _ (List.mem_map.mpr ⟨c, hc, rfl⟩)
    simp only [Function.comp, id] at this
    have e2 := e c
    unfold chars at e2
    rw [e2] at this
    exact of_decide_eq_true this
  · intro h a ha
    obtain ⟨c, hc, rfl⟩ := List.mem_map.mp ha
    have e2 := e c
    unfold chars at e2
    simp only [Function.comp, id]
    rw [e2]
    exact decide_eq_true (h c hc)
/-! numbers written -/
theorem dig_len : ∀ (n m : Nat), m < 10 ^ (n + 1) → (Nat.toDigits 10 m).length ≤ n + 1
  | 0, m, h => by rw [Nat.toDigits_of_lt_base (by omega)]; simp
  | n + 1, m, h => by
    by_cases hs : m < 10
    · rw [Nat.toDigits_of_lt_base hs]; simp
    · have hm : m % 10 < 10 := Nat.mod_lt m (by decide)
      have t : Nat.toDigits 10 (m / 10) ++ Nat.toDigits 10 (m % 10) = Nat.toDigits 10 (10 * (m / 10) + m % 10) := Nat.toDigits_append_toDigits (by decide) (by omega) hm
      rw [Nat.div_add_mod] at t
      have ih := dig_len n (m / 10) (by rw [Nat.pow_succ] at h; exact Nat.div_lt_of_lt_mul (by rw [Nat.mul_comm]; exact h))
      rw [← t, List.length_append, Nat.toDigits_of_lt_base hm]
      simp only [List.length_cons, List.length_nil]
      omega
theorem ofS_length (s : String) : (Str.ofString s).length = s.toList.length := by rw [len_list, signs_ofString, List.length_map]
theorem natT_len {m : Nat} (h : m < 10 ^ 60) : (Str.ofString (toString ((m : Nat) : Int))).length ≤ 60 := by
  rw [ofS_length]
  show (Nat.repr m).toList.length ≤ 60
  rw [Nat.toList_repr]
  exact dig_len 59 m h
theorem intT_len {i : Int} (h : i.natAbs < 10 ^ 60) : (Str.ofString (toString i)).length ≤ 61 := by
  cases i with
  | ofNat m => have := natT_len (m := m) h; exact Nat.le_trans this (by decide)
  | negSucc m =>
    rw [ofS_length]
    show ("-" ++ Nat.repr (m + 1)).toList.length ≤ 61
    rw [String.toList_append, List.length_append, Nat.toList_repr]
    have := dig_len 59 (m + 1) h
    show 1 + _ ≤ _
    omega
theorem strI_eq {i : Int} (h : i.natAbs < 10 ^ 60) : strI i = some (Str.ofString (toString i)) := by
  have hl : i.natAbs.log2 < 1920 := by
    by_cases z : i.natAbs = 0
    · rw [z]; decide
    · exact (Nat.log2_lt z).mpr (Nat.lt_trans h (by decide +kernel))
  unfold strI
  exact if_pos hl
def itemTxt : Item → Str
  | .gap => Str.ofString "-"
  | .word s => s
  | .num i => Str.ofString (toString i)
  | .node k => Str.ofString "@" ++ Str.ofString (toString ((k : Nat) : Int))
theorem itemTxt_len {n : Nat} {x : Item} (h : GoodI n x) (hn : n ≤ 1000) : (itemTxt x).length ≤ 62 := by
  cases x with
  | gap => exact Nat.le_trans (Nat.le_of_eq (by decide +kernel : (Str.ofString "-").length = 1)) (by decide)
  | word s => have := (h.word s rfl).2.1; show s.length ≤ 62; omega
  | num i =>
    have := h.num i rfl
    exact Nat.le_trans (intT_len (by omega)) (by decide)
  | node k =>
    have := h.node k rfl
    show (Str.ofString "@" ++ _).length ≤ 62
    rw [Str.length_append, (by decide +kernel : (Str.ofString "@").length = 1)]
    have := natT_len (m := k) (Nat.lt_of_lt_of_le (show k < 1000 by omega) (by decide +kernel))
    omega
def rowTxt (i : Nat) (r : Row) : Str := Txt.join (Str.ofString "") ((Str.ofString (toString ((i : Nat) : Int)) ++ Str.ofString ":") :: r.map fun x => Str.ofString " " ++ itemTxt x)
def tblTxt (t : Tbl) : Str := Txt.join (Str.ofString "\n") ((List.range t.length).zipWith (fun i r => rowTxt i r) t)
theorem enum_at {α : Type} {k : Int} {xs : List α} {i : Nat} {a : Int × α} (h : (enumM k xs)[i]? = some a) : xs[i]? = some a.2 ∧ a.1 = k + i := by
  unfold enumM at h
  rw [List.getElem?_zipWith] at h
  cases e : xs[i]? with
  | none => rw [e] at h; cases e2 : (List.range xs.length)[i]? <;> rw [e2] at h <;> cases h
  | some x =>
    have hi := (List.getElem?_eq_some_iff.mp e).1
    rw [e, List.getElem?_range hi] at h
    cases h
    exact ⟨rfl, rfl⟩
end Mf

namespace Mf
open PySem L2 PyProof.Rows
/-! ### tables that lead into one another -/
theorem cls_get {c : List Nat} {i k : Nat} (h : c[i]? = some k) : cls c i = k := by unfold cls; simp [List.getD, h]
theorem cls_num {α : Type} [DecidableEq α] {ks : List α} {i : Nat} {x : α} (h : ks[i]? = some x) : cls (num ks) i = pos (dis ks) x := by
  refine cls_get ?_
  unfold num
  rw [List.getElem?_map, h]
  rfl
theorem cls_num_eq {α : Type} [DecidableEq α] {ks : List α} {i j : Nat} {x y : α} (hi : ks[i]? = some x) (hj : ks[j]? = some y) : cls (num ks) i = cls (num ks) j ↔ x = y := by
  rw [cls_num hi, cls_num hj]
  exact ⟨num_eq (List.mem_of_getElem? hi) (List.mem_of_getElem? hj), fun e => by rw [e]⟩
theorem C_ge {t : Tbl} (hok : Tok t) (h0 : 0 < t.length) {n : Nat} (h : t.length ≤ n) : seqC t n = C t := by
  have := seq_stay (C_fix hok h0) (n - t.length)
  rw [show t.length + (n - t.length) = n by omega] at this
  exact this
theorem keys_get {t : Tbl} {c : List Nat} {i : Nat} {r : Row} (h : t[i]? = some r) : (keysC t c)[i]? = some (shape c r) := by
  unfold keysC
  rw [List.getElem?_map, h]
  rfl
/-- equal classes: equal shapes -/
theorem C_eq {t : Tbl} (hok : Tok t) (h0 : 0 < t.length) {i j : Nat} {r r' : Row} (hi : t[i]? = some r) (hj : t[j]? = some r') : cls (C t) i = cls (C t) j ↔ shape (C t) r = shape (C t) r' := by
  have e : C t = num (keysC t (C t)) := (C_fix hok h0).symm
  have := cls_num_eq (keys_get (c := C t) hi) (keys_get (c := C t) hj)
  rw [← e] at this
  exact this
theorem row_iff {g h : Nat → Nat} : ∀ {r r' : Row}, (∀ a b, Item.node a ∈ r → Item.node b ∈ r' → (g a = g b ↔ h a = h b)) → (r.map (Item.ren g) = r'.map (Item.ren g) ↔ r.map (Item.ren h) = r'.map (Item.ren h))
  | [], [], _ => by simp
  | [], _ :: _, _ => by simp
  | _ :: _, [], _ => by simp
  | x :: r, y :: r', hh => by
    rw [List.map_cons, List.map_cons, List.map_cons, List.map_cons, List.cons.injEq, List.cons.injEq, row_iff fun a b ha hb => hh a b (List.mem_cons_of_mem _ ha) (List.mem_cons_of_mem _ hb)]
    refine and_congr ?_ Iff.rfl
    cases x <;> cases y <;> simp only [Item.ren, reduceCtorEq, Item.node.injEq, Item.word.injEq, Item.num.injEq]
    exact hh _ _ List.mem_cons_self List.mem_cons_self
structure Hom (t1 t2 : Tbl) (f : Nat → Nat) : Prop where
  ok1 : Tok t1
  ok2 : Tok t2
  p1 : 0 < t1.length
  lt : ∀ i, i < t1.length → f i < t2.length
  row : ∀ i r, t1[i]? = some r → t2[f i]? = some (r.map (Item.ren f))
theorem Hom.p2 {t1 t2 : Tbl} {f : Nat → Nat} (h : Hom t1 t2 f) : 0 < t2.length := Nat.lt_of_le_of_lt (Nat.zero_le _) (h.lt 0 h.p1)
theorem Hom.seq {t1 t2 : Tbl} {f : Nat → Nat} (h : Hom t1 t2 f) : ∀ (k i j : Nat), i < t1.length → j < t1.length → (cls (seqC t1 k) i = cls (seqC t1 k) j ↔ cls (seqC t2 k) (f i) = cls (seqC t2 k) (f j))
  | 0, i, j, hi, hj => by
    have z : ∀ (t : Tbl) (a : Nat), cls (seqC t 0) a = 0 := fun t a => by
      unfold cls seqC
      by_cases q : a < t.length <;> simp [List.getD, q, List.getElem?_replicate]
    rw [z, z, z, z]
  | k + 1, i, j, hi, hj => by
    obtain ⟨r, hr⟩ : ∃ r, t1[i]? = some r := ⟨t1[i], by simp [hi]⟩
    obtain ⟨r', hr'⟩ : ∃ r, t1[j]? = some r := ⟨t1[j], by simp [hj]⟩
    show cls (num (keysC t1 (seqC t1 k))) i = cls (num (keysC t1 (seqC t1 k))) j ↔ cls (num (keysC t2 (seqC t2 k))) (f i) = cls (num (keysC t2 (seqC t2 k))) (f j)
    rw [cls_num_eq (keys_get hr) (keys_get hr'), cls_num_eq (keys_get (h.row i r hr)) (keys_get (h.row j r' hr'))]
    unfold shape
    have e : ∀ r : Row, (r.map (Item.ren f)).map (Item.ren (cls (seqC t2 k))) = r.map (Item.ren fun a => cls (seqC t2 k) (f a)) := fun r => by
      rw [List.map_map]
      refine List.map_congr_left fun x _ => ?_
      cases x <;> rfl
    rw [e, e]
    exact row_iff fun a b ha hb => h.seq k a b (h.ok1 r (List.mem_of_getElem? hr) a ha) (h.ok1 r' (List.mem_of_getElem? hr') b hb)
theorem Hom.cls {t1 t2 : Tbl} {f : Nat → Nat} (h : Hom t1 t2 f) {i j : Nat} (hi : i < t1.length) (hj : j < t1.length) : Mf.cls (C t1) i = Mf.cls (C t1) j ↔ Mf.cls (C t2) (f i) = Mf.cls (C t2) (f j) := by
  have := h.seq (t1.length + t2.length) i j hi hj
  rw [C_ge h.ok1 h.p1 (by omega), C_ge h.ok2 h.p2 (by omega)] at this
  exact this
theorem pos_pat {g h : Nat → Nat} {k k' : Nat} : ∀ {o : List Nat}, (∀ a ∈ o, g a = k ↔ h a = k') → pos (o.map g) k = pos (o.map h) k'
  | [], _ => rfl
  | a :: o, hh => by
    have ih := pos_pat (o := o) fun b hb => hh b (List.mem_cons_of_mem _ hb)
    have ha := hh a List.mem_cons_self
    unfold pos at ih ⊢
    rw [List.map_cons, List.map_cons, List.idxOf_cons, List.idxOf_cons, ih]
    by_cases e : g a = k
    · have h1 : (g a == k) = true := by simpa using e
      have h2 : (h a == k') = true := by simpa using ha.mp e
      rw [h1, h2]
    · have h1 : (g a == k) = false := by simpa using e
      have h2 : (h a == k') = false := by simpa using fun z => e (ha.mpr z)
      rw [h1, h2]
theorem Hom.add {t1 t2 : Tbl} {f : Nat → Nat} (h : Hom t1 t2 f) {o : List Nat} {k : Nat} (ho : ∀ a ∈ o, a < t1.length) (hk : k < t1.length) : addN (C t2) (o.map f) (f k) = (addN (C t1) o k).map f := by
  have e : Mf.cls (C t2) (f k) ∈ (o.map f).map (Mf.cls (C t2)) ↔ Mf.cls (C t1) k ∈ o.map (Mf.cls (C t1)) := by
    rw [List.mem_map, List.mem_map]
    constructor
    · rintro ⟨b, hb, e⟩
      obtain ⟨a, ha, rfl⟩ := List.mem_map.mp hb
      exact ⟨a, ha, (h.cls (ho a ha) hk).mpr e⟩
    · rintro ⟨a, ha, e⟩
      exact ⟨f a, List.mem_map.mpr ⟨a, ha, rfl⟩, (h.cls (ho a ha) hk).mp e⟩
  unfold addN
  by_cases c : Mf.cls (C t1) k ∈ o.map (Mf.cls (C t1))
  · rw [if_pos c, if_pos (e.mpr c)]
  · rw [if_neg c, if_neg (fun z => c (e.mp z)), List.map_append, List.map_singleton]
theorem Hom.item {t1 t2 : Tbl} {f : Nat → Nat} (h : Hom t1 t2 f) {o : List Nat} {x : Item} (ho : ∀ a ∈ o, a < t1.length) (hx : ∀ k, x = .node k → k < t1.length) : cItem (C t2) (o.map f) (x.ren f) = ((cItem (C t1) o x).1, (cItem (C t1) o x).2.map f) := by
  cases x with
  | node k =>
    have hk := hx k rfl
    show (Item.node (pos ((addN (C t2) (o.map f) (f k)).map (Mf.cls (C t2))) (Mf.cls (C t2) (f k))), addN (C t2) (o.map f) (f k)) = _
    rw [h.add ho hk]
    have hm : ∀ a ∈ addN (C t1) o k, a < t1.length := fun a ha => by
      unfold addN at ha
      split at ha
      · exact ho a ha
      · rcases List.mem_append.mp ha with z | z
        · exact ho a z
        · rw [List.mem_singleton.mp z]; exact hk
    rw [List.map_map, pos_pat (g := Mf.cls (C t2) ∘ f) (h := Mf.cls (C t1)) (k' := Mf.cls (C t1) k) fun a ha => (h.cls (hm a ha) hk).symm]
    rfl
  | _ => rfl
theorem addN_lt {c : List Nat} {n : Nat} {o : List Nat} {k : Nat} (ho : ∀ a ∈ o, a < n) (hk : k < n) : ∀ a ∈ addN c o k, a < n := fun a ha => by
  unfold addN at ha
  split at ha
  · exact ho a ha
  · rcases List.mem_append.mp ha with z | z
    · exact ho a z
    · rw [List.mem_singleton.mp z]; exact hk
theorem cItem_lt {c : List Nat} {n : Nat} {o : List Nat} {x : Item} (ho : ∀ a ∈ o, a < n) (hx : ∀ k, x = .node k → k < n) : ∀ a ∈ (cItem c o x).2, a < n := by
  cases x with
  | node k => exact addN_lt ho (hx k rfl)
  | _ => exact ho
theorem Hom.rows {t1 t2 : Tbl} {f : Nat → Nat} (h : Hom t1 t2 f) : ∀ {r : Row} {o : List Nat}, (∀ a ∈ o, a < t1.length) → (∀ k, Item.node k ∈ r → k < t1.length) → cRow (C t2) (o.map f) (r.map (Item.ren f)) = ((cRow (C t1) o r).1, (cRow (C t1) o r).2.map f) ∧ ∀ a ∈ (cRow (C t1) o r).2, a < t1.length
  | [], o, ho, _ => ⟨rfl, ho⟩
  | x :: r, o, ho, hr => by
    have hx : ∀ k, x = .node k → k < t1.length := fun k e => hr k (by rw [← e]; exact List.mem_cons_self)
    have h1 := h.item ho hx
    have h2 := h.rows (r := r) (cItem_lt (c := C t1) ho hx) fun k hk => hr k (List.mem_cons_of_mem _ hk)
    refine ⟨?_, h2.2⟩
    rw [List.map_cons]
    show ((cItem (C t2) (o.map f) (x.ren f)).1 :: (cRow (C t2) (cItem (C t2) (o.map f) (x.ren f)).2 (r.map (Item.ren f))).1, (cRow (C t2) (cItem (C t2) (o.map f) (x.ren f)).2 (r.map (Item.ren f))).2) = _
    rw [h1]
    simp only
    rw [h2.1]
    rfl
theorem Hom.go {t1 t2 : Tbl} {f : Nat → Nat} (h : Hom t1 t2 f) : ∀ {n : Nat} {acc : Tbl} {o : List Nat}, (∀ a ∈ o, a < t1.length) → cGo t2 (C t2) n acc (o.map f) = cGo t1 (C t1) n acc o
  | 0, acc, o, _ => rfl
  | n + 1, acc, o, ho => by
    unfold cGo
    rw [List.length_map]
    by_cases q : acc.length < o.length
    · rw [if_pos q, if_pos q]
      obtain ⟨k, hk⟩ : ∃ k, o[acc.length]? = some k := ⟨o[acc.length], by simp [q]⟩
      have hkn := ho k (List.mem_of_getElem? hk)
      obtain ⟨r, hr⟩ : ∃ r, t1[k]? = some r := ⟨t1[k], by simp [hkn]⟩
      have hm := List.mem_of_getElem? hr
      rw [show o.getD acc.length 0 = k by simp [List.getD, hk], show t1.getD k [] = r by simp [List.getD, hr], show (o.map f).getD acc.length 0 = f k by simp [List.getD, hk], show t2.getD (f k) [] = r.map (Item.ren f) by simp [List.getD, h.row k r hr]]
      have := h.rows (r := r) ho fun j hj => h.ok1 r hm j hj
      rw [this.1]
      exact h.go this.2
    · rw [if_neg q, if_neg q]
theorem cGo_more {t : Tbl} {c : List Nat} (ht : Tok t) : ∀ {n m : Nat} {acc : Tbl} {o : List Nat}, Ord c t.length o → acc.length ≤ o.length → t.length + 1 ≤ n + acc.length → t.length + 1 ≤ m + acc.length → cGo t c n acc o = cGo t c m acc o
  | 0, m, acc, o, ho, hl, hn, hm => by have := ho.len; omega
  | n + 1, 0, acc, o, ho, hl, hn, hm => by have := ho.len; omega
  | n + 1, m + 1, acc, o, ho, hl, hn, hm => by
    unfold cGo
    by_cases q : acc.length < o.length
    · rw [if_pos q, if_pos q]
      obtain ⟨k, hk⟩ : ∃ k, o[acc.length]? = some k := ⟨o[acc.length], by simp [q]⟩
      have hkn := ho.lt k (List.mem_of_getElem? hk)
      obtain ⟨r, hr⟩ : ∃ r, t[k]? = some r := ⟨t[k], by simp [hkn]⟩
      rw [show o.getD acc.length 0 = k by simp [List.getD, hk], show t.getD k [] = r by simp [List.getD, hr]]
      obtain ⟨ho1, hle⟩ := cRow_ord (r := r) ho fun j hj => ht r (List.mem_of_getElem? hr) j hj
      exact cGo_more ht ho1 (by simp; omega) (by simp; omega) (by simp; omega)
    · rw [if_neg q, if_neg q]
theorem Ord.one {c : List Nat} {n s : Nat} (h : s < n) : Ord c n [s] := ⟨by simp, fun k hk => by rw [List.mem_singleton.mp hk]; exact h⟩
theorem canon_hom {t1 t2 : Tbl} {f : Nat → Nat} (h : Hom t1 t2 f) {s : Nat} (hs : s < t1.length) : canonAt t1 s = canonAt t2 (f s) := by
  have h1 : canonAt t1 s = cGo t1 (C t1) (t1.length + t2.length + 1) [] [s] := cGo_more h.ok1 (Ord.one hs) (by simp) (by simp) (by simp)
  have h2 : canonAt t2 (f s) = cGo t2 (C t2) (t1.length + t2.length + 1) [] [f s] := cGo_more h.ok2 (Ord.one (h.lt s hs)) (by simp) (by simp) (by simp)
  rw [h1, h2]
  exact (h.go (o := [s]) fun a ha => by rw [List.mem_singleton.mp ha]; exact hs).symm
/-! a table that is its own table of point 9 -/
def okR : Nat → Row → Prop
  | _, [] => True
  | m, .node k :: r => k ≤ m ∧ okR (max m (k + 1)) r
  | m, _ :: r => okR m r
def adv : Nat → Row → Nat
  | m, [] => m
  | m, .node k :: r => adv (max m (k + 1)) r
  | m, _ :: r => adv m r
theorem adv_ge : ∀ {r : Row} {m : Nat}, m ≤ adv m r
  | [], m => Nat.le_refl _
  | .node k :: r, m => Nat.le_trans (Nat.le_max_left m (k + 1)) (adv_ge (r := r))
  | .gap :: r, m => adv_ge (r := r)
  | .word _ :: r, m => adv_ge (r := r)
  | .num _ :: r, m => adv_ge (r := r)
theorem pos_range {c : List Nat} {n : Nat} (inj : ∀ i j, i < n → j < n → cls c i = cls c j → i = j) {m k : Nat} (hm : m ≤ n) (hk : k < m) : pos ((List.range m).map (cls c)) (cls c k) = k := by
  rw [pos_map fun a ha e => inj a k (by have := List.mem_range.mp ha; omega) (by omega) e]
  have h1 := get_idx (xs := List.range m) (x := k) (List.mem_range.mpr hk)
  have h2 := pos_lt (xs := List.range m) (x := k) (List.mem_range.mpr hk)
  rw [List.length_range] at h2
  rw [List.getElem?_range h2] at h1
  injection h1
theorem add_range {c : List Nat} {n : Nat} (inj : ∀ i j, i < n → j < n → cls c i = cls c j → i = j) {m k : Nat} (hm : m ≤ n) (hk : k ≤ m) (hkn : k < n) : addN c (List.range m) k = List.range (max m (k + 1)) := by
  unfold addN
  by_cases e : k < m
  · rw [if_pos (List.mem_map.mpr ⟨k, List.mem_range.mpr e, rfl⟩), Nat.max_eq_left (by omega)]
  · have : k = m := by omega
    subst this
    rw [if_neg, Nat.max_eq_right (by omega), List.range_succ]
    intro z
    obtain ⟨a, ha, q⟩ := List.mem_map.mp z
    have ha := List.mem_range.mp ha
    have := inj a k (by omega) hkn q
    omega
theorem cRow_range {c : List Nat} {n : Nat} (inj : ∀ i j, i < n → j < n → cls c i = cls c j → i = j) : ∀ {r : Row} {m : Nat}, m ≤ n → okR m r → (∀ k, Item.node k ∈ r → k < n) → cRow c (List.range m) r = (r, List.range (adv m r)) ∧ adv m r ≤ n
  | [], m, hm, _, _ => ⟨rfl, hm⟩
  | .node k :: r, m, hm, ho, hr => by
    have hkn := hr k List.mem_cons_self
    have hk := ho.1
    have hmx : max m (k + 1) ≤ n := Nat.max_le.mpr ⟨hm, hkn⟩
    have ih := cRow_range inj (r := r) hmx ho.2 fun j hj => hr j (List.mem_cons_of_mem _ hj)
    refine ⟨?_, ih.2⟩
    show (Item.node (pos ((addN c (List.range m) k).map (cls c)) (cls c k)) :: (cRow c (addN c (List.range m) k) r).1, (cRow c (addN c (List.range m) k) r).2) = _
    rw [add_range inj hm hk hkn, pos_range inj hmx (by omega), ih.1]
    rfl
  | .gap :: r, m, hm, ho, hr => by
    have ih := cRow_range inj (r := r) hm ho fun j hj => hr j (List.mem_cons_of_mem _ hj)
    refine ⟨?_, ih.2⟩
    show (Item.gap :: (cRow c (List.range m) r).1, (cRow c (List.range m) r).2) = _
    rw [ih.1]; rfl
  | .word w :: r, m, hm, ho, hr => by
    have ih := cRow_range inj (r := r) hm ho fun j hj => hr j (List.mem_cons_of_mem _ hj)
    refine ⟨?_, ih.2⟩
    show (Item.word w :: (cRow c (List.range m) r).1, (cRow c (List.range m) r).2) = _
    rw [ih.1]; rfl
  | .num w :: r, m, hm, ho, hr => by
    have ih := cRow_range inj (r := r) hm ho fun j hj => hr j (List.mem_cons_of_mem _ hj)
    refine ⟨?_, ih.2⟩
    show (Item.num w :: (cRow c (List.range m) r).1, (cRow c (List.range m) r).2) = _
    rw [ih.1]; rfl
/-- rows in the order of first occurrence: i rows told, m known -/
def okT : Nat → Nat → Tbl → Prop
  | i, m, [] => i = m
  | i, m, r :: t => i < m ∧ okR m r ∧ okT (i + 1) (adv m r) t
theorem cGo_self {t : Tbl} (ht : Tok t) {c : List Nat} (inj : ∀ i j, i < t.length → j < t.length → cls c i = cls c j → i = j) : ∀ {n : Nat} {a b : Tbl} {m : Nat}, t = a ++ b → m ≤ t.length → okT a.length m b → t.length + 1 ≤ n + a.length → cGo t c n a (List.range m) = t
  | 0, a, b, m, e, hm, ho, hn => by
    have := congrArg List.length e
    rw [List.length_append] at this
    omega
  | n + 1, a, b, m, e, hm, ho, hn => by
    unfold cGo
    rw [List.length_range]
    cases b with
    | nil =>
      have ho : a.length = m := ho
      rw [if_neg (by omega), e, List.append_nil]
    | cons r b =>
      obtain ⟨h1, h2, h3⟩ := ho
      rw [if_pos h1]
      have hl : a.length < t.length := by rw [e]; simp
      have hr : t[a.length]? = some r := by rw [e]; simp
      rw [show (List.range m).getD a.length 0 = a.length by simp [List.getD, List.getElem?_range h1], show t.getD a.length [] = r by simp [List.getD, hr]]
      have := cRow_range inj (r := r) hm h2 fun k hk => ht r (List.mem_of_getElem? hr) k hk
      rw [this.1]
      refine cGo_self ht inj (b := b) (by rw [e]; simp) this.2 ?_ (by simp; omega)
      rw [List.length_append]
      exact h3
theorem canon_self {t : Tbl} (ht : Tok t) (h0 : 0 < t.length) (inj : ∀ i j, i < t.length → j < t.length → cls (C t) i = cls (C t) j → i = j) (ho : okT 0 1 t) : canon t = t := by
  show cGo t (C t) (t.length + 1) [] (List.range 1) = t
  exact cGo_self ht inj (a := []) (b := t) rfl h0 ho (by simp)
end Mf

namespace Mf
open PySem L2 PyProof.Rows
/-- the places that a body reads -/
def rds (ps : List Prc) (x : Str) : List Str := (bodyOf ps x).filterMap rdOf
theorem rds_form (b : List Stp) : (b.filterMap fun (a : Str × Str) => if (decide (a.1 = Str.ofString "read")) = true then some a.2 else none) = b.filterMap rdOf := by
  congr 1
  funext a
  unfold rdOf
  by_cases c : a.1 = Str.ofString "read"
  · rw [if_pos (decide_eq_true c), if_pos c]
  · rw [if_neg (by rw [decide_eq_false c]; decide), if_neg c]
theorem mem_rdOf {b : List Stp} {z : Str} : z ∈ b.filterMap rdOf ↔ (Str.ofString "read", z) ∈ b := by
  rw [List.mem_filterMap]
  constructor
  · rintro ⟨⟨k, y⟩, h, e⟩
    unfold rdOf at e
    by_cases c : k = ("read" : Str)
    · rw [if_pos c] at e
      cases e
      rw [← c]
      exact h
    · rw [if_neg c] at e; cases e
  · intro h
    exact ⟨_, h, by unfold rdOf; rw [if_pos]; rfl⟩
theorem rds_len {ps : List Prc} (hg : Good ps) {x : Str} (h : x ∈ nms ps) : (rds ps x).length ≤ 12 := Nat.le_trans (List.length_filterMap_le _ _) (hg.short _ (body_of hg h).2)
theorem rds_places {ps : List Prc} (hg : Good ps) {x z : Str} (h : x ∈ nms ps) (hz : z ∈ rds ps x) : z ∈ places ps := by
  unfold places
  rw [mem_nset]
  unfold reads
  exact List.mem_flatMap.mpr ⟨_, (body_of hg h).2, hz⟩
theorem places_few {ps : List Prc} (hg : Good ps) {xs : List Str} (h : ∀ x ∈ xs, x ∈ places ps) : (addAll xs).length < 64 := by
  have h1 := nodup_le (addAll_nodup xs) (fun z hz => h z (mem_addAll.mp hz))
  have h2 : (places ps).length = (addAll (reads ps)).length := by unfold places nset; rw [srt_len]
  have h3 := hg.plc
  omega
theorem places_oks {ps : List Prc} (hg : Good ps) : Oks (places ps) := fun x hx => by
  unfold places at hx
  rw [mem_nset] at hx
  obtain ⟨p, hp, s, hs, e⟩ := mem_reads.mp hx
  unfold rdOf at e
  by_cases c : s.1 = ("read" : Str)
  · rw [if_pos c] at e
    cases e
    exact (hg.step p hp s hs).2.1.ok
  · rw [if_neg c] at e; cases e
/-- runs that fail: by a broken reading of their own, or by a call -/
inductive Bad (ps : List Prc) (hurt safe : List Str) : Str → Prop
  | read {x z : Str} : x ∈ nms ps → x ∉ safe → (Str.ofString "read", z) ∈ bodyOf ps x → z ∈ hurt → Bad ps hurt safe x
  | call {x y : Str} : x ∈ nms ps → x ∉ safe → (Str.ofString "call", y) ∈ bodyOf ps x → Bad ps hurt safe y → Bad ps hurt safe x
section
variable {ps : List Prc} {hurt safe : List Str} {x : Str}
theorem Bad.out (h : Bad ps hurt safe x) : x ∈ nms ps ∧ x ∉ safe := by cases h <;> exact ⟨by assumption, by assumption⟩
theorem rch_out {ks st S : List Str} (h : Rch ps ks st S x) : x ∉ st := by
  cases h with
  | start _ h => exact h
  | step _ h => exact (mem_nexts.mp h).choose_spec.2.2
theorem bad_rch (h : Bad ps hurt safe x) : ∃ e z, Rch ps HARDK safe [x] e ∧ (Str.ofString "read", z) ∈ bodyOf ps e ∧ z ∈ hurt := by
  induction h with
  | read h1 h2 h3 h4 => exact ⟨_, _, .start (by simp) h2, h3, h4⟩
  | call h1 h2 h3 h4 ih =>
    obtain ⟨e, z, r, h5, h6⟩ := ih
    exact ⟨e, z, rch_trans (.step (.start (by simp) h2) (mem_nexts.mpr ⟨_, by unfold HARDK; simp, h3, h4.out.2⟩)) r, h5, h6⟩
theorem rch_bad (hg : Good ps) (hx : x ∈ nms ps) {e : Str} (r : Rch ps HARDK safe [x] e) (h : Bad ps hurt safe e) : Bad ps hurt safe x := by
  induction r with
  | start h1 h2 => rw [← List.mem_singleton.mp h1]; exact h
  | step r1 h1 ih =>
    obtain ⟨k, hk, hm, _⟩ := mem_nexts.mp h1
    unfold HARDK at hk
    rw [List.mem_singleton.mp hk] at hm
    exact ih (.call (rch_sub hg hardk_calls (fun y hy => by rw [List.mem_singleton.mp hy]; exact hx) r1) (rch_out r1) hm h)
theorem bad_iff (hg : Good ps) (hx : x ∈ nms ps) : Bad ps hurt safe x ↔ ∃ e z, Rch ps HARDK safe [x] e ∧ (Str.ofString "read", z) ∈ bodyOf ps e ∧ z ∈ hurt := by
  constructor
  · exact bad_rch
  · rintro ⟨e, z, r, h1, h2⟩
    exact rch_bad hg hx r (.read (rch_sub hg hardk_calls (fun y hy => by rw [List.mem_singleton.mp hy]; exact hx) r) (rch_out r) h1 h2)
def Fails (hurt bd : List Str) (b : List Stp) : Prop := (∃ z, (Str.ofString "read", z) ∈ b ∧ z ∈ hurt) ∨ ∃ y, (Str.ofString "call", y) ∈ b ∧ y ∈ bd
def Shut (ps : List Prc) (hurt safe bd : List Str) : Prop := ∀ p ∈ ps, p.1 ∉ safe → Fails hurt bd p.2 → p.1 ∈ bd
theorem shut_bad (hg : Good ps) {bd : List Str} (h : Shut ps hurt safe bd) (hb : Bad ps hurt safe x) : x ∈ bd := by
  induction hb with
  | read h1 h2 h3 h4 => exact h _ (body_of hg h1).2 h2 (.inl ⟨_, h3, h4⟩)
  | call h1 h2 h3 h4 ih => exact h _ (body_of hg h1).2 h2 (.inr ⟨_, h3, ih⟩)
structure BadI (ps : List Prc) (hurt safe bd : List Str) : Prop where
  nd : bd.Nodup
  sub : ∀ x ∈ bd, Bad ps hurt safe x
theorem BadI.len (h : BadI ps hurt safe x') : x'.length ≤ ps.length := by
  have := nodup_le h.nd (fun z hz => (h.sub z hz).out.1)
  unfold nms at this
  rw [List.length_map] at this
  exact this
theorem fm_pos (k : Str) (xs : List Str) (b : List Stp) : 0 < (b.filterMap fun (a : Str × Str) => if (decide (a.1 = k) && decide (a.2 ∈ xs)) = true then some a.2 else none).length ↔ ∃ z, (k, z) ∈ b ∧ z ∈ xs := by
  rw [List.length_pos_iff_exists_mem]
  simp only [List.mem_filterMap]
  constructor
  · rintro ⟨y, ⟨a, z⟩, h, e⟩
    by_cases c : (decide (a = k) && decide (z ∈ xs)) = true
    · rw [Bool.and_eq_true] at c
      rw [← of_decide_eq_true c.1]
      exact ⟨z, h, of_decide_eq_true c.2⟩
    · rw [if_neg c] at e; cases e
  · rintro ⟨z, h, hz⟩
    exact ⟨z, _, h, by simp [hz]⟩
theorem bad_turn (hg : Good ps) {bd : List Str} (hI : BadI ps hurt safe bd) : Wp (forL (fun (a54 : (Str × (List (Str × Str)))) (st55 : (List Str)) => (catM (a54.2.filterMap (fun (a89 : (Str × Str)) => if ((decide (a89.1 = (Str.ofString "read"))) && (decide (a89.2 ∈ hurt))) = true then (some a89.2) else none)) (a54.2.filterMap (fun (a129 : (Str × Str)) => if ((decide (a129.1 = (Str.ofString "call"))) && (decide (a129.2 ∈ st55))) = true then (some a129.2) else none))).bind fun x169 =>
  if ((!decide (a54.1 ∈ safe)) && ((!decide (a54.1 ∈ st55)) && (decide ((0 : Int) < (x169.length : Int))))) = true then (pushM st55 a54.1).bind fun x176 =>
  some x176 else some st55) ps bd) (fun bd' => BadI ps hurt safe bd' ∧ bd <+: bd' ∧ (∀ p ∈ ps, p.1 ∉ safe → Fails hurt bd p.2 → p.1 ∈ bd') ∧ (Shut ps hurt safe bd → bd' = bd)) := by
  refine (wp_forL (fun i (cur : List Str) => BadI ps hurt safe cur ∧ bd <+: cur ∧ (∀ j p, j < i → ps[j]? = some p → p.1 ∉ safe → Fails hurt bd p.2 → p.1 ∈ cur) ∧ (Shut ps hurt safe bd → cur = bd)) ⟨hI, List.prefix_refl _, fun j p hj => absurd hj (Nat.not_lt_zero _), fun _ => rfl⟩ ?_).mono ?_
  · rintro i ⟨x, b⟩ cur hp ⟨h1, h2, h3, h4⟩
    have hmem := List.mem_of_getElem? hp
    have hs := hg.short _ hmem
    simp only at hs
    have hl1 := List.length_filterMap_le (fun (a89 : (Str × Str)) => if ((decide (a89.1 = (Str.ofString "read"))) && (decide (a89.2 ∈ hurt))) = true then (some a89.2) else none) b
    have hl2 := List.length_filterMap_le (fun (a129 : (Str × Str)) => if ((decide (a129.1 = (Str.ofString "call"))) && (decide (a129.2 ∈ cur))) = true then (some a129.2) else none) b
    have hb : bodyOf ps x = b := by unfold bodyOf; rw [dGet_mem hg.nd hmem]; rfl
    have hxn : x ∈ nms ps := List.mem_map.mpr ⟨_, hmem, rfl⟩
    refine Wp.go (catM_eq (by simp only; omega)) ?_
    simp only
    have hpos : (0 : Int) < (((b.filterMap (fun (a89 : (Str × Str)) => if ((decide (a89.1 = (Str.ofString "read"))) && (decide (a89.2 ∈ hurt))) = true then (some a89.2) else none)) ++ (b.filterMap (fun (a129 : (Str × Str)) => if ((decide (a129.1 = (Str.ofString "call"))) && (decide (a129.2 ∈ cur))) = true then (some a129.2) else none))).length : Int) ↔ Fails hurt cur b := by
      unfold Fails
      rw [← fm_pos, ← fm_pos, List.length_append]
      omega
    have hkeep : ∀ j p, j < i + 1 → ps[j]? = some p → p.1 ∉ safe → Fails hurt bd p.2 → p.1 ∈ cur ∨ (p.1 = x ∧ x ∉ safe ∧ Fails hurt cur b) := by
      intro j p hj hpj hsf hf
      by_cases c : j < i
      · exact .inl (h3 j p c hpj hsf hf)
      · have : j = i := by omega
        subst this
        rw [hp] at hpj
        cases hpj
        refine .inr ⟨rfl, hsf, ?_⟩
        rcases hf with hf | ⟨y, hy, hyb⟩
        · exact .inl hf
        · exact .inr ⟨y, hy, h2.subset hyb⟩
    refine Wp.ite (fun hc => ?_) (fun hc => Wp.some ⟨h1, h2, fun j p hj hpj hsf hf => ?_, h4⟩)
    · rw [Bool.and_eq_true, Bool.and_eq_true, decide_eq_true_iff, hpos] at hc
      obtain ⟨c1, c2, c3⟩ := hc
      have c1 : x ∉ safe := by simpa using c1
      have c2 : x ∉ cur := by simpa using c2
      have hlen := h1.len
      have h16 := hg.few
      refine Wp.go (pushM_eq (by omega)) (Wp.some ⟨⟨?_, fun y hy => ?_⟩, h2.trans (List.prefix_append _ _), fun j p hj hpj hsf hf => ?_, fun hsh => ?_⟩)
      · exact List.nodup_append.mpr ⟨h1.nd, by simp, fun a ha b hb z => c2 (by rw [← List.mem_singleton.mp hb, ← z]; exact ha)⟩
      · rcases List.mem_append.mp hy with hy | hy
        · exact h1.sub y hy
        · rw [List.mem_singleton.mp hy]
          rcases c3 with ⟨z, h5, h6⟩ | ⟨z, h5, h6⟩
          · exact .read hxn c1 (by rw [hb]; exact h5) h6
          · exact .call hxn c1 (by rw [hb]; exact h5) (h1.sub z h6)
      · rcases hkeep j p hj hpj hsf hf with h | ⟨h, _⟩
        · exact List.mem_append_left _ h
        · rw [h]; simp
      · have e := h4 hsh
        subst e
        exact absurd (hsh _ hmem c1 c3) c2
    · rcases hkeep j p hj hpj hsf hf with h | ⟨h, h', hf'⟩
      · exact h
      · rw [h]
        by_cases c2 : x ∈ cur
        · exact c2
        · exfalso
          rw [Bool.and_eq_false_iff, Bool.and_eq_false_iff, decide_eq_false_iff_not, hpos] at hc
          rcases hc with hc | hc | hc
          · exact h' (by simpa using hc)
          · exact c2 (by simpa using hc)
          · exact hc hf'
  · rintro bd' ⟨h1, h2, h3, h4⟩
    refine ⟨h1, h2, fun p hp hs hf => ?_, h4⟩
    obtain ⟨j, hj⟩ := List.mem_iff_getElem?.mp hp
    exact h3 j p (List.getElem?_eq_some_iff.mp hj).1 hj hs hf
end
/-! ### data in lists, when the model's == is equality -/
theorem inD_of {α : Type} [DecidableEq α] {F : α → PyData} {n : Nat} {xs : List α} {x : α} (eqv : ∀ a b, PyData.eqv (F a) (F b) = decide (a = b)) (ly : ∀ a ∈ xs, Ly n (F a)) (lx : Ly n (F x)) (hn : n + 1 ≤ 64) : inD (F x) (xs.map F) = some (decide (x ∈ xs)) := by
  unfold inD
  rw [if_pos ⟨lx.shaped (by omega), (Ly.mapL ly).shaped hn⟩]
  refine congrArg some ?_
  rw [List.any_map, Bool.eq_iff_iff, List.any_eq_true, decide_eq_true_iff]
  constructor
  · rintro ⟨z, hz, h⟩
    have h : PyData.eqv (F z) (F x) = true := h
    rw [eqv] at h
    exact of_decide_eq_true h ▸ hz
  · intro h
    exact ⟨x, h, by show PyData.eqv (F x) (F x) = true; rw [eqv]; exact decide_eq_true rfl⟩
theorem ixD_of {α : Type} [DecidableEq α] {F : α → PyData} {n : Nat} {xs : List α} {x : α} (eqv : ∀ a b, PyData.eqv (F a) (F b) = decide (a = b)) (ly : ∀ a ∈ xs, Ly n (F a)) (hn : n + 1 ≤ 64) (hx : x ∈ xs) : ixD (F x) (xs.map F) = some ((pos xs x : Nat) : Int) := by
  unfold ixD
  rw [if_pos ⟨(Ly.mapL ly).shaped hn, (ly x hx).shaped (by omega)⟩, fIx_on, ← fIx_mem hx]
  congr 1
  funext a
  exact eqv a x
/-! ### the rows of a plain run -/
abbrev Own : Type := Str × Bool
def ownD (q : Own) : PyData := PyData.tuple [PyData.str q.1, PyData.bool q.2]
theorem own_eqv (a b : Own) : PyData.eqv (ownD a) (ownD b) = decide (a = b) := by
  obtain ⟨a, x⟩ := a
  obtain ⟨b, y⟩ := b
  rw [Bool.eq_iff_iff, decide_eq_true_iff, Prod.mk.injEq]
  simp [ownD, PyData.eqv, PyData.eqvAll]
def pIt (nu : Str → Int) (bad safe : List Str) (c : Bool) (o : List Own) (s : Stp) : Item × List Own :=
  if s.1 = Str.ofString "read" then (.num (nu s.2), o) else if s.1 = Str.ofString "say" then (.word s.2, o) else if s.2 ∈ bad ∧ c = false then (.gap, o)
  else (.node (pos (push1 o (s.2, c || decide (s.2 ∈ safe))) (s.2, c || decide (s.2 ∈ safe))), push1 o (s.2, c || decide (s.2 ∈ safe)))
def pRow (nu : Str → Int) (bad safe : List Str) (c : Bool) : List Own → List Stp → Row × List Own
  | o, [] => ([], o)
  | o, s :: b => ((pIt nu bad safe c o s).1 :: (pRow nu bad safe c (pIt nu bad safe c o s).2 b).1, (pRow nu bad safe c (pIt nu bad safe c o s).2 b).2)
def pGo (body : Str → List Stp) (nu : Str → Int) (bad safe : List Str) : Nat → Tbl → List Own → Tbl
  | 0, acc, _ => acc
  | n + 1, acc, o => match o[acc.length]? with
    | none => acc
    | some q => pGo body nu bad safe n (acc ++ [(pRow nu bad safe q.2 o (body q.1)).1]) (pRow nu bad safe q.2 o (body q.1)).2
def plainT (body : Str → List Stp) (nu : Str → Int) (bad safe : List Str) (x : Str) : Tbl := pGo body nu bad safe 33 [] [(x, decide (x ∈ safe))]
theorem pRow_snoc {nu : Str → Int} {bad safe : List Str} {c : Bool} {s : Stp} : ∀ {b : List Stp} {o : List Own}, pRow nu bad safe c o (b ++ [s]) = ((pRow nu bad safe c o b).1 ++ [(pIt nu bad safe c (pRow nu bad safe c o b).2 s).1], (pIt nu bad safe c (pRow nu bad safe c o b).2 s).2)
  | [], o => rfl
  | y :: b, o => by
    rw [List.cons_append]
    show ((pIt nu bad safe c o y).1 :: (pRow nu bad safe c (pIt nu bad safe c o y).2 (b ++ [s])).1, (pRow nu bad safe c (pIt nu bad safe c o y).2 (b ++ [s])).2) = _
    rw [pRow_snoc]
    rfl
structure PO (ps : List Prc) (o : List Own) : Prop where
  nd : o.Nodup
  sub : ∀ q ∈ o, q.1 ∈ nms ps
theorem PO.len {ps : List Prc} (hg : Good ps) {o : List Own} (h : PO ps o) : o.length ≤ 32 := by
  have := nd_le (m := (nms ps).map (fun x => ((x, true) : Own)) ++ (nms ps).map (fun x => ((x, false) : Own))) h.nd (fun q hq => by
    obtain ⟨x, b⟩ := q
    have hx := h.sub _ hq
    cases b with
    | true => exact List.mem_append_left _ (List.mem_map.mpr ⟨x, hx, rfl⟩)
    | false => exact List.mem_append_right _ (List.mem_map.mpr ⟨x, hx, rfl⟩))
  have h16 := hg.few
  have hl : (nms ps).length = ps.length := by unfold nms; simp
  rw [List.length_append, List.length_map, List.length_map] at this
  omega
theorem push1_len {α : Type} [DecidableEq α] (o : List α) (x : α) : o.length ≤ (push1 o x).length := by
  unfold push1; split <;> simp
theorem push1_self {α : Type} [DecidableEq α] (o : List α) (x : α) : x ∈ push1 o x := push1_mem.mpr (.inr rfl)
/-- steps of the program: what a step that is no reading and says nothing names -/
theorem kinds_four {k : Str} (h : k ∈ kinds) : k = Str.ofString "read" ∨ k = Str.ofString "say" ∨ k ∈ calls := by
  revert h
  have : ∀ k ∈ kinds, k = Str.ofString "read" ∨ k = Str.ofString "say" ∨ k ∈ calls := by decide +kernel
  exact this k
theorem pIt_po {ps : List Prc} {nu : Str → Int} {bad safe : List Str} {c : Bool} {o : List Own} {s : Stp} (hs : GoodStp (nms ps) s) (h : PO ps o) : PO ps (pIt nu bad safe c o s).2 ∧ o.length ≤ (pIt nu bad safe c o s).2.length := by
  unfold pIt
  split
  · exact ⟨h, Nat.le_refl _⟩
  · split
    · exact ⟨h, Nat.le_refl _⟩
    · split
      · exact ⟨h, Nat.le_refl _⟩
      · rename_i h1 h2 _
        refine ⟨⟨push1_nd h.nd, fun q hq => ?_⟩, push1_len _ _⟩
        rcases push1_mem.mp hq with z | z
        · exact h.sub q z
        · rw [z]
          rcases kinds_four hs.1 with w | w | w
          · exact absurd w h1
          · exact absurd w h2
          · exact hs.2.2 w
theorem pRow_po {ps : List Prc} {nu : Str → Int} {bad safe : List Str} {c : Bool} : ∀ {b : List Stp} {o : List Own}, (∀ s ∈ b, GoodStp (nms ps) s) → PO ps o → PO ps (pRow nu bad safe c o b).2 ∧ o.length ≤ (pRow nu bad safe c o b).2.length
  | [], o, _, h => ⟨h, Nat.le_refl _⟩
  | s :: b, o, hs, h => by
    have h1 := pIt_po (nu := nu) (bad := bad) (safe := safe) (c := c) (hs s List.mem_cons_self) h
    have h2 := pRow_po (b := b) (nu := nu) (bad := bad) (safe := safe) (c := c) (fun z hz => hs z (List.mem_cons_of_mem _ hz)) h1.1
    exact ⟨h2.1, Nat.le_trans h1.2 h2.2⟩
theorem pRow_len {nu : Str → Int} {bad safe : List Str} {c : Bool} : ∀ {b : List Stp} {o : List Own}, (pRow nu bad safe c o b).1.length = b.length
  | [], o => rfl
  | s :: b, o => by unfold pRow; simp [pRow_len (b := b)]
def numOk (i : Int) : Prop := -(1000000000000000000000000000000000000000000000000000000000000 : Int) < i ∧ i < 1000000000000000000000000000000000000000000000000000000000000
theorem GoodI.le' {n m : Nat} {x : Item} (h : GoodI n x) (e : n ≤ m) : GoodI m x := ⟨fun k q => Nat.lt_of_lt_of_le (h.node k q) e, h.word, h.num⟩
theorem pIt_good {ns : List Str} {nu : Str → Int} {bad safe : List Str} {c : Bool} {o : List Own} {s : Stp} (hn : ∀ z, numOk (nu z)) (hs : GoodStp ns s) : GoodI (pIt nu bad safe c o s).2.length (pIt nu bad safe c o s).1 := by
  unfold pIt
  split
  · exact ⟨fun j e => (by cases e), fun t e => (by cases e), fun t e => (by cases e; exact hn _)⟩
  · split
    · exact ⟨fun j e => (by cases e), fun t e => (by cases e; exact hs.2.1), fun t e => (by cases e)⟩
    · split
      · exact ⟨fun j e => (by cases e), fun t e => (by cases e), fun t e => (by cases e)⟩
      · exact ⟨fun j e => (by cases e; exact pos_lt (push1_self _ _)), fun t e => (by cases e), fun t e => (by cases e)⟩
theorem pRow_good {ps : List Prc} {nu : Str → Int} {bad safe : List Str} {c : Bool} (hn : ∀ z, numOk (nu z)) : ∀ {b : List Stp} {o : List Own}, (∀ s ∈ b, GoodStp (nms ps) s) → PO ps o → ∀ x ∈ (pRow nu bad safe c o b).1, GoodI (pRow nu bad safe c o b).2.length x
  | [], o, _, _, x, hx => by cases hx
  | s :: b, o, hs, h, x, hx => by
    have h1 := pIt_po (nu := nu) (bad := bad) (safe := safe) (c := c) (hs s List.mem_cons_self) h
    have hb : ∀ z ∈ b, GoodStp (nms ps) z := fun z hz => hs z (List.mem_cons_of_mem _ hz)
    have h2 := pRow_po (b := b) (nu := nu) (bad := bad) (safe := safe) (c := c) hb h1.1
    have hx : x ∈ (pIt nu bad safe c o s).1 :: (pRow nu bad safe c (pIt nu bad safe c o s).2 b).1 := hx
    show GoodI (pRow nu bad safe c (pIt nu bad safe c o s).2 b).2.length x
    rcases List.mem_cons.mp hx with rfl | hx
    · exact (pIt_good hn (hs s List.mem_cons_self)).le' h2.2
    · exact pRow_good hn hb h1.1 x hx
theorem pGo_good {ps : List Prc} (hg : Good ps) {nu : Str → Int} {bad safe : List Str} (hn : ∀ z, numOk (nu z)) : ∀ {n : Nat} {acc : Tbl} {o : List Own}, PO ps o → acc.length ≤ o.length → 33 ≤ n + acc.length → (∀ r ∈ acc, r.length ≤ 12 ∧ ∀ x ∈ r, GoodI o.length x) → o ≠ [] → GoodT (pGo (bodyOf ps) nu bad safe n acc o)
  | 0, acc, o, ho, hl, hf, _, _ => by have := ho.len hg; omega
  | n + 1, acc, o, ho, hl, hf, ha, h0 => by
    have h32 := ho.len hg
    unfold pGo
    by_cases q : acc.length < o.length
    · obtain ⟨k, hk⟩ : ∃ k, o[acc.length]? = some k := ⟨o[acc.length], by simp [q]⟩
      rw [hk]
      have hx := ho.sub k (List.mem_of_getElem? hk)
      have hb := (body_of hg hx).2
      have hs : ∀ s ∈ bodyOf ps k.1, GoodStp (nms ps) s := fun s h => hg.step _ hb s h
      have h1 := pRow_po (b := bodyOf ps k.1) (nu := nu) (bad := bad) (safe := safe) (c := k.2) hs ho
      refine pGo_good hg hn h1.1 (by simp; omega) (by simp; omega) (fun r hr => ?_) (fun z => by rw [z] at h1; have := h1.2; simp at this; exact h0 this)
      rcases List.mem_append.mp hr with w | w
      · exact ⟨(ha r w).1, fun x hx => ((ha r w).2 x hx).le' h1.2⟩
      · rw [List.mem_singleton.mp w]
        refine ⟨?_, pRow_good hn hs ho⟩
        rw [pRow_len]
        exact hg.short _ hb
    · rw [List.getElem?_eq_none (by omega)]
      show GoodT acc
      have e : acc.length = o.length := by omega
      have hp : 0 < o.length := List.length_pos_iff.mpr h0
      exact ⟨by omega, by omega, fun r hr => (ha r hr).1, fun r hr => by rw [e]; exact (ha r hr).2⟩
theorem plain_good {ps : List Prc} (hg : Good ps) {nu : Str → Int} {bad safe : List Str} {x : Str} (hx : x ∈ nms ps) (hn : ∀ z, numOk (nu z)) : GoodT (plainT (bodyOf ps) nu bad safe x) :=
  pGo_good hg hn ⟨by simp, fun q hq => by rw [List.mem_singleton.mp hq]; exact hx⟩ (by simp) (by simp) (fun r hr => by cases hr) (by simp)
theorem rch_stops' {ps : List Prc} {ks st st' S : List Str} (h : ∀ x, x ∈ st ↔ x ∈ st') {x : Str} (r : Rch ps ks st S x) : Rch ps ks st' S x := by
  induction r with
  | start h1 h2 => exact .start h1 fun z => h2 ((h _).mpr z)
  | step _ h1 ih =>
    obtain ⟨k, h3, h4, h5⟩ := mem_nexts.mp h1
    exact .step ih (mem_nexts.mpr ⟨k, h3, h4, fun z => h5 ((h _).mpr z)⟩)
end Mf

namespace Mf
open PySem L2 PyProof.Rows
/-! ### rings of words -/
def ringT (W : Nat → Str) (s m : Nat) : Tbl := (List.range m).map fun i => [Item.word (W (s + i)), Item.node ((i + 1) % m)]
theorem ringT_len (W : Nat → Str) (s m : Nat) : (ringT W s m).length = m := by unfold ringT; simp
theorem ringT_get {W : Nat → Str} {s m i : Nat} (h : i < m) : (ringT W s m)[i]? = some [Item.word (W (s + i)), Item.node ((i + 1) % m)] := by
  unfold ringT
  rw [List.getElem?_map, List.getElem?_range h]
  rfl
theorem ringT_mem {W : Nat → Str} {s m : Nat} {r : Row} (h : r ∈ ringT W s m) : ∃ i, i < m ∧ r = [Item.word (W (s + i)), Item.node ((i + 1) % m)] := by
  obtain ⟨i, hi, rfl⟩ := List.mem_map.mp h
  exact ⟨i, List.mem_range.mp hi, rfl⟩
theorem ringT_tok {W : Nat → Str} {s m : Nat} (hm : 0 < m) : Tok (ringT W s m) := fun r hr k hk => by
  obtain ⟨i, hi, rfl⟩ := ringT_mem hr
  simp only [List.mem_cons, reduceCtorEq, Item.node.injEq, List.not_mem_nil, or_false, false_or] at hk
  rw [ringT_len, hk]
  exact Nat.mod_lt _ hm
theorem ringT_good {W : Nat → Str} {s m : Nat} (hm : 0 < m) (hW : ∀ i, IsName (W i)) : ∀ r ∈ ringT W s m, ∀ x ∈ r, GoodI m x := fun r hr x hx => by
  obtain ⟨i, hi, rfl⟩ := ringT_mem hr
  simp only [List.mem_cons, List.not_mem_nil, or_false] at hx
  rcases hx with rfl | rfl
  · exact ⟨fun j e => (by cases e), fun t e => (by cases e; exact hW _), fun t e => (by cases e)⟩
  · exact ⟨fun j e => (by cases e; exact Nat.mod_lt _ hm), fun t e => (by cases e), fun t e => (by cases e)⟩
structure Per (W : Nat → Str) (n p : Nat) : Prop where
  pos : 0 < p
  le : p ≤ n
  hn : ∀ k, W (k + n) = W k
  hp : ∀ k, W (k + p) = W k
  least : ∀ d, 0 < d → d < p → ¬ ∀ k, W (k + d) = W k
theorem per_mul {W : Nat → Str} {p : Nat} (h : ∀ k, W (k + p) = W k) (k : Nat) : ∀ q, W (k + p * q) = W k
  | 0 => by simp
  | q + 1 => by rw [Nat.mul_succ, ← Nat.add_assoc, h]; exact per_mul h k q
theorem per_mod {W : Nat → Str} {p : Nat} (h : ∀ k, W (k + p) = W k) (s i : Nat) : W (s + i % p) = W (s + i) := by
  have := per_mul h (s + i % p) (i / p)
  rw [Nat.add_assoc, Nat.mod_add_div] at this
  exact this.symm
theorem Per.dvd {W : Nat → Str} {n p : Nat} (h : Per W n p) : n % p = 0 := by
  refine Classical.byContradiction fun z => h.least (n % p) (by omega) (Nat.mod_lt _ h.pos) fun k => ?_
  rw [per_mod h.hp k n]
  exact h.hn k
theorem Per.hom {W : Nat → Str} {n p s : Nat} (h : Per W n p) : Hom (ringT W s n) (ringT W s p) (· % p) := by
  have hn : 0 < n := Nat.lt_of_lt_of_le h.pos h.le
  refine ⟨ringT_tok hn, ringT_tok h.pos, by rw [ringT_len]; exact hn, fun i _ => by rw [ringT_len]; exact Nat.mod_lt _ h.pos, fun i r hr => ?_⟩
  have hi : i < n := by have := (List.getElem?_eq_some_iff.mp hr).1; rwa [ringT_len] at this
  rw [ringT_get hi] at hr
  cases hr
  show (ringT W s p)[i % p]? = _
  rw [ringT_get (Nat.mod_lt _ h.pos), per_mod h.hp]
  show some [Item.word (W (s + i)), Item.node ((i % p + 1) % p)] = some [Item.word (W (s + i)), Item.node ((i + 1) % n % p)]
  have hd := h.dvd
  rw [Nat.mod_mod_of_dvd _ (Nat.dvd_of_mod_eq_zero hd), Nat.mod_add_mod]
theorem Per.inj {W : Nat → Str} {n p s : Nat} (h : Per W n p) : ∀ i j, i < p → j < p → cls (C (ringT W s p)) i = cls (C (ringT W s p)) j → i = j := by
  have step : ∀ i j, i < p → j < p → cls (C (ringT W s p)) i = cls (C (ringT W s p)) j → W (s + i) = W (s + j) ∧ cls (C (ringT W s p)) ((i + 1) % p) = cls (C (ringT W s p)) ((j + 1) % p) := fun i j hi hj e => by
    have := (C_eq (ringT_tok h.pos) (by rw [ringT_len]; exact h.pos) (ringT_get hi) (ringT_get hj)).mp e
    simp only [shape, List.map_cons, List.map_nil, Item.ren, List.cons.injEq, Item.word.injEq, Item.node.injEq, and_true] at this
    exact this
  have go : ∀ m i j, i < p → j < p → cls (C (ringT W s p)) i = cls (C (ringT W s p)) j → W (s + i + m) = W (s + j + m) := by
    intro m
    induction m with
    | zero => intro i j hi hj e; exact (step i j hi hj e).1
    | succ m ih =>
      intro i j hi hj e
      have := ih ((i + 1) % p) ((j + 1) % p) (Nat.mod_lt _ h.pos) (Nat.mod_lt _ h.pos) (step i j hi hj e).2
      have e1 : ∀ i, W (s + (i + 1) % p + m) = W (s + i + (m + 1)) := fun i => by
        have := per_mod h.hp (s + m) (i + 1)
        rw [show s + (i + 1) % p + m = s + m + (i + 1) % p by omega, this]
        congr 1
        omega
      rw [e1, e1] at this
      exact this
  have main : ∀ i j, i < j → j < p → cls (C (ringT W s p)) i = cls (C (ringT W s p)) j → False := fun i j hij hj e => by
    refine h.least (j - i) (by omega) (by omega) fun k => ?_
    -- a shift of k that lies behind s + i
    have h1 := go (k + p * (s + i) - (s + i)) i j (by omega) hj e
    have hge : s + i ≤ k + p * (s + i) := by
      have := Nat.mul_le_mul_right (s + i) h.pos
      omega
    rw [show s + i + (k + p * (s + i) - (s + i)) = k + p * (s + i) by omega, show s + j + (k + p * (s + i) - (s + i)) = k + (j - i) + p * (s + i) by omega, per_mul h.hp, per_mul h.hp] at h1
    exact h1.symm
  intro i j hi hj e
  rcases Nat.lt_trichotomy i j with z | z | z
  · exact (main i j z hj e).elim
  · exact z
  · exact (main j i z hi e.symm).elim
theorem ringT_okT {W : Nat → Str} {s m : Nat} (hm : 0 < m) : okT 0 1 (ringT W s m) := by
  have gen : ∀ k i, i + k = m → okT i (if i < m then i + 1 else m) (((List.range m).drop i).map fun i => [Item.word (W (s + i)), Item.node ((i + 1) % m)]) := by
    intro k
    induction k with
    | zero =>
      intro i e
      have : i = m := by omega
      subst this
      rw [List.drop_eq_nil_of_le (by simp), if_neg (by omega)]
      rfl
    | succ k ih =>
      intro i e
      have hi : i < m := by omega
      have hd : (List.range m).drop i = i :: (List.range m).drop (i + 1) := by
        rw [List.drop_eq_getElem_cons (by simpa using hi)]
        simp
      rw [hd, List.map_cons, if_pos hi]
      refine ⟨by omega, ?_, ?_⟩
      · show (i + 1) % m ≤ i + 1 ∧ True
        exact ⟨Nat.mod_le _ _, trivial⟩
      · have := ih (i + 1) (by omega)
        have ea : adv (i + 1) [Item.word (W (s + i)), Item.node ((i + 1) % m)] = if i + 1 < m then i + 1 + 1 else m := by
          show max (i + 1) ((i + 1) % m + 1) = _
          by_cases q : i + 1 < m
          · rw [if_pos q, Nat.mod_eq_of_lt q]; omega
          · have : i + 1 = m := by omega
            rw [if_neg q, this, Nat.mod_self]; omega
        rw [ea]
        exact this
  have := gen m 0 (by omega)
  rw [if_pos hm, List.drop_zero] at this
  exact this
theorem Per.canon {W : Nat → Str} {n p s : Nat} (h : Per W n p) : Mf.canon (ringT W s n) = ringT W s p := by
  have hn : 0 < n := Nat.lt_of_lt_of_le h.pos h.le
  have h1 := canon_hom (h.hom (s := s)) (s := 0) (by rw [ringT_len]; exact hn)
  rw [Nat.zero_mod] at h1
  show canonAt (ringT W s n) 0 = _
  rw [h1]
  exact canon_self (ringT_tok h.pos) (by rw [ringT_len]; exact h.pos) (fun i j hi hj => h.inj i j (by rwa [ringT_len] at hi) (by rwa [ringT_len] at hj)) (ringT_okT h.pos)
/-! the plain run of a ring -/
structure Ring (body : Str → List Stp) (X W : Nat → Str) (n : Nat) : Prop where
  pos : 0 < n
  few : n ≤ 32
  inj : ∀ a b, X a = X b → a % n = b % n
  per : ∀ k, X (k + n) = X k
  body : ∀ k, ∃ kd, body (X k) = [(Str.ofString "say", W k), (kd, X (k + 1))] ∧ kd ≠ Str.ofString "read" ∧ kd ≠ Str.ofString "say"
theorem Ring.X_mod {body : Str → List Stp} {X W : Nat → Str} {n : Nat} (h : Ring body X W n) {a b : Nat} (e : a % n = b % n) : X a = X b := by
  have h1 := per_mod h.per 0 a
  have h2 := per_mod h.per 0 b
  rw [Nat.zero_add, Nat.zero_add] at h1 h2
  rw [← h1, ← h2, e]
theorem mod_can {n s j k : Nat} (h : (s + j) % n = (s + k) % n) (hj : j < n) (hk : k < n) : j = k := by
  have h1 := Nat.sub_mod_eq_zero_of_mod_eq h
  have h2 := Nat.sub_mod_eq_zero_of_mod_eq h.symm
  rw [Nat.add_sub_add_left, Nat.mod_eq_of_lt (by omega)] at h1
  rw [Nat.add_sub_add_left, Nat.mod_eq_of_lt (by omega)] at h2
  omega
def owR (X : Nat → Str) (s i : Nat) : List Own := (List.range i).map fun j => (X (s + j), false)
theorem owR_mem {body : Str → List Stp} {X W : Nat → Str} {n : Nat} (h : Ring body X W n) {s i k : Nat} (hi : i ≤ n) (hk : k < n) : ((X (s + k), false) : Own) ∈ owR X s i ↔ k < i := by
  unfold owR
  rw [List.mem_map]
  constructor
  · rintro ⟨j, hj, e⟩
    have hj := List.mem_range.mp hj
    have := h.inj _ _ (Prod.mk.inj e).1
    have : j = k := by
      have h1 : (s + j) % n = (s + k) % n := this
      exact mod_can h1 (by omega) hk
    omega
  · intro hk
    exact ⟨k, List.mem_range.mpr hk, rfl⟩
theorem owR_succ (X : Nat → Str) (s i : Nat) : owR X s (i + 1) = owR X s i ++ [(X (s + i), false)] := by unfold owR; rw [List.range_succ]; simp
theorem owR_len (X : Nat → Str) (s i : Nat) : (owR X s i).length = i := by unfold owR; simp
theorem owR_pos {body : Str → List Stp} {X W : Nat → Str} {n : Nat} (h : Ring body X W n) {s i k : Nat} (hi : i ≤ n) (hk : k < i) : pos (owR X s i) (X (s + k), false) = k := by
  have hm := (owR_mem h (s := s) hi (show k < n by omega)).mpr hk
  have h1 := get_idx hm
  have h2 := pos_lt hm
  rw [owR_len] at h2
  generalize pos (owR X s i) (X (s + k), false) = q at h1 h2 ⊢
  unfold owR at h1
  rw [List.getElem?_map, List.getElem?_range h2] at h1
  have h3 := h.inj _ _ (Prod.mk.inj (Option.some.inj h1)).1
  exact mod_can h3 (by omega) (by omega)
theorem ring_row {body : Str → List Stp} {X W : Nat → Str} {n : Nat} (h : Ring body X W n) {nu : Str → Int} {bad : List Str} (hb : ∀ k, X k ∉ bad) {s i : Nat} (hi : i < n) :
    pRow nu bad [] false (owR X s (i + 1)) (body (X (s + i))) = ([Item.word (W (s + i)), Item.node ((i + 1) % n)], owR X s (if i + 1 < n then i + 2 else n)) := by
  obtain ⟨kd, e, k1, k2⟩ := h.body (s + i)
  rw [e]
  have hx : X (s + i + 1) ∉ bad := hb _
  have hsr : Str.ofString "say" ≠ Str.ofString "read" := by decide +kernel
  show ((pIt nu bad [] false (owR X s (i + 1)) (Str.ofString "say", W (s + i))).1 :: (pIt nu bad [] false (pIt nu bad [] false (owR X s (i + 1)) (Str.ofString "say", W (s + i))).2 (kd, X (s + i + 1))).1 :: [], (pIt nu bad [] false (pIt nu bad [] false (owR X s (i + 1)) (Str.ofString "say", W (s + i))).2 (kd, X (s + i + 1))).2) = _
  have e1 : pIt nu bad [] false (owR X s (i + 1)) (Str.ofString "say", W (s + i)) = (Item.word (W (s + i)), owR X s (i + 1)) := by
    unfold pIt
    rw [if_neg hsr, if_pos rfl]
  have e2 : pIt nu bad [] false (owR X s (i + 1)) (kd, X (s + i + 1)) = (Item.node ((i + 1) % n), owR X s (if i + 1 < n then i + 2 else n)) := by
    unfold pIt
    rw [if_neg k1, if_neg k2, if_neg (fun z => hx z.1)]
    have ef : (false || decide (X (s + i + 1) ∈ ([] : List Str))) = false := by simp
    simp only [ef]
    by_cases q : i + 1 < n
    · have hp : push1 (owR X s (i + 1)) (X (s + i + 1), false) = owR X s (i + 2) := by
        rw [owR_succ X s (i + 1)]
        exact if_neg fun z => by
          have := (owR_mem h (s := s) (i := i + 1) (k := i + 1) (by omega) q).mp z
          omega
      rw [hp, if_pos q, Nat.mod_eq_of_lt q, show s + i + 1 = s + (i + 1) by omega, owR_pos h (by omega) (by omega)]
    · have hn : i + 1 = n := by omega
      have hX : X (s + i + 1) = X (s + 0) := h.X_mod (by rw [show s + i + 1 = s + n by omega]; simp)
      have hp : push1 (owR X s (i + 1)) (X (s + i + 1), false) = owR X s n := by
        rw [hn]
        exact if_pos (by rw [hX]; exact (owR_mem h (Nat.le_refl _) h.pos).mpr h.pos)
      rw [hp, if_neg q, hX, owR_pos h (Nat.le_refl _) h.pos, hn, Nat.mod_self]
  rw [e1]
  simp only
  rw [e2]
theorem ring_plain {body : Str → List Stp} {X W : Nat → Str} {n : Nat} (h : Ring body X W n) {nu : Str → Int} {bad : List Str} (hb : ∀ k, X k ∉ bad) (s : Nat) : plainT body nu bad [] (X s) = ringT W s n := by
  have gen : ∀ k i m, i + k = n → n + 1 ≤ m + i → pGo body nu bad [] m ((List.range i).map fun i => [Item.word (W (s + i)), Item.node ((i + 1) % n)]) (owR X s (if i < n then i + 1 else n)) = ringT W s n := by
    intro k
    induction k with
    | zero =>
      intro i m e hm
      have : i = n := by omega
      subst this
      obtain ⟨m, rfl⟩ : ∃ z, m = z + 1 := ⟨m - 1, by omega⟩
      rw [if_neg (by omega)]
      unfold pGo
      rw [List.getElem?_eq_none (by rw [owR_len]; simp)]
      rfl
    | succ k ih =>
      intro i m e hm
      obtain ⟨m, rfl⟩ : ∃ z, m = z + 1 := ⟨m - 1, by omega⟩
      have hi : i < n := by omega
      rw [if_pos hi]
      unfold pGo
      have hg : (owR X s (i + 1))[((List.range i).map fun i => [Item.word (W (s + i)), Item.node ((i + 1) % n)]).length]? = some (X (s + i), false) := by
        unfold owR
        rw [List.length_map, List.length_range, List.getElem?_map, List.getElem?_range (by omega)]
        rfl
      rw [hg]
      simp only
      rw [ring_row h hb hi]
      simp only
      have := ih (i + 1) m (by omega) (by omega)
      rw [List.range_succ, List.map_append, List.map_singleton] at this
      exact this
  have := gen n 0 33 (by omega) (by have := h.few; omega)
  rw [if_pos h.pos] at this
  exact this
end Mf

namespace Mf
open PySem L2 PyProof.Rows
/-! ### the path by which a plain run fails -/
def lastS (p : List Str) : Str := p.getLast?.getD Str.empty
def fAdd (p : List Str) (st : List Str × List (List Str)) (c : Str) : List Str × List (List Str) := if c ∈ st.1 then st else (st.1 ++ [c], st.2 ++ [p ++ [c]])
def fGo (rd cl : Str → List Str) (hurt : List Str) : Nat → List Str → List (List Str) → Option (List Str × Str)
  | 0, _, _ => none
  | _ + 1, _, [] => none
  | n + 1, seen, p :: w => match (rd (lastS p)).find? (fun z => decide (z ∈ hurt)) with
    | some z => some (p, z)
    | none => fGo rd cl hurt n ((cl (lastS p)).foldl (fAdd p) (seen, w)).1 ((cl (lastS p)).foldl (fAdd p) (seen, w)).2
/-- the procedures that call steps name -/
def cls1 (ps : List Prc) (x : Str) : List Str := (bodyOf ps x).filterMap fun s => if s.1 = Str.ofString "call" then some s.2 else none
structure FI (ps : List Prc) (base seen : List Str) (w : List (List Str)) : Prop where
  add : ∃ more, seen = base ++ more ∧ more.Nodup ∧ (∀ z ∈ more, z ∈ nms ps)
  ok : ∀ p ∈ w, p ≠ [] ∧ (∀ z ∈ p, z ∈ nms ps) ∧ p.length ≤ seen.length + 1
theorem last_mem {p : List Str} (h : p ≠ []) : lastS p ∈ p := by
  unfold lastS
  cases e : p.getLast? with
  | none => rw [List.getLast?_eq_none_iff] at e; exact absurd e h
  | some x => exact List.mem_of_getLast? e
theorem FI.len {ps : List Prc} (hg : Good ps) {base seen : List Str} {w : List (List Str)} (h : FI ps base seen w) : base.length ≤ seen.length ∧ seen.length ≤ base.length + 16 := by
  obtain ⟨more, rfl, nd, sub⟩ := h.add
  have := nd_le nd sub
  have hl : (nms ps).length = ps.length := by unfold nms; simp
  have := hg.few
  rw [List.length_append]
  omega
theorem FI.add1 {ps : List Prc} {base seen : List Str} {w : List (List Str)} {p : List Str} {c : Str} (h : FI ps base seen w) (hp : ∀ z ∈ p, z ∈ nms ps) (hl : p.length ≤ seen.length + 1) (hc : c ∈ nms ps) : FI ps base (fAdd p (seen, w) c).1 (fAdd p (seen, w) c).2 ∧ seen.length ≤ (fAdd p (seen, w) c).1.length ∧ (fAdd p (seen, w) c).2.length + seen.length = w.length + (fAdd p (seen, w) c).1.length := by
  unfold fAdd
  by_cases e : c ∈ seen
  · rw [if_pos e]; exact ⟨h, Nat.le_refl _, by simp⟩
  · rw [if_neg e]
    refine ⟨⟨?_, fun q hq => ?_⟩, by simp, by simp; omega⟩
    · obtain ⟨more, rfl, nd, sub⟩ := h.add
      refine ⟨more ++ [c], by simp, ?_, fun z hz => ?_⟩
      · rw [List.nodup_append]
        exact ⟨nd, by simp, fun a ha b hb q => e (List.mem_append_right _ (by rw [← List.mem_singleton.mp hb, ← q]; exact ha))⟩
      · rcases List.mem_append.mp hz with q | q
        · exact sub z q
        · rw [List.mem_singleton.mp q]; exact hc
    · rcases List.mem_append.mp hq with z | z
      · have := h.ok q z
        exact ⟨this.1, this.2.1, by simp; omega⟩
      · rw [List.mem_singleton.mp z]
        refine ⟨by simp, fun y hy => ?_, by simp; omega⟩
        rcases List.mem_append.mp hy with w | w
        · exact hp y w
        · rw [List.mem_singleton.mp w]; exact hc
theorem FI.adds {ps : List Prc} {base : List Str} {p : List Str} (hp : ∀ z ∈ p, z ∈ nms ps) : ∀ {cs : List Str} {seen : List Str} {w : List (List Str)}, FI ps base seen w → p.length ≤ seen.length + 1 → (∀ c ∈ cs, c ∈ nms ps) → FI ps base (cs.foldl (fAdd p) (seen, w)).1 (cs.foldl (fAdd p) (seen, w)).2 ∧ seen.length ≤ (cs.foldl (fAdd p) (seen, w)).1.length ∧ (cs.foldl (fAdd p) (seen, w)).2.length + seen.length = w.length + (cs.foldl (fAdd p) (seen, w)).1.length
  | [], seen, w, h, hl, _ => ⟨h, Nat.le_refl _, rfl⟩
  | c :: cs, seen, w, h, hl, hc => by
    obtain ⟨h1, h2, h3⟩ := h.add1 hp hl (hc c List.mem_cons_self)
    rw [List.foldl_cons]
    generalize fAdd p (seen, w) c = st at h1 h2 h3
    obtain ⟨a, b⟩ := st
    simp only at h1 h2 h3
    obtain ⟨t1, t2, t3⟩ := FI.adds hp (cs := cs) (seen := a) (w := b) h1 (by omega) fun z hz => hc z (List.mem_cons_of_mem _ hz)
    exact ⟨t1, by omega, by omega⟩
theorem cls1_in {ps : List Prc} (hg : Good ps) {x z : Str} (hx : x ∈ nms ps) (h : z ∈ cls1 ps x) : z ∈ nms ps := by
  unfold cls1 at h
  obtain ⟨s, hs, e⟩ := List.mem_filterMap.mp h
  by_cases c : s.1 = Str.ofString "call"
  · rw [if_pos c] at e
    cases e
    exact (hg.step _ (body_of hg hx).2 s hs).2.2 (by rw [c]; decide +kernel)
  · rw [if_neg c] at e; cases e
end Mf

namespace Mf
open PySem L2 PyProof.Rows
/-! ### chains -/
def chainT (W : Nat → Str) (s m : Nat) (last : Item) : Tbl := (List.range m).map fun i => if i + 1 < m then [Item.word (W (s + i)), Item.node (i + 1)] else [Item.word (W (s + i)), last]
theorem chainT_len (W : Nat → Str) (s m : Nat) (last : Item) : (chainT W s m last).length = m := by unfold chainT; simp
/-- the part of a chain from s on, m procedures -/
structure Chain (body : Str → List Stp) (X W : Nat → Str) (s m : Nat) : Prop where
  few : m ≤ 32
  inj : ∀ a b, a < m → b < m → X (s + a) = X (s + b) → a = b
  body : ∀ k, k + 1 < m → ∃ kd, body (X (s + k)) = [(Str.ofString "say", W (s + k)), (kd, X (s + k + 1))] ∧ kd ≠ Str.ofString "read" ∧ kd ≠ Str.ofString "say"
theorem owC_mem {body : Str → List Stp} {X W : Nat → Str} {s m : Nat} (h : Chain body X W s m) {i k : Nat} (hi : i ≤ m) (hk : k < m) : ((X (s + k), false) : Own) ∈ owR X s i ↔ k < i := by
  unfold owR
  rw [List.mem_map]
  constructor
  · rintro ⟨j, hj, e⟩
    have hj := List.mem_range.mp hj
    have := h.inj j k (by omega) hk (Prod.mk.inj e).1
    omega
  · intro hk
    exact ⟨k, List.mem_range.mpr hk, rfl⟩
theorem owC_pos {body : Str → List Stp} {X W : Nat → Str} {s m : Nat} (h : Chain body X W s m) {i k : Nat} (hi : i ≤ m) (hk : k < i) : pos (owR X s i) (X (s + k), false) = k := by
  have hm := (owC_mem h hi (show k < m by omega)).mpr hk
  have h1 := get_idx hm
  have h2 := pos_lt hm
  rw [owR_len] at h2
  generalize pos (owR X s i) (X (s + k), false) = q at h1 h2 ⊢
  unfold owR at h1
  rw [List.getElem?_map, List.getElem?_range h2] at h1
  exact h.inj q k (by omega) (by omega) (Prod.mk.inj (Option.some.inj h1)).1
theorem chain_row {body : Str → List Stp} {X W : Nat → Str} {s m : Nat} (h : Chain body X W s m) {nu : Str → Int} {bad : List Str} (hb : ∀ k, k < m → X (s + k) ∉ bad) {i : Nat} (hi : i + 1 < m) :
    pRow nu bad [] false (owR X s (i + 1)) (body (X (s + i))) = ([Item.word (W (s + i)), Item.node (i + 1)], owR X s (i + 2)) := by
  obtain ⟨kd, e, k1, k2⟩ := h.body i hi
  rw [e]
  have hx : X (s + i + 1) ∉ bad := hb (i + 1) hi
  have hsr : Str.ofString "say" ≠ Str.ofString "read" := by decide +kernel
  show ((pIt nu bad [] false (owR X s (i + 1)) (Str.ofString "say", W (s + i))).1 :: (pIt nu bad [] false (pIt nu bad [] false (owR X s (i + 1)) (Str.ofString "say", W (s + i))).2 (kd, X (s + i + 1))).1 :: [], (pIt nu bad [] false (pIt nu bad [] false (owR X s (i + 1)) (Str.ofString "say", W (s + i))).2 (kd, X (s + i + 1))).2) = _
  have e1 : pIt nu bad [] false (owR X s (i + 1)) (Str.ofString "say", W (s + i)) = (Item.word (W (s + i)), owR X s (i + 1)) := by
    unfold pIt
    rw [if_neg hsr, if_pos rfl]
  have e2 : pIt nu bad [] false (owR X s (i + 1)) (kd, X (s + i + 1)) = (Item.node (i + 1), owR X s (i + 2)) := by
    unfold pIt
    rw [if_neg k1, if_neg k2, if_neg (fun z => hx z.1)]
    have ef : (false || decide (X (s + i + 1) ∈ ([] : List Str))) = false := by simp
    simp only [ef]
    have hp : push1 (owR X s (i + 1)) (X (s + i + 1), false) = owR X s (i + 2) := by
      rw [owR_succ X s (i + 1)]
      exact if_neg fun z => by
        have := (owC_mem h (i := i + 1) (k := i + 1) (by omega) hi).mp z
        omega
    rw [hp, show s + i + 1 = s + (i + 1) by omega, owC_pos h (by omega) (by omega)]
  rw [e1]
  simp only
  rw [e2]
/-- the plain run along a chain whose last procedure has the row [word, last] and names nothing new -/
theorem chain_plain {body : Str → List Stp} {X W : Nat → Str} {s m : Nat} (h : Chain body X W s m) (hm : 0 < m) {nu : Str → Int} {bad : List Str} {last : Item} (hb : ∀ k, k < m → X (s + k) ∉ bad)
    (hl : ∀ o, pRow nu bad [] false o (body (X (s + (m - 1)))) = ([Item.word (W (s + (m - 1))), last], o)) : plainT body nu bad [] (X s) = chainT W s m last := by
  have gen : ∀ k i n, i + k = m → m + 1 ≤ n + i → pGo body nu bad [] n ((List.range i).map fun i => if i + 1 < m then [Item.word (W (s + i)), Item.node (i + 1)] else [Item.word (W (s + i)), last]) (owR X s (if i < m then i + 1 else m)) = chainT W s m last := by
    intro k
    induction k with
    | zero =>
      intro i n e hn
      have : i = m := by omega
      subst this
      obtain ⟨n, rfl⟩ : ∃ z, n = z + 1 := ⟨n - 1, by omega⟩
      rw [if_neg (by omega)]
      unfold pGo
      rw [List.getElem?_eq_none (by rw [owR_len]; simp)]
      rfl
    | succ k ih =>
      intro i n e hn
      obtain ⟨n, rfl⟩ : ∃ z, n = z + 1 := ⟨n - 1, by omega⟩
      have hi : i < m := by omega
      rw [if_pos hi]
      unfold pGo
      have hg : (owR X s (i + 1))[((List.range i).map fun i => if i + 1 < m then [Item.word (W (s + i)), Item.node (i + 1)] else [Item.word (W (s + i)), last]).length]? = some (X (s + i), false) := by
        unfold owR
        rw [List.length_map, List.length_range, List.getElem?_map, List.getElem?_range (by omega)]
        rfl
      rw [hg]
      simp only
      have this := ih (i + 1) n (by omega) (by omega)
      rw [List.range_succ, List.map_append, List.map_singleton] at this
      by_cases q : i + 1 < m
      · rw [chain_row h hb q]
        rw [if_pos q, if_pos q] at this
        exact this
      · have hi1 : i = m - 1 := by omega
        subst hi1
        rw [hl]
        rw [if_neg q, if_neg q] at this
        rw [show m - 1 + 1 = m by omega]
        exact this
  have := gen m 0 33 (by omega) (by have := h.few; omega)
  rw [if_pos hm] at this
  exact this
theorem chainT_get {W : Nat → Str} {s m i : Nat} {last : Item} (h : i < m) : (chainT W s m last)[i]? = some (if i + 1 < m then [Item.word (W (s + i)), Item.node (i + 1)] else [Item.word (W (s + i)), last]) := by
  unfold chainT
  rw [List.getElem?_map, List.getElem?_range h]
  rfl
theorem chainT_tok {W : Nat → Str} {s m : Nat} {last : Item} (hl : ∀ k, last ≠ .node k) : Tok (chainT W s m last) := fun r hr k hk => by
  obtain ⟨i, hi, rfl⟩ := List.mem_map.mp hr
  have hi := List.mem_range.mp hi
  rw [chainT_len]
  split at hk
  · simp only [List.mem_cons, reduceCtorEq, Item.node.injEq, List.not_mem_nil, or_false, false_or] at hk
    omega
  · simp only [List.mem_cons, reduceCtorEq, List.not_mem_nil, or_false, false_or] at hk
    exact absurd hk.symm (hl k)
/-- unlike words: the rows of a chain are its rows of point 9 -/
theorem chain_canon {W : Nat → Str} {s m : Nat} {last : Item} (hm : 0 < m) (hl : ∀ k, last ≠ .node k) (hW : ∀ a b, a < m → b < m → W (s + a) = W (s + b) → a = b) : canon (chainT W s m last) = chainT W s m last := by
  have h0 : 0 < (chainT W s m last).length := by rw [chainT_len]; exact hm
  refine canon_self (chainT_tok hl) h0 (fun i j hi hj e => ?_) ?_
  · rw [chainT_len] at hi hj
    have := (C_eq (chainT_tok hl) h0 (chainT_get hi) (chainT_get hj)).mp e
    have hw : W (s + i) = W (s + j) := by
      have h1 : ∀ k, (shape (C (chainT W s m last)) (if k + 1 < m then [Item.word (W (s + k)), Item.node (k + 1)] else [Item.word (W (s + k)), last])).head? = some (Item.word (W (s + k))) := fun k => by split <;> rfl
      have h2 := congrArg List.head? this
      rw [h1, h1] at h2
      injection h2 with h2
      injection h2
    exact hW i j hi hj hw
  · have gen : ∀ k i, i + k = m → okT i (if i < m then i + 1 else m) (((List.range m).drop i).map fun i => if i + 1 < m then [Item.word (W (s + i)), Item.node (i + 1)] else [Item.word (W (s + i)), last]) := by
      intro k
      induction k with
      | zero =>
        intro i e
        have : i = m := by omega
        subst this
        rw [List.drop_eq_nil_of_le (by simp), if_neg (by omega)]
        rfl
      | succ k ih =>
        intro i e
        have hi : i < m := by omega
        have hd : (List.range m).drop i = i :: (List.range m).drop (i + 1) := by
          rw [List.drop_eq_getElem_cons (by simpa using hi)]
          simp
        rw [hd, List.map_cons, if_pos hi]
        have t := ih (i + 1) (by omega)
        by_cases q : i + 1 < m
        · rw [if_pos q] at t
          rw [if_pos q]
          refine ⟨by omega, ⟨Nat.le_refl _, trivial⟩, ?_⟩
          have ea : adv (i + 1) [Item.word (W (s + i)), Item.node (i + 1)] = i + 1 + 1 := by
            show max (i + 1) (i + 1 + 1) = _
            omega
          rw [ea]
          exact t
        · have e1 : i + 1 = m := by omega
          rw [if_neg q] at t
          rw [if_neg q]
          have hla : ∀ z, okR z [Item.word (W (s + i)), last] ∧ adv z [Item.word (W (s + i)), last] = z := fun z => by
            cases last with
            | node k => exact absurd rfl (hl k)
            | _ => exact ⟨trivial, rfl⟩
          refine ⟨by omega, (hla _).1, ?_⟩
          rw [(hla _).2, e1]
          rw [e1] at t
          exact t
    have t := gen m 0 (by omega)
    rw [if_pos hm, List.drop_zero] at t
    exact t
def pthC (X : Nat → Str) (s i : Nat) : List Str := (List.range (i + 1)).map fun j => X (s + j)
theorem pthC_succ (X : Nat → Str) (s i : Nat) : pthC X s (i + 1) = pthC X s i ++ [X (s + (i + 1))] := by unfold pthC; rw [List.range_succ, List.map_append, List.map_singleton]
theorem pthC_last (X : Nat → Str) (s i : Nat) : lastS (pthC X s i) = X (s + i) := by
  unfold lastS pthC
  rw [List.range_succ, List.map_append, List.map_singleton, List.getLast?_concat]
  rfl
/-- the path of a run that fails at the end of a chain of calls -/
theorem chain_path {rd cl : Str → List Str} {X : Nat → Str} {s m : Nat} {hurt : List Str} {d : Str} (inj : ∀ a b, a < m → b < m → X (s + a) = X (s + b) → a = b) (hm : 0 < m)
    (hr : ∀ k, k + 1 < m → rd (X (s + k)) = []) (hc : ∀ k, k + 1 < m → cl (X (s + k)) = [X (s + k + 1)]) (hl : rd (X (s + (m - 1))) = [d]) (hd : d ∈ hurt) : ∀ k i n, i + k + 1 = m → k < n → fGo rd cl hurt n (pthC X s i) [pthC X s i] = some (pthC X s (m - 1), d)
  | 0, i, n, e, hn => by
    obtain ⟨n, rfl⟩ : ∃ z, n = z + 1 := ⟨n - 1, by omega⟩
    have hi : i = m - 1 := by omega
    unfold fGo
    rw [pthC_last, hi, hl]
    simp [hd]
  | k + 1, i, n, e, hn => by
    obtain ⟨n, rfl⟩ : ∃ z, n = z + 1 := ⟨n - 1, by omega⟩
    have hi : i + 1 < m := by omega
    have hnot : X (s + i + 1) ∉ pthC X s i := fun z => by
      unfold pthC at z
      obtain ⟨j, hj, q⟩ := List.mem_map.mp z
      have hj := List.mem_range.mp hj
      have := inj j (i + 1) (by omega) hi q
      omega
    unfold fGo
    rw [pthC_last, hr i hi, hc i hi]
    simp only [List.find?_nil, List.foldl_cons, List.foldl_nil]
    have ef : fAdd (pthC X s i) (pthC X s i, []) (X (s + i + 1)) = (pthC X s (i + 1), [pthC X s (i + 1)]) := by
      unfold fAdd
      rw [if_neg hnot, pthC_succ]
      rfl
    rw [ef]
    exact chain_path inj hm hr hc hl hd k (i + 1) n (by omega) (by omega)
end Mf

namespace Mf
open PySem L2 PyProof.Rows
/-! ### the rows of point 9 as an image of the table -/
inductive Rt (t : Tbl) (s : Nat) : Nat → Prop
  | refl : Rt t s s
  | step {i k : Nat} {r : Row} : Rt t s i → t[i]? = some r → Item.node k ∈ r → Rt t s k
theorem Rt.lt {t : Tbl} {s i : Nat} (ht : Tok t) (hs : s < t.length) (h : Rt t s i) : i < t.length := by
  cases h with
  | refl => exact hs
  | step _ h2 h3 => exact ht _ (List.mem_of_getElem? h2) _ h3
theorem Rt.trans {t : Tbl} {s i k : Nat} (h : Rt t s i) (g : Rt t i k) : Rt t s k := by
  induction g with
  | refl => exact h
  | step _ h2 h3 ih => exact .step ih h2 h3
/-- the number of a class in an order -/
def fO (c o : List Nat) (k : Nat) : Nat := pos (o.map (cls c)) (cls c k)
theorem pos_app {α : Type} [DecidableEq α] {xs ys : List α} {x : α} (h : x ∈ xs) : pos (xs ++ ys) x = pos xs x := by
  unfold pos
  rw [List.idxOf_append, if_pos h]
theorem fO_more {c o p : List Nat} {k : Nat} (h : cls c k ∈ o.map (cls c)) : fO c (o ++ p) k = fO c o k := by
  unfold fO
  rw [List.map_append, pos_app h]
theorem addN_app (c o : List Nat) (k : Nat) : (∃ p, addN c o k = o ++ p ∧ ∀ z ∈ p, z = k) ∧ cls c k ∈ (addN c o k).map (cls c) := by
  unfold addN
  by_cases e : cls c k ∈ o.map (cls c)
  · rw [if_pos e]; exact ⟨⟨[], by simp, by simp⟩, e⟩
  · rw [if_neg e]; exact ⟨⟨[k], rfl, by simp⟩, by simp⟩
theorem ren_congr {f g : Nat → Nat} {r : Row} (h : ∀ k, Item.node k ∈ r → f k = g k) : r.map (Item.ren f) = r.map (Item.ren g) := by
  refine List.map_congr_left fun x hx => ?_
  cases x with
  | node k => show Item.node (f k) = Item.node (g k); rw [h k hx]
  | _ => rfl
theorem mem_ren {f : Nat → Nat} {r : Row} {k : Nat} (h : Item.node k ∈ r) : Item.node (f k) ∈ r.map (Item.ren f) := List.mem_map.mpr ⟨_, h, rfl⟩
theorem ren_mem {f : Nat → Nat} {r : Row} {k : Nat} (h : Item.node k ∈ r.map (Item.ren f)) : ∃ j, Item.node j ∈ r ∧ f j = k := by
  obtain ⟨x, hx, e⟩ := List.mem_map.mp h
  cases x with
  | node j => exact ⟨j, hx, by injection e⟩
  | gap => cases e
  | word s => cases e
  | num i => cases e
theorem ren_ren {f g : Nat → Nat} {r : Row} : (r.map (Item.ren f)).map (Item.ren g) = r.map (Item.ren fun k => g (f k)) := by
  rw [List.map_map]
  refine List.map_congr_left fun x _ => ?_
  cases x <;> rfl
theorem cRow_img (c : List Nat) : ∀ (r : Row) (o : List Nat), ∃ p, (cRow c o r).2 = o ++ p ∧ (∀ z ∈ p, Item.node z ∈ r) ∧ (∀ k, Item.node k ∈ r → cls c k ∈ (o ++ p).map (cls c)) ∧ (cRow c o r).1 = r.map (Item.ren (fO c (o ++ p)))
  | [], o => ⟨[], by simp [cRow], by simp, by simp, by simp [cRow]⟩
  | x :: r, o => by
    have keep : (∀ k, x ≠ Item.node k) → ∃ p, (cRow c o (x :: r)).2 = o ++ p ∧ (∀ z ∈ p, Item.node z ∈ x :: r) ∧ (∀ k, Item.node k ∈ x :: r → cls c k ∈ (o ++ p).map (cls c)) ∧ (cRow c o (x :: r)).1 = (x :: r).map (Item.ren (fO c (o ++ p))) := fun hx => by
      obtain ⟨p, h1, h2, h3, h4⟩ := cRow_img c r o
      have ei : cItem c o x = (x, o) := by
        cases x with
        | node k => exact absurd rfl (hx k)
        | _ => rfl
      have er : Item.ren (fO c (o ++ p)) x = x := by
        cases x with
        | node k => exact absurd rfl (hx k)
        | _ => rfl
      refine ⟨p, by unfold cRow; rw [ei]; exact h1, fun z hz => List.mem_cons_of_mem _ (h2 z hz), fun k hk => ?_, by unfold cRow; rw [ei, List.map_cons, er]; simp only; rw [h4]⟩
      rcases List.mem_cons.mp hk with e | e
      · exact absurd e.symm (hx k)
      · exact h3 k e
    cases x with
    | node k =>
      obtain ⟨⟨q, hq, hq2⟩, hk⟩ := addN_app c o k
      obtain ⟨p, h1, h2, h3, h4⟩ := cRow_img c r (addN c o k)
      rw [hq] at h1 h3 h4 hk
      refine ⟨q ++ p, ?_, fun z hz => ?_, fun j hj => ?_, ?_⟩
      · show (cRow c (addN c o k) r).2 = _
        rw [hq, h1, List.append_assoc]
      · rcases List.mem_append.mp hz with e | e
        · rw [hq2 z e]; exact List.mem_cons_self
        · exact List.mem_cons_of_mem _ (h2 z e)
      · rw [← List.append_assoc]
        rcases List.mem_cons.mp hj with e | e
        · cases e
          rw [List.map_append]
          exact List.mem_append_left _ hk
        · exact h3 j e
      · show Item.node (pos ((addN c o k).map (cls c)) (cls c k)) :: (cRow c (addN c o k) r).1 = _
        rw [hq, h4, List.map_cons, ← List.append_assoc]
        congr 1
        show Item.node (fO c (o ++ q) k) = Item.node (fO c (o ++ q ++ p) k)
        rw [fO_more hk]
    | gap => exact keep fun k e => by cases e
    | word s => exact keep fun k e => by cases e
    | num i => exact keep fun k e => by cases e
structure Img (t : Tbl) (c : List Nat) (s : Nat) (acc : Tbl) (o : List Nat) : Prop where
  le : acc.length ≤ o.length
  hd : o[0]? = some s
  rows : ∀ j k, j < acc.length → o[j]? = some k → acc[j]? = some ((t.getD k []).map (Item.ren (fO c o)))
  shut : ∀ j k, j < acc.length → o[j]? = some k → ∀ z, Item.node z ∈ t.getD k [] → cls c z ∈ o.map (cls c)
  rt : ∀ k ∈ o, Rt t s k
theorem Img.go {t : Tbl} {c : List Nat} {s : Nat} (ht : Tok t) (hs : s < t.length) : ∀ (n : Nat) (acc : Tbl) (o : List Nat), Ord c t.length o → Img t c s acc o → t.length + 1 ≤ n + acc.length → ∃ o', Ord c t.length o' ∧ Img t c s (cGo t c n acc o) o' ∧ (cGo t c n acc o).length = o'.length
  | 0, acc, o, ho, hI, hn => by
    have := ho.len
    have := hI.le
    omega
  | n + 1, acc, o, ho, hI, hn => by
    unfold cGo
    by_cases e : acc.length < o.length
    · rw [if_pos e]
      have hg : o[acc.length]? = some (o.getD acc.length 0) := by rw [List.getD_eq_getElem?_getD, List.getElem?_eq_getElem e]; rfl
      generalize o.getD acc.length 0 = k at hg
      have hk := hI.rt k (List.mem_of_getElem? hg)
      have hkl := hk.lt ht hs
      have hr : t[k]? = some (t.getD k []) := by rw [List.getD_eq_getElem?_getD, List.getElem?_eq_getElem hkl]; rfl
      have hnode : ∀ z, Item.node z ∈ t.getD k [] → z < t.length := fun z hz => ht _ (List.mem_of_getElem? hr) z hz
      obtain ⟨p, h1, h2, h3, h4⟩ := cRow_img c (t.getD k []) o
      have ho' := (cRow_ord ho hnode).1
      rw [h1] at ho'
      refine Img.go ht hs n _ _ (by rw [h1]; exact ho') ?_ (by rw [List.length_append]; simp only [List.length_cons, List.length_nil]; omega)
      rw [h1]
      refine ⟨by simp; omega, by rw [List.getElem?_append_left (by omega)]; exact hI.hd, fun j z hj hz => ?_, fun j z hj hz w hw => ?_, fun z hz => ?_⟩
      · rw [List.length_append] at hj
        simp only [List.length_cons, List.length_nil] at hj
        rw [List.getElem?_append_left (by omega)] at hz
        by_cases q : j < acc.length
        · rw [List.getElem?_append_left q, hI.rows j z q hz]
          congr 1
          exact ren_congr fun y hy => (fO_more (hI.shut j z q hz y hy)).symm
        · have : j = acc.length := by omega
          subst this
          rw [hg] at hz
          cases hz
          rw [List.getElem?_append_right (Nat.le_refl _), Nat.sub_self, h4]
          rfl
      · rw [List.length_append] at hj
        simp only [List.length_cons, List.length_nil] at hj
        rw [List.getElem?_append_left (by omega)] at hz
        by_cases q : j < acc.length
        · rw [List.map_append]
          exact List.mem_append_left _ (hI.shut j z q hz w hw)
        · have : j = acc.length := by omega
          subst this
          rw [hg] at hz
          cases hz
          exact h3 w hw
      · rcases List.mem_append.mp hz with q | q
        · exact hI.rt z q
        · exact .step hk hr (h2 z q)
    · rw [if_neg e]
      exact ⟨o, ho, hI, by have := hI.le; omega⟩
/-- the canonical table is the image of what is reached -/
structure Image (t : Tbl) (s : Nat) (u : Tbl) (f : Nat → Nat) : Prop where
  zero : f s = 0
  row : ∀ i r, Rt t s i → t[i]? = some r → u[f i]? = some (r.map (Item.ren f))
  eq : ∀ i j, Rt t s i → Rt t s j → (f i = f j ↔ cls (C t) i = cls (C t) j)
  onto : ∀ k, k < u.length → ∃ i, Rt t s i ∧ f i = k
theorem canon_img {t : Tbl} (ht : Tok t) {s : Nat} (hs : s < t.length) : ∃ f, Image t s (canonAt t s) f := by
  have h0 : 0 < t.length := by omega
  obtain ⟨o, ho, hI, hl⟩ := Img.go (c := C t) ht hs (t.length + 1) [] [s] (Ord.one hs) ⟨by simp, rfl, by simp, by simp, fun k hk => by rw [List.mem_singleton.mp hk]; exact .refl⟩ (by simp)
  have hu : cGo t (C t) (t.length + 1) [] [s] = canonAt t s := rfl
  rw [hu] at hI hl
  -- every reached row has its class in the order
  have hin : ∀ i, Rt t s i → ∃ j k, o[j]? = some k ∧ cls (C t) k = cls (C t) i := fun i hi => by
    induction hi with
    | refl => exact ⟨0, s, hI.hd, rfl⟩
    | @step i k r h1 h2 h3 ih =>
      obtain ⟨j, i', hj, e⟩ := ih
      have hi' := (hI.rt i' (List.mem_of_getElem? hj)).lt ht hs
      have hr' : t[i']? = some (t.getD i' []) := by rw [List.getD_eq_getElem?_getD, List.getElem?_eq_getElem hi']; rfl
      have hsh := (C_eq ht h0 hr' h2).mp e
      have hm : Item.node (cls (C t) k) ∈ shape (C t) (t.getD i' []) := by rw [hsh]; exact mem_ren h3
      obtain ⟨z, hz, ez⟩ := ren_mem hm
      have := hI.shut j i' (by rw [hl]; exact (List.getElem?_eq_some_iff.mp hj).1) hj z hz
      obtain ⟨w, hw, ew⟩ := List.mem_map.mp this
      obtain ⟨jw, hjw, ejw⟩ := List.getElem_of_mem hw
      exact ⟨jw, w, by rw [List.getElem?_eq_getElem hjw, ejw], by rw [ew, ez]⟩
  have hpos : ∀ j k, o[j]? = some k → fO (C t) o k = j := fun j k hj => by
    have hm : cls (C t) k ∈ o.map (cls (C t)) := List.mem_map.mpr ⟨k, List.mem_of_getElem? hj, rfl⟩
    have h1 := get_idx hm
    have h2 : (o.map (cls (C t)))[j]? = some (cls (C t) k) := by rw [List.getElem?_map, hj]; rfl
    exact Sit.nodup_inj ho.nd h1 h2
  have hcl : ∀ a b, cls (C t) a = cls (C t) b → fO (C t) o a = fO (C t) o b := fun a b e => by unfold fO; rw [e]
  have hat : ∀ i, Rt t s i → ∃ k, o[fO (C t) o i]? = some k ∧ cls (C t) k = cls (C t) i := fun i hi => by
    obtain ⟨j, k, hj, e⟩ := hin i hi
    rw [← hcl k i e, hpos j k hj]
    exact ⟨k, hj, e⟩
  refine ⟨fO (C t) o, hpos 0 s hI.hd, fun i r hi hr => ?_, fun i j hi hj => ⟨fun e => ?_, hcl i j⟩, fun k hk => ?_⟩
  · obtain ⟨k, hk, e⟩ := hat i hi
    have hkl := (hI.rt k (List.mem_of_getElem? hk)).lt ht hs
    have hr' : t[k]? = some (t.getD k []) := by rw [List.getD_eq_getElem?_getD, List.getElem?_eq_getElem hkl]; rfl
    rw [hI.rows _ k (by rw [hl]; exact (List.getElem?_eq_some_iff.mp hk).1) hk]
    congr 1
    have hsh := (C_eq ht h0 hr' hr).mp e
    have fac : ∀ q : Row, q.map (Item.ren (fO (C t) o)) = (shape (C t) q).map (Item.ren fun z => pos (o.map (cls (C t))) z) := fun q => by
      unfold shape
      rw [ren_ren]
      rfl
    rw [fac, fac, hsh]
  · obtain ⟨k, hk, ek⟩ := hat i hi
    obtain ⟨k', hk', ek'⟩ := hat j hj
    rw [← e, hk] at hk'
    cases hk'
    rw [← ek, ← ek']
  · have hk' : k < o.length := by omega
    refine ⟨o[k], hI.rt _ (List.getElem_mem hk'), hpos k _ (by rw [List.getElem?_eq_getElem hk'])⟩
end Mf

namespace Mf
open PySem L2 PyProof.Rows
/-! ### the rows of a plain run, item by item -/
def pF (nu : Str → Int) (bad safe : List Str) (c : Bool) (o : List Own) (s : Stp) : Item :=
  if s.1 = Str.ofString "read" then .num (nu s.2) else if s.1 = Str.ofString "say" then .word s.2 else if s.2 ∈ bad ∧ c = false then .gap else .node (pos o (s.2, c || decide (s.2 ∈ safe)))
/-- what a step names and the row leads to -/
def pN (bad safe : List Str) (c : Bool) (s : Stp) : Option Own :=
  if s.1 = Str.ofString "read" then none else if s.1 = Str.ofString "say" then none else if s.2 ∈ bad ∧ c = false then none else some (s.2, c || decide (s.2 ∈ safe))
theorem push1_app {α : Type} [DecidableEq α] (o : List α) (q : α) : ∃ p, push1 o q = o ++ p ∧ ∀ z ∈ p, z = q := by
  unfold push1
  by_cases e : q ∈ o
  · rw [if_pos e]; exact ⟨[], by simp, by simp⟩
  · rw [if_neg e]; exact ⟨[q], rfl, by simp⟩
theorem pIt_img (nu : Str → Int) (bad safe : List Str) (c : Bool) (o : List Own) (s : Stp) : ∃ p, (pIt nu bad safe c o s).2 = o ++ p ∧ (∀ z ∈ p, pN bad safe c s = some z) ∧ (∀ z, pN bad safe c s = some z → z ∈ o ++ p) ∧ (pIt nu bad safe c o s).1 = pF nu bad safe c (o ++ p) s := by
  unfold pIt pF pN
  by_cases h1 : s.1 = Str.ofString "read"
  · simp only [if_pos h1]
    exact ⟨[], by simp, by simp, by simp, trivial⟩
  · simp only [if_neg h1]
    by_cases h2 : s.1 = Str.ofString "say"
    · simp only [if_pos h2]
      exact ⟨[], by simp, by simp, by simp, trivial⟩
    · simp only [if_neg h2]
      by_cases h3 : s.2 ∈ bad ∧ c = false
      · simp only [if_pos h3]
        exact ⟨[], by simp, by simp, by simp, trivial⟩
      · simp only [if_neg h3]
        obtain ⟨p, hp, hz⟩ := push1_app o (s.2, c || decide (s.2 ∈ safe))
        refine ⟨p, hp, fun z h => by rw [hz z h], fun z h => ?_, ?_⟩
        · cases h
          rw [← hp]
          exact push1_self _ _
        · rw [hp]
theorem pF_more {nu : Str → Int} {bad safe : List Str} {c : Bool} {o p : List Own} {s : Stp} (h : ∀ z, pN bad safe c s = some z → z ∈ o) : pF nu bad safe c (o ++ p) s = pF nu bad safe c o s := by
  unfold pF
  unfold pN at h
  by_cases h1 : s.1 = Str.ofString "read"
  · rw [if_pos h1, if_pos h1]
  · rw [if_neg h1, if_neg h1]
    rw [if_neg h1] at h
    by_cases h2 : s.1 = Str.ofString "say"
    · rw [if_pos h2, if_pos h2]
    · rw [if_neg h2, if_neg h2]
      rw [if_neg h2] at h
      by_cases h3 : s.2 ∈ bad ∧ c = false
      · rw [if_pos h3, if_pos h3]
      · rw [if_neg h3, if_neg h3]
        rw [if_neg h3] at h
        rw [pos_app (h _ rfl)]
theorem pRow_img (nu : Str → Int) (bad safe : List Str) (c : Bool) : ∀ (b : List Stp) (o : List Own), ∃ p, (pRow nu bad safe c o b).2 = o ++ p ∧ (∀ z ∈ p, ∃ s ∈ b, pN bad safe c s = some z) ∧ (∀ s ∈ b, ∀ z, pN bad safe c s = some z → z ∈ o ++ p) ∧ (pRow nu bad safe c o b).1 = b.map (pF nu bad safe c (o ++ p))
  | [], o => ⟨[], by simp [pRow], by simp, by simp, by simp [pRow]⟩
  | s :: b, o => by
    obtain ⟨q, h1, h2, h3, h4⟩ := pIt_img nu bad safe c o s
    obtain ⟨p, g1, g2, g3, g4⟩ := pRow_img nu bad safe c b (o ++ q)
    refine ⟨q ++ p, ?_, fun z hz => ?_, fun s' hs z hz => ?_, ?_⟩
    · show (pRow nu bad safe c (pIt nu bad safe c o s).2 b).2 = _
      rw [h1, g1, List.append_assoc]
    · rcases List.mem_append.mp hz with e | e
      · exact ⟨s, List.mem_cons_self, h2 z e⟩
      · obtain ⟨s', hs', e'⟩ := g2 z e
        exact ⟨s', List.mem_cons_of_mem _ hs', e'⟩
    · rw [← List.append_assoc]
      rcases List.mem_cons.mp hs with e | e
      · subst e
        exact List.mem_append_left _ (h3 z hz)
      · exact g3 s' e z hz
    · show (pIt nu bad safe c o s).1 :: (pRow nu bad safe c (pIt nu bad safe c o s).2 b).1 = _
      rw [h1, h4, g4, List.map_cons, ← List.append_assoc, pF_more h3]
structure PImg (body : Str → List Stp) (nu : Str → Int) (bad safe : List Str) (q0 : Own) (t : Tbl) (o : List Own) : Prop where
  hd : o[0]? = some q0
  nd : o.Nodup
  rows : ∀ i q, i < t.length → o[i]? = some q → t[i]? = some ((body q.1).map (pF nu bad safe q.2 o))
  shut : ∀ i q, i < t.length → o[i]? = some q → ∀ s ∈ body q.1, ∀ z, pN bad safe q.2 s = some z → z ∈ o
  le : t.length ≤ o.length
theorem pGo_img {ps : List Prc} (hg : Good ps) {nu : Str → Int} {bad safe : List Str} {q0 : Own} : ∀ (n : Nat) (acc : Tbl) (o : List Own), PO ps o → PImg (bodyOf ps) nu bad safe q0 acc o → 33 ≤ n + acc.length → ∃ o', PO ps o' ∧ PImg (bodyOf ps) nu bad safe q0 (pGo (bodyOf ps) nu bad safe n acc o) o' ∧ (pGo (bodyOf ps) nu bad safe n acc o).length = o'.length
  | 0, acc, o, ho, hI, hn => by
    have := ho.len hg
    have := hI.le
    omega
  | n + 1, acc, o, ho, hI, hn => by
    unfold pGo
    cases e : o[acc.length]? with
    | none =>
      rw [List.getElem?_eq_none_iff] at e
      exact ⟨o, ho, hI, by have := hI.le; show acc.length = o.length; omega⟩
    | some q =>
      simp only
      have hq := ho.sub q (List.mem_of_getElem? e)
      have hl := (List.getElem?_eq_some_iff.mp e).1
      obtain ⟨p, h1, h2, h3, h4⟩ := pRow_img nu bad safe q.2 (bodyOf ps q.1) o
      have hpo := (pRow_po (nu := nu) (bad := bad) (safe := safe) (c := q.2) (b := bodyOf ps q.1) (o := o) (fun s hs => hg.step _ (body_of hg hq).2 s hs) ho).1
      rw [h1] at hpo ⊢
      refine pGo_img hg n _ _ hpo ?_ (by rw [List.length_append]; simp only [List.length_cons, List.length_nil]; omega)
      refine ⟨by rw [List.getElem?_append_left (by omega)]; exact hI.hd, hpo.nd, fun j z hj hz => ?_, fun j z hj hz s hs w hw => ?_, by simp; omega⟩
      · rw [List.length_append] at hj
        simp only [List.length_cons, List.length_nil] at hj
        rw [List.getElem?_append_left (by omega)] at hz
        by_cases c : j < acc.length
        · rw [List.getElem?_append_left c, hI.rows j z c hz]
          congr 1
          exact List.map_congr_left fun s hs => (pF_more (hI.shut j z c hz s hs)).symm
        · have : j = acc.length := by omega
          subst this
          rw [e] at hz
          cases hz
          rw [List.getElem?_append_right (Nat.le_refl _), Nat.sub_self, h4]
          rfl
      · rw [List.length_append] at hj
        simp only [List.length_cons, List.length_nil] at hj
        rw [List.getElem?_append_left (by omega)] at hz
        by_cases c : j < acc.length
        · exact List.mem_append_left _ (hI.shut j z c hz s hs w hw)
        · have : j = acc.length := by omega
          subst this
          rw [e] at hz
          cases hz
          exact h3 s hs w hw
/-- the table of a plain run -/
theorem plain_img {ps : List Prc} (hg : Good ps) {x : Str} (hx : x ∈ nms ps) (nu : Str → Int) (bad safe : List Str) : ∃ o, PO ps o ∧ PImg (bodyOf ps) nu bad safe (x, decide (x ∈ safe)) (plainT (bodyOf ps) nu bad safe x) o ∧ (plainT (bodyOf ps) nu bad safe x).length = o.length :=
  pGo_img hg 33 [] [(x, decide (x ∈ safe))] ⟨by simp, fun q hq => by rw [List.mem_singleton.mp hq]; exact hx⟩ ⟨rfl, by simp, by simp, by simp, by simp⟩ (by simp)
theorem PImg.row {body : Str → List Stp} {nu : Str → Int} {bad safe : List Str} {q0 : Own} {t : Tbl} {o : List Own} (h : PImg body nu bad safe q0 t o) (hl : t.length = o.length) {i : Nat} {q : Own} (hi : o[i]? = some q) : t[i]? = some ((body q.1).map (pF nu bad safe q.2 o)) := h.rows i q (by rw [hl]; exact (List.getElem?_eq_some_iff.mp hi).1) hi
theorem pF_node {nu : Str → Int} {bad safe : List Str} {c : Bool} {o : List Own} {s : Stp} {k : Nat} (h : pF nu bad safe c o s = .node k) : ∃ q, pN bad safe c s = some q ∧ k = pos o q := by
  unfold pF at h
  unfold pN
  by_cases h1 : s.1 = Str.ofString "read"
  · rw [if_pos h1] at h; cases h
  · rw [if_neg h1] at h ⊢
    by_cases h2 : s.1 = Str.ofString "say"
    · rw [if_pos h2] at h; cases h
    · rw [if_neg h2] at h ⊢
      by_cases h3 : s.2 ∈ bad ∧ c = false
      · rw [if_pos h3] at h; cases h
      · rw [if_neg h3] at h ⊢
        exact ⟨_, rfl, by injection h with h; exact h.symm⟩
theorem PImg.own {body : Str → List Stp} {nu : Str → Int} {bad safe : List Str} {q0 : Own} {t : Tbl} {o : List Own} (h : PImg body nu bad safe q0 t o) (hl : t.length = o.length) {i : Nat} {q : Own} (hi : o[i]? = some q) {s : Stp} (hs : s ∈ body q.1) {z : Own} (hz : pN bad safe q.2 s = some z) : o[pos o z]? = some z := get_idx (h.shut i q (by rw [hl]; exact (List.getElem?_eq_some_iff.mp hi).1) hi s hs z hz)
/-- more broken places: more bad procedures -/
theorem bad_mono {ps : List Prc} {hurt hurt' safe : List Str} (h : ∀ z ∈ hurt, z ∈ hurt') {x : Str} (hb : Bad ps hurt safe x) : Bad ps hurt' safe x := by
  induction hb with
  | read h1 h2 h3 h4 => exact .read h1 h2 h3 (h _ h4)
  | call h1 h2 h3 _ ih => exact .call h1 h2 h3 ih
end Mf

namespace Mf
open PySem L2 PyProof.Rows
/-! ### what the search for a failing path finds -/
inductive Walk (cl : Str → List Str) (safe : List Str) (x : Str) : List Str → Prop
  | one : Walk cl safe x [x]
  | step {p : List Str} {c : Str} : Walk cl safe x p → c ∈ cl (lastS p) → c ∉ safe → Walk cl safe x (p ++ [c])
theorem lastS_snoc (p : List Str) (c : Str) : lastS (p ++ [c]) = c := by unfold lastS; simp
theorem Walk.ne {cl : Str → List Str} {safe : List Str} {x : Str} {p : List Str} (h : Walk cl safe x p) : p ≠ [] := by cases h <;> simp
theorem fAdds {p : List Str} : ∀ (cs seen : List Str) (w : List (List Str)), ∃ new, cs.foldl (fAdd p) (seen, w) = (seen ++ new, w ++ new.map (fun c => p ++ [c])) ∧ (∀ c ∈ new, c ∈ cs ∧ c ∉ seen) ∧ new.Nodup ∧ ∀ c ∈ cs, c ∈ seen ++ new
  | [], seen, w => ⟨[], by simp, by simp, by simp, by simp⟩
  | c :: cs, seen, w => by
    rw [List.foldl_cons]
    have ea : fAdd p (seen, w) c = if c ∈ seen then (seen, w) else (seen ++ [c], w ++ [p ++ [c]]) := rfl
    rw [ea]
    by_cases e : c ∈ seen
    · rw [if_pos e]
      obtain ⟨new, h1, h2, h3, h4⟩ := fAdds (p := p) cs seen w
      refine ⟨new, h1, fun z hz => ⟨List.mem_cons_of_mem _ (h2 z hz).1, (h2 z hz).2⟩, h3, fun z hz => ?_⟩
      rcases List.mem_cons.mp hz with q | q
      · rw [q]; exact List.mem_append_left _ e
      · exact h4 z q
    · rw [if_neg e]
      obtain ⟨new, h1, h2, h3, h4⟩ := fAdds (p := p) cs (seen ++ [c]) (w ++ [p ++ [c]])
      refine ⟨c :: new, ?_, fun z hz => ?_, ?_, fun z hz => ?_⟩
      · rw [h1]; simp
      · rcases List.mem_cons.mp hz with q | q
        · rw [q]; exact ⟨List.mem_cons_self, e⟩
        · exact ⟨List.mem_cons_of_mem _ (h2 z q).1, fun y => (h2 z q).2 (List.mem_append_left _ y)⟩
      · rw [List.nodup_cons]
        exact ⟨fun q => (h2 c q).2 (by simp), h3⟩
      · rcases List.mem_cons.mp hz with q | q
        · rw [q]; simp
        · have := h4 z q
          rw [List.append_assoc, List.singleton_append] at this
          exact this
structure FpI (rd cl : Str → List Str) (hurt safe U : List Str) (x : Str) (seen : List Str) (w : List (List Str)) (n : Nat) : Prop where
  ex : ∃ more, seen = x :: safe ++ more ∧ more.Nodup ∧ (∀ z ∈ more, z ∈ U ∧ z ∉ safe) ∧ w.length + (U.length - more.length) < n ∧
    ∀ y, (y = x ∨ y ∈ more) → (∃ p ∈ w, lastS p = y) ∨ ((rd y).find? (fun z => decide (z ∈ hurt)) = none ∧ ∀ c ∈ cl y, c ∈ seen)
  wk : ∀ p ∈ w, Walk cl safe x p ∧ lastS p ∈ U
/-- a set that holds x, leads nowhere but to the safe ones, and reads nothing that is hurt -/
def Closed (rd cl : Str → List Str) (hurt safe : List Str) (x : Str) : Prop := ∃ D : List Str, x ∈ D ∧ ∀ y ∈ D, (rd y).find? (fun z => decide (z ∈ hurt)) = none ∧ ∀ c ∈ cl y, c ∈ D ∨ c ∈ safe
theorem fGo_all {rd cl : Str → List Str} {hurt safe U : List Str} {x : Str} (hU : ∀ y ∈ U, ∀ c ∈ cl y, c ∈ U) : ∀ (n : Nat) (seen : List Str) (w : List (List Str)), FpI rd cl hurt safe U x seen w n →
    (∃ p z, fGo rd cl hurt n seen w = some (p, z) ∧ Walk cl safe x p ∧ lastS p ∈ U ∧ (rd (lastS p)).find? (fun z => decide (z ∈ hurt)) = some z) ∨ (fGo rd cl hurt n seen w = none ∧ Closed rd cl hurt safe x)
  | 0, seen, w, h => by
    obtain ⟨more, _, _, _, hn, _⟩ := h.ex
    omega
  | n + 1, seen, [], h => by
    obtain ⟨more, rfl, nd, sub, hn, hy⟩ := h.ex
    refine .inr ⟨rfl, x :: more, List.mem_cons_self, fun y hy' => ?_⟩
    rcases hy y (List.mem_cons.mp hy') with ⟨p, hp, _⟩ | ⟨h1, h2⟩
    · cases hp
    · refine ⟨h1, fun c hc => ?_⟩
      have := h2 c hc
      simp only [List.mem_cons, List.mem_append, List.cons_append] at this ⊢
      rcases this with a | a | a
      · exact .inl (.inl a)
      · exact .inr a
      · exact .inl (.inr a)
  | n + 1, seen, p :: w, h => by
    obtain ⟨more, e, nd, sub, hn, hy⟩ := h.ex
    obtain ⟨hp, hpU⟩ := h.wk p List.mem_cons_self
    unfold fGo
    cases ef : (rd (lastS p)).find? (fun z => decide (z ∈ hurt)) with
    | some z => exact .inl ⟨p, z, rfl, hp, hpU, ef⟩
    | none =>
      simp only
      obtain ⟨new, h1, h2, h3, h4⟩ := fAdds (p := p) (cl (lastS p)) seen w
      rw [h1]
      have hns : ∀ c ∈ new, c ∉ safe := fun c hc q => (h2 c hc).2 (by rw [e]; simp [q])
      refine fGo_all hU n _ _ ⟨⟨more ++ new, by rw [e, List.append_assoc], ?_, fun z hz => ?_, ?_, fun y hq => ?_⟩, fun q hq => ?_⟩
      · rw [List.nodup_append]
        exact ⟨nd, h3, fun a ha b hb q => (h2 b hb).2 (by rw [e, ← q]; exact List.mem_append_right _ ha)⟩
      · rcases List.mem_append.mp hz with q | q
        · exact sub z q
        · exact ⟨hU _ hpU z (h2 z q).1, hns z q⟩
      · have hle := nd_le (l := more ++ new) (m := U) (by
          rw [List.nodup_append]
          exact ⟨nd, h3, fun a ha b hb q => (h2 b hb).2 (by rw [e, ← q]; exact List.mem_append_right _ ha)⟩) fun z hz => by
            rcases List.mem_append.mp hz with q | q
            · exact (sub z q).1
            · exact hU _ hpU z (h2 z q).1
        simp only [List.length_append, List.length_map, List.length_cons] at hn hle ⊢
        omega
      · have hq : (y = x ∨ y ∈ more) ∨ y ∈ new := by
          rcases hq with q | q
          · exact .inl (.inl q)
          · rcases List.mem_append.mp q with z | z
            · exact .inl (.inr z)
            · exact .inr z
        rcases hq with q | q
        · rcases hy y q with ⟨p', hp', ep⟩ | ⟨g1, g2⟩
          · rcases List.mem_cons.mp hp' with z | z
            · rw [z] at ep
              rw [← ep]
              exact .inr ⟨ef, h4⟩
            · exact .inl ⟨p', List.mem_append_left _ z, ep⟩
          · exact .inr ⟨g1, fun c hc => List.mem_append_left _ (g2 c hc)⟩
        · exact .inl ⟨p ++ [y], List.mem_append_right _ (List.mem_map.mpr ⟨y, q, rfl⟩), lastS_snoc p y⟩
      · rcases List.mem_append.mp hq with z | z
        · exact h.wk q (List.mem_cons_of_mem _ z)
        · obtain ⟨c, hc, rfl⟩ := List.mem_map.mp z
          exact ⟨.step hp (h2 c hc).1 (hns c hc), by rw [lastS_snoc]; exact hU _ hpU c (h2 c hc).1⟩
theorem mem_cls1 {ps : List Prc} {x y : Str} : y ∈ cls1 ps x ↔ (Str.ofString "call", y) ∈ bodyOf ps x := by
  unfold cls1
  rw [List.mem_filterMap]
  constructor
  · rintro ⟨s, hs, e⟩
    by_cases c : s.1 = Str.ofString "call"
    · rw [if_pos c] at e
      cases e
      rw [← c]; exact hs
    · rw [if_neg c] at e; cases e
  · intro h
    exact ⟨_, h, by rw [if_pos rfl]⟩
theorem closed_bad {ps : List Prc} {hurt safe : List Str} {x : Str} (h : Closed (rds ps) (cls1 ps) hurt safe x) : ¬ Bad ps hurt safe x := by
  obtain ⟨D, hx, hD⟩ := h
  have gen : ∀ y, Bad ps hurt safe y → y ∉ D := by
    intro y hb
    induction hb with
    | @read y z h1 h2 h3 h4 =>
      intro hy
      have := List.find?_eq_none.mp (hD y hy).1 z (mem_rdOf.mpr h3)
      simp only [decide_eq_true_eq] at this
      exact this h4
    | @call y q h1 h2 h3 h4 ih =>
      intro hy
      rcases (hD y hy).2 q (mem_cls1.mpr h3) with z | z
      · exact ih z
      · exact h4.out.2 z
  exact fun hb => gen x hb hx
/-- a bad procedure has a failing path -/
theorem fGo_bad {ps : List Prc} (hg : Good ps) {hurt safe : List Str} {x : Str} (hx : x ∈ nms ps) (hb : Bad ps hurt safe x) : ∃ p z, fGo (rds ps) (cls1 ps) hurt 100 (x :: safe) [[x]] = some (p, z) ∧ Walk (cls1 ps) safe x p ∧ lastS p ∈ nms ps ∧ (rds ps (lastS p)).find? (fun z => decide (z ∈ hurt)) = some z := by
  have hU : ∀ y ∈ nms ps, ∀ c ∈ cls1 ps y, c ∈ nms ps := fun y hy c hc => cls1_in hg hy hc
  have hl : (nms ps).length ≤ 16 := by have := hg.few; unfold nms; simpa using this
  have hlast : lastS [x] = x := rfl
  rcases fGo_all (rd := rds ps) (hurt := hurt) (safe := safe) (x := x) hU 100 (x :: safe) [[x]] ⟨⟨[], by simp, by simp, by simp, by simp; omega, fun y hy => by
    rcases hy with q | q
    · exact .inl ⟨[x], by simp, by rw [q]; rfl⟩
    · cases q⟩, fun p hp => by rw [List.mem_singleton.mp hp]; exact ⟨.one, hx⟩⟩ with ⟨p, z, h⟩ | ⟨_, h⟩
  · exact ⟨p, z, h⟩
  · exact absurd hb (closed_bad h)
/-- the end of a walk makes its beginning bad -/
theorem walk_bad {ps : List Prc} (hg : Good ps) {hurt safe : List Str} {x : Str} (hx : x ∈ nms ps) (hs : x ∉ safe) {p : List Str} (h : Walk (cls1 ps) safe x p) (hb : Bad ps hurt safe (lastS p)) : Bad ps hurt safe x := by
  induction h with
  | one => exact hb
  | @step p c h1 h2 h3 ih =>
    rw [lastS_snoc] at hb
    have hin : lastS p ∈ nms ps ∧ lastS p ∉ safe := by
      clear hb h2 h3 ih
      induction h1 with
      | one => exact ⟨hx, hs⟩
      | @step p c g1 g2 g3 ih => rw [lastS_snoc]; exact ⟨cls1_in hg ih.1 g2, g3⟩
    exact ih (.call hin.1 hin.2 (mem_cls1.mp h2) hb)
end Mf

namespace Mf
open PySem L2 PyProof.Rows
/-! ### a thing of one kind or of another -/
section
variable {K : PySem.W.Frag} {α β : Type} {R : Rl α} {S : Rl β} {B H : Hp} {v : V} {x : α ⊕ β}
def dSum {α β : Type} (R : Rl α) (S : Rl β) : Rl (α ⊕ β) := ⟨fun H x v => match x with | .inl a => R.rel H a v | .inr b => S.rel H b v, fun {H H' x v} e h => by
  cases x with
  | inl a => exact R.mono e h
  | inr b => exact S.mono e h⟩
def getL {α β : Type} : α ⊕ β → Option α
  | .inl a => some a
  | _ => none
def getR {α β : Type} : α ⊕ β → Option β
  | .inr a => some a
  | _ => none
theorem getL_v {a : α} (h : (dSum R S).rel B x v) (e : getL x = some a) : R.rel B a v := by
  cases x with
  | inl b => cases e; exact h
  | inr b => cases e
theorem getR_v {a : β} (h : (dSum R S).rel B x v) (e : getR x = some a) : S.rel B a v := by
  cases x with
  | inl b => cases e
  | inr b => cases e; exact h
theorem kit_obj {C : Addr} {t : String} (hm : PySem.W.kitMeta t = true) (h : PySem.W.subIn K (.ref C) (.type t) = some false) : PySem.W.kitOne K (.ref C) (.type t) = some false := by
  simp [PySem.W.kitOne, PySem.W.kitCls, hm, h]
theorem isi_uS {C : Addr} {F : Fl α} {x : α ⊕ Str} (ic : C8.InsC K C) (h : (dSum (dObj C F) dStr).rel B x v) (s : Same B H) (hk : PySem.W.kitOne K (.ref C) (.type "str") = some false) : ∀ Q : VK, Q (.bl x.isRight) H → rIsi K [v, .ty "str"] H Q := fun Q q => by
  cases x with
  | inl a => exact w_isi (.ty "str") (obj_ty ic ((dObj C F).mono s h)) hk q
  | inr b =>
    cases (show v = .str b from h)
    exact w_isi (.ty "str") (.base (.str b)) (kit_ty (r := true) (by decide +kernel)) q
end
def optD {α : Type} (d : α → PyData) : Option α → PyData
  | none => PyData.none
  | some x => d x
theorem drOptD {K : PySem.W.Frag} {α : Type} {R : Rl α} {d : α → PyData} (D : Dr K R d) : Dr K (dOpt R) (optD d) := fun {H x v} h => by
  cases x with
  | none => cases h; exact .non
  | some x => exact D h.1
theorem w_only {K : PySem.W.Frag} {cls c : Value} {d : Option Addr} {ts : Addr → Value → Option Addr → TS} {Wout : WX} {D : Ends} {σ : L2.St} {H : Hp} (hx : PySem.W.exmOne K cls c = some true) (g : ∀ a, H a = none → ts a cls d D σ H) : L2.WE (wOnly K c ts Wout D) σ cls d H :=
  ⟨true, hx, fun _ => g, fun z => by cases z⟩
theorem w_par3 {tA : TA} {nx : L2.St → Hp → Prop} {rt : VK} {bk ct : L2.St → Hp → Prop} {σ : L2.St} {H : Hp} {k l m : Nat} (g : tA σ H fun vs H1 => ∃ u v w, vs = [u, v, w] ∧ nx (((σ.set k (some u)).set l (some v)).set m (some w)) H1) : tPar3 k l m tA ⟨nx, rt, bk, ct⟩ σ H := g
end Mf

namespace Mf
open PySem L2 PyProof.Rows
/-! ### the search layer by layer finds the same path -/
def hitP (rd : Str → List Str) (hurt : List Str) (p : List Str) : Option (List Str × Str) := ((rd (lastS p)).find? (fun z => decide (z ∈ hurt))).map fun z => (p, z)
def lay (cl : Str → List Str) (L : List (List Str)) (st : List Str × List (List Str)) : List Str × List (List Str) := L.foldl (fun st p => (cl (lastS p)).foldl (fAdd p) st) st
def fAddL (safe : List Str) (p : List Str) (st : List Str × List (List Str)) (c : Str) : List Str × List (List Str) := if c ∉ st.1 ∧ c ∉ safe then (st.1 ++ [c], st.2 ++ [p ++ [c]]) else st
def layL (cl : Str → List Str) (safe : List Str) (L : List (List Str)) (st : List Str × List (List Str)) : List Str × List (List Str) := L.foldl (fun st p => (cl (lastS p)).foldl (fAddL safe p) st) st
def lGo (rd cl : Str → List Str) (hurt safe : List Str) : Nat → List Str → List (List Str) → Option (List Str × Str)
  | 0, _, _ => none
  | k + 1, seen, L => match L.findSome? (hitP rd hurt) with
    | some r => some r
    | none => lGo rd cl hurt safe k (layL cl safe L (seen, [])).1 (layL cl safe L (seen, [])).2
theorem fAdd_pre {p : List Str} : ∀ (cs seen : List Str) (L w : List (List Str)), cs.foldl (fAdd p) (seen, L ++ w) = ((cs.foldl (fAdd p) (seen, w)).1, L ++ (cs.foldl (fAdd p) (seen, w)).2)
  | [], _, _, _ => rfl
  | c :: cs, seen, L, w => by
    rw [List.foldl_cons, List.foldl_cons]
    have e : ∀ w, fAdd p (seen, w) c = if c ∈ seen then (seen, w) else (seen ++ [c], w ++ [p ++ [c]]) := fun w => rfl
    rw [e, e]
    by_cases h : c ∈ seen
    · rw [if_pos h, if_pos h]; exact fAdd_pre cs seen L w
    · rw [if_neg h, if_neg h, List.append_assoc]; exact fAdd_pre cs _ L _
theorem fGo_layer {rd cl : Str → List Str} {hurt : List Str} (n : Nat) : ∀ (L : List (List Str)) (seen : List Str) (w : List (List Str)), fGo rd cl hurt (n + L.length) seen (L ++ w) = match L.findSome? (hitP rd hurt) with
    | some r => some r
    | none => fGo rd cl hurt n (lay cl L (seen, w)).1 (lay cl L (seen, w)).2
  | [], seen, w => rfl
  | p :: L, seen, w => by
    rw [List.length_cons, ← Nat.add_assoc, List.cons_append, List.findSome?_cons]
    have ec : fGo rd cl hurt (n + L.length + 1) seen (p :: (L ++ w)) = match (rd (lastS p)).find? (fun z => decide (z ∈ hurt)) with
      | some z => some (p, z)
      | none => fGo rd cl hurt (n + L.length) ((cl (lastS p)).foldl (fAdd p) (seen, L ++ w)).1 ((cl (lastS p)).foldl (fAdd p) (seen, L ++ w)).2 := rfl
    rw [ec]
    have eh : hitP rd hurt p = ((rd (lastS p)).find? (fun z => decide (z ∈ hurt))).map fun z => (p, z) := rfl
    rw [eh]
    cases e : (rd (lastS p)).find? (fun z => decide (z ∈ hurt)) with
    | some z => rfl
    | none =>
      simp only [Option.map_none]
      rw [fAdd_pre]
      simp only
      rw [fGo_layer n L]
      rfl
theorem add_rel {safe p : List Str} : ∀ (cs sP sL : List Str) (w : List (List Str)), (∀ z, z ∈ sP ↔ z ∈ sL ∨ z ∈ safe) → (cs.foldl (fAdd p) (sP, w)).2 = (cs.foldl (fAddL safe p) (sL, w)).2 ∧ ∀ z, z ∈ (cs.foldl (fAdd p) (sP, w)).1 ↔ z ∈ (cs.foldl (fAddL safe p) (sL, w)).1 ∨ z ∈ safe
  | [], sP, sL, w, h => ⟨rfl, h⟩
  | c :: cs, sP, sL, w, h => by
    rw [List.foldl_cons, List.foldl_cons]
    have e1 : fAdd p (sP, w) c = if c ∈ sP then (sP, w) else (sP ++ [c], w ++ [p ++ [c]]) := rfl
    have e2 : fAddL safe p (sL, w) c = if c ∉ sL ∧ c ∉ safe then (sL ++ [c], w ++ [p ++ [c]]) else (sL, w) := rfl
    rw [e1, e2]
    by_cases q : c ∈ sP
    · rw [if_pos q, if_neg (fun z => ((h c).mp q).elim z.1 z.2)]
      exact add_rel cs sP sL w h
    · have q' : c ∉ sL ∧ c ∉ safe := ⟨fun z => q ((h c).mpr (.inl z)), fun z => q ((h c).mpr (.inr z))⟩
      rw [if_neg q, if_pos q']
      refine add_rel cs _ _ _ fun z => ?_
      rw [List.mem_append, List.mem_append, h z]
      constructor
      · rintro ((a | a) | a)
        · exact .inl (.inl a)
        · exact .inr a
        · exact .inl (.inr a)
      · rintro ((a | a) | a)
        · exact .inl (.inl a)
        · exact .inr a
        · exact .inl (.inr a)
theorem lay_rel {cl : Str → List Str} {safe : List Str} : ∀ (L : List (List Str)) (sP sL : List Str) (w : List (List Str)), (∀ z, z ∈ sP ↔ z ∈ sL ∨ z ∈ safe) → (lay cl L (sP, w)).2 = (layL cl safe L (sL, w)).2 ∧ ∀ z, z ∈ (lay cl L (sP, w)).1 ↔ z ∈ (layL cl safe L (sL, w)).1 ∨ z ∈ safe
  | [], sP, sL, w, h => ⟨rfl, h⟩
  | p :: L, sP, sL, w, h => by
    obtain ⟨h1, h2⟩ := add_rel (p := p) (cl (lastS p)) sP sL w h
    have := lay_rel (cl := cl) (safe := safe) L ((cl (lastS p)).foldl (fAdd p) (sP, w)).1 ((cl (lastS p)).foldl (fAddL safe p) (sL, w)).1 ((cl (lastS p)).foldl (fAdd p) (sP, w)).2 h2
    have e1 : lay cl (p :: L) (sP, w) = lay cl L ((cl (lastS p)).foldl (fAdd p) (sP, w)) := rfl
    have e2 : layL cl safe (p :: L) (sL, w) = layL cl safe L ((cl (lastS p)).foldl (fAddL safe p) (sL, w)) := rfl
    rw [e1, e2]
    have e3 : (cl (lastS p)).foldl (fAddL safe p) (sL, w) = (((cl (lastS p)).foldl (fAddL safe p) (sL, w)).1, ((cl (lastS p)).foldl (fAdd p) (sP, w)).2) := by rw [h1]
    rw [e3]
    exact this
/-- the paths of a layer, and what has been seen -/
structure LI (U : List Str) (seen : List Str) (L : List (List Str)) : Prop where
  nd : seen.Nodup
  sub : ∀ z ∈ seen, z ∈ U
  ok : ∀ p ∈ L, p ≠ [] ∧ lastS p ∈ U ∧ p.length ≤ seen.length
theorem addL_ok {U safe p : List Str} (hp : p ≠ []) : ∀ (cs : List Str) (seen : List Str) (w : List (List Str)), (∀ c ∈ cs, c ∈ U) → LI U seen w → p.length ≤ seen.length → LI U (cs.foldl (fAddL safe p) (seen, w)).1 (cs.foldl (fAddL safe p) (seen, w)).2 ∧ seen.length ≤ (cs.foldl (fAddL safe p) (seen, w)).1.length ∧ (cs.foldl (fAddL safe p) (seen, w)).2.length + seen.length = w.length + (cs.foldl (fAddL safe p) (seen, w)).1.length
  | [], seen, w, _, h, _ => ⟨h, Nat.le_refl _, rfl⟩
  | c :: cs, seen, w, hc, h, hl => by
    rw [List.foldl_cons]
    have e2 : fAddL safe p (seen, w) c = if c ∉ seen ∧ c ∉ safe then (seen ++ [c], w ++ [p ++ [c]]) else (seen, w) := rfl
    rw [e2]
    by_cases q : c ∉ seen ∧ c ∉ safe
    · rw [if_pos q]
      have hI : LI U (seen ++ [c]) (w ++ [p ++ [c]]) := by
        refine ⟨?_, fun z hz => ?_, fun r hr => ?_⟩
        · rw [List.nodup_append]
          exact ⟨h.nd, by simp, fun a ha b hb e => q.1 (by rw [List.mem_singleton.mp hb] at e; rw [← e]; exact ha)⟩
        · rcases List.mem_append.mp hz with y | y
          · exact h.sub z y
          · rw [List.mem_singleton.mp y]; exact hc c List.mem_cons_self
        · rcases List.mem_append.mp hr with y | y
          · have := h.ok r y
            exact ⟨this.1, this.2.1, by rw [List.length_append]; omega⟩
          · rw [List.mem_singleton.mp y]
            exact ⟨by simp, by rw [lastS_snoc]; exact hc c List.mem_cons_self, by simp; omega⟩
      obtain ⟨t1, t2, t3⟩ := addL_ok (safe := safe) hp cs (seen ++ [c]) (w ++ [p ++ [c]]) (fun z hz => hc z (List.mem_cons_of_mem _ hz)) hI (by rw [List.length_append]; omega)
      simp only [List.length_append, List.length_cons, List.length_nil] at t2 t3
      exact ⟨t1, by omega, by omega⟩
    · rw [if_neg q]
      exact addL_ok hp cs seen w (fun z hz => hc z (List.mem_cons_of_mem _ hz)) h hl
theorem layL_ok {U safe : List Str} {cl : Str → List Str} (hU : ∀ y ∈ U, ∀ c ∈ cl y, c ∈ U) : ∀ (L : List (List Str)) (seen : List Str) (w : List (List Str)), (∀ p ∈ L, p ≠ [] ∧ lastS p ∈ U ∧ p.length ≤ seen.length) → LI U seen w → LI U (layL cl safe L (seen, w)).1 (layL cl safe L (seen, w)).2 ∧ seen.length ≤ (layL cl safe L (seen, w)).1.length ∧ (layL cl safe L (seen, w)).2.length + seen.length = w.length + (layL cl safe L (seen, w)).1.length
  | [], seen, w, _, h => ⟨h, Nat.le_refl _, rfl⟩
  | p :: L, seen, w, hL, h => by
    obtain ⟨p1, p2, p3⟩ := hL p List.mem_cons_self
    obtain ⟨t1, t2, t3⟩ := addL_ok (safe := safe) p1 (cl (lastS p)) seen w (fun c hc => hU _ p2 c hc) h p3
    have e2 : layL cl safe (p :: L) (seen, w) = layL cl safe L ((cl (lastS p)).foldl (fAddL safe p) (seen, w)) := rfl
    rw [e2]
    generalize (cl (lastS p)).foldl (fAddL safe p) (seen, w) = st at t1 t2 t3
    obtain ⟨a, b⟩ := st
    simp only at t1 t2 t3
    obtain ⟨u1, u2, u3⟩ := layL_ok (safe := safe) hU L a b (fun q hq => by have := hL q (List.mem_cons_of_mem _ hq); exact ⟨this.1, this.2.1, by omega⟩) t1
    exact ⟨u1, by omega, by omega⟩
theorem lGo_nil {rd cl : Str → List Str} {hurt safe : List Str} : ∀ (k : Nat) (seen : List Str), lGo rd cl hurt safe k seen [] = none
  | 0, _ => rfl
  | k + 1, seen => by
    unfold lGo
    exact lGo_nil k _
theorem fGo_nil {rd cl : Str → List Str} {hurt : List Str} (n : Nat) (seen : List Str) : fGo rd cl hurt n seen [] = none := by cases n <;> rfl
theorem lGo_eq {rd cl : Str → List Str} {hurt safe U : List Str} (hU : ∀ y ∈ U, ∀ c ∈ cl y, c ∈ U) : ∀ (k n : Nat) (sP sL : List Str) (L : List (List Str)), (∀ z, z ∈ sP ↔ z ∈ sL ∨ z ∈ safe) → LI U sL L → U.length < k + sL.length → L.length + (U.length - sL.length) < n → lGo rd cl hurt safe k sL L = fGo rd cl hurt n sP L
  | 0, n, sP, sL, L, hr, hI, hk, hn => by
    have := nd_le hI.nd hI.sub
    omega
  | k + 1, n, sP, sL, L, hr, hI, hk, hn => by
    have hle := nd_le hI.nd hI.sub
    by_cases hL : L = []
    · subst hL; rw [lGo_nil, fGo_nil]
    have hpos := List.length_pos_iff.mpr hL
    obtain ⟨m, rfl⟩ : ∃ m, n = m + L.length := ⟨n - L.length, by omega⟩
    have hA := fGo_layer (rd := rd) (cl := cl) (hurt := hurt) m L sP []
    rw [List.append_nil] at hA
    rw [hA]
    unfold lGo
    cases L.findSome? (hitP rd hurt) with
    | some r => rfl
    | none =>
      simp only
      obtain ⟨e1, e2⟩ := lay_rel (cl := cl) (safe := safe) L sP sL [] hr
      rw [e1]
      obtain ⟨t1, t2, t3⟩ := layL_ok (safe := safe) hU L sL [] hI.ok ⟨hI.nd, hI.sub, by simp⟩
      have hle' := nd_le t1.nd t1.sub
      simp only [List.length_nil] at t3
      generalize layL cl safe L (sL, []) = st at e1 e2 t1 t2 t3 hle'
      obtain ⟨a, b⟩ := st
      simp only at e1 e2 t1 t2 t3 hle' ⊢
      by_cases hb : b = []
      · subst hb; rw [lGo_nil, fGo_nil]
      · have := List.length_pos_iff.mpr hb
        exact lGo_eq hU k m _ a b e2 t1 (by omega) (by omega)
end Mf

namespace Mf
open PySem L2 PyProof.Rows
/-! ### first differences -/
def itOk (x y : Item) : Bool := (x.isNode && y.isNode) || decide (x = y)
/-- the first index at which two rows have unlike items -/
def fuR : Row → Row → Option Nat
  | [], [] => none
  | [], _ :: _ => some 0
  | _ :: _, [] => some 0
  | x :: r, y :: q => if itOk x y = true then (fuR r q).map (· + 1) else some 0
theorem itOk_symm (x y : Item) : itOk x y = itOk y x := by
  unfold itOk
  rw [Bool.and_comm]
  congr 1
  exact decide_eq_decide.mpr ⟨Eq.symm, Eq.symm⟩
theorem fuR_symm : ∀ r q : Row, fuR r q = fuR q r
  | [], [] => rfl
  | [], _ :: _ => rfl
  | _ :: _, [] => rfl
  | x :: r, y :: q => by unfold fuR; rw [itOk_symm, fuR_symm r q]
theorem fuR_self : ∀ r : Row, fuR r r = none
  | [] => rfl
  | x :: r => by unfold fuR; rw [if_pos (by simp [itOk]), fuR_self r]; rfl
theorem fuR_none : ∀ {r q : Row}, fuR r q = none → r.length = q.length ∧ ∀ (i : Nat) (x y : Item), r[i]? = some x → q[i]? = some y → itOk x y = true
  | [], [], _ => ⟨rfl, fun i x y h => by simp at h⟩
  | [], _ :: _, h => by cases h
  | _ :: _, [], h => by cases h
  | x :: r, y :: q, h => by
    unfold fuR at h
    by_cases c : itOk x y = true
    · rw [if_pos c] at h
      have h' : fuR r q = none := by
        cases e : fuR r q with
        | none => rfl
        | some i => rw [e] at h; cases h
      obtain ⟨h1, h2⟩ := fuR_none h'
      refine ⟨by simp [h1], fun i u v hu hv => ?_⟩
      cases i with
      | zero => simp at hu hv; rw [← hu, ← hv]; exact c
      | succ i => exact h2 i u v (by simpa using hu) (by simpa using hv)
    · rw [if_neg c] at h; cases h
theorem fuR_some : ∀ {r q : Row} {i : Nat}, fuR r q = some i → (i < r.length ∨ i < q.length) ∧ i ≤ r.length ∧ i ≤ q.length ∧ (∀ (x y : Item), r[i]? = some x → q[i]? = some y → itOk x y = false) ∧ ∀ (j : Nat) (x y : Item), j < i → r[j]? = some x → q[j]? = some y → itOk x y = true
  | [], [], _, h => by cases h
  | [], y :: q, i, h => by cases h; exact ⟨.inr (by simp), by simp, by simp, by simp, by simp⟩
  | x :: r, [], i, h => by cases h; exact ⟨.inl (by simp), by simp, by simp, by simp, by simp⟩
  | x :: r, y :: q, i, h => by
    unfold fuR at h
    by_cases c : itOk x y = true
    · rw [if_pos c] at h
      cases e : fuR r q with
      | none => rw [e] at h; cases h
      | some j =>
        rw [e] at h
        cases h
        obtain ⟨h1, h2, h3, h4, h5⟩ := fuR_some e
        refine ⟨by simp only [List.length_cons]; omega, by simp only [List.length_cons]; omega, by simp only [List.length_cons]; omega, fun u v hu hv => h4 u v (by simpa using hu) (by simpa using hv), fun k u v hk hu hv => ?_⟩
        have hk : k < j + 1 := hk
        cases k with
        | zero => simp at hu hv; rw [← hu, ← hv]; exact c
        | succ k => exact h5 k u v (by omega) (by simpa using hu) (by simpa using hv)
    · rw [if_neg c] at h
      cases h
      exact ⟨.inl (by simp), by simp, by simp, fun u v hu hv => by simp at hu hv; rw [← hu, ← hv]; simpa using c, fun k u v hk => by omega⟩
abbrev PQ : Type := Nat × Nat × List Nat
def fdAdd (p : List Nat) (i : Nat) (x y : Item) (st : List (Nat × Nat) × List PQ) : List (Nat × Nat) × List PQ := match x, y with
  | .node k, .node m => if (k, m) ∈ st.1 then st else (st.1 ++ [(k, m)], st.2 ++ [(k, m, p ++ [i])])
  | _, _ => st
def fdRow (p : List Nat) : Nat → Row → Row → List (Nat × Nat) × List PQ → List (Nat × Nat) × List PQ
  | i, x :: r, y :: q, st => fdRow p (i + 1) r q (fdAdd p i x y st)
  | _, _, _, st => st
def fdGo (a b : Tbl) : Nat → List (Nat × Nat) → List PQ → Option (List Nat)
  | 0, _, _ => none
  | _ + 1, _, [] => none
  | n + 1, seen, (k, m, p) :: w => match fuR (a.getD k []) (b.getD m []) with
    | some i => some (p ++ [i])
    | none => fdGo a b n (fdRow p 0 (a.getD k []) (b.getD m []) (seen, w)).1 (fdRow p 0 (a.getD k []) (b.getD m []) (seen, w)).2
def fdiff (a b : Tbl) : Option (List Nat) := fdGo a b 2000 [(0, 0)] [(0, 0, [])]
/-- a path along node items of both -/
inductive Lead (a b : Tbl) : List Nat → Nat → Nat → Prop
  | nil : Lead a b [] 0 0
  | step {p : List Nat} {k m k' m' i : Nat} {r q : Row} : Lead a b p k m → a[k]? = some r → b[m]? = some q → r[i]? = some (Item.node k') → q[i]? = some (Item.node m') → Lead a b (p ++ [i]) k' m'
theorem fdAdd_case (p : List Nat) (i : Nat) (x y : Item) (st : List (Nat × Nat) × List PQ) : (fdAdd p i x y st = st ∧ ∀ k m, x = .node k → y = .node m → (k, m) ∈ st.1) ∨ ∃ k m, x = .node k ∧ y = .node m ∧ (k, m) ∉ st.1 ∧ fdAdd p i x y st = (st.1 ++ [(k, m)], st.2 ++ [(k, m, p ++ [i])]) := by
  cases x with
  | node k =>
    cases y with
    | node m =>
      have e : fdAdd p i (.node k) (.node m) st = if (k, m) ∈ st.1 then st else (st.1 ++ [(k, m)], st.2 ++ [(k, m, p ++ [i])]) := rfl
      by_cases c : (k, m) ∈ st.1
      · rw [e, if_pos c]; exact .inl ⟨rfl, fun k' m' h1 h2 => by cases h1; cases h2; exact c⟩
      · rw [e, if_neg c]; exact .inr ⟨k, m, rfl, rfl, c, rfl⟩
    | gap => exact .inl ⟨rfl, fun k' m' _ h => by cases h⟩
    | word s => exact .inl ⟨rfl, fun k' m' _ h => by cases h⟩
    | num s => exact .inl ⟨rfl, fun k' m' _ h => by cases h⟩
  | gap => exact .inl ⟨rfl, fun k' m' h => by cases h⟩
  | word s => exact .inl ⟨rfl, fun k' m' h => by cases h⟩
  | num s => exact .inl ⟨rfl, fun k' m' h => by cases h⟩
/-- what a row adds -/
theorem fdRow_img (p : List Nat) : ∀ (r q : Row) (i : Nat) (st : List (Nat × Nat) × List PQ), ∃ new : List PQ, fdRow p i r q st = (st.1 ++ new.map (fun z => (z.1, z.2.1)), st.2 ++ new) ∧ (∀ z ∈ new, ∃ j : Nat, r[j]? = some (Item.node z.1) ∧ q[j]? = some (Item.node z.2.1) ∧ z.2.2 = p ++ [i + j]) ∧ (st.1.Nodup → (st.1 ++ new.map (fun z => (z.1, z.2.1))).Nodup) ∧ ∀ j k m : Nat, r[j]? = some (Item.node k) → q[j]? = some (Item.node m) → (k, m) ∈ st.1 ++ new.map (fun z => (z.1, z.2.1))
  | [], q, i, st => ⟨[], by cases q <;> simp [fdRow], by simp, by simp, by simp⟩
  | x :: r, [], i, st => ⟨[], by simp [fdRow], by simp, by simp, by simp⟩
  | x :: r, y :: q, i, st => by
    have e : fdRow p i (x :: r) (y :: q) st = fdRow p (i + 1) r q (fdAdd p i x y st) := rfl
    rw [e]
    obtain ⟨new, h1, h2, h3, h4⟩ := fdRow_img p r q (i + 1) (fdAdd p i x y st)
    rw [h1]
    rcases fdAdd_case p i x y st with ⟨ea, hin⟩ | ⟨k, m, rfl, rfl, hn, ea⟩
    · rw [ea] at h3 h4 ⊢
      refine ⟨new, rfl, fun z hz => ?_, h3, fun j k m hk hm => ?_⟩
      · obtain ⟨j, j1, j2, j3⟩ := h2 z hz
        exact ⟨j + 1, by simpa using j1, by simpa using j2, by rw [j3, show i + 1 + j = i + (j + 1) by omega]⟩
      · cases j with
        | zero => simp at hk hm; exact List.mem_append_left _ (hin k m hk hm)
        | succ j => exact h4 j k m (by simpa using hk) (by simpa using hm)
    · rw [ea] at h3 h4 ⊢
      refine ⟨(k, m, p ++ [i]) :: new, by simp, fun z hz => ?_, fun nd => ?_, fun j k' m' hk hm => ?_⟩
      · rcases List.mem_cons.mp hz with rfl | hz
        · exact ⟨0, rfl, rfl, by simp⟩
        · obtain ⟨j, j1, j2, j3⟩ := h2 z hz
          exact ⟨j + 1, by simpa using j1, by simpa using j2, by rw [j3, show i + 1 + j = i + (j + 1) by omega]⟩
      · have := h3 (by
          rw [List.nodup_append]
          exact ⟨nd, by simp, fun u hu v hv e => hn (by rw [List.mem_singleton.mp hv] at e; rw [← e]; exact hu)⟩)
        simpa [List.append_assoc] using this
      · cases j with
        | zero => simp at hk hm; obtain ⟨rfl⟩ := hk; obtain ⟨rfl⟩ := hm; simp
        | succ j =>
          have := h4 j k' m' (by simpa using hk) (by simpa using hm)
          simpa [List.append_assoc] using this
structure FdI (a b : Tbl) (seen : List (Nat × Nat)) (w : List PQ) (n : Nat) : Prop where
  nd : seen.Nodup
  zero : seen[0]? = some (0, 0)
  lt : ∀ z ∈ seen, z.1 < a.length ∧ z.2 < b.length
  lead : ∀ z ∈ w, Lead a b z.2.2 z.1 z.2.1 ∧ (z.1, z.2.1) ∈ seen
  fuel : w.length + (1600 - seen.length) < n
  done : ∀ z ∈ seen, (∃ q ∈ w, (q.1, q.2.1) = z) ∨ (fuR (a.getD z.1 []) (b.getD z.2 []) = none ∧ ∀ j k m : Nat, (a.getD z.1 [])[j]? = some (Item.node k) → (b.getD z.2 [])[j]? = some (Item.node m) → (k, m) ∈ seen)
/-- rows of two tables that go together -/
structure Bis (a b : Tbl) (D : List (Nat × Nat)) : Prop where
  nd : D.Nodup
  zero : D[0]? = some (0, 0)
  lt : ∀ z ∈ D, z.1 < a.length ∧ z.2 < b.length
  row : ∀ z ∈ D, fuR (a.getD z.1 []) (b.getD z.2 []) = none ∧ ∀ j k m : Nat, (a.getD z.1 [])[j]? = some (Item.node k) → (b.getD z.2 [])[j]? = some (Item.node m) → (k, m) ∈ D
theorem pairs_le {a b : Tbl} (ha : a.length ≤ 40) (hb : b.length ≤ 40) {D : List (Nat × Nat)} (nd : D.Nodup) (lt : ∀ z ∈ D, z.1 < a.length ∧ z.2 < b.length) : D.length ≤ 1600 := by
  have := nd_le (l := D) (m := (List.range 40).flatMap fun i => (List.range 40).map fun j => (i, j)) nd fun q hq => by
    obtain ⟨h1, h2⟩ := lt q hq
    exact List.mem_flatMap.mpr ⟨q.1, List.mem_range.mpr (by omega), List.mem_map.mpr ⟨q.2, List.mem_range.mpr (by omega), rfl⟩⟩
  have e : ((List.range 40).flatMap fun i => (List.range 40).map fun j => (i, j)).length = 1600 := by decide +kernel
  omega
theorem getD_some {t : Tbl} {k : Nat} (h : k < t.length) : t[k]? = some (t.getD k []) := by rw [List.getD_eq_getElem?_getD, List.getElem?_eq_getElem h]; rfl
theorem fdGo_step {a b : Tbl} (ta : Tok a) (tb : Tok b) (ha : a.length ≤ 40) (hb : b.length ≤ 40) {seen : List (Nat × Nat)} {k m : Nat} {p : List Nat} {w : List PQ} {n : Nat} (h : FdI a b seen ((k, m, p) :: w) (n + 1)) (ef : fuR (a.getD k []) (b.getD m []) = none) : FdI a b (fdRow p 0 (a.getD k []) (b.getD m []) (seen, w)).1 (fdRow p 0 (a.getD k []) (b.getD m []) (seen, w)).2 n := by
  obtain ⟨new, h1, h2, h3, h4⟩ := fdRow_img p (a.getD k []) (b.getD m []) 0 (seen, w)
  obtain ⟨hl, hin⟩ := h.lead _ List.mem_cons_self
  obtain ⟨k1, m1⟩ := h.lt _ hin
  have ga := getD_some k1
  have gb := getD_some m1
  simp only at h1 h3 h4 hl hin k1 m1 ga gb
  rw [h1]
  have hlt : ∀ z ∈ seen ++ new.map (fun z => (z.1, z.2.1)), z.1 < a.length ∧ z.2 < b.length := fun z hz => by
    rcases List.mem_append.mp hz with q | q
    · exact h.lt z q
    · obtain ⟨u, hu, rfl⟩ := List.mem_map.mp q
      obtain ⟨j, j1, j2, _⟩ := h2 u hu
      exact ⟨ta _ (List.mem_of_getElem? ga) _ (List.mem_of_getElem? j1), tb _ (List.mem_of_getElem? gb) _ (List.mem_of_getElem? j2)⟩
  have hle := pairs_le ha hb (h3 h.nd) hlt
  refine ⟨h3 h.nd, ?_, hlt, fun z hz => ?_, ?_, fun z hz => ?_⟩
  · have h0 := (List.getElem?_eq_some_iff.mp h.zero).1
    simp only
    rw [List.getElem?_append_left h0]
    exact h.zero
  · rcases List.mem_append.mp hz with q | q
    · have := h.lead z (List.mem_cons_of_mem _ q)
      exact ⟨this.1, List.mem_append_left _ this.2⟩
    · obtain ⟨j, j1, j2, j3⟩ := h2 z q
      refine ⟨?_, List.mem_append_right _ (List.mem_map.mpr ⟨z, q, rfl⟩)⟩
      rw [j3, Nat.zero_add]
      exact .step hl ga gb j1 j2
  · have := h.fuel
    simp only [List.length_append, List.length_map, List.length_cons] at this hle ⊢
    omega
  · rcases List.mem_append.mp hz with q | q
    · rcases h.done z q with ⟨u, hu, e⟩ | ⟨g1, g2⟩
      · rcases List.mem_cons.mp hu with rfl | hu
        · rw [← e]
          exact .inr ⟨ef, fun j k' m' hk hm => h4 j k' m' hk hm⟩
        · exact .inl ⟨u, List.mem_append_left _ hu, e⟩
      · exact .inr ⟨g1, fun j k' m' hk hm => List.mem_append_left _ (g2 j k' m' hk hm)⟩
    · obtain ⟨u, hu, e⟩ := List.mem_map.mp q
      exact .inl ⟨u, List.mem_append_right _ hu, e⟩
theorem fdGo_all {a b : Tbl} (ta : Tok a) (tb : Tok b) (ha : a.length ≤ 40) (hb : b.length ≤ 40) : ∀ (n : Nat) (seen : List (Nat × Nat)) (w : List PQ), FdI a b seen w n →
    (∃ p k m i, fdGo a b n seen w = some (p ++ [i]) ∧ Lead a b p k m ∧ k < a.length ∧ m < b.length ∧ fuR (a.getD k []) (b.getD m []) = some i) ∨ (fdGo a b n seen w = none ∧ ∃ D, Bis a b D)
  | 0, seen, w, h => by have := h.fuel; omega
  | n + 1, seen, [], h => by
    refine .inr ⟨rfl, seen, h.nd, h.zero, h.lt, fun z hz => ?_⟩
    rcases h.done z hz with ⟨q, hq, _⟩ | g
    · cases hq
    · exact g
  | n + 1, seen, (k, m, p) :: w, h => by
    unfold fdGo
    cases e : fuR (a.getD k []) (b.getD m []) with
    | some i =>
      obtain ⟨hl, hin⟩ := h.lead _ List.mem_cons_self
      obtain ⟨k1, m1⟩ := h.lt _ hin
      exact .inl ⟨p, k, m, i, rfl, hl, k1, m1, e⟩
    | none => exact fdGo_all ta tb ha hb n _ _ (fdGo_step ta tb ha hb h e)
theorem fd_start {a b : Tbl} (ha : 0 < a.length) (hb : 0 < b.length) : FdI a b [(0, 0)] [(0, 0, [])] 2000 :=
  ⟨by simp, rfl, fun z hz => by rw [List.mem_singleton.mp hz]; exact ⟨ha, hb⟩, fun z hz => by rw [List.mem_singleton.mp hz]; exact ⟨.nil, by simp⟩, by simp, fun z hz => .inl ⟨_, List.mem_singleton_self _, (List.mem_singleton.mp hz).symm⟩⟩
theorem fdiff_all {a b : Tbl} (ta : Tok a) (tb : Tok b) (ha : a.length ≤ 40) (hb : b.length ≤ 40) (ha0 : 0 < a.length) (hb0 : 0 < b.length) :
    (∃ p k m i, fdiff a b = some (p ++ [i]) ∧ Lead a b p k m ∧ k < a.length ∧ m < b.length ∧ fuR (a.getD k []) (b.getD m []) = some i) ∨ (fdiff a b = none ∧ ∃ D, Bis a b D) := fdGo_all ta tb ha hb _ _ _ (fd_start ha0 hb0)
/-! rows that go together: the same canonical rows -/
def pairRow (D : List (Nat × Nat)) : Row → Row → Row
  | x :: r, y :: q => (match x, y with
    | .node k, .node m => Item.node (pos D (k, m))
    | x, _ => x) :: pairRow D r q
  | _, _ => []
theorem pairRow_ren {D : List (Nat × Nat)} : ∀ {r q : Row}, fuR r q = none → (∀ j k m : Nat, r[j]? = some (Item.node k) → q[j]? = some (Item.node m) → (k, m) ∈ D) → (pairRow D r q).map (Item.ren fun i => (D.getD i (0, 0)).1) = r ∧ (pairRow D r q).map (Item.ren fun i => (D.getD i (0, 0)).2) = q ∧ ∀ k, Item.node k ∈ pairRow D r q → k < D.length
  | [], [], _, _ => ⟨rfl, rfl, by simp [pairRow]⟩
  | [], _ :: _, h, _ => by cases h
  | _ :: _, [], h, _ => by cases h
  | x :: r, y :: q, h, hD => by
    have hx := (fuR_none h).2 0 x y rfl rfl
    unfold fuR at h
    rw [if_pos hx] at h
    have h' : fuR r q = none := by
      cases e : fuR r q with
      | none => rfl
      | some i => rw [e] at h; cases h
    obtain ⟨h1, h2, h3⟩ := pairRow_ren (D := D) h' fun j k m hk hm => hD (j + 1) k m (by simpa using hk) (by simpa using hm)
    have same : (∀ k, x ≠ .node k) → x = y := fun hn => by
      unfold itOk at hx
      cases x with
      | node k => exact absurd rfl (hn k)
      | gap => simpa [Item.isNode] using hx
      | word s => simpa [Item.isNode] using hx
      | num s => simpa [Item.isNode] using hx
    have fin : (∀ k, x ≠ .node k) → pairRow D (x :: r) (y :: q) = x :: pairRow D r q → (pairRow D (x :: r) (y :: q)).map (Item.ren fun i => (D.getD i (0, 0)).1) = x :: r ∧ (pairRow D (x :: r) (y :: q)).map (Item.ren fun i => (D.getD i (0, 0)).2) = y :: q ∧ ∀ k, Item.node k ∈ pairRow D (x :: r) (y :: q) → k < D.length := fun hn e => by
      have er : ∀ f, Item.ren f x = x := fun f => by
        cases x with
        | node k => exact absurd rfl (hn k)
        | _ => rfl
      rw [e, List.map_cons, List.map_cons, er, er, h1, h2, ← same hn]
      refine ⟨rfl, rfl, fun k hk => ?_⟩
      rcases List.mem_cons.mp hk with z | z
      · exact absurd z.symm (hn k)
      · exact h3 k z
    cases x with
    | node k =>
      have hy : ∃ m, y = .node m := by
        unfold itOk at hx
        cases y with
        | node m => exact ⟨m, rfl⟩
        | gap => simp [Item.isNode] at hx
        | word s => simp [Item.isNode] at hx
        | num s => simp [Item.isNode] at hx
      obtain ⟨m, rfl⟩ := hy
      have hin := hD 0 k m rfl rfl
      have hg : D.getD (pos D (k, m)) (0, 0) = (k, m) := by
        rw [List.getD_eq_getElem?_getD, get_idx hin]; rfl
      show (Item.node (pos D (k, m)) :: pairRow D r q).map _ = _ ∧ (Item.node (pos D (k, m)) :: pairRow D r q).map _ = _ ∧ _
      rw [List.map_cons, List.map_cons, h1, h2]
      refine ⟨?_, ?_, fun j hj => ?_⟩
      · show Item.node (D.getD (pos D (k, m)) (0, 0)).1 :: r = _
        rw [hg]
      · show Item.node (D.getD (pos D (k, m)) (0, 0)).2 :: q = _
        rw [hg]
      · have hj : Item.node j ∈ Item.node (pos D (k, m)) :: pairRow D r q := hj
        rcases List.mem_cons.mp hj with z | z
        · cases z; exact pos_lt hin
        · exact h3 j z
    | gap => exact fin (fun k e => by cases e) (by cases y <;> rfl)
    | word s => exact fin (fun k e => by cases e) (by cases y <;> rfl)
    | num s => exact fin (fun k e => by cases e) (by cases y <;> rfl)
theorem Bis.canon {a b : Tbl} {D : List (Nat × Nat)} (h : Bis a b D) (ta : Tok a) (tb : Tok b) : canon a = canon b := by
  have hD0 : 0 < D.length := (List.getElem?_eq_some_iff.mp h.zero).1
  let T : Tbl := D.map fun z => pairRow D (a.getD z.1 []) (b.getD z.2 [])
  have hT : ∀ (i : Nat) (r : Row), T[i]? = some r → ∃ z : Nat × Nat, D[i]? = some z ∧ r = pairRow D (a.getD z.1 []) (b.getD z.2 []) := fun i r hr => by
    simp only [T, List.getElem?_map] at hr
    cases e : D[i]? with
    | none => rw [e] at hr; cases hr
    | some z => rw [e] at hr; cases hr; exact ⟨z, rfl, rfl⟩
  have hTl : T.length = D.length := by simp [T]
  have ht : Tok T := fun r hr k hk => by
    obtain ⟨z, hz, rfl⟩ := List.mem_map.mp hr
    rw [hTl]
    exact (pairRow_ren (h.row z hz).1 (h.row z hz).2).2.2 k hk
  have gd : ∀ (i : Nat) (z : Nat × Nat), D[i]? = some z → D.getD i (0, 0) = z := fun i z hz => by rw [List.getD_eq_getElem?_getD, hz]; rfl
  have h1 : Hom T a (fun i => (D.getD i (0, 0)).1) := by
    refine ⟨ht, ta, by omega, fun i hi => ?_, fun i r hr => ?_⟩
    · have hz : D[i]? = some D[i] := List.getElem?_eq_getElem (by omega)
      rw [gd i _ hz]
      exact (h.lt _ (List.mem_of_getElem? hz)).1
    · obtain ⟨z, hz, rfl⟩ := hT i r hr
      have hm := List.mem_of_getElem? hz
      rw [gd i z hz, (pairRow_ren (h.row z hm).1 (h.row z hm).2).1]
      exact getD_some (h.lt z hm).1
  have h2 : Hom T b (fun i => (D.getD i (0, 0)).2) := by
    refine ⟨ht, tb, by omega, fun i hi => ?_, fun i r hr => ?_⟩
    · have hz : D[i]? = some D[i] := List.getElem?_eq_getElem (by omega)
      rw [gd i _ hz]
      exact (h.lt _ (List.mem_of_getElem? hz)).2
    · obtain ⟨z, hz, rfl⟩ := hT i r hr
      have hm := List.mem_of_getElem? hz
      rw [gd i z hz, (pairRow_ren (h.row z hm).1 (h.row z hm).2).2.1]
      exact getD_some (h.lt z hm).2
  have e1 := canon_hom h1 (s := 0) (by omega)
  have e2 := canon_hom h2 (s := 0) (by omega)
  rw [gd 0 _ h.zero] at e1 e2
  show canonAt a 0 = canonAt b 0
  rw [← e1, ← e2]
/-- no difference to itself -/
theorem fdGo_self {a : Tbl} : ∀ (n : Nat) (seen : List (Nat × Nat)) (w : List PQ), (∀ z ∈ w, z.1 = z.2.1) → fdGo a a n seen w = none
  | 0, _, _, _ => rfl
  | n + 1, _, [], _ => rfl
  | n + 1, seen, (k, m, p) :: w, h => by
    have hk : k = m := h _ List.mem_cons_self
    subst hk
    unfold fdGo
    rw [fuR_self]
    simp only
    obtain ⟨new, h1, h2, _⟩ := fdRow_img p (a.getD k []) (a.getD k []) 0 (seen, w)
    rw [h1]
    refine fdGo_self n _ _ fun z hz => ?_
    rcases List.mem_append.mp hz with q | q
    · exact h z (List.mem_cons_of_mem _ q)
    · obtain ⟨j, j1, j2, _⟩ := h2 z q
      rw [j1] at j2
      simpa using j2
theorem fdiff_self (a : Tbl) : fdiff a a = none := fdGo_self _ _ _ (by simp)
/-! both orders -/
def swP (z : Nat × Nat) : Nat × Nat := (z.2, z.1)
def swQ (z : PQ) : PQ := (z.2.1, z.1, z.2.2)
theorem mem_sw {k m : Nat} {l : List (Nat × Nat)} : (m, k) ∈ l.map swP ↔ (k, m) ∈ l := by
  rw [List.mem_map]
  constructor
  · rintro ⟨z, hz, e⟩
    have : z = (k, m) := Prod.ext (Prod.mk.inj e).2 (Prod.mk.inj e).1
    rw [← this]; exact hz
  · intro h; exact ⟨_, h, rfl⟩
theorem fdAdd_sw (p : List Nat) (i : Nat) (x y : Item) (s : List (Nat × Nat)) (w : List PQ) : fdAdd p i y x (s.map swP, w.map swQ) = ((fdAdd p i x y (s, w)).1.map swP, (fdAdd p i x y (s, w)).2.map swQ) := by
  cases x with
  | node k =>
    cases y with
    | node m =>
      have e1 : fdAdd p i (.node m) (.node k) (s.map swP, w.map swQ) = if (m, k) ∈ s.map swP then (s.map swP, w.map swQ) else (s.map swP ++ [(m, k)], w.map swQ ++ [(m, k, p ++ [i])]) := rfl
      have e2 : fdAdd p i (.node k) (.node m) (s, w) = if (k, m) ∈ s then (s, w) else (s ++ [(k, m)], w ++ [(k, m, p ++ [i])]) := rfl
      rw [e1, e2]
      by_cases c : (k, m) ∈ s
      · rw [if_pos c, if_pos (mem_sw.mpr c)]
      · rw [if_neg c, if_neg (fun z => c (mem_sw.mp z))]
        simp [swP, swQ]
    | gap => rfl
    | word _ => rfl
    | num _ => rfl
  | gap => cases y <;> rfl
  | word _ => cases y <;> rfl
  | num _ => cases y <;> rfl
theorem fdRow_sw (p : List Nat) : ∀ (r q : Row) (i : Nat) (s : List (Nat × Nat)) (w : List PQ), fdRow p i q r (s.map swP, w.map swQ) = ((fdRow p i r q (s, w)).1.map swP, (fdRow p i r q (s, w)).2.map swQ)
  | [], q, i, s, w => by cases q <;> rfl
  | x :: r, [], i, s, w => rfl
  | x :: r, y :: q, i, s, w => by
    have e1 : fdRow p i (y :: q) (x :: r) (s.map swP, w.map swQ) = fdRow p (i + 1) q r (fdAdd p i y x (s.map swP, w.map swQ)) := rfl
    have e2 : fdRow p i (x :: r) (y :: q) (s, w) = fdRow p (i + 1) r q (fdAdd p i x y (s, w)) := rfl
    rw [e1, e2, fdAdd_sw, fdRow_sw p r q]
theorem fdGo_sw {a b : Tbl} : ∀ (n : Nat) (s : List (Nat × Nat)) (w : List PQ), fdGo b a n (s.map swP) (w.map swQ) = fdGo a b n s w
  | 0, _, _ => rfl
  | n + 1, _, [] => rfl
  | n + 1, s, (k, m, p) :: w => by
    have e1 : fdGo b a (n + 1) (s.map swP) (((k, m, p) :: w).map swQ) = match fuR (b.getD m []) (a.getD k []) with
      | some i => some (p ++ [i])
      | none => fdGo b a n (fdRow p 0 (b.getD m []) (a.getD k []) (s.map swP, w.map swQ)).1 (fdRow p 0 (b.getD m []) (a.getD k []) (s.map swP, w.map swQ)).2 := rfl
    have e2 : fdGo a b (n + 1) s ((k, m, p) :: w) = match fuR (a.getD k []) (b.getD m []) with
      | some i => some (p ++ [i])
      | none => fdGo a b n (fdRow p 0 (a.getD k []) (b.getD m []) (s, w)).1 (fdRow p 0 (a.getD k []) (b.getD m []) (s, w)).2 := rfl
    rw [e1, e2, fuR_symm]
    cases fuR (a.getD k []) (b.getD m []) with
    | some i => rfl
    | none =>
      simp only
      rw [fdRow_sw]
      exact fdGo_sw n _ _
theorem fdiff_symm (a b : Tbl) : fdiff b a = fdiff a b := fdGo_sw 2000 [(0, 0)] [(0, 0, [])]
end Mf

namespace Mf
open PySem L2 PyProof.Rows
theorem fGo_congr {rd cl : Str → List Str} {hurt hurt' : List Str} (hh : ∀ z, z ∈ hurt ↔ z ∈ hurt') : ∀ (n : Nat) (seen seen' : List Str) (w : List (List Str)), (∀ z, z ∈ seen ↔ z ∈ seen') → fGo rd cl hurt n seen w = fGo rd cl hurt' n seen' w
  | 0, _, _, _, _ => rfl
  | n + 1, _, _, [], _ => rfl
  | n + 1, seen, seen', p :: w, hs => by
    unfold fGo
    have e : (fun z => decide (z ∈ hurt)) = fun z => decide (z ∈ hurt') := funext fun z => decide_eq_decide.mpr (hh z)
    rw [e]
    cases (rd (lastS p)).find? (fun z => decide (z ∈ hurt')) with
    | some z => rfl
    | none =>
      simp only
      have gen : ∀ (cs s s' : List Str) (w : List (List Str)), (∀ z, z ∈ s ↔ z ∈ s') → (cs.foldl (fAdd p) (s, w)).2 = (cs.foldl (fAdd p) (s', w)).2 ∧ ∀ z, z ∈ (cs.foldl (fAdd p) (s, w)).1 ↔ z ∈ (cs.foldl (fAdd p) (s', w)).1 := by
        intro cs
        induction cs with
        | nil => intro s s' w h; exact ⟨rfl, h⟩
        | cons c cs ih =>
          intro s s' w h
          rw [List.foldl_cons, List.foldl_cons]
          have e : ∀ s, fAdd p (s, w) c = if c ∈ s then (s, w) else (s ++ [c], w ++ [p ++ [c]]) := fun s => rfl
          rw [e, e]
          by_cases q : c ∈ s
          · rw [if_pos q, if_pos ((h c).mp q)]; exact ih s s' w h
          · rw [if_neg q, if_neg (fun z => q ((h c).mpr z))]
            exact ih _ _ _ fun z => by rw [List.mem_append, List.mem_append, h z]
      obtain ⟨h1, h2⟩ := gen (cl (lastS p)) seen seen' w hs
      rw [h1]
      exact fGo_congr hh n _ _ _ h2
theorem Walk.head {cl : Str → List Str} {safe : List Str} {x : Str} {p : List Str} (h : Walk cl safe x p) : p[0]? = some x := by
  induction h with
  | one => rfl
  | @step p c h1 _ _ ih => rw [List.getElem?_append_left (List.length_pos_iff.mpr h1.ne)]; exact ih
theorem Walk.safe {cl : Str → List Str} {safe : List Str} {x : Str} {p : List Str} (h : Walk cl safe x p) (hx : x ∉ safe) : ∀ y ∈ p, y ∉ safe := by
  induction h with
  | one => intro y hy; rw [List.mem_singleton.mp hy]; exact hx
  | @step p c h1 h2 h3 ih =>
    intro y hy
    rcases List.mem_append.mp hy with q | q
    · exact ih y q
    · rw [List.mem_singleton.mp q]; exact h3
theorem lastS_get {p : List Str} (h : p ≠ []) : p[p.length - 1]? = some (lastS p) := by
  unfold lastS
  rw [List.getLast?_eq_getElem?, List.getElem?_eq_getElem (by have := List.length_pos_iff.mpr h; omega)]
  rfl
theorem Walk.links {cl : Str → List Str} {safe : List Str} {x : Str} {p : List Str} (h : Walk cl safe x p) : ∀ i a b, p[i]? = some a → p[i + 1]? = some b → b ∈ cl a := by
  induction h with
  | one => intro i a b _ h2; simp at h2
  | @step p c h1 h2 h3 ih =>
    intro i a b ha hb
    have hl : 0 < p.length := List.length_pos_iff.mpr h1.ne
    by_cases q : i + 1 < p.length
    · rw [List.getElem?_append_left (by omega)] at ha
      rw [List.getElem?_append_left q] at hb
      exact ih i a b ha hb
    · have hi := (List.getElem?_eq_some_iff.mp hb).1
      simp only [List.length_append, List.length_cons, List.length_nil] at hi
      have ei : i = p.length - 1 := by omega
      rw [List.getElem?_append_left (by omega), ei, lastS_get h1.ne] at ha
      rw [List.getElem?_append_right (by omega), show i + 1 - p.length = 0 by omega] at hb
      cases ha
      cases hb
      exact h2
theorem Walk.names {ps : List Prc} (hg : Good ps) {safe : List Str} {x : Str} (hx : x ∈ nms ps) {p : List Str} (h : Walk (cls1 ps) safe x p) : ∀ y ∈ p, y ∈ nms ps := by
  induction h with
  | one => intro y hy; rw [List.mem_singleton.mp hy]; exact hx
  | @step p c h1 h2 h3 ih =>
    intro y hy
    rcases List.mem_append.mp hy with q | q
    · exact ih y q
    · rw [List.mem_singleton.mp q]; exact cls1_in hg (ih _ (last_mem h1.ne)) h2
theorem forL_app {α S : Type} {f : α → S → Option S} : ∀ (as bs : List α) (s : S), forL f (as ++ bs) s = (forL f as s).bind fun s' => forL f bs s'
  | [], bs, s => rfl
  | a :: as, bs, s => by
    have e1 : forL f (a :: as ++ bs) s = (f a s).bind fun s' => forL f (as ++ bs) s' := rfl
    have e2 : forL f (a :: as) s = (f a s).bind fun s' => forL f as s' := rfl
    rw [e1, e2]
    cases f a s with
    | none => rfl
    | some s' => exact forL_app as bs s'
theorem layL_len {cl : Str → List Str} {safe : List Str} {d : Nat} : ∀ (L : List (List Str)) (seen : List Str) (w : List (List Str)), (∀ p ∈ L, p.length = d) → (∀ p ∈ w, p.length = d + 1 ∧ lastS p ∉ safe) → ∀ p ∈ (layL cl safe L (seen, w)).2, p.length = d + 1 ∧ lastS p ∉ safe
  | [], seen, w, _, h => h
  | p :: L, seen, w, hL, h => by
    have gen : ∀ (cs seen : List Str) (w : List (List Str)), (∀ q ∈ w, q.length = d + 1 ∧ lastS q ∉ safe) → ∀ q ∈ (cs.foldl (fAddL safe p) (seen, w)).2, q.length = d + 1 ∧ lastS q ∉ safe := by
      intro cs
      induction cs with
      | nil => intro seen w h; exact h
      | cons c cs ih =>
        intro seen w h
        rw [List.foldl_cons]
        have e2 : fAddL safe p (seen, w) c = if c ∉ seen ∧ c ∉ safe then (seen ++ [c], w ++ [p ++ [c]]) else (seen, w) := rfl
        rw [e2]
        by_cases q : c ∉ seen ∧ c ∉ safe
        · rw [if_pos q]
          refine ih _ _ fun z hz => ?_
          rcases List.mem_append.mp hz with y | y
          · exact h z y
          · rw [List.mem_singleton.mp y, lastS_snoc]
            exact ⟨by have := hL p List.mem_cons_self; simp [this], q.2⟩
        · rw [if_neg q]; exact ih _ _ h
    have e2 : layL cl safe (p :: L) (seen, w) = layL cl safe L ((cl (lastS p)).foldl (fAddL safe p) (seen, w)) := rfl
    rw [e2]
    have := gen (cl (lastS p)) seen w h
    generalize (cl (lastS p)).foldl (fAddL safe p) (seen, w) = st at this
    obtain ⟨a, b⟩ := st
    exact layL_len L a b (fun q hq => hL q (List.mem_cons_of_mem _ hq)) this
theorem fGo_len {rd cl : Str → List Str} {hurt : List Str} : ∀ (n : Nat) (seen : List Str) (w : List (List Str)) (p : List Str) (z : Str), fGo rd cl hurt n seen w = some (p, z) → (∀ q ∈ w, q.length + n ≤ 101) → p.length ≤ 100
  | 0, _, _, _, _, h, _ => by cases h
  | n + 1, _, [], _, _, h, _ => by cases h
  | n + 1, seen, q :: w, p, z, h, hw => by
    unfold fGo at h
    have hq := hw q List.mem_cons_self
    cases e : (rd (lastS q)).find? (fun z => decide (z ∈ hurt)) with
    | some y =>
      rw [e] at h
      cases h
      omega
    | none =>
      rw [e] at h
      simp only at h
      obtain ⟨new, h1, _⟩ := fAdds (p := q) (cl (lastS q)) seen w
      rw [h1] at h
      refine fGo_len n _ _ p z h fun r hr => ?_
      rcases List.mem_append.mp hr with a | a
      · have := hw r (List.mem_cons_of_mem _ a); omega
      · obtain ⟨c, _, rfl⟩ := List.mem_map.mp a
        simp
        omega
end Mf

namespace Mf
open PySem L2 PySem.Spec PyProof.Rows
/-! ### name = {k: v for ..} on one line, the name a local -/
section
variable {X : Cx}
theorem ps_setDc {i : Nat} {y : Str} {py : Pos} {kx vx tg iter : Expr} {ifs : List Expr} {scope : Scope} {own : List (Str × Nat)} {pos spos : Pos} {wi : TI} {g : TG} {tt : TT} {tk tv : TE} (hc : X.calm = true) (hN : X.N.Nodup) (hy : X.N[i]? = some y) (hyl : X.env.scope.names.lookup y = some .local)
    (hsw : swapsWith (.DictComp kx vx [⟨tg, iter, ifs, 0⟩] scope pos) (some (.Name y py)) spos.line X.env = pure true) (hi : PI X tg iter wi) (ok : BlkOk X.N X.env.scope scope own)
    (hg : ∀ (s : Shared) (H : Hp) (C : Addr) (cl : List (Str × Addr)) (fp : List Addr), PG (X.blk s H scope (compEnvC scope cl C X.env) fp) tg g) (ht : ∀ (s : Shared) (H : Hp) (C : Addr) (cl : List (Str × Addr)) (fp : List Addr), PTs (X.blk s H scope (compEnvC scope cl C X.env) fp) ifs tt)
    (hk : ∀ (s : Shared) (H : Hp) (C : Addr) (cl : List (Str × Addr)) (fp : List Addr), PE (X.blk s H scope (compEnvC scope cl C X.env) fp) kx tk)
    (he : ∀ (s : Shared) (H : Hp) (C : Addr) (cl : List (Str × Addr)) (fp : List Addr), PE (X.blk s H scope (compEnvC scope cl C X.env) fp) vx tv) (hs : ∀ x, foldedSetIterable iter X.env x = pure x := by intro _; rfl) :
    PS X (.Assign [.Name y py] (.DictComp kx vx [⟨tg, iter, ifs, 0⟩] scope pos) spos) (tAsg (tDc wi g tt tk tv (own.map (·.2))) (gName i)) := by
  refine ⟨fun pins s σ H D I h => ?_⟩
  rw [exec_Assign_Name_used _ _ _ _ hsw]
  refine wpAny_bind (wpAny_standAt (wpAny_bind ?_))
  show wpAny _ X.A (do let _ ← comprehension (.DictComp kx vx [⟨tg, iter, ifs, 0⟩] scope pos) scope X.env (firstIterPos [⟨tg, iter, ifs, 0⟩] pos) newDict false (eval iter X.env) (some (assign (.Name y py) X.env))) _ _ s
  have h : tDc wi g tt tk tv (own.map (·.2)) σ H (fun x H1 => gName i x σ H1 D.nx) := h
  refine wpAny_bind (thn (dc_core (Qf := fun _ s' => SP X pins D .next s') hc hN I hi ok hg ht hk he hs h fun L C s' m H' I' q hn f => ?_) fun _ s' hq => wpAny_pure (wpAny_pure hq))
  show wpAny _ _ (assign (.Name y py) X.env (.ref L)) _ _ _
  refine wpAny_assign_Name (store_ok2 (v := V.ref L) I' hN hy (.inl hyl) rfl (fun s2 I2 ⟨a, sb, ha⟩ => ?_) (.inr hyl))
  obtain ⟨f0, f1, f2, f3, f4, f5⟩ := f
  have haC : C ≠ a := by
    rcases ha with z | z
    · rw [z]; exact f1
    · exact fun e => f4 y a z e.symm
  refine ⟨m, hn.sameBut sb haC, fun h3 sb3 => ?_⟩
  exact ⟨_, H', I2.turned (t' := s2.toks) (fun b o hb e => (sb3.2 b hb).trans e) f0 f1 f3 f4 f5, q⟩
theorem sw_trueD {kx vx : Expr} {gs : List Comprehension} {scope : Scope} {pos py : Pos} {y : Str} {l : Nat} {env : Env} (hk : env.scope.kind = .function) (hy : env.scope.names.lookup y = some .local) (hl : (py.line == pos.line) = true)
    (ha : (scope.names.any fun (n, k) => n == y && (k == .local || k == .cell)) = false) : swapsWith (.DictComp kx vx gs scope pos) (some (.Name y py)) l env = pure true := by
  have ky : env.kindOf y = some .local := hy
  have hb : env.blockKind = .function := by unfold Env.blockKind; rw [hk]; rfl
  unfold swapsWith
  simp only [hb, ky, ha, Expr.pos, hl]
  rfl
end
/-! ### enumerate of a tuple -/
theorem meets_enum_new0 {v : Value} {o : Obj} {H : Heap → Prop} (B : Begins v o H) :
    Meets (Builtin.«enumerate.__new__» ⟨[.type "enumerate", v], []⟩) (fun _ R s => H s.heap ∧
      R (.ok (.ret (.ref (s.heap.push o).objs.size))) { s with heap := (s.heap.push o).push { cls := .type "enumerate", data := .fields #[.none, .bool false, .ref s.heap.objs.size, rawInt 0, .none, .none] } }) :=
  .of_wp fun prog w A R s h => by
    obtain ⟨hp, g, d, tk, os⟩ := s; obtain ⟨h1, h⟩ := h
    have hsub := sub_enumerate
    have q1 : ∀ {A' : Around} {E : Value → Shared → Prop} {Q : Value → Shared → Prop}, Q (.ref hp.objs.size) ⟨hp.push o, g, d, tk, os⟩ → wpAny (model prog w) A' (pyIter v) Q E ⟨hp, g, d, tk, os⟩ :=
      fun q => B.iter prog w _ _ ⟨hp, g, d, tk, os⟩ _ h1 q
    wp_walk using q1
    refine wpAny_stack_any fun st => wpAny_pure ?_
    split
    · rename_i c _ _ _ _ _
      cases (c == Value.type "enumerate")
      · wp_walk using q1
        exact ⟨_, rfl, h⟩
      · wp_walk using q1
        exact ⟨_, rfl, h⟩
    · wp_walk using q1
      exact ⟨_, rfl, h⟩
section
variable {prog : Program} {w : World} {A : Around} {E : Value → Shared → Prop} {s : Shared}
theorem enum_begins0 {v : Value} {o : Obj} {H : Heap → Prop} {Q : Value → Shared → Prop} (B : Begins v o H) (h1 : H s.heap)
    (h : ∀ h', IsEnum h' (s.heap.objs.size + 1) s.heap.objs.size 0 .none → h'.get? s.heap.objs.size = some o → h'.objs.size = s.heap.objs.size + 2 →
      (∀ b o, s.heap.get? b = some o → h'.get? b = some o) → Q (.ref (s.heap.objs.size + 1)) { s with heap := h' }) :
    wpAny (model prog w) A (call (.type "enumerate") [v]) Q E s := by
  refine callType_new F.called_enumerate (by decide) (F.typeCall_enumerate_1 _) (F.newCall_enumerate_1 _) (fun obj => F.args_object_init_2 obj _) F.entry_enumerate_new
    (meets_enum_new0 B) ⟨h1, ?_⟩
  have hz : (s.heap.push o).objs.size = s.heap.objs.size + 1 := Heap.size_push ..
  show _ ∧ _
  rw [hz]
  have he : IsEnum ((s.heap.push o).push { cls := .type "enumerate", data := .fields #[.none, .bool false, .ref s.heap.objs.size, rawInt 0, .none, .none] }) (s.heap.objs.size + 1) s.heap.objs.size 0 .none := by
    have := Heap.get?_push_size (s.heap.push o) (o := { cls := .type "enumerate", data := .fields #[.none, .bool false, .ref s.heap.objs.size, rawInt 0, .none, .none] }) rfl
    rw [hz] at this; exact this
  refine ⟨⟨_, he, rfl⟩, h _ he (Heap.get?_push_of_some _ (Heap.get?_push_size _ B.free)) (by rw [Heap.size_push, hz]) fun b o x => Heap.get?_push_of_some _ (Heap.get?_push_of_some _ x)⟩
end
def iEnumQ (K : PySem.W.Frag) (ta : TA) : TI := fun σ H R => ta σ H fun vs H1 => ∃ a xs b, vs = [.ref a] ∧ SqB K b H1 a xs ∧ R (IteS K b a 0) H1
theorem k_iEQ {X : Cx} (K : PySem.W.Frag) {e : Expr} {ta : TA} {p pos tpos : Pos} {elts : List Expr} {kk : Nat} (hg : Gl X "enumerate") (hm : X.mg "enumerate" = none) (ha : PA X [e] ta) (hs : starEach [e] X.env = [(false, eval e X.env)] := by rfl) (hK : X.K = K := by rfl) :
    PI X (.Tuple elts kk tpos) (.Call (.Name "enumerate" p) [e] [] pos) (iEnumQ K ta) := by
  subst hK
  refine ⟨fun pins s σ H R I h => ?_⟩
  refine Call_ (ld_blt I hg hm boot_enumerate (PyProof.Rows.callWith_type1 (thn (ha.run pos pins s σ H _ I h) fun us s2 ⟨vs, H2, I2, r1, q1⟩ => ?_) hs rfl))
  obtain ⟨a, xs, b, ex, hq, q⟩ := q1
  subst ex
  cases r1 with
  | cons r rr =>
    cases rr
    cases r
    have fin : ∀ h', IsEnum h' (s2.heap.objs.size + 1) s2.heap.objs.size 0 .none → IsItB b h' s2.heap.objs.size a 0 → (∀ b o, s2.heap.get? b = some o → h'.get? b = some o) →
        wpAny (model X.prog X.w) X.A (pyIter (.ref (s2.heap.objs.size + 1))) (PIE X pins σ (.Tuple elts kk tpos) R) X.xe { s2 with heap := h' } := fun h' hen hi hkp => by
      refine wpAny_pyIter_enum hen ?_
      have I3 : Inv X pins σ H2 { s2 with heap := h' } := I2.kept (t' := s2.toks) hkp
      refine ⟨s2.heap.objs.size + 1, [s2.heap.objs.size + 1, s2.heap.objs.size], _, _, H2, rfl, I3, turn_enumS b a (s2.heap.objs.size + 1) s2.heap.objs.size 0, ⟨⟨.none, by simpa using hen⟩, hi, Nat.succ_ne_self _⟩, fun b hb => ?_, q⟩
      have e' : b = s2.heap.objs.size + 1 ∨ b = s2.heap.objs.size := by simpa using hb
      have hle : s2.heap.objs.size ≤ b := by
        rcases e' with z | z
        · rw [z]; exact Nat.le_add_right _ _
        · rw [z]; exact Nat.le_refl _
      exact I2.fpOk hle (I2.hok.fresh hle)
    cases b with
    | false =>
      obtain ⟨its, rv, p', hz⟩ := I2.list (show SqL X.K H2 a xs from hq)
      exact enum_begins0 (begins_list a its.toArray) p'.isList fun h' hen hit hsz hkp => fin h' hen ⟨_, hit, rfl, rfl⟩ hkp
    | true =>
      obtain ⟨its, rv, p', hz⟩ := I2.tuple (show SqT X.K H2 a xs from hq)
      exact enum_begins0 (begins_tuple a its.toArray) p' fun h' hen hit hsz hkp => fin h' hen ⟨_, hit, rfl, rfl⟩ hkp
section
variable {K : PySem.W.Frag} {α : Type} {R : Rl α} {B : Hp} {as : List α} {v : V}
def WEQ (K : PySem.W.Frag) (R' : It → Hp → Prop) (vs : List V) (H : Hp) : Prop := ∃ a xs b, vs = [.ref a] ∧ SqB K b H a xs ∧ R' (IteS K b a 0) H
theorem x_iEQ {σ : L2.St} {H : Hp} {ta : TA} {R' : It → Hp → Prop} (g : ta σ H fun vs H1 => WEQ K R' vs H1) : iEnumQ K ta σ H R' := g
theorem w_itEQ {R' : It → Hp → Prop} {H : Hp} (h : (dSeq K R).rel B as v) (s : Same B H) (g : ∀ J, ItOk J B B (enumM 0 as) (dPair K dInt R) → R' J H) : WEQ K R' [v] H := by
  obtain ⟨a, xs, b, k, e1, e2, _, hq, hr⟩ := w_itES (K := K) (k := 0) (R' := R') (by decide) h s g
  cases e2
  exact ⟨a, xs, b, e1, hq, hr⟩
end
end Mf

namespace Mf
open PySem L2 PyProof.Rows
/-! ### what a plain run gives in a world -/
theorem pIt_congr {nu nu' : Str → Int} {bad bad' safe : List Str} {c : Bool} {o : List Own} {s : Stp} (hn : s.1 = Str.ofString "read" → nu s.2 = nu' s.2) (hb : ∀ y, y ∈ bad ↔ y ∈ bad') : pIt nu bad safe c o s = pIt nu' bad' safe c o s := by
  unfold pIt
  by_cases h1 : s.1 = Str.ofString "read"
  · rw [if_pos h1, if_pos h1, hn h1]
  · rw [if_neg h1, if_neg h1]
    have e : (s.2 ∈ bad ∧ c = false) ↔ (s.2 ∈ bad' ∧ c = false) := by rw [hb]
    by_cases h2 : s.2 ∈ bad ∧ c = false
    · rw [if_pos h2, if_pos (e.mp h2)]
    · rw [if_neg h2, if_neg (fun z => h2 (e.mpr z))]
theorem pRow_congr {nu nu' : Str → Int} {bad bad' safe : List Str} {c : Bool} (hb : ∀ y, y ∈ bad ↔ y ∈ bad') : ∀ {b : List Stp} {o : List Own}, (∀ s ∈ b, s.1 = Str.ofString "read" → nu s.2 = nu' s.2) → pRow nu bad safe c o b = pRow nu' bad' safe c o b
  | [], _, _ => rfl
  | s :: b, o, h => by
    unfold pRow
    rw [pIt_congr (h s List.mem_cons_self) hb, pRow_congr hb fun s' hs => h s' (List.mem_cons_of_mem _ hs)]
theorem pGo_congr {ps : List Prc} (hg : Good ps) {nu nu' : Str → Int} {bad bad' safe : List Str} (hn : ∀ z ∈ places ps, nu z = nu' z) (hb : ∀ y, y ∈ bad ↔ y ∈ bad') : ∀ {n : Nat} {acc : Tbl} {o : List Own}, PO ps o → pGo (bodyOf ps) nu bad safe n acc o = pGo (bodyOf ps) nu' bad' safe n acc o
  | 0, _, _, _ => rfl
  | n + 1, acc, o, ho => by
    unfold pGo
    cases e : o[acc.length]? with
    | none => rfl
    | some q =>
      simp only
      have hq := ho.sub q (List.mem_of_getElem? e)
      have er : pRow nu bad safe q.2 o (bodyOf ps q.1) = pRow nu' bad' safe q.2 o (bodyOf ps q.1) := pRow_congr hb fun s hs hr => hn _ (rds_places hg hq (mem_rdOf.mpr (by rw [← hr]; exact hs)))
      rw [er]
      exact pGo_congr hg hn hb (pRow_po (nu := nu') (bad := bad') (safe := safe) (c := q.2) (fun s hs => hg.step _ (body_of hg hq).2 s hs) ho).1
theorem plainT_congr {ps : List Prc} (hg : Good ps) {x : Str} (hx : x ∈ nms ps) {nu nu' : Str → Int} {bad bad' safe : List Str} (hn : ∀ z ∈ places ps, nu z = nu' z) (hb : ∀ y, y ∈ bad ↔ y ∈ bad') : plainT (bodyOf ps) nu bad safe x = plainT (bodyOf ps) nu' bad' safe x :=
  pGo_congr hg hn hb ⟨by simp, fun q hq => by rw [List.mem_singleton.mp hq]; exact hx⟩
open Classical in
/-- the bad procedures, as a list -/
noncomputable def bdL (ps : List Prc) (hurt safe : List Str) : List Str := (nms ps).filter fun y => decide (Bad ps hurt safe y)
open Classical in
theorem mem_bdL {ps : List Prc} {hurt safe : List Str} {y : Str} : y ∈ bdL ps hurt safe ↔ Bad ps hurt safe y := by
  unfold bdL
  rw [List.mem_filter, decide_eq_true_iff]
  exact ⟨fun h => h.2, fun h => ⟨h.out.1, h⟩⟩
/-- the rows in a world, or none where the run fails -/
noncomputable def wout (ps : List Prc) (nu : Str → Int) (x : Str) (hurt : List Str) : Option Tbl := if x ∈ bdL ps hurt [] then none else some (canon (plainT (bodyOf ps) nu (bdL ps hurt []) [] x))
theorem bad_places {ps : List Prc} (hg : Good ps) {hurt hurt' safe : List Str} (h : ∀ z ∈ places ps, z ∈ hurt ↔ z ∈ hurt') {y : Str} : Bad ps hurt safe y ↔ Bad ps hurt' safe y := by
  have go : ∀ {hurt hurt' : List Str}, (∀ z ∈ places ps, z ∈ hurt ↔ z ∈ hurt') → ∀ {y}, Bad ps hurt safe y → Bad ps hurt' safe y := fun {hurt hurt'} h {y} hb => by
    induction hb with
    | @read y z h1 h2 h3 h4 => exact .read h1 h2 h3 ((h z (rds_places hg h1 (mem_rdOf.mpr h3))).mp h4)
    | call h1 h2 h3 _ ih => exact .call h1 h2 h3 ih
  exact ⟨go h, go fun z hz => (h z hz).symm⟩
/-- how two outcomes of a world part -/
def pcmp (h : List Str) : Option Tbl → Option Tbl → Option (List Str × List Nat)
  | none, none => none
  | some a, some b => (fdiff a b).map fun p => (h, p)
  | _, _ => some (h, [])
def worldsOf (pl : List Str) : List (List Str) := [] :: pl.map fun z => [z]
end Mf

namespace Mf
open PySem L2 PyProof.Rows
/-! ### programs with other names -/
def rnS (ρ : Str → Str) (s : Stp) : Stp := if s.1 ∈ calls then (s.1, ρ s.2) else s
structure Ren (ps qs : List Prc) (ρ : Str → Str) : Prop where
  good1 : Good ps
  good2 : Good qs
  inj : ∀ a ∈ nms ps, ∀ b ∈ nms ps, ρ a = ρ b → a = b
  mem : ∀ x, x ∈ nms ps → ρ x ∈ nms qs
  onto : ∀ y ∈ nms qs, ∃ x ∈ nms ps, ρ x = y
  body : ∀ x ∈ nms ps, bodyOf qs (ρ x) = (bodyOf ps x).map (rnS ρ)
section
variable {ps qs : List Prc} {ρ : Str → Str}
theorem rnS_fst (s : Stp) : (rnS ρ s).1 = s.1 := by unfold rnS; split <;> rfl
theorem rnS_no {s : Stp} (h : s.1 ∉ calls) : rnS ρ s = s := by unfold rnS; rw [if_neg h]
theorem rnS_yes {s : Stp} (h : s.1 ∈ calls) : rnS ρ s = (s.1, ρ s.2) := by unfold rnS; rw [if_pos h]
theorem read_nocall : Str.ofString "read" ∉ calls ∧ Str.ofString "say" ∉ calls ∧ Str.ofString "call" ∈ calls ∧ Str.ofString "try" ∈ calls := by decide +kernel
theorem Ren.read (h : Ren ps qs ρ) {x : Str} (hx : x ∈ nms ps) {z : Str} : (Str.ofString "read", z) ∈ bodyOf qs (ρ x) ↔ (Str.ofString "read", z) ∈ bodyOf ps x := by
  rw [h.body x hx, List.mem_map]
  constructor
  · rintro ⟨s, hs, e⟩
    have e1 : s.1 = Str.ofString "read" := by rw [← rnS_fst (ρ := ρ) s, e]
    rw [rnS_no (by rw [e1]; exact read_nocall.1)] at e
    rw [← e]; exact hs
  · intro hz
    exact ⟨_, hz, rnS_no read_nocall.1⟩
theorem Ren.call (h : Ren ps qs ρ) {x : Str} (hx : x ∈ nms ps) {y : Str} : (Str.ofString "call", y) ∈ bodyOf qs (ρ x) ↔ ∃ z, (Str.ofString "call", z) ∈ bodyOf ps x ∧ ρ z = y := by
  rw [h.body x hx, List.mem_map]
  constructor
  · rintro ⟨s, hs, e⟩
    have e1 : s.1 = Str.ofString "call" := by rw [← rnS_fst (ρ := ρ) s, e]
    rw [rnS_yes (by rw [e1]; exact read_nocall.2.2.1)] at e
    refine ⟨s.2, ?_, (Prod.mk.inj e).2⟩
    rw [← e1]; exact hs
  · rintro ⟨z, hz, rfl⟩
    exact ⟨_, hz, rnS_yes read_nocall.2.2.1⟩
theorem Ren.bad (h : Ren ps qs ρ) {hurt : List Str} {x : Str} (hx : x ∈ nms ps) : Bad qs hurt [] (ρ x) ↔ Bad ps hurt [] x := by
  constructor
  · intro hb
    have gen : ∀ y, Bad qs hurt [] y → ∀ x ∈ nms ps, ρ x = y → Bad ps hurt [] x := by
      intro y hb
      induction hb with
      | @read y z h1 h2 h3 h4 =>
        rintro x hx rfl
        exact .read hx (by simp) ((h.read hx).mp h3) h4
      | @call y q h1 h2 h3 h4 ih =>
        rintro x hx rfl
        obtain ⟨z, hz, e⟩ := (h.call hx).mp h3
        have hzn : z ∈ nms ps := (h.good1.step _ (body_of h.good1 hx).2 _ hz).2.2 read_nocall.2.2.1
        exact .call hx (by simp) hz (ih z hzn e)
    exact gen _ hb x hx rfl
  · intro hb
    clear hx
    induction hb with
    | @read y z h1 h2 h3 h4 => exact .read (h.mem _ h1) (by simp) ((h.read h1).mpr h3) h4
    | @call y q h1 h2 h3 h4 ih => exact .call (h.mem _ h1) (by simp) ((h.call h1).mpr ⟨_, h3, rfl⟩) ih
def rnO (ρ : Str → Str) (q : Own) : Own := (ρ q.1, q.2)
theorem Ren.pit (h : Ren ps qs ρ) {nu : Str → Int} {bad bad' : List Str} (hb : ∀ x ∈ nms ps, ρ x ∈ bad' ↔ x ∈ bad) {o : List Own} (ho : PO ps o) {s : Stp} (hs : GoodStp (nms ps) s) {c : Bool} : pIt nu bad' [] c (o.map (rnO ρ)) (rnS ρ s) = ((pIt nu bad [] c o s).1, (pIt nu bad [] c o s).2.map (rnO ρ)) := by
  unfold pIt
  rw [rnS_fst]
  by_cases h1 : s.1 = Str.ofString "read"
  · rw [if_pos h1, if_pos h1, rnS_no (by rw [h1]; exact read_nocall.1)]
  · rw [if_neg h1, if_neg h1]
    by_cases h2 : s.1 = Str.ofString "say"
    · rw [if_pos h2, if_pos h2, rnS_no (by rw [h2]; exact read_nocall.2.1)]
    · rw [if_neg h2, if_neg h2]
      have hc : s.1 ∈ calls := by
        rcases kinds_four hs.1 with q | q | q
        · exact absurd q h1
        · exact absurd q h2
        · exact q
      have hin := hs.2.2 hc
      rw [rnS_yes hc]
      simp only
      by_cases h3 : s.2 ∈ bad ∧ c = false
      · rw [if_pos h3, if_pos ⟨(hb _ hin).mpr h3.1, h3.2⟩]
      · rw [if_neg h3, if_neg (fun z => h3 ⟨(hb _ hin).mp z.1, z.2⟩)]
        have en : ∀ w : Str, (c || decide (w ∈ ([] : List Str))) = c := fun w => by simp
        rw [en, en]
        have hinj : ∀ a ∈ o, rnO ρ a = rnO ρ (s.2, c) → a = (s.2, c) := fun a ha e => by
          have e1 := (Prod.mk.inj e).1
          have e2 := (Prod.mk.inj e).2
          exact Prod.ext (h.inj _ (ho.sub a ha) _ hin e1) e2
        have hm : (ρ s.2, c) ∈ o.map (rnO ρ) ↔ (s.2, c) ∈ o := by
          rw [List.mem_map]
          constructor
          · rintro ⟨a, ha, e⟩
            rw [← hinj a ha e]; exact ha
          · intro hz; exact ⟨_, hz, rfl⟩
        have ep : push1 (o.map (rnO ρ)) (ρ s.2, c) = (push1 o (s.2, c)).map (rnO ρ) := by
          unfold push1
          by_cases q : (s.2, c) ∈ o
          · rw [if_pos q, if_pos (hm.mpr q)]
          · rw [if_neg q, if_neg (fun z => q (hm.mp z))]
            simp [rnO]
        rw [ep]
        have hpos : pos ((push1 o (s.2, c)).map (rnO ρ)) (ρ s.2, c) = pos (push1 o (s.2, c)) (s.2, c) := pos_map (φ := rnO ρ) fun a ha e => by
          rcases push1_mem.mp ha with q | q
          · exact hinj a q e
          · exact q
        rw [hpos]
theorem Ren.prow (h : Ren ps qs ρ) {nu : Str → Int} {bad bad' : List Str} (hb : ∀ x ∈ nms ps, ρ x ∈ bad' ↔ x ∈ bad) {c : Bool} : ∀ {b : List Stp} {o : List Own}, (∀ s ∈ b, GoodStp (nms ps) s) → PO ps o → pRow nu bad' [] c (o.map (rnO ρ)) (b.map (rnS ρ)) = ((pRow nu bad [] c o b).1, (pRow nu bad [] c o b).2.map (rnO ρ))
  | [], _, _, _ => rfl
  | s :: b, o, hs, ho => by
    rw [List.map_cons]
    unfold pRow
    rw [h.pit hb ho (hs s List.mem_cons_self)]
    simp only
    rw [h.prow hb (fun s' hs' => hs s' (List.mem_cons_of_mem _ hs')) (pIt_po (hs s List.mem_cons_self) ho).1]
theorem Ren.pgo (h : Ren ps qs ρ) {nu : Str → Int} {bad bad' : List Str} (hb : ∀ x ∈ nms ps, ρ x ∈ bad' ↔ x ∈ bad) : ∀ {n : Nat} {acc : Tbl} {o : List Own}, PO ps o → pGo (bodyOf qs) nu bad' [] n acc (o.map (rnO ρ)) = pGo (bodyOf ps) nu bad [] n acc o
  | 0, _, _, _ => rfl
  | n + 1, acc, o, ho => by
    unfold pGo
    rw [List.getElem?_map]
    cases e : o[acc.length]? with
    | none => rfl
    | some q =>
      simp only [Option.map_some]
      have hq := ho.sub q (List.mem_of_getElem? e)
      have hs : ∀ s ∈ bodyOf ps q.1, GoodStp (nms ps) s := fun s hs => h.good1.step _ (body_of h.good1 hq).2 s hs
      have er : (rnO ρ q).1 = ρ q.1 := rfl
      have er2 : (rnO ρ q).2 = q.2 := rfl
      rw [er, er2, h.body _ hq, h.prow hb hs ho]
      exact h.pgo hb (pRow_po hs ho).1
/-- the rows do not tell the names -/
theorem Ren.plain (h : Ren ps qs ρ) {nu : Str → Int} {bad bad' : List Str} (hb : ∀ x ∈ nms ps, ρ x ∈ bad' ↔ x ∈ bad) {x : Str} (hx : x ∈ nms ps) : plainT (bodyOf qs) nu bad' [] (ρ x) = plainT (bodyOf ps) nu bad [] x := by
  have := h.pgo (nu := nu) hb (n := 33) (acc := []) (o := [(x, false)]) ⟨by simp, fun q hq => by rw [List.mem_singleton.mp hq]; exact hx⟩
  unfold plainT
  have e : ∀ y : Str, decide (y ∈ ([] : List Str)) = false := fun y => by simp
  rw [e, e]
  exact this
theorem Ren.wout (h : Ren ps qs ρ) {nu : Str → Int} {x : Str} (hx : x ∈ nms ps) (hurt : List Str) : wout qs nu (ρ x) hurt = wout ps nu x hurt := by
  unfold Mf.wout
  have hb : ∀ y ∈ nms ps, ρ y ∈ bdL qs hurt [] ↔ y ∈ bdL ps hurt [] := fun y hy => by rw [mem_bdL, mem_bdL]; exact h.bad hy
  by_cases c : x ∈ bdL ps hurt []
  · rw [if_pos c, if_pos ((hb x hx).mpr c)]
  · rw [if_neg c, if_neg (fun z => c ((hb x hx).mp z)), h.plain hb hx]
theorem Ren.places (h : Ren ps qs ρ) : places qs = places ps := by
  unfold Mf.places
  refine nset_congr fun z => ?_
  rw [mem_reads, mem_reads]
  have key : ∀ {ps : List Prc}, Good ps → ((∃ p ∈ ps, ∃ s ∈ p.2, rdOf s = some z) ↔ ∃ x ∈ nms ps, (Str.ofString "read", z) ∈ bodyOf ps x) := fun {ps} hg => by
    constructor
    · rintro ⟨p, hp, s, hs, e⟩
      refine ⟨p.1, List.mem_map.mpr ⟨p, hp, rfl⟩, ?_⟩
      have : bodyOf ps p.1 = p.2 := by unfold bodyOf; rw [dGet_mem hg.nd hp]; rfl
      rw [this]
      exact mem_rdOf.mp (List.mem_filterMap.mpr ⟨s, hs, e⟩)
    · rintro ⟨x, hx, hz⟩
      obtain ⟨s, hs, e⟩ := List.mem_filterMap.mp (mem_rdOf.mpr hz)
      exact ⟨_, (body_of hg hx).2, s, hs, e⟩
  rw [key h.good1, key h.good2]
  constructor
  · rintro ⟨y, hy, hz⟩
    obtain ⟨x, hx, rfl⟩ := h.onto y hy
    exact ⟨x, hx, (h.read hx).mp hz⟩
  · rintro ⟨x, hx, hz⟩
    exact ⟨_, h.mem x hx, (h.read hx).mpr hz⟩
end
section
variable {ps qs : List Prc} {ρ : Str → Str}
/-- another order and other names -/
theorem ren_perm (hg : Good ps) (inj : ∀ a ∈ nms ps, ∀ b ∈ nms ps, ρ a = ρ b → a = b) (hN : ∀ a ∈ nms ps, IsName (ρ a)) (hp : List.Perm qs (ps.map fun p => (ρ p.1, p.2.map (rnS ρ)))) : Ren ps qs ρ := by
  have hmem : ∀ q, q ∈ qs ↔ ∃ p ∈ ps, q = (ρ p.1, p.2.map (rnS ρ)) := fun q => by
    rw [hp.mem_iff, List.mem_map]
    exact ⟨fun ⟨p, h, e⟩ => ⟨p, h, e.symm⟩, fun ⟨p, h, e⟩ => ⟨p, h, e.symm⟩⟩
  have hl : qs.length = ps.length := by rw [hp.length_eq]; simp
  have hn : nms (ps.map fun p => (ρ p.1, p.2.map (rnS ρ))) = (nms ps).map ρ := by unfold nms; rw [List.map_map, List.map_map]; rfl
  have hnp : List.Perm (nms qs) ((nms ps).map ρ) := by rw [← hn]; exact hp.map _
  have nd : (nms qs).Nodup := hnp.nodup_iff.mpr (by
    refine List.pairwise_map.mpr (hg.nd.imp_of_mem fun {a b} ha hb hab e => hab ?_)
    exact inj a ha b hb e)
  have hnm : ∀ y, y ∈ nms qs ↔ ∃ x ∈ nms ps, ρ x = y := fun y => by rw [hnp.mem_iff, List.mem_map]
  have hgood : Good qs := by
    refine ⟨by rw [hl]; exact hg.pos, by rw [hl]; exact hg.few, nd, fun q hq => ?_, fun q hq => ?_, fun q hq s hs => ?_, ?_⟩
    · obtain ⟨p, hpp, rfl⟩ := (hmem q).mp hq
      exact hN _ (List.mem_map.mpr ⟨p, hpp, rfl⟩)
    · obtain ⟨p, hpp, rfl⟩ := (hmem q).mp hq
      show (p.2.map _).length ≤ 12
      rw [List.length_map]; exact hg.short p hpp
    · obtain ⟨p, hpp, rfl⟩ := (hmem q).mp hq
      obtain ⟨t, ht, rfl⟩ := List.mem_map.mp hs
      have gs := hg.step p hpp t ht
      by_cases c : t.1 ∈ calls
      · rw [rnS_yes c]
        have hin := gs.2.2 c
        exact ⟨gs.1, hN _ hin, fun _ => (hnm _).mpr ⟨t.2, hin, rfl⟩⟩
      · rw [rnS_no c]
        exact ⟨gs.1, gs.2.1, fun z => absurd z c⟩
    · have h1 := hg.plc
      have : (addAll (reads qs)).length ≤ (addAll (reads ps)).length := nd_le (addAll_nodup _) fun z hz => by
        rw [mem_addAll] at hz ⊢
        obtain ⟨q, hq, s, hs, e⟩ := mem_reads.mp hz
        obtain ⟨p, hpp, rfl⟩ := (hmem q).mp hq
        obtain ⟨t, ht, rfl⟩ := List.mem_map.mp hs
        refine mem_reads.mpr ⟨p, hpp, t, ht, ?_⟩
        unfold rdOf at e ⊢
        rw [rnS_fst] at e
        by_cases c : t.1 = ("read" : Str)
        · rw [if_pos c] at e ⊢
          rw [rnS_no (by rw [c]; exact read_nocall.1)] at e
          exact e
        · rw [if_neg c] at e; cases e
      omega
  refine ⟨hg, hgood, inj, fun x hx => (hnm _).mpr ⟨x, hx, rfl⟩, fun y hy => (hnm y).mp hy, fun x hx => ?_⟩
  have hb := (body_of hg hx).2
  have : (ρ x, (bodyOf ps x).map (rnS ρ)) ∈ qs := (hmem _).mpr ⟨_, hb, rfl⟩
  have e := dGet_mem nd this
  unfold bodyOf
  have e : dGet qs (ρ x) = some ((bodyOf ps x).map (rnS ρ)) := e
  rw [e]
  rfl
theorem Ren.rds (h : Ren ps qs ρ) {x : Str} (hx : x ∈ nms ps) : rds qs (ρ x) = rds ps x := by
  unfold Mf.rds
  rw [h.body x hx, List.filterMap_map]
  congr 1
  funext s
  show rdOf (rnS ρ s) = rdOf s
  unfold rdOf
  rw [rnS_fst]
  by_cases c : s.1 = ("read" : Str)
  · rw [if_pos c, if_pos c, rnS_no (by rw [c]; exact read_nocall.1)]
  · rw [if_neg c, if_neg c]
theorem Ren.cls1 (h : Ren ps qs ρ) {x : Str} (hx : x ∈ nms ps) : cls1 qs (ρ x) = (cls1 ps x).map ρ := by
  unfold Mf.cls1
  rw [h.body x hx, List.filterMap_map, List.map_filterMap]
  congr 1
  funext s
  show (if (rnS ρ s).1 = Str.ofString "call" then some (rnS ρ s).2 else none) = _
  rw [rnS_fst]
  by_cases c : s.1 = Str.ofString "call"
  · rw [if_pos c, if_pos c, rnS_yes (by rw [c]; exact read_nocall.2.2.1)]; rfl
  · rw [if_neg c, if_neg c]; rfl
theorem lastS_map {p : List Str} (h : p ≠ []) : lastS (p.map ρ) = ρ (lastS p) := by
  unfold lastS
  rw [List.getLast?_map]
  cases e : p.getLast? with
  | none => rw [List.getLast?_eq_none_iff] at e; exact absurd e h
  | some a => rfl
theorem Ren.adds (h : Ren ps qs ρ) {p : List Str} : ∀ (cs seen : List Str) (w : List (List Str)), (∀ c ∈ cs, c ∈ nms ps) → (∀ z ∈ seen, z ∈ nms ps) → (cs.map ρ).foldl (fAdd (p.map ρ)) (seen.map ρ, w.map (List.map ρ)) = ((cs.foldl (fAdd p) (seen, w)).1.map ρ, (cs.foldl (fAdd p) (seen, w)).2.map (List.map ρ)) ∧ ∀ z ∈ (cs.foldl (fAdd p) (seen, w)).1, z ∈ nms ps
  | [], seen, w, _, hs => ⟨rfl, hs⟩
  | c :: cs, seen, w, hc, hs => by
    rw [List.map_cons, List.foldl_cons, List.foldl_cons]
    have e1 : ∀ (p : List Str) (s : List Str) (w : List (List Str)) (c : Str), fAdd p (s, w) c = if c ∈ s then (s, w) else (s ++ [c], w ++ [p ++ [c]]) := fun _ _ _ _ => rfl
    rw [e1, e1]
    have hm : ρ c ∈ seen.map ρ ↔ c ∈ seen := by
      rw [List.mem_map]
      constructor
      · rintro ⟨a, ha, e⟩
        rw [← h.inj a (hs a ha) c (hc c List.mem_cons_self) e]; exact ha
      · intro z; exact ⟨c, z, rfl⟩
    have hc' : ∀ z ∈ cs, z ∈ nms ps := fun z hz => hc z (List.mem_cons_of_mem _ hz)
    by_cases q : c ∈ seen
    · rw [if_pos q, if_pos (hm.mpr q)]
      exact h.adds cs seen w hc' hs
    · rw [if_neg q, if_neg (fun z => q (hm.mp z))]
      have := h.adds (p := p) cs (seen ++ [c]) (w ++ [p ++ [c]]) hc' (fun z hz => by
        rcases List.mem_append.mp hz with y | y
        · exact hs z y
        · rw [List.mem_singleton.mp y]; exact hc c List.mem_cons_self)
      simpa using this
theorem Ren.fgo (h : Ren ps qs ρ) {hurt : List Str} : ∀ (n : Nat) (seen : List Str) (w : List (List Str)), (∀ z ∈ seen, z ∈ nms ps) → (∀ p ∈ w, p ≠ [] ∧ lastS p ∈ nms ps) → fGo (Mf.rds qs) (Mf.cls1 qs) hurt n (seen.map ρ) (w.map (List.map ρ)) = (fGo (Mf.rds ps) (Mf.cls1 ps) hurt n seen w).map fun r => (r.1.map ρ, r.2)
  | 0, _, _, _, _ => rfl
  | n + 1, _, [], _, _ => rfl
  | n + 1, seen, p :: w, hs, hw => by
    obtain ⟨p1, p2⟩ := hw p List.mem_cons_self
    rw [List.map_cons]
    unfold fGo
    rw [lastS_map p1, h.rds p2]
    cases (Mf.rds ps (lastS p)).find? (fun z => decide (z ∈ hurt)) with
    | some z => rfl
    | none =>
      simp only
      rw [h.cls1 p2]
      have hc : ∀ c ∈ Mf.cls1 ps (lastS p), c ∈ nms ps := fun c hc => cls1_in h.good1 p2 hc
      obtain ⟨e1, e2⟩ := h.adds (p := p) (Mf.cls1 ps (lastS p)) seen w hc hs
      rw [e1]
      refine h.fgo n _ _ e2 fun q hq => ?_
      obtain ⟨new, g1, g2, _⟩ := fAdds (p := p) (Mf.cls1 ps (lastS p)) seen w
      rw [g1] at hq
      rcases List.mem_append.mp hq with y | y
      · exact hw q (List.mem_cons_of_mem _ y)
      · obtain ⟨c, hcc, rfl⟩ := List.mem_map.mp y
        exact ⟨by simp, by rw [lastS_snoc]; exact hc c (g2 c hcc).1⟩
end
/-! ### == of things of two kinds -/
def rOr (r1 r2 : R2) : R2 := fun x y H Q => r1 x y H Q ∨ r2 x y H Q
theorem opOr {X : Cx} {f : Value → Value → Sem Value} {r1 r2 : R2} (h1 : OpR X f r1) (h2 : OpR X f r2) : OpR X f (rOr r1 r2) := fun pins s σ H x y v u Q I rx ry h => h.elim (h1 pins s σ H x y v u Q I rx ry) (h2 pins s σ H x y v u Q I rx ry)
def uEq {α : Type} (f : α → α → Option Bool) : α ⊕ Int → α ⊕ Int → Option Bool
  | .inl a, .inl b => f a b
  | .inr i, .inr j => some (decide (i = j))
  | _, _ => none
theorem uEq_some {α : Type} {f : α → α → Option Bool} {R : Rl α} {B : Hp} {x y : α ⊕ Int} {v w : V} {b : Bool} (h : uEq f x y = some b) (hx : (dSum R dInt).rel B x v) (hy : (dSum R dInt).rel B y w) : (∃ a c, f a c = some b ∧ R.rel B a v ∧ R.rel B c w) ∨ ∃ i j : Int, v = .int i ∧ w = .int j ∧ b = decide (i = j) := by
  cases x with
  | inl a =>
    cases y with
    | inl c => exact .inl ⟨a, c, h, hx, hy⟩
    | inr j => cases h
  | inr i =>
    cases y with
    | inl c => cases h
    | inr j => exact .inr ⟨i, j, hx, hy, (Option.some.inj h).symm⟩
theorem q_orL {r1 r2 : R2} {x y : V} {H : Hp} {Q : VK} (h : r1 x y H Q) : rOr r1 r2 x y H Q := .inl h
theorem q_orR {r1 r2 : R2} {x y : V} {H : Hp} {Q : VK} (h : r2 x y H Q) : rOr r1 r2 x y H Q := .inr h
theorem mpUl {α β : Type} {R : Rl α} {S : Rl β} : Mp R (dSum R S) (Sum.inl : α → α ⊕ β) := fun h => h
theorem mpUr {α β : Type} {R : Rl α} {S : Rl β} : Mp S (dSum R S) (Sum.inr : β → α ⊕ β) := fun h => h
end Mf

namespace Mf
open PySem L2 PyProof.Rows
/-! ### more about things of two kinds -/
section
variable {K : PySem.W.Frag} {α β γ δ : Type} {R : Rl α} {S : Rl β} {T : Rl γ} {U : Rl δ} {B : Hp} {v : V}
theorem drU {d : α → PyData} {e : β → PyData} (D : Dr K R d) (E : Dr K S e) : Dr K (dSum R S) (Sum.elim d e) := fun {H x v} h => by
  cases x with
  | inl a => exact D h
  | inr b => exact E h
theorem ix_uS {r : R2} {i : V} {f : α → γ} {g : β → γ} {x : α ⊕ β} (hl : ∀ a, R.rel B a v → ∃ w, T.rel B (f a) w ∧ ∀ H, Same B H → RV r v i H w) (hr : ∀ b, S.rel B b v → ∃ w, T.rel B (g b) w ∧ ∀ H, Same B H → RV r v i H w) (h : (dSum R S).rel B x v) : ∃ w, T.rel B (Sum.elim f g x) w ∧ ∀ H, Same B H → RV r v i H w := by
  cases x with
  | inl a => exact hl a h
  | inr b => exact hr b h
theorem ix_uD {r : R2} {i : V} {f : α → γ} {g : β → δ} {x : α ⊕ β} (hl : ∀ a, R.rel B a v → ∃ w, T.rel B (f a) w ∧ ∀ H, Same B H → RV r v i H w) (hr : ∀ b, S.rel B b v → ∃ w, U.rel B (g b) w ∧ ∀ H, Same B H → RV r v i H w) (h : (dSum R S).rel B x v) : ∃ w, (dSum T U).rel B (Sum.map f g x) w ∧ ∀ H, Same B H → RV r v i H w := by
  cases x with
  | inl a => exact hl a h
  | inr b => exact hr b h
end
end Mf

namespace Mf
open PySem L2 PyProof.Rows
/-! ### rows that go together, by a relation -/
structure BisP (a b : Tbl) (P : Nat → Nat → Prop) : Prop where
  zero : P 0 0
  row : ∀ k m, P k m → k < a.length ∧ m < b.length ∧ fuR (a.getD k []) (b.getD m []) = none ∧ ∀ j k' m' : Nat, (a.getD k [])[j]? = some (Item.node k') → (b.getD m [])[j]? = some (Item.node m') → P k' m'
open Classical in
theorem BisP.bis {a b : Tbl} {P : Nat → Nat → Prop} (h : BisP a b P) : ∃ D, Bis a b D := by
  let all : List (Nat × Nat) := (List.range a.length).flatMap fun i => (List.range b.length).map fun j => (i, j)
  have hall : ∀ i j, (i, j) ∈ all ↔ i < a.length ∧ j < b.length := fun i j => by
    simp only [all, List.mem_flatMap, List.mem_map, List.mem_range, Prod.mk.injEq]
    constructor
    · rintro ⟨u, hu, v, hv, rfl, rfl⟩; exact ⟨hu, hv⟩
    · rintro ⟨hu, hv⟩; exact ⟨i, hu, j, hv, rfl, rfl⟩
  have hnd : all.Nodup := by
    simp only [all]
    refine List.pairwise_flatMap.mpr ⟨fun i _ => List.pairwise_map.mpr (List.nodup_range.imp fun h e => h (Prod.mk.inj e).2), ?_⟩
    refine List.nodup_range.imp fun {i j} hij x hx y hy e => ?_
    obtain ⟨u, _, rfl⟩ := List.mem_map.mp hx
    obtain ⟨v, _, rfl⟩ := List.mem_map.mp hy
    exact hij (Prod.mk.inj e).1
  have mem : ∀ z : Nat × Nat, z ∈ (0, 0) :: all.filter (fun z => decide (P z.1 z.2 ∧ z ≠ (0, 0))) ↔ P z.1 z.2 := fun z => by
    rw [List.mem_cons, List.mem_filter, decide_eq_true_iff]
    constructor
    · rintro (rfl | ⟨_, h1, _⟩)
      · exact h.zero
      · exact h1
    · intro hz
      by_cases c : z = (0, 0)
      · exact .inl c
      · obtain ⟨h1, h2, _⟩ := h.row _ _ hz
        exact .inr ⟨(hall z.1 z.2).mpr ⟨h1, h2⟩, hz, c⟩
  refine ⟨(0, 0) :: all.filter (fun z => decide (P z.1 z.2 ∧ z ≠ (0, 0))), ?_, rfl, fun z hz => ?_, fun z hz => ?_⟩
  · rw [List.nodup_cons]
    refine ⟨fun z => ?_, hnd.filter _⟩
    rw [List.mem_filter, decide_eq_true_iff] at z
    exact z.2.2 rfl
  · obtain ⟨h1, h2, _⟩ := h.row _ _ ((mem z).mp hz)
    exact ⟨h1, h2⟩
  · obtain ⟨_, _, h3, h4⟩ := h.row _ _ ((mem z).mp hz)
    exact ⟨h3, fun j k m hk hm => (mem (k, m)).mpr (h4 j k m hk hm)⟩
theorem fuR_ren (f : Nat → Nat) : ∀ r : Row, fuR r (r.map (Item.ren f)) = none
  | [] => rfl
  | x :: r => by
    rw [List.map_cons]
    unfold fuR
    have hx : itOk x (Item.ren f x) = true := by cases x <;> simp [itOk, Item.ren, Item.isNode]
    rw [if_pos hx, fuR_ren f r]
    rfl
theorem canon_tok {t : Tbl} (ht : Tok t) (h0 : 0 < t.length) : Tok (canon t) ∧ 0 < (canon t).length := by
  obtain ⟨f, hf⟩ := canon_img ht h0
  have hz : 0 < (canonAt t 0).length := by
    have := hf.row 0 (t.getD 0 []) .refl (getD_some h0)
    exact Nat.lt_of_le_of_lt (Nat.zero_le _) (List.getElem?_eq_some_iff.mp this).1
  refine ⟨fun r hr k hk => ?_, hz⟩
  obtain ⟨i, hi, e⟩ := List.getElem_of_mem hr
  obtain ⟨j, hj, ej⟩ := hf.onto i hi
  have hjl := hj.lt ht h0
  have hrow := hf.row j _ hj (getD_some hjl)
  rw [ej, List.getElem?_eq_getElem hi, e] at hrow
  have hrow := Option.some.inj hrow
  rw [hrow] at hk
  obtain ⟨z, hz, ez⟩ := ren_mem hk
  have hzr : Rt t 0 z := .step hj (getD_some hjl) hz
  have := hf.row z _ hzr (getD_some (hzr.lt ht h0))
  rw [ez] at this
  exact (List.getElem?_eq_some_iff.mp this).1
/-- the rows of point 9 are their own rows of point 9 -/
theorem canon_canon {t : Tbl} (ht : Tok t) (h0 : 0 < t.length) : canon (canon t) = canon t := by
  obtain ⟨f, hf⟩ := canon_img ht h0
  obtain ⟨tc, c0⟩ := canon_tok ht h0
  have hB : BisP t (canon t) (fun i k => Rt t 0 i ∧ k = f i) := by
    refine ⟨⟨.refl, hf.zero.symm⟩, ?_⟩
    rintro i k ⟨hi, rfl⟩
    have hil := hi.lt ht h0
    have gi := getD_some hil
    have hr := hf.row i _ hi gi
    have hk := (List.getElem?_eq_some_iff.mp hr).1
    have e : (canon t).getD (f i) [] = (t.getD i []).map (Item.ren f) := by
      rw [List.getD_eq_getElem?_getD]
      show ((canonAt t 0)[f i]?).getD [] = _
      rw [hr]; rfl
    refine ⟨hil, hk, by rw [e]; exact fuR_ren f _, fun j k' m' h1 h2 => ?_⟩
    rw [e, List.getElem?_map, h1] at h2
    simp only [Option.map_some, Item.ren, Option.some.injEq, Item.node.injEq] at h2
    exact ⟨.step hi gi (List.mem_of_getElem? h1), h2.symm⟩
  obtain ⟨D, hD⟩ := hB.bis
  exact (hD.canon ht tc).symm
theorem bad_split {ps : List Prc} {hurt safe : List Str} {x : Str} (h : Bad ps hurt safe x) : ∃ z ∈ hurt, Bad ps [z] safe x := by
  induction h with
  | @read y z h1 h2 h3 h4 => exact ⟨z, h4, .read h1 h2 h3 (by simp)⟩
  | @call y q h1 h2 h3 h4 ih =>
    obtain ⟨z, hz, hb⟩ := ih
    exact ⟨z, hz, .call h1 h2 h3 hb⟩
theorem bad_one {ps : List Prc} {hurt safe : List Str} {x z : Str} (hz : z ∈ hurt) (h : Bad ps [z] safe x) : Bad ps hurt safe x := bad_mono (fun y hy => by rw [List.mem_singleton.mp hy]; exact hz) h
end Mf

namespace Mf
open PySem L2 PyProof.Rows
theorem onx {S R T : Type} {s : S} {f : S → Option T} {g : R → Option T} {r : Option T} (h : (Ctl.nx s : Ctl S R).on f g = r) : f s = r := h
/-! ### procedures that are alike in a world -/
def MatchS (ps : List Prc) (h : List Str) (nu : Str → Int) (S : Str → Str → Prop) (s s' : Stp) : Prop :=
  (s.1 = Str.ofString "read" ∧ s'.1 = Str.ofString "read" ∧ nu s.2 = nu s'.2) ∨ (s.1 = Str.ofString "say" ∧ s'.1 = Str.ofString "say" ∧ s.2 = s'.2) ∨
  (s.1 ∈ calls ∧ s'.1 ∈ calls ∧ ((Bad ps h [] s.2 ∧ Bad ps h [] s'.2) ∨ (¬ Bad ps h [] s.2 ∧ ¬ Bad ps h [] s'.2 ∧ S s.2 s'.2)))
structure WRel (ps : List Prc) (h : List Str) (nu : Str → Int) (S : Str → Str → Prop) : Prop where
  nm : ∀ a b, S a b → a ∈ nms ps ∧ b ∈ nms ps
  len : ∀ a b, S a b → (bodyOf ps a).length = (bodyOf ps b).length
  step : ∀ a b, S a b → ∀ (i : Nat) (s s' : Stp), (bodyOf ps a)[i]? = some s → (bodyOf ps b)[i]? = some s' → MatchS ps h nu S s s'
theorem pF_cases {ps : List Prc} {nu : Str → Int} {h : List Str} {o : List Own} {s : Stp} (hs : GoodStp (nms ps) s) :
    (s.1 = Str.ofString "read" ∧ pF nu (bdL ps h []) [] false o s = .num (nu s.2)) ∨ (s.1 = Str.ofString "say" ∧ pF nu (bdL ps h []) [] false o s = .word s.2) ∨
    (s.1 ∈ calls ∧ Bad ps h [] s.2 ∧ pF nu (bdL ps h []) [] false o s = .gap) ∨ (s.1 ∈ calls ∧ ¬ Bad ps h [] s.2 ∧ pF nu (bdL ps h []) [] false o s = .node (pos o (s.2, false)) ∧ pN (bdL ps h []) [] false s = some (s.2, false)) := by
  have ff : ∀ w : Str, (false || decide (w ∈ ([] : List Str))) = false := fun w => by simp
  unfold pF pN
  by_cases h1 : s.1 = Str.ofString "read"
  · exact .inl ⟨h1, by rw [if_pos h1]⟩
  · by_cases h2 : s.1 = Str.ofString "say"
    · exact .inr (.inl ⟨h2, by rw [if_neg h1, if_pos h2]⟩)
    · have hc : s.1 ∈ calls := by
        rcases kinds_four hs.1 with q | q | q
        · exact absurd q h1
        · exact absurd q h2
        · exact q
      by_cases h3 : Bad ps h [] s.2
      · exact .inr (.inr (.inl ⟨hc, h3, by rw [if_neg h1, if_neg h2, if_pos ⟨mem_bdL.mpr h3, rfl⟩]⟩))
      · have h4 : ¬ (s.2 ∈ bdL ps h [] ∧ false = false) := fun z => h3 (mem_bdL.mp z.1)
        exact .inr (.inr (.inr ⟨hc, h3, by rw [if_neg h1, if_neg h2, if_neg h4, ff], by rw [if_neg h1, if_neg h2, if_neg h4, ff]⟩))
/-- equal rows in a world: a relation of the names -/
theorem world_rel {ps : List Prc} (hg : Good ps) {x y : Str} (hx : x ∈ nms ps) (hy : y ∈ nms ps) {nu : Str → Int} (hn : ∀ z, numOk (nu z)) {h : List Str} {D : List (Nat × Nat)}
    (hD : Bis (canon (plainT (bodyOf ps) nu (bdL ps h []) [] x)) (canon (plainT (bodyOf ps) nu (bdL ps h []) [] y)) D) : ∃ S, WRel ps h nu S ∧ S x y := by
  have g1 := plain_good hg (bad := bdL ps h []) (safe := []) hx hn
  have g2 := plain_good hg (bad := bdL ps h []) (safe := []) hy hn
  obtain ⟨o1, po1, i1, l1⟩ := plain_img hg hx nu (bdL ps h []) []
  obtain ⟨o2, po2, i2, l2⟩ := plain_img hg hy nu (bdL ps h []) []
  generalize plainT (bodyOf ps) nu (bdL ps h []) [] x = t1 at g1 i1 l1 hD
  generalize plainT (bodyOf ps) nu (bdL ps h []) [] y = t2 at g2 i2 l2 hD
  have tok : ∀ t : Tbl, GoodT t → Tok t := fun t h r hr k hk => (h.item r hr _ hk).node k rfl
  obtain ⟨f1, m1⟩ := canon_img (tok t1 g1) g1.pos
  obtain ⟨f2, m2⟩ := canon_img (tok t2 g2) g2.pos
  have d0 : (0, 0) ∈ D := List.mem_of_getElem? hD.zero
  refine ⟨fun a b => ∃ i j, Rt t1 0 i ∧ Rt t2 0 j ∧ o1[i]? = some (a, false) ∧ o2[j]? = some (b, false) ∧ (f1 i, f2 j) ∈ D, ⟨?_, ?_, ?_⟩, 0, 0, .refl, .refl, i1.hd, i2.hd, by rw [m1.zero, m2.zero]; exact d0⟩
  · rintro a b ⟨i, j, _, _, hi, hj, _⟩
    exact ⟨po1.sub _ (List.mem_of_getElem? hi), po2.sub _ (List.mem_of_getElem? hj)⟩
  · rintro a b ⟨i, j, ri, rj, hi, hj, hd⟩
    have r1 := i1.row l1 hi
    have r2 := i2.row l2 hj
    have e1 := m1.row i _ ri r1
    have e2 := m2.row j _ rj r2
    obtain ⟨hf, _⟩ := hD.row _ hd
    have c1 : (canon t1).getD (f1 i) [] = ((bodyOf ps a).map (pF nu (bdL ps h []) [] false o1)).map (Item.ren f1) := by rw [List.getD_eq_getElem?_getD]; show ((canonAt t1 0)[f1 i]?).getD [] = _; rw [e1]; rfl
    have c2 : (canon t2).getD (f2 j) [] = ((bodyOf ps b).map (pF nu (bdL ps h []) [] false o2)).map (Item.ren f2) := by rw [List.getD_eq_getElem?_getD]; show ((canonAt t2 0)[f2 j]?).getD [] = _; rw [e2]; rfl
    simp only at hf
    rw [c1, c2] at hf
    have := (fuR_none hf).1
    simpa using this
  · rintro a b ⟨i, j, ri, rj, hi, hj, hd⟩ q s s' hs hs'
    have r1 := i1.row l1 hi
    have r2 := i2.row l2 hj
    have e1 := m1.row i _ ri r1
    have e2 := m2.row j _ rj r2
    obtain ⟨hf, hcl⟩ := hD.row _ hd
    have c1 : (canon t1).getD (f1 i) [] = ((bodyOf ps a).map (pF nu (bdL ps h []) [] false o1)).map (Item.ren f1) := by rw [List.getD_eq_getElem?_getD]; show ((canonAt t1 0)[f1 i]?).getD [] = _; rw [e1]; rfl
    have c2 : (canon t2).getD (f2 j) [] = ((bodyOf ps b).map (pF nu (bdL ps h []) [] false o2)).map (Item.ren f2) := by rw [List.getD_eq_getElem?_getD]; show ((canonAt t2 0)[f2 j]?).getD [] = _; rw [e2]; rfl
    simp only at hf hcl
    rw [c1, c2] at hf hcl
    have u1 : (((bodyOf ps a).map (pF nu (bdL ps h []) [] false o1)).map (Item.ren f1))[q]? = some (Item.ren f1 (pF nu (bdL ps h []) [] false o1 s)) := by rw [List.getElem?_map, List.getElem?_map, hs]; rfl
    have u2 : (((bodyOf ps b).map (pF nu (bdL ps h []) [] false o2)).map (Item.ren f2))[q]? = some (Item.ren f2 (pF nu (bdL ps h []) [] false o2 s')) := by rw [List.getElem?_map, List.getElem?_map, hs']; rfl
    have hok := (fuR_none hf).2 q _ _ u1 u2
    have hsm := List.mem_of_getElem? hs
    have hsm' := List.mem_of_getElem? hs'
    have ha := po1.sub _ (List.mem_of_getElem? hi)
    have hb := po2.sub _ (List.mem_of_getElem? hj)
    have gs := hg.step _ (body_of hg ha).2 s hsm
    have gs' := hg.step _ (body_of hg hb).2 s' hsm'
    rcases pF_cases (nu := nu) (h := h) (o := o1) gs with ⟨k1, p1⟩ | ⟨k1, p1⟩ | ⟨k1, b1, p1⟩ | ⟨k1, b1, p1, n1⟩ <;> rcases pF_cases (nu := nu) (h := h) (o := o2) gs' with ⟨k2, p2⟩ | ⟨k2, p2⟩ | ⟨k2, b2, p2⟩ | ⟨k2, b2, p2, n2⟩ <;> rw [p1, p2] at hok <;> first | (cases hok; done) | (exfalso; simp [itOk, Item.ren, Item.isNode] at hok; done) | skip
    · exact .inl ⟨k1, k2, by simpa [itOk, Item.ren, Item.isNode] using hok⟩
    · exact .inr (.inl ⟨k1, k2, by simpa [itOk, Item.ren, Item.isNode] using hok⟩)
    · exact .inr (.inr ⟨k1, k2, .inl ⟨b1, b2⟩⟩)
    · refine .inr (.inr ⟨k1, k2, .inr ⟨b1, b2, pos o1 (s.2, false), pos o2 (s'.2, false), ?_, ?_, i1.own l1 hi hsm n1, i2.own l2 hj hsm' n2, ?_⟩⟩)
      · exact .step ri r1 (List.mem_map.mpr ⟨s, hsm, p1⟩)
      · exact .step rj r2 (List.mem_map.mpr ⟨s', hsm', p2⟩)
      · rw [p1] at u1
        rw [p2] at u2
        exact hcl q _ _ u1 u2
/-- alike with nothing broken and with each of the places broken: alike in the world -/
theorem alike_all {ps : List Prc} (hg : Good ps) {x y : Str} (hx : x ∈ nms ps) (hy : y ∈ nms ps) {nu nu' : Str → Int} (hn : ∀ z, numOk (nu z)) (inj : ∀ a ∈ places ps, ∀ b ∈ places ps, nu' a = nu' b → a = b) {H : List Str}
    {S0 : Str → Str → Prop} (w0 : WRel ps [] nu' S0) (s0 : S0 x y) (hz : ∀ z ∈ H, ∃ S, WRel ps [z] nu' S ∧ S x y) : canon (plainT (bodyOf ps) nu (bdL ps H []) [] x) = canon (plainT (bodyOf ps) nu (bdL ps H []) [] y) := by
  have g1 := plain_good hg (bad := bdL ps H []) (safe := []) hx hn
  have g2 := plain_good hg (bad := bdL ps H []) (safe := []) hy hn
  obtain ⟨o1, po1, i1, l1⟩ := plain_img hg hx nu (bdL ps H []) []
  obtain ⟨o2, po2, i2, l2⟩ := plain_img hg hy nu (bdL ps H []) []
  generalize plainT (bodyOf ps) nu (bdL ps H []) [] x = t1 at g1 i1 l1
  generalize plainT (bodyOf ps) nu (bdL ps H []) [] y = t2 at g2 i2 l2
  have tok : ∀ t : Tbl, GoodT t → Tok t := fun t h r hr k hk => (h.item r hr _ hk).node k rfl
  have hB : BisP t1 t2 (fun i j => ∃ a b, o1[i]? = some (a, false) ∧ o2[j]? = some (b, false) ∧ S0 a b ∧ ∀ z ∈ H, ∃ S, WRel ps [z] nu' S ∧ S a b) := by
    refine ⟨⟨x, y, i1.hd, i2.hd, s0, hz⟩, ?_⟩
    rintro i j ⟨a, b, hi, hj, hab, hzab⟩
    have r1 := i1.row l1 hi
    have r2 := i2.row l2 hj
    have hil : i < t1.length := (List.getElem?_eq_some_iff.mp r1).1
    have hjl : j < t2.length := (List.getElem?_eq_some_iff.mp r2).1
    have c1 : t1.getD i [] = (bodyOf ps a).map (pF nu (bdL ps H []) [] false o1) := by rw [List.getD_eq_getElem?_getD, r1]; rfl
    have c2 : t2.getD j [] = (bodyOf ps b).map (pF nu (bdL ps H []) [] false o2) := by rw [List.getD_eq_getElem?_getD, r2]; rfl
    have ha := po1.sub _ (List.mem_of_getElem? hi)
    have hb := po2.sub _ (List.mem_of_getElem? hj)
    have hlen := w0.len a b hab
    -- step by step
    have key : ∀ (q : Nat) (s s' : Stp), (bodyOf ps a)[q]? = some s → (bodyOf ps b)[q]? = some s' → itOk (pF nu (bdL ps H []) [] false o1 s) (pF nu (bdL ps H []) [] false o2 s') = true ∧ ∀ k m, pF nu (bdL ps H []) [] false o1 s = .node k → pF nu (bdL ps H []) [] false o2 s' = .node m → ∃ a b, o1[k]? = some (a, false) ∧ o2[m]? = some (b, false) ∧ S0 a b ∧ ∀ z ∈ H, ∃ S, WRel ps [z] nu' S ∧ S a b := by
      intro q s s' hs hs'
      have hsm := List.mem_of_getElem? hs
      have hsm' := List.mem_of_getElem? hs'
      have gs := hg.step _ (body_of hg ha).2 s hsm
      have gs' := hg.step _ (body_of hg hb).2 s' hsm'
      have nc : Str.ofString "read" ∉ calls ∧ Str.ofString "say" ∉ calls ∧ Str.ofString "read" ≠ Str.ofString "say" := by decide +kernel
      have hbad : s.1 ∈ calls → s'.1 ∈ calls → (Bad ps H [] s.2 ↔ Bad ps H [] s'.2) := fun k1 k2 => by
        have one : ∀ z ∈ H, (Bad ps [z] [] s.2 ↔ Bad ps [z] [] s'.2) := fun z hzH => by
          obtain ⟨S, w, sab⟩ := hzab z hzH
          rcases w.step a b sab q s s' hs hs' with ⟨e, _⟩ | ⟨e, _⟩ | ⟨_, _, ⟨e1, e2⟩ | ⟨e1, e2, _⟩⟩
          · rw [e] at k1; exact absurd k1 nc.1
          · rw [e] at k1; exact absurd k1 nc.2.1
          · exact ⟨fun _ => e2, fun _ => e1⟩
          · exact ⟨fun q => absurd q e1, fun q => absurd q e2⟩
        constructor
        · intro hb'
          obtain ⟨z, hzH, hb1⟩ := bad_split hb'
          exact bad_one hzH ((one z hzH).mp hb1)
        · intro hb'
          obtain ⟨z, hzH, hb1⟩ := bad_split hb'
          exact bad_one hzH ((one z hzH).mpr hb1)
      have nb : ∀ {v : Str}, ¬ Bad ps [] [] v := fun {v} hb' => by
        obtain ⟨z, hz, _⟩ := bad_split hb'
        cases hz
      rcases w0.step a b hab q s s' hs hs' with ⟨k1, k2, e⟩ | ⟨k1, k2, e⟩ | ⟨k1, k2, hS⟩
      · have p1 : pF nu (bdL ps H []) [] false o1 s = .num (nu s.2) := by unfold pF; rw [if_pos k1]
        have p2 : pF nu (bdL ps H []) [] false o2 s' = .num (nu s'.2) := by unfold pF; rw [if_pos k2]
        have hp1 : s.2 ∈ places ps := rds_places hg ha (mem_rdOf.mpr (by rw [← k1]; exact hsm))
        have hp2 : s'.2 ∈ places ps := rds_places hg hb (mem_rdOf.mpr (by rw [← k2]; exact hsm'))
        rw [p1, p2, inj _ hp1 _ hp2 e]
        exact ⟨by simp [itOk], fun k m z => by cases z⟩
      · have p1 : pF nu (bdL ps H []) [] false o1 s = .word s.2 := by unfold pF; rw [if_neg (by rw [k1]; exact fun z => nc.2.2 z.symm), if_pos k1]
        have p2 : pF nu (bdL ps H []) [] false o2 s' = .word s'.2 := by unfold pF; rw [if_neg (by rw [k2]; exact fun z => nc.2.2 z.symm), if_pos k2]
        rw [p1, p2, e]
        exact ⟨by simp [itOk], fun k m z => by cases z⟩
      · have hS : S0 s.2 s'.2 := by
          rcases hS with ⟨e1, _⟩ | ⟨_, _, e3⟩
          · exact absurd e1 nb
          · exact e3
        rcases pF_cases (nu := nu) (h := H) (o := o1) gs with ⟨q1, _⟩ | ⟨q1, _⟩ | ⟨_, b1, p1⟩ | ⟨_, b1, p1, n1⟩
        · rw [q1] at k1; exact absurd k1 nc.1
        · rw [q1] at k1; exact absurd k1 nc.2.1
        · rcases pF_cases (nu := nu) (h := H) (o := o2) gs' with ⟨q2, _⟩ | ⟨q2, _⟩ | ⟨_, b2, p2⟩ | ⟨_, b2, p2, n2⟩
          · rw [q2] at k2; exact absurd k2 nc.1
          · rw [q2] at k2; exact absurd k2 nc.2.1
          · rw [p1, p2]; exact ⟨by simp [itOk], fun k m z => by cases z⟩
          · exact absurd ((hbad k1 k2).mp b1) b2
        · rcases pF_cases (nu := nu) (h := H) (o := o2) gs' with ⟨q2, _⟩ | ⟨q2, _⟩ | ⟨_, b2, p2⟩ | ⟨_, b2, p2, n2⟩
          · rw [q2] at k2; exact absurd k2 nc.1
          · rw [q2] at k2; exact absurd k2 nc.2.1
          · exact absurd ((hbad k1 k2).mpr b2) b1
          · rw [p1, p2]
            refine ⟨by simp [itOk, Item.isNode], fun k m z1 z2 => ?_⟩
            cases z1
            cases z2
            refine ⟨s.2, s'.2, i1.own l1 hi hsm n1, i2.own l2 hj hsm' n2, hS, fun z hzH => ?_⟩
            obtain ⟨S, w, sab⟩ := hzab z hzH
            refine ⟨S, w, ?_⟩
            rcases w.step a b sab q s s' hs hs' with ⟨e, _⟩ | ⟨e, _⟩ | ⟨_, _, ⟨e1, _⟩ | ⟨_, _, e3⟩⟩
            · rw [e] at k1; exact absurd k1 nc.1
            · rw [e] at k1; exact absurd k1 nc.2.1
            · exact absurd (bad_one hzH e1) b1
            · exact e3
    refine ⟨hil, hjl, ?_, fun q k m hk hm => ?_⟩
    · rw [c1, c2]
      cases e : fuR ((bodyOf ps a).map (pF nu (bdL ps H []) [] false o1)) ((bodyOf ps b).map (pF nu (bdL ps H []) [] false o2)) with
      | none => rfl
      | some q =>
        obtain ⟨h1, h2, h3, h4, _⟩ := fuR_some e
        simp only [List.length_map] at h1 h2 h3
        have hq1 : q < (bodyOf ps a).length := by omega
        have hq2 : q < (bodyOf ps b).length := by omega
        have s1 : (bodyOf ps a)[q]? = some (bodyOf ps a)[q] := List.getElem?_eq_getElem hq1
        have s2 : (bodyOf ps b)[q]? = some (bodyOf ps b)[q] := List.getElem?_eq_getElem hq2
        have := (key q _ _ s1 s2).1
        rw [h4 _ _ (by rw [List.getElem?_map, s1]; rfl) (by rw [List.getElem?_map, s2]; rfl)] at this
        cases this
    · rw [c1, List.getElem?_map] at hk
      rw [c2, List.getElem?_map] at hm
      cases s1 : (bodyOf ps a)[q]? with
      | none => rw [s1] at hk; cases hk
      | some s =>
        cases s2 : (bodyOf ps b)[q]? with
        | none => rw [s2] at hm; cases hm
        | some s' =>
          rw [s1] at hk
          rw [s2] at hm
          exact (key q s s' s1 s2).2 k m (by simpa using hk) (by simpa using hm)
  obtain ⟨D, hD⟩ := hB.bis
  exact hD.canon (tok t1 g1) (tok t2 g2)
end Mf

namespace Mf
open PySem PySem.Spec PyProof.Rows L2
/-! ### a dict of a list of pairs -/
def dictOf {κ α : Type} [DecidableEq κ] (xs : List (κ × α)) : List (κ × α) := xs.foldl (fun d p => gPut d p.1 p.2) []
section
variable {X : Cx} {K : PySem.W.Frag} {α : Type} {R : Rl α} {Φ : Fr} {B H : Hp} {cs : List (Addr × HO)} {Q : VK} {v : V}
def rDictP (K : PySem.W.Frag) : List V → Hp → VK → Prop := fun xs H Q => ∃ (a : Addr) (ps : List Addr) (kvs : List (Key × V)), xs = [.ref a] ∧ SqL K H a (ps.map V.ref) ∧ Paired (fun p kv => SqT K H p [kV kv.1, kv.2]) ps kvs ∧ ∀ p, H p = none → Q (.ref p) (upd H p (.dK (mergeK [] kvs)))
theorem c_dictP (K : PySem.W.Frag) (hc : X.calm = true) (h : X.K = K := by rfl) : CallR X (.type "dict") (rDictP K) := by subst h; exact call_dictP hc
theorem pairs_split {xs : List (Str × α)} {vs : List V} (f : Fa ((dPair K dStr R).rel B) xs vs) : ∃ (ps : List Addr) (kvs : List (Key × V)), vs = ps.map V.ref ∧ Paired (fun p kv => SqT K B p [kV kv.1, kv.2]) ps kvs ∧ FaG Sum.inr R B xs kvs := by
  induction f with
  | nil => exact ⟨[], [], rfl, .nil, .nil⟩
  | @cons x v xs vs h t ih =>
    obtain ⟨ps, kvs, rfl, h1, h2⟩ := ih
    obtain ⟨p, a, b, rfl, hp, ha, hb⟩ := h
    cases ha
    exact ⟨p :: ps, (Sum.inr x.1, b) :: kvs, rfl, .cons hp h1, .cons ⟨rfl, hb⟩ h2⟩
theorem faG_merge {xs : List (Str × α)} {kvs : List (Key × V)} (f : FaG Sum.inr R B xs kvs) : ∀ {ys : List (Str × α)} {acc : List (Key × V)}, FaG Sum.inr R B ys acc → FaG Sum.inr R B (xs.foldl (fun d p => gPut d p.1 p.2) ys) (mergeK acc kvs) := by
  induction f with
  | nil => exact fun h => h
  | @cons x kv xs kvs h t ih =>
    intro ys acc g
    obtain ⟨k, w⟩ := kv
    obtain ⟨e, r⟩ := h
    simp only at e r
    subst e
    exact ih (faG_put (fun a b e => Sum.inr.inj e) g r)
theorem dictOf_len {κ : Type} [DecidableEq κ] : ∀ (xs ys : List (κ × α)), (xs.foldl (fun d p => gPut d p.1 p.2) ys).length ≤ ys.length + xs.length
  | [], ys => Nat.le_refl _
  | x :: xs, ys => by
    rw [List.foldl_cons]
    have h1 := dictOf_len xs (gPut ys x.1 x.2)
    have h2 := gPut_len ys x.1 x.2
    rw [List.length_cons]
    omega
theorem q_dictP {kvs : List (Str × α)} (Z : Sit Φ B H cs) (h : (dList (dPair K dStr R)).rel B kvs v) (k : ∀ p o H', Sit Φ B H' ((p, o) :: cs) → Φ.H p = none → (cDictG Sum.inr R).rel B (dictOf kvs) o → Q (.ref p) H') : rDictP K [v] H Q := by
  obtain ⟨p, vs, rfl, hp, f, l⟩ := h
  obtain ⟨ps, ws, rfl, h1, h2⟩ := pairs_split f
  refine ⟨p, ps, ws, rfl, SqL.of (Z.sub _ _ hp), Paired.mapP h1 fun _ _ z => Same.sqt Z.sub z, fun q n => k _ _ _ (Z.own n) (Z.fresh n) ⟨mergeK [] ws, rfl, faG_merge h2 .nil, ?_⟩⟩
  have := dictOf_len kvs []
  unfold dictOf
  simp at this
  omega
end
/-! ### t + u -/
section
variable {X : Cx} {K : PySem.W.Frag} {α : Type} {R : Rl α} {Φ : Fr} {B H : Hp} {cs : List (Addr × HO)} {Q : VK} {v w : V} {xs ys zs : List α}
theorem k_catT (K : PySem.W.Frag) (h : X.K = K := by rfl) : OpR X (binaryOp .Add) (rCatA K) := by subst h; exact op_catA
theorem fa_nil {R' : α → V → Prop} {vs : List V} (f : Fa R' ([] : List α) vs) : vs = [] := by cases f; rfl
theorem fa_nil2 {R' : α → V → Prop} {as : List α} (f : Fa R' as []) : as = [] := by cases f; rfl
theorem q_catTu (Z : Sit Φ B H cs) (h1 : (dTup K R).rel B xs v) (h2 : (dTup K R).rel B ys w) (hm : catM xs ys = some zs) (k : ∀ u B' H', Sit Φ B' H' cs → Same B B' → (dTup K R).rel B' zs u → Q u H') : rCatA K v w H Q := by
  obtain ⟨l, rfl⟩ := catM_some hm
  obtain ⟨a, vs, rfl, ha, fa, la⟩ := id h1
  obtain ⟨b, ws, rfl, hb, fb, lb⟩ := id h2
  refine ⟨a, b, vs, ws, rfl, rfl, Same.sqt Z.sub ha, Same.sqt Z.sub hb, by rw [← fa.len, ← fb.len]; exact big_size l, fun e => ?_, fun e1 e => ?_, fun _ _ p n => ?_⟩
  · subst e
    obtain rfl := fa_nil2 fa
    rw [List.nil_append] at k
    exact k _ _ _ Z (Same.rf _) h2
  · subst e
    obtain rfl := fa_nil2 fb
    rw [List.append_nil] at k
    exact k _ _ _ Z (Same.rf _) h1
  · exact nwT (K := K) Z (fa.app fb) (by rw [List.length_append]; exact l) k p n
end
theorem mpSm {α β : Type} {R : Rl α} {S : Rl β} {f : α → β} (c : Mp R S f) (n : ∀ {B : Hp} {x : α} {v : V}, R.rel B x v → v ≠ V.non) : Mp R (dOpt S) (fun x => some (f x)) := fun h => someN (c h) (n h)
/-! int of a truth value -/
def rIntB : List V → Hp → VK → Prop := fun xs H Q => ∃ k : Bool, xs = [.bl k] ∧ Q (.int (if k then 1 else 0)) H
theorem c_intB {X : Cx} : CallR X (.type "int") rIntB := fun pins s σ H xs us Q I r ⟨k, e, q⟩ => call_int1 pins s σ H xs us Q I r (.inr ⟨k, e, q⟩)
/-! ### several except clauses, with and without names -/
def unD (i : Nat) (D : Ends) : Ends := { nx := fun σ' H' => D.nx (σ'.set i none) H', rt := D.rt, bk := fun σ' H' => D.bk (σ'.set i none) H', ct := fun σ' H' => D.ct (σ'.set i none) H' }
abbrev Hdl : Type := Option Nat × Value × (Addr → Value → Option Addr → TS)
def hdW (D : Ends) : Hdl → Addr → WX
  | (none, _, ts), a => fun cls d σ H => ts a cls d D σ H
  | (some i, _, ts), a => fun cls d σ H => ts a cls d (unD i D) (σ.set i (some (.ref a))) H
def wHds (K : PySem.W.Frag) (W0 : WX) (D : Ends) : List Hdl → WX
  | [] => W0
  | h :: r => fun cls d σ H => ∃ b, PySem.W.exmOne K cls h.2.1 = some b ∧ (b = true → ∀ a, H a = none → hdW D h a cls d σ H) ∧ (b = false → wHds K W0 D r cls d σ H)
/-- the clauses in the text, and their derivations -/
inductive Hds (X : Cx) : List ExceptHandler → List Hdl → Prop
  | nil : Hds X [] []
  | bare {x : Str} {c : Value} {ts : Addr → Value → Option Addr → TS} {b : Stmt} {bs : List Stmt} {np pp : Pos} {hs : List ExceptHandler} {l : List Hdl} (hc : L2.Names X x c)
      (hb : ∀ (a : Addr) (oe : Obj) (cls : Value) (d : Option Addr) (pn : List (Addr × Obj)), Zc cls d oe → (∃ vs, oe.data = .fields vs) → PSs (X.suite a ((a, oe) :: pn)) (b :: bs) (ts a cls d)) (r : Hds X hs l) :
      Hds X (.ExceptHandler (some (.Name x np)) none (b :: bs) pp :: hs) ((none, c, ts) :: l)
  | named {x n : Str} {i : Nat} {c : Value} {ts : Addr → Value → Option Addr → TS} {b : Stmt} {bs : List Stmt} {np pp : Pos} {hs : List ExceptHandler} {l : List Hdl} (hi : X.N[i]? = some n) (hn : X.env.kindOf n = some .local) (hc : L2.Names X x c)
      (hb : ∀ (a : Addr) (oe : Obj) (cls : Value) (d : Option Addr) (pn : List (Addr × Obj)), Zc cls d oe → (∃ vs, oe.data = .fields vs) → PSs (X.suite a ((a, oe) :: pn)) (b :: bs) (ts a cls d)) (r : Hds X hs l) :
      Hds X (.ExceptHandler (some (.Name x np)) (some n) (b :: bs) pp :: hs) ((some i, c, ts) :: l)
section
variable {X : Cx} {body : List Stmt} {h0 : ExceptHandler} {hs : List ExceptHandler} {l : List Hdl} {pos : Pos} {tb : WX → TS} {W0 : WX}
theorem ps_try_hds (e1 : X.stack = X.env :: X.outer) (e2 : X.env.frame = some X.env.locals) (nd : X.N.Nodup) (tk : Takes X W0)
    (hb : ∀ (W : WX) (pn : List (Addr × Obj)) (xe : Value → Shared → Prop), Takes (X.tr pn xe) W → PassesOwn (model X.prog X.w) X.A X.env xe → PSs (X.tr pn xe) body (tb W))
    (hh : Hds X (h0 :: hs) l) : PS X (.Try body (h0 :: hs) [] [] pos) (fun D σ H => tb (wHds X.K W0 D l) D σ H) := by
  refine ⟨fun pins s σ H D I want => ?_⟩
  have okI := I.ok
  have frI : X.A.frames = some (X.env :: X.outer) := by rw [okI.frames, e1]
  refine wpAny_Try_except ?_
  have tried := (hb (wHds X.K W0 D l) (X.pn ++ pins) (fun u t1 => wpAny (model X.prog X.w) X.A (noteFrame u X.env) (fun _ t2 => wpAny (model X.prog X.w) X.A (setFlight u none) (fun _ t3 => wpAny (model X.prog X.w) X.A (handleBy u X.env (h0 :: hs)) (SP X pins D) X.xe t3) X.xe t2) X.xe t1) ?caught PassesOwn.looking).run [] s σ H D (I.toTry _) want
  case caught =>
    rintro u t ⟨a, B, sI, pins1, σ1, H1, cls, d, rfl, J0, nb, up, sky, na, os, ag, w⟩
    have J : Inv X pins σ1 H1 sI := J0.ofTry okI
    rw [e1] at sky
    show wpAny (model X.prog X.w) X.A (noteFrame (.ref a) X.env) _ _ _
    refine Sky.land Zc.steady frI e2 sky fun g fl upg => ?_
    have Jg : Inv X pins σ1 H1 { t with heap := g } := J.landed nb fl.1 (up.trans upg) os ag
    obtain ⟨oe, vs, ge, hz, gd⟩ := fl.there
    have far : a ∉ frs (X.env :: X.outer) := fun hm => by
      obtain ⟨_, o1, e3, nf⟩ := fl.2.2.1.mem hm
      rw [ge] at e3
      cases e3
      exact nf _ gd
    have notL : a ≠ X.env.locals := fun z => far (List.mem_filterMap.mpr ⟨X.env, List.mem_cons_self, by rw [e2, z]⟩)
    have notF : a ∉ X.fs := fun hm => by
      obtain ⟨en, m1, m2⟩ := List.mem_filterMap.mp hm
      exact far (List.mem_filterMap.mpr ⟨en, List.mem_cons_of_mem _ m1, m2⟩)
    have Sg := Jg.suite ge gd na notL notF
    have look : PySem.W.Looks (model X.prog X.w) g (typeOf (.ref a)) cls := fun A Q E s1 k q => wpAny_typeOf_ref (k _ _ ge) (by rw [hz.1]; exact q)
    have name : ∀ {x : Str} {c : Value} {np : Pos}, L2.Names X x c → ∀ {Q E : Value → Shared → Prop}, Q c { t with heap := g } → wpAny (model X.prog X.w) (X.A.mark (some (.ref a))) (eval (.Name x np) X.env) Q E { t with heap := g } := fun {x c np} hc {Q E} q => by
      obtain ⟨hg, hdb, hm | ⟨hm, hv, hn⟩⟩ := hc
      · exact ld_glob (X := X.suite a ((a, oe) :: (X.pn ++ pins))) Sg hg hm q hdb
      · exact ld_blt (X := X.suite a ((a, oe) :: (X.pn ++ pins))) Sg hg hm hv q hn hdb
    have go : ∀ {hs' : List ExceptHandler} {l' : List Hdl}, Hds X hs' l' → wHds X.K W0 D l' cls d σ1 H1 → wpAny (model X.prog X.w) X.A (handleBy (.ref a) X.env hs') (SP X pins D) X.xe { t with heap := g } := by
      intro hs' l' hk
      induction hk with
      | nil =>
        intro w
        refine wpAny_handleBy_nil ?_
        obtain ⟨_, _, _, o2, vs2, T, oT, ts2, he2, _, hd2, h12, _⟩ := id fl
        unfold PySem.passOn
        refine wpAny_bind (wpAny_field he2 hd2 h12 ?_)
        rw [if_neg (show ¬ ((Value.ref T == Value.none) = true) from by simp)]
        have out : wpAny (model X.prog X.w) X.A (setFlight (.ref a) X.env.frame) (fun _ t4 => wpAny (model X.prog X.w) X.A (throw (.ref a) : Sem Flow) (SP X pins D) X.xe t4) X.xe { t with heap := g } := by
          rw [e2]
          exact HandSPX.setFlight_upZ fl fun _ held up4 => wpAny_throw (tk _ _ ⟨a, B, sI, pins, σ1, H1, cls, d, rfl, J, nb, (up.trans upg).trans up4, .inr (.inr (by rw [e1]; exact held)), na, os, ag, w⟩)
        first
          | exact wpAny_bind (wpAny_pure (wpAny_bind out))
          | exact wpAny_bind out
      | @bare x c ts b bs np pp hs2 l2 hc hb2 _ ih =>
        rintro ⟨r, hr, yes, no⟩
        refine wpAny_handleBy_cons (codeAny_handlers_test ?_) (by intro q; cases q)
        refine name hc ((PySem.W.exm_one (M := model X.prog X.w) Jg.kIn look hr).here ?_)
        cases r with
        | false => exact ih (no rfl)
        | true =>
          refine codeAny_handlers_suite (HandSPX.lands_againZ fl fun g4 fl4 up4 => ?_)
          have J4 : Inv X pins σ1 H1 { t with heap := g4 } := J.landed nb fl4.1 ((up.trans upg).trans up4) os ag
          obtain ⟨o4, v4, p4, z4, d4⟩ := fl4.there
          refine wpAny_mono ((hb2 a o4 cls d (X.pn ++ pins) z4 ⟨_, d4⟩).run [] _ _ H1 _ (J4.suite p4 d4 na notL notF) (yes rfl a na)) (fun f t6 e6 => ?_) (fun _ _ z => False.elim z)
          cases f with
          | ret u => obtain ⟨v6, σ6, H6, S6, r6, q6⟩ := e6; exact ⟨_, _, _, S6.unsuite okI, r6, q6⟩
          | next => obtain ⟨σ6, H6, S6, q6⟩ := e6; exact ⟨_, _, S6.unsuite okI, q6⟩
          | brk => obtain ⟨σ6, H6, S6, q6⟩ := e6; exact ⟨_, _, S6.unsuite okI, q6⟩
          | cont => obtain ⟨σ6, H6, S6, q6⟩ := e6; exact ⟨_, _, S6.unsuite okI, q6⟩
      | @named x n i c ts b bs np pp hs2 l2 hi hn hc hb2 _ ih =>
        rintro ⟨r, hr, yes, no⟩
        refine wpAny_handleBy_cons (codeAny_handlers_test ?_) (by intro q; cases q)
        refine name hc ((PySem.W.exm_one (M := model X.prog X.w) Jg.kIn look hr).here ?_)
        cases r with
        | false => exact ih (no rfl)
        | true =>
          refine codeAny_handlers_suite_as (HandSPX.lands_againZ fl fun g4 fl4 up4 => ?_)
          have J4 : Inv X pins σ1 H1 { t with heap := g4 } := J.landed nb fl4.1 ((up.trans upg).trans up4) os ag
          obtain ⟨o4, v4, p4, z4, d4⟩ := fl4.there
          have S4 := J4.suite p4 d4 na notL notF
          refine store_ok (X := X.suite a ((a, o4) :: (X.pn ++ pins))) (v := .ref a) S4 nd hi (.inl hn) rfl (fun t5 S5 => ?_) (.inr hn)
          refine wpAny_mono ((hb2 a o4 cls d (X.pn ++ pins) z4 ⟨_, d4⟩).run [] t5 _ H1 _ S5 (yes rfl a na)) (fun f t6 e6 => ?_) (fun _ _ z => False.elim z)
          cases f with
          | ret u => obtain ⟨v6, σ6, H6, S6, r6, q6⟩ := e6; exact gone_ok (S6.unsuite okI) nd hi hn fun t7 J7 => ⟨_, _, _, J7, r6, q6⟩
          | next => obtain ⟨σ6, H6, S6, q6⟩ := e6; exact gone_ok (S6.unsuite okI) nd hi hn fun t7 J7 => ⟨_, _, J7, q6⟩
          | brk => obtain ⟨σ6, H6, S6, q6⟩ := e6; exact gone_ok (S6.unsuite okI) nd hi hn fun t7 J7 => ⟨_, _, J7, q6⟩
          | cont => obtain ⟨σ6, H6, S6, q6⟩ := e6; exact gone_ok (S6.unsuite okI) nd hi hn fun t7 J7 => ⟨_, _, J7, q6⟩
    exact go hh w
  refine wpAny_mono tried (fun f s1 e3 => ?_) (fun _ _ he => he)
  cases f with
  | ret u => obtain ⟨v, σ', H', J', r, q⟩ := e3; exact ⟨v, σ', H', J'.ofTry okI, r, q⟩
  | next => obtain ⟨σ', H', J', q⟩ := e3; exact wpAny_execs_nil ⟨σ', H', J'.ofTry okI, q⟩
  | brk => obtain ⟨σ', H', J', q⟩ := e3; exact ⟨σ', H', J'.ofTry okI, q⟩
  | cont => obtain ⟨σ', H', J', q⟩ := e3; exact ⟨σ', H', J'.ofTry okI, q⟩
end
section
variable {K : PySem.W.Frag} {W0 : WX} {D : Ends} {σ σ' : L2.St} {H : Hp} {cls c : Value} {d : Option Addr} {ts : Addr → Value → Option Addr → TS} {i : Nat} {r : List Hdl} {P : Hp → Prop}
theorem w_hno {h : Hdl} (e : PySem.W.exmOne K cls h.2.1 = some false) (g : wHds K W0 D r cls d σ H) : wHds K W0 D (h :: r) cls d σ H := ⟨false, e, (fun z => by cases z), fun _ => g⟩
theorem w_has (e : PySem.W.exmOne K cls c = some true) (g : ∀ a, H a = none → ts a cls d { nx := fun σ' H' => D.nx (σ'.set i none) H', rt := D.rt, bk := fun σ' H' => D.bk (σ'.set i none) H', ct := fun σ' H' => D.ct (σ'.set i none) H' } (σ.set i (some (.ref a))) H) : wHds K W0 D ((some i, c, ts) :: r) cls d σ H := ⟨true, e, fun _ => g, fun z => by cases z⟩
theorem w_hbare (e : PySem.W.exmOne K cls c = some true) (g : ∀ a, H a = none → ts a cls d D σ H) : wHds K W0 D ((none, c, ts) :: r) cls d σ H := ⟨true, e, fun _ => g, fun z => by cases z⟩
end
/-- the first of several that fits -/
def orE {α β : Type} (o : Option α) (f : α → Option β) (g : Option β) : Option β := match o with
  | some a => f a
  | none => g
theorem orE_some {α β : Type} {o : Option α} {f : α → Option β} {g : Option β} {b : β} (h : orE o f g = some b) : (∃ a, o = some a ∧ f a = some b) ∨ g = some b := by
  cases o with
  | some a => exact .inl ⟨a, rfl, h⟩
  | none => exact .inr h
end Mf

namespace Mf
open PySem L2 PyProof.Rows
/-! ### two plain runs that go the same way -/
def StepsMatch (nu nu' : Str → Int) (bad bad' safe safe' : List Str) (S : Own → Own → Prop) (c c' : Bool) (s s' : Stp) : Prop :=
  (s.1 = Str.ofString "read" ∧ s'.1 = Str.ofString "read" ∧ nu s.2 = nu' s'.2) ∨ (s.1 = Str.ofString "say" ∧ s'.1 = Str.ofString "say" ∧ s.2 = s'.2) ∨
  (s.1 ∈ calls ∧ s'.1 ∈ calls ∧ ((pN bad safe c s = none ∧ pN bad' safe' c' s' = none) ∨ ∃ u v, pN bad safe c s = some u ∧ pN bad' safe' c' s' = some v ∧ S u v))
structure PBis (ps qs : List Prc) (nu nu' : Str → Int) (bad bad' safe safe' : List Str) (S : Own → Own → Prop) : Prop where
  len : ∀ a b, S a b → (bodyOf ps a.1).length = (bodyOf qs b.1).length
  step : ∀ a b, S a b → ∀ (i : Nat) (s s' : Stp), (bodyOf ps a.1)[i]? = some s → (bodyOf qs b.1)[i]? = some s' → StepsMatch nu nu' bad bad' safe safe' S a.2 b.2 s s'
theorem calls_not : Str.ofString "read" ∉ calls ∧ Str.ofString "say" ∉ calls ∧ Str.ofString "read" ≠ Str.ofString "say" := by decide +kernel
theorem pF_read {nu : Str → Int} {bad safe : List Str} {c : Bool} {o : List Own} {s : Stp} (h : s.1 = Str.ofString "read") : pF nu bad safe c o s = .num (nu s.2) := by unfold pF; rw [if_pos h]
theorem pF_say {nu : Str → Int} {bad safe : List Str} {c : Bool} {o : List Own} {s : Stp} (h : s.1 = Str.ofString "say") : pF nu bad safe c o s = .word s.2 := by
  unfold pF
  rw [if_neg (by rw [h]; exact fun z => calls_not.2.2 z.symm), if_pos h]
theorem pF_call {nu : Str → Int} {bad safe : List Str} {c : Bool} {o : List Own} {s : Stp} (h : s.1 ∈ calls) : pF nu bad safe c o s = match pN bad safe c s with | some q => .node (pos o q) | none => .gap := by
  have h1 : s.1 ≠ Str.ofString "read" := fun z => calls_not.1 (z ▸ h)
  have h2 : s.1 ≠ Str.ofString "say" := fun z => calls_not.2.1 (z ▸ h)
  unfold pF pN
  rw [if_neg h1, if_neg h2, if_neg h1, if_neg h2]
  by_cases h3 : s.2 ∈ bad ∧ c = false
  · rw [if_pos h3, if_pos h3]
  · rw [if_neg h3, if_neg h3]
theorem plain_bis {ps qs : List Prc} (hg : Good ps) (hq : Good qs) {x y : Str} (hx : x ∈ nms ps) (hy : y ∈ nms qs) {nu nu' : Str → Int} (hn : ∀ z, numOk (nu z)) (hn' : ∀ z, numOk (nu' z)) {bad bad' safe safe' : List Str} {S : Own → Own → Prop}
    (W : PBis ps qs nu nu' bad bad' safe safe' S) (h0 : S (x, decide (x ∈ safe)) (y, decide (y ∈ safe'))) : canon (plainT (bodyOf ps) nu bad safe x) = canon (plainT (bodyOf qs) nu' bad' safe' y) := by
  have g1 := plain_good hg (bad := bad) (safe := safe) hx hn
  have g2 := plain_good hq (bad := bad') (safe := safe') hy hn'
  obtain ⟨o1, po1, i1, l1⟩ := plain_img hg hx nu bad safe
  obtain ⟨o2, po2, i2, l2⟩ := plain_img hq hy nu' bad' safe'
  generalize plainT (bodyOf ps) nu bad safe x = t1 at g1 i1 l1
  generalize plainT (bodyOf qs) nu' bad' safe' y = t2 at g2 i2 l2
  have tok : ∀ t : Tbl, GoodT t → Tok t := fun t h r hr k hk => (h.item r hr _ hk).node k rfl
  have hB : BisP t1 t2 (fun i j => ∃ a b, o1[i]? = some a ∧ o2[j]? = some b ∧ S a b) := by
    refine ⟨⟨_, _, i1.hd, i2.hd, h0⟩, ?_⟩
    rintro i j ⟨a, b, hi, hj, hab⟩
    have r1 := i1.row l1 hi
    have r2 := i2.row l2 hj
    have hil : i < t1.length := (List.getElem?_eq_some_iff.mp r1).1
    have hjl : j < t2.length := (List.getElem?_eq_some_iff.mp r2).1
    have c1 : t1.getD i [] = (bodyOf ps a.1).map (pF nu bad safe a.2 o1) := by rw [List.getD_eq_getElem?_getD, r1]; rfl
    have c2 : t2.getD j [] = (bodyOf qs b.1).map (pF nu' bad' safe' b.2 o2) := by rw [List.getD_eq_getElem?_getD, r2]; rfl
    have hlen := W.len a b hab
    have key : ∀ (q : Nat) (s s' : Stp), (bodyOf ps a.1)[q]? = some s → (bodyOf qs b.1)[q]? = some s' → itOk (pF nu bad safe a.2 o1 s) (pF nu' bad' safe' b.2 o2 s') = true ∧ ∀ k m, pF nu bad safe a.2 o1 s = .node k → pF nu' bad' safe' b.2 o2 s' = .node m → ∃ a' b', o1[k]? = some a' ∧ o2[m]? = some b' ∧ S a' b' := by
      intro q s s' hs hs'
      rcases W.step a b hab q s s' hs hs' with ⟨k1, k2, e⟩ | ⟨k1, k2, e⟩ | ⟨k1, k2, ⟨e1, e2⟩ | ⟨u, v, e1, e2, e3⟩⟩
      · rw [pF_read k1, pF_read k2, e]
        exact ⟨by simp [itOk], fun k m z => by cases z⟩
      · rw [pF_say k1, pF_say k2, e]
        exact ⟨by simp [itOk], fun k m z => by cases z⟩
      · rw [pF_call k1, pF_call k2, e1, e2]
        exact ⟨by simp [itOk], fun k m z => by cases z⟩
      · rw [pF_call k1, pF_call k2, e1, e2]
        refine ⟨by simp [itOk, Item.isNode], fun k m z1 z2 => ?_⟩
        cases z1
        cases z2
        exact ⟨u, v, i1.own l1 hi (List.mem_of_getElem? hs) e1, i2.own l2 hj (List.mem_of_getElem? hs') e2, e3⟩
    refine ⟨hil, hjl, ?_, fun q k m hk hm => ?_⟩
    · rw [c1, c2]
      cases e : fuR ((bodyOf ps a.1).map (pF nu bad safe a.2 o1)) ((bodyOf qs b.1).map (pF nu' bad' safe' b.2 o2)) with
      | none => rfl
      | some q =>
        obtain ⟨h1, h2, h3, h4, _⟩ := fuR_some e
        simp only [List.length_map] at h1 h2 h3
        have s1 : (bodyOf ps a.1)[q]? = some ((bodyOf ps a.1)[q]'(by omega)) := List.getElem?_eq_getElem (by omega)
        have s2 : (bodyOf qs b.1)[q]? = some ((bodyOf qs b.1)[q]'(by omega)) := List.getElem?_eq_getElem (by omega)
        have := (key q _ _ s1 s2).1
        rw [h4 _ _ (by rw [List.getElem?_map, s1]; rfl) (by rw [List.getElem?_map, s2]; rfl)] at this
        cases this
    · rw [c1, List.getElem?_map] at hk
      rw [c2, List.getElem?_map] at hm
      cases s1 : (bodyOf ps a.1)[q]? with
      | none => rw [s1] at hk; cases hk
      | some s =>
        cases s2 : (bodyOf qs b.1)[q]? with
        | none => rw [s2] at hm; cases hm
        | some s' =>
          rw [s1] at hk
          rw [s2] at hm
          exact (key q s s' s1 s2).2 k m (by simpa using hk) (by simpa using hm)
  obtain ⟨D, hD⟩ := hB.bis
  exact hD.canon (tok t1 g1) (tok t2 g2)
end Mf

namespace Mf
open PySem L2 PyProof.Rows
/-! ### other numbers: the same walk -/
def gI (φ : Int → Int) : Item → Item
  | .num n => .num (φ n)
  | x => x
def relT (φ : Int → Int) (t : Tbl) : Tbl := t.map fun r => r.map (gI φ)
/-- the numbers of a row, of a table -/
def NumsR (N : Int → Prop) (r : Row) : Prop := ∀ n, Item.num n ∈ r → N n
def NumsT (N : Int → Prop) (t : Tbl) : Prop := ∀ r ∈ t, NumsR N r
section
variable {φ : Int → Int} {N : Int → Prop}
theorem gI_ren (f : Nat → Nat) (x : Item) : gI φ (Item.ren f x) = Item.ren f (gI φ x) := by cases x <;> rfl
theorem gI_inj (inj : ∀ a b, N a → N b → φ a = φ b → a = b) {x y : Item} (hx : ∀ n, x = .num n → N n) (hy : ∀ n, y = .num n → N n) (h : gI φ x = gI φ y) : x = y := by
  cases x <;> cases y <;> simp only [gI, Item.num.injEq, Item.word.injEq, Item.node.injEq, reduceCtorEq] at h ⊢
  · exact h
  · exact inj _ _ (hx _ rfl) (hy _ rfl) h
  · exact h
theorem map_inj_on {α β : Type} {g : α → β} : ∀ {r q : List α}, (∀ x ∈ r, ∀ y ∈ q, g x = g y → x = y) → r.map g = q.map g → r = q
  | [], [], _, _ => rfl
  | [], y :: q, _, h => by simp at h
  | x :: r, [], _, h => by simp at h
  | x :: r, y :: q, hi, h => by
    rw [List.map_cons, List.map_cons, List.cons.injEq] at h
    rw [hi x List.mem_cons_self y List.mem_cons_self h.1, map_inj_on (fun a ha b hb => hi a (List.mem_cons_of_mem _ ha) b (List.mem_cons_of_mem _ hb)) h.2]
theorem row_inj (inj : ∀ a b, N a → N b → φ a = φ b → a = b) {r q : Row} (hr : NumsR N r) (hq : NumsR N q) (h : r.map (gI φ) = q.map (gI φ)) : r = q :=
  map_inj_on (fun x hx y hy e => gI_inj inj (fun n z => hr n (z ▸ hx)) (fun n z => hq n (z ▸ hy)) e) h
theorem shape_rel (c : List Nat) (r : Row) : shape c (r.map (gI φ)) = (shape c r).map (gI φ) := by
  unfold shape
  rw [List.map_map, List.map_map]
  exact List.map_congr_left fun x _ => (gI_ren _ x).symm
theorem keysC_rel (c : List Nat) (t : Tbl) : keysC (relT φ t) c = (keysC t c).map fun r => r.map (gI φ) := by
  unfold keysC relT
  rw [List.map_map, List.map_map]
  exact List.map_congr_left fun r _ => shape_rel c r
theorem nums_shape {c : List Nat} {r : Row} (h : NumsR N r) : NumsR N (shape c r) := fun n hn => by
  unfold shape at hn
  obtain ⟨x, hx, e⟩ := List.mem_map.mp hn
  cases x with
  | num m => cases e; exact h _ hx
  | _ => cases e
theorem relT_len (t : Tbl) : (relT φ t).length = t.length := by unfold relT; rw [List.length_map]
theorem seqC_rel (inj : ∀ a b, N a → N b → φ a = φ b → a = b) {t : Tbl} (h : NumsT N t) : ∀ k, seqC (relT φ t) k = seqC t k
  | 0 => by unfold seqC; rw [relT_len]
  | k + 1 => by
    show num (keysC (relT φ t) (seqC (relT φ t) k)) = num (keysC t (seqC t k))
    rw [seqC_rel inj h k, keysC_rel]
    refine num_inj fun r hr q hq e => ?_
    obtain ⟨r', hr', rfl⟩ := List.mem_map.mp hr
    obtain ⟨q', hq', rfl⟩ := List.mem_map.mp hq
    exact row_inj inj (nums_shape (h _ hr')) (nums_shape (h _ hq')) e
theorem C_rel (inj : ∀ a b, N a → N b → φ a = φ b → a = b) {t : Tbl} (h : NumsT N t) : Mf.C (relT φ t) = Mf.C t := by
  unfold Mf.C
  rw [relT_len, seqC_rel inj h]
theorem cItem_rel (c o : List Nat) (x : Item) : cItem c o (gI φ x) = (gI φ (cItem c o x).1, (cItem c o x).2) := by cases x <;> rfl
theorem cRow_rel (c : List Nat) : ∀ (r : Row) (o : List Nat), cRow c o (r.map (gI φ)) = ((cRow c o r).1.map (gI φ), (cRow c o r).2)
  | [], o => rfl
  | x :: r, o => by
    rw [List.map_cons]
    unfold cRow
    rw [cItem_rel, cRow_rel c r]
    rfl
theorem relT_getD (t : Tbl) (k : Nat) : (relT φ t).getD k [] = (t.getD k []).map (gI φ) := by
  unfold relT
  rw [List.getD_eq_getElem?_getD, List.getD_eq_getElem?_getD, List.getElem?_map]
  cases t[k]? <;> rfl
theorem cGo_rel (t : Tbl) (c : List Nat) : ∀ (n : Nat) (acc : Tbl) (o : List Nat), cGo (relT φ t) c n (relT φ acc) o = relT φ (cGo t c n acc o)
  | 0, _, _ => rfl
  | n + 1, acc, o => by
    unfold cGo
    rw [relT_len]
    by_cases h : acc.length < o.length
    · rw [if_pos h, if_pos h, relT_getD, cRow_rel]
      have := cGo_rel t c n (acc ++ [(cRow c o (t.getD (o.getD acc.length 0) [])).1]) (cRow c o (t.getD (o.getD acc.length 0) [])).2
      unfold relT at this ⊢
      rw [List.map_append] at this
      exact this
    · rw [if_neg h, if_neg h]
theorem canon_rel (inj : ∀ a b, N a → N b → φ a = φ b → a = b) {t : Tbl} (h : NumsT N t) : canon (relT φ t) = relT φ (canon t) := by
  unfold canon canonAt
  rw [C_rel inj h, relT_len]
  exact cGo_rel t _ _ [] [0]
/-! the first difference -/
theorem itOk_rel (inj : ∀ a b, N a → N b → φ a = φ b → a = b) {x y : Item} (hx : ∀ n, x = .num n → N n) (hy : ∀ n, y = .num n → N n) : itOk (gI φ x) (gI φ y) = itOk x y := by
  have e1 : ∀ z : Item, (gI φ z).isNode = z.isNode := fun z => by cases z <;> rfl
  unfold itOk
  rw [e1, e1]
  congr 1
  exact decide_eq_decide.mpr ⟨gI_inj inj hx hy, fun e => by rw [e]⟩
theorem fuR_rel (inj : ∀ a b, N a → N b → φ a = φ b → a = b) : ∀ {r q : Row}, NumsR N r → NumsR N q → fuR (r.map (gI φ)) (q.map (gI φ)) = fuR r q
  | [], [], _, _ => rfl
  | [], y :: q, _, _ => rfl
  | x :: r, [], _, _ => rfl
  | x :: r, y :: q, hr, hq => by
    rw [List.map_cons, List.map_cons]
    unfold fuR
    rw [itOk_rel inj (fun n e => hr n (e ▸ List.mem_cons_self)) (fun n e => hq n (e ▸ List.mem_cons_self)), fuR_rel inj (fun n hn => hr n (List.mem_cons_of_mem _ hn)) (fun n hn => hq n (List.mem_cons_of_mem _ hn))]
theorem fdAdd_rel (p : List Nat) (i : Nat) (x y : Item) (st : List (Nat × Nat) × List PQ) : fdAdd p i (gI φ x) (gI φ y) st = fdAdd p i x y st := by cases x <;> cases y <;> rfl
theorem fdRow_rel (p : List Nat) : ∀ (r q : Row) (i : Nat) (st : List (Nat × Nat) × List PQ), fdRow p i (r.map (gI φ)) (q.map (gI φ)) st = fdRow p i r q st
  | [], [], _, _ => rfl
  | [], y :: q, _, _ => rfl
  | x :: r, [], _, _ => rfl
  | x :: r, y :: q, i, st => by
    rw [List.map_cons, List.map_cons]
    show fdRow p (i + 1) (r.map (gI φ)) (q.map (gI φ)) (fdAdd p i (gI φ x) (gI φ y) st) = fdRow p (i + 1) r q (fdAdd p i x y st)
    rw [fdAdd_rel, fdRow_rel p r q]
theorem nums_getD {t : Tbl} (h : NumsT N t) (k : Nat) : NumsR N (t.getD k []) := by
  rw [List.getD_eq_getElem?_getD]
  cases e : t[k]? with
  | none => intro n hn; cases hn
  | some r => exact h r (List.mem_of_getElem? e)
theorem fdGo_rel (inj : ∀ a b, N a → N b → φ a = φ b → a = b) {a b : Tbl} (ha : NumsT N a) (hb : NumsT N b) : ∀ (n : Nat) (s : List (Nat × Nat)) (w : List PQ), fdGo (relT φ a) (relT φ b) n s w = fdGo a b n s w
  | 0, _, _ => rfl
  | n + 1, s, [] => rfl
  | n + 1, s, (k, m, p) :: w => by
    unfold fdGo
    rw [relT_getD, relT_getD, fuR_rel inj (nums_getD ha k) (nums_getD hb m), fdRow_rel]
    cases fuR (a.getD k []) (b.getD m []) with
    | some i => rfl
    | none => exact fdGo_rel inj ha hb n _ _
theorem fdiff_rel (inj : ∀ a b, N a → N b → φ a = φ b → a = b) {a b : Tbl} (ha : NumsT N a) (hb : NumsT N b) : fdiff (relT φ a) (relT φ b) = fdiff a b := fdGo_rel inj ha hb _ _ _
/-! the numbers of the canonical rows -/
theorem cRow_nums (c : List Nat) : ∀ {r : Row} {o : List Nat}, NumsR N r → NumsR N (cRow c o r).1
  | [], o, _ => by intro n hn; cases hn
  | x :: r, o, h => by
    intro n hn
    unfold cRow at hn
    rcases List.mem_cons.mp hn with q | q
    · cases x with
      | num m => cases q; exact h _ List.mem_cons_self
      | gap => cases q
      | word _ => cases q
      | node _ => cases q
    · exact cRow_nums c (r := r) (fun n hn => h n (List.mem_cons_of_mem _ hn)) n q
theorem cGo_nums {t : Tbl} (h : NumsT N t) (c : List Nat) : ∀ (n : Nat) (acc : Tbl) (o : List Nat), NumsT N acc → NumsT N (cGo t c n acc o)
  | 0, _, _, ha => ha
  | n + 1, acc, o, ha => by
    unfold cGo
    by_cases q : acc.length < o.length
    · rw [if_pos q]
      refine cGo_nums h c n _ _ fun r hr => ?_
      rcases List.mem_append.mp hr with z | z
      · exact ha r z
      · rw [List.mem_singleton.mp z]; exact cRow_nums c (nums_getD h _)
    · rw [if_neg q]; exact ha
theorem canon_nums {t : Tbl} (h : NumsT N t) : NumsT N (canon t) := cGo_nums h _ _ _ _ (by intro r hr; cases hr)
end
/-! the rows of a plain run with other numbers -/
theorem pIt_rel {φ : Int → Int} {nu nu' : Str → Int} {bad safe : List Str} {c : Bool} {o : List Own} {s : Stp} (h : s.1 = Str.ofString "read" → nu' s.2 = φ (nu s.2)) : pIt nu' bad safe c o s = (gI φ (pIt nu bad safe c o s).1, (pIt nu bad safe c o s).2) := by
  unfold pIt
  by_cases h1 : s.1 = Str.ofString "read"
  · rw [if_pos h1, if_pos h1, h h1]; rfl
  · rw [if_neg h1, if_neg h1]
    by_cases h2 : s.1 = Str.ofString "say"
    · rw [if_pos h2]; rfl
    · rw [if_neg h2]
      by_cases h3 : s.2 ∈ bad ∧ c = false
      · rw [if_pos h3]; rfl
      · rw [if_neg h3]; rfl
theorem pRow_rel {φ : Int → Int} {nu nu' : Str → Int} {bad safe : List Str} {c : Bool} : ∀ {b : List Stp} {o : List Own}, (∀ s ∈ b, s.1 = Str.ofString "read" → nu' s.2 = φ (nu s.2)) → pRow nu' bad safe c o b = ((pRow nu bad safe c o b).1.map (gI φ), (pRow nu bad safe c o b).2)
  | [], _, _ => rfl
  | s :: b, o, h => by
    unfold pRow
    rw [pIt_rel (h s List.mem_cons_self), pRow_rel fun s' hs => h s' (List.mem_cons_of_mem _ hs)]
    rfl
theorem pGo_rel {ps : List Prc} (hg : Good ps) {φ : Int → Int} {nu nu' : Str → Int} {bad safe : List Str} (h : ∀ z ∈ places ps, nu' z = φ (nu z)) : ∀ (n : Nat) (acc : Tbl) (o : List Own), PO ps o → pGo (bodyOf ps) nu' bad safe n (relT φ acc) o = relT φ (pGo (bodyOf ps) nu bad safe n acc o)
  | 0, _, _, _ => rfl
  | n + 1, acc, o, ho => by
    unfold pGo
    rw [relT_len]
    cases e : o[acc.length]? with
    | none => rfl
    | some q =>
      simp only
      have hq := ho.sub q (List.mem_of_getElem? e)
      rw [pRow_rel (nu := nu) (φ := φ) fun s hs hr => h _ (rds_places hg hq (mem_rdOf.mpr (by rw [← hr]; exact hs)))]
      have := pGo_rel (bad := bad) (safe := safe) hg h n (acc ++ [(pRow nu bad safe q.2 o (bodyOf ps q.1)).1]) _ (pRow_po (nu := nu) (bad := bad) (safe := safe) (c := q.2) (fun s hs => hg.step _ (body_of hg hq).2 s hs) ho).1
      unfold relT at this ⊢
      rw [List.map_append] at this
      exact this
theorem plainT_rel {ps : List Prc} (hg : Good ps) {x : Str} (hx : x ∈ nms ps) {φ : Int → Int} {nu nu' : Str → Int} {bad safe : List Str} (h : ∀ z ∈ places ps, nu' z = φ (nu z)) : plainT (bodyOf ps) nu' bad safe x = relT φ (plainT (bodyOf ps) nu bad safe x) :=
  pGo_rel hg h _ [] _ ⟨by simp, fun q hq => by rw [List.mem_singleton.mp hq]; exact hx⟩
theorem plainT_nums {ps : List Prc} (hg : Good ps) {x : Str} (hx : x ∈ nms ps) (nu : Str → Int) (bad safe : List Str) : NumsT (fun n => ∃ z ∈ places ps, n = nu z) (plainT (bodyOf ps) nu bad safe x) := by
  obtain ⟨o, po, im, hl⟩ := plain_img hg hx nu bad safe
  intro r hr n hn
  obtain ⟨i, hi, e⟩ := List.getElem_of_mem hr
  have ho : o[i]? = some (o[i]'(by omega)) := List.getElem?_eq_getElem (by omega)
  have h1 := im.row hl ho
  rw [List.getElem?_eq_getElem hi, e] at h1
  have h1 := Option.some.inj h1
  rw [h1] at hn
  obtain ⟨s, hs, es⟩ := List.mem_map.mp hn
  have hq := po.sub _ (List.mem_of_getElem? ho)
  unfold pF at es
  by_cases k1 : s.1 = Str.ofString "read"
  · rw [if_pos k1] at es
    cases es
    exact ⟨s.2, rds_places hg hq (mem_rdOf.mpr (by rw [← k1]; exact hs)), rfl⟩
  · rw [if_neg k1] at es
    by_cases k2 : s.1 = Str.ofString "say"
    · rw [if_pos k2] at es; cases es
    · rw [if_neg k2] at es
      split at es <;> cases es
end Mf

namespace Mf
open PySem PySem.Spec PyProof.Rows L2
/-! ### texts: split, partition, startswith, int(text) -/
def splitM (a b : Str) : Option (List Str) := if ((b.length == 0) = false ∧ a.length + 2 ≤ sizeLine) ∧ (Txt.split a b).length ≤ BIG then some (Txt.split a b) else none
def partM (a b : Str) : Option (Str × Str × Str) := if (b.length == 0) = false ∧ a.length ≤ sizeLine then some (Txt.partition a b) else none
def intM (a : Str) : Option Int := if a.length ≤ 640 then PySem.intText? a else none
section
variable {K : PySem.W.Frag} {Φ : Fr} {B H : Hp} {cs : List (Addr × HO)} {Q : VK} {a b : Str}
theorem q_split {zs : List Str} (Z : Sit Φ B H cs) (hm : splitM a b = some zs) (k : ∀ v B' H', Sit Φ B' H' cs → Same B B' → (dList dStr).rel B' zs v → Q v H') : ∃ a' b', V.str a = .str a' ∧ [V.str b] = [V.str b'] ∧ (b'.length == 0) = false ∧ a'.length + 2 ≤ sizeLine ∧ rNewStrs (Txt.split a' b') H Q := by
  unfold splitM at hm
  split at hm
  · rename_i h
    cases hm
    exact ⟨a, b, rfl, rfl, h.1.1, h.1.2, nwL Z strs_fa h.2 k⟩
  · cases hm
theorem q_splitO {zs : List Str} (Z : Sit Φ B H cs) (hm : splitM a b = some zs) (k : ∀ p o H', Sit Φ B H' ((p, o) :: cs) → Φ.H p = none → (cList dStr).rel B zs o → Q (.ref p) H') : ∃ a' b', V.str a = .str a' ∧ [V.str b] = [V.str b'] ∧ (b'.length == 0) = false ∧ a'.length + 2 ≤ sizeLine ∧ rNewStrs (Txt.split a' b') H Q := by
  unfold splitM at hm
  split at hm
  · rename_i h
    cases hm
    exact ⟨a, b, rfl, rfl, h.1.1, h.1.2, nwO Z strs_fa h.2 k⟩
  · cases hm
theorem part_sit {p : Addr} {zs : Str × Str × Str} (Z : Sit Φ B H cs) (hm : partM a b = some zs) (hp : H p = none) : ∃ v B' H', V.ref p = v ∧ upd H p (.tup [.str (Txt.partition a b).1, .str (Txt.partition a b).2.1, .str (Txt.partition a b).2.2]) = H' ∧ Sit Φ B' H' cs ∧ Same B B' ∧ (dTrip K dStr dStr dStr).rel B' zs v := by
  unfold partM at hm
  split at hm
  · cases hm
    exact ⟨_, _, _, rfl, rfl, (mk3 (K := K) (R := dStr) (S := dStr) (T := dStr) (x := (Txt.partition a b).1) (y := (Txt.partition a b).2.1) (z := (Txt.partition a b).2.2) (Q := fun v H' => ∃ B', Sit Φ B' H' cs ∧ Same B B' ∧ (dTrip K dStr dStr dStr).rel B' ((Txt.partition a b).1, (Txt.partition a b).2.1, (Txt.partition a b).2.2) v) Z rfl rfl rfl (fun v B' H' S s h => ⟨B', S, s, h⟩)).2 p hp |>.choose_spec⟩
  · cases hm
theorem part_l {zs : Str × Str × Str} (hm : partM a b = some zs) : (b.length == 0) = false ∧ a.length ≤ sizeLine := by
  unfold partM at hm
  split at hm
  · assumption
  · cases hm
theorem int_l {n : Int} (hm : intM a = some n) : PySem.intText? a = some n ∧ a.length ≤ 640 := by
  unfold intM at hm
  split at hm
  · exact ⟨hm, by assumption⟩
  · cases hm
end
/-! ### classmethods -/
def dCls (C : Addr) : Rl Unit := ⟨fun _ _ v => v = .ref C, fun _ h => h⟩
structure CmIs (K : PySem.W.Frag) (C : Addr) (m : Str) (g : Addr) : Prop where
  rd : ClX.CRead K C (.type "type")
  me : ∃ p, ClX.CMet K C (.type "type") m p g
def CmAt (K : PySem.W.Frag) (C : Addr) (m q : Str) (st : Stmt) (ps : List Str) : Prop := ∃ f fd, Fun K m q st f fd ∧ CmIs K C m f ∧ Binds K fd ps []
def CmDoes (P : Program) (w : World) (K : PySem.W.Frag) (mg : Str → Option Value) (base : Heap) (CX : CXT) (lv : Nat) (C : Addr) (m : Str) (ps : List Str) (sp : Sp) : Prop :=
  ∃ f fd, FnOk P w K mg base CX lv f fd ps sp ∧ CmIs K C m f ∧ Binds K fd ps []
section
variable {X : Cx} {CX : CXT} {k : Nat} {f C : Addr} {fd : FuncData} {ps : List Str} {sp : Sp} {E : XK} {x m : Str} {p np pos apos : Pos} {e o : Expr} {es : List Expr} {ta tf : TE} {t : TA} {ds : List Value} {dvs : List V} {pl : Sem Bool}
theorem pe_cm (M : CmIs X.K C m f) (F : FnOk X.prog X.w X.K X.mg X.base CX k f fd ps sp) (hr : Room k X.A) (hb : Binds X.K fd ps []) (hx : Passes CX X E) (he : PE X o ta) (ha : PA X (e :: es) t)
    (hst : starEach (e :: es) X.env = (false, eval e X.env) :: starEach es X.env := by rfl) (hpl : (backTo pos (starEach es X.env)).any (·.1) = false := by rfl)
    (ht : eval (.Call (.Attribute o m apos) (e :: es) [] pos) X.env = (do
      let ov ← eval o X.env
      standAt apos.atName
      let (f, first) ← holding [ov] (getMethod ov m pl)
      callWith pos f first (backTo pos (starEach (e :: es) X.env)) (backToKw pos (keywordEach [] X.env))) := by rfl) :
    PE X (.Call (.Attribute o m apos) (e :: es) [] pos) (ClX.tCMeth C (fun vs H Q E => sp (vs ++ []) H Q E) E ta t) := by
  obtain ⟨p, hp⟩ := M.me
  exact ClX.pe_cmeth he M.rd hp (F.raw hb .nil) hr hx ha hst hpl ht
/-- C(e, ..), C by a local name -/
def tMakeV (C : Addr) (sp : Sp) (dvs : List V) (E : XK) (tf : TE) (t : TA) : TE := fun σ H Q => tf σ H fun c H1 => c = .ref C ∧ tMake C sp dvs E t σ H1 Q
theorem pe_makeV (M : Mk X.K C f) (F : FnOk X.prog X.w X.K X.mg X.base CX k f fd ps sp) (hr : Room (k + 1) X.A) (hb : Binds X.K fd ps ds) (hd : Vals dvs ds) (hx : Passes CX X E) (hf : PE X (.Name x np) tf)
    (ha : PA X (e :: es) t) (he : starEach (e :: es) X.env = (false, eval e X.env) :: starEach es X.env := by rfl) (hpl : (backTo pos (starEach es X.env)).any (·.1) = false := by rfl) :
    PE X (.Call (.Name x np) (e :: es) [] pos) (tMakeV C sp dvs E tf t) := by
  refine ⟨fun pins s σ H Q I h => wpAny_Call_Name_kw (thn (hf.run pins s σ H _ I h) fun u s1 ⟨c, H1, I1, rc, ec, q1⟩ => ?_)⟩
  subst ec
  obtain rfl : u = Value.ref C := rc
  exact PySem.W.callWith_K (h₀ := X.base) I.ok.mod.kin M.kp (thn (ha.run pos pins s1 σ H1 _ I1 q1) fun us s2 ⟨vs, H2, I2, r, q⟩ => ⟨I2.kIn, run_make M F hr hb hd hx I2 r q⟩) he hpl
variable {σ : L2.St} {H : Hp} {Q : VK}
theorem w_makeV (g : tf σ H fun c H1 => c = .ref C ∧ tMake C sp dvs E t σ H1 Q) : tMakeV C sp dvs E tf t σ H Q := g
theorem w_cm (g : ta σ H fun x H1 => x = .ref C ∧ t σ H1 fun vs H2 => sp ((.ref C :: vs) ++ []) H2 Q E) : ClX.tCMeth C (fun vs H Q E => sp (vs ++ []) H Q E) E ta t σ H Q := g
end
theorem cmAt_mk {K : PySem.W.Frag} {C p : Addr} {rest : List Value} {m q : Str} {st : Stmt} {ps : List Str} {f : Addr} (rd : PySem.W.readsIn K C (.type "type") = true) (rg : PySem.W.specialIn K (.ref C) "__getattribute__" = some (some (.builtin "type.__getattribute__")))
    (a : PySem.W.findCls K (.ref C) (.type "type") m = some (.get (.builtin "classmethod.__get__") (.ref p) .none (.ref C))) (rc : PySem.W.recIn K p "classmethod" = some (.ref f :: rest)) (fi : PySem.W.fnIn K f = true)
    (F : ∃ fd, Fun K m q st f fd ∧ Binds K fd ps []) : CmAt K C m q st ps := by
  obtain ⟨fd, h1, h2⟩ := F
  exact ⟨f, fd, h1, ⟨⟨rd, rg⟩, p, a, ⟨rest, rc⟩, fi⟩, h2⟩
end Mf

namespace Mf
open PySem L2 PyProof.Rows TL
/-! ### texts, sign by sign -/
theorem tl_eq (z : Str) : tl z = z.cps.toList := rfl
theorem sw_pre {x y : Str} (hy : tl y ≠ []) : Txt.startswith x y = pre (tl y) (tl x) := by
  have h := at_iff (x := x) hy 0
  rw [List.drop_zero] at h
  unfold PySem.StrLaws.At at h
  unfold Txt.startswith
  rw [Bool.eq_iff_iff, ← h, Bool.and_eq_true, decide_eq_true_iff]
theorem sw_app {x y : Str} (hy : tl y ≠ []) : Txt.startswith (y ++ x) y = true := by rw [sw_pre hy, tl_append]; exact pre_self _ _
theorem tl_cut1 (z : Str) : tl (cutS z (some (1 : Int)) none) = (tl z).drop 1 := by
  unfold cutS
  rw [tl_mk, show (1 : Int) = ((1 : Nat) : Int) from rfl, HT.sIx_nat, len_tl, tl_eq]
  show List.take (z.cps.toList.length - _) _ = _
  by_cases c : 1 ≤ z.cps.toList.length
  · rw [Nat.min_eq_left c, List.take_of_length_le (by rw [List.length_drop]; omega)]
  · rw [Nat.min_eq_right (by omega), Nat.sub_self, List.take_zero, List.drop_eq_nil_of_le (by omega)]
theorem cut1_app {y x : Str} (h : (tl y).length = 1) : cutS (y ++ x) (some (1 : Int)) none = x := by
  apply ext_tl
  rw [tl_cut1, tl_append, List.drop_append_of_le_length (by omega), List.drop_eq_nil_of_le (by omega), List.nil_append]
theorem len_app (x y : Str) : (x ++ y).length = x.length + y.length := Str.length_append x y
theorem app_assoc (x y z : Str) : x ++ y ++ z = x ++ (y ++ z) := by
  apply ext_tl
  rw [tl_append, tl_append, tl_append, tl_append, List.append_assoc]
theorem app_empty (x : Str) : x ++ Str.empty = x := by
  apply ext_tl
  rw [tl_append]
  show tl x ++ [] = _
  rw [List.append_nil]
theorem splitM_some {a b : Str} (hb : (b.length == 0) = false) (ha : a.length < 500000) (hl : (Txt.split a b).length < 500000) : splitM a b = some (Txt.split a b) := by
  unfold splitM BIG
  rw [if_pos ⟨⟨hb, by rw [PySem.sizeLine_eq]; omega⟩, by omega⟩]
theorem partM_some {a b : Str} (hb : (b.length == 0) = false) (ha : a.length < 500000) : partM a b = some (Txt.partition a b) := by
  unfold partM
  rw [if_pos ⟨hb, by rw [PySem.sizeLine_eq]; omega⟩]
theorem join_len_ge (y : Str) : ∀ {ps : List Str}, ∀ p ∈ ps, p.length ≤ (Txt.join y ps).length := by
  intro ps p hp
  rw [join_eq]
  induction ps with
  | nil => cases hp
  | cons a ps ih =>
    cases ps with
    | nil => rw [List.mem_singleton.mp hp]; exact Nat.le_refl _
    | cons b ps =>
      show p.length ≤ (a ++ y ++ Str.join y (b :: ps)).length
      rw [len_app, len_app]
      rcases List.mem_cons.mp hp with rfl | hp
      · omega
      · have := ih hp
        omega
/-- a joined text, split -/
theorem splitM_join {y : Str} {s : Nat} {S : List Nat} (ey : tl y = s :: S) (hk : y.cps.all (· < 256) = true) {ps : List Str} (hne : ps ≠ []) (hp : ∀ p ∈ ps, s ∉ tl p) (hl : (Txt.join y ps).length < 500000) (hn : ps.length < 500000) : splitM (Txt.join y ps) y = some ps := by
  have e := split_join ey hk hne hp
  have hb : (y.length == 0) = false := by rw [len_tl, ey]; rfl
  rw [splitM_some hb hl (by rw [e]; exact hn), e]
theorem partM_app {y : Str} {s : Nat} {S : List Nat} (ey : tl y = s :: S) {a b : Str} (h : s ∉ tl a) (hl : (a ++ y ++ b).length < 500000) : partM (a ++ y ++ b) y = some (a, y, b) := by
  have hb : (y.length == 0) = false := by rw [len_tl, ey]; rfl
  rw [partM_some hb hl, partition_app ey h]
theorem partM_none {y : Str} {s : Nat} {S : List Nat} (ey : tl y = s :: S) {a : Str} (h : s ∉ tl a) (hl : a.length < 500000) : partM a y = some (a, Str.empty, Str.empty) := by
  have hb : (y.length == 0) = false := by rw [len_tl, ey]; rfl
  rw [partM_some hb hl, partition_none ey h]
/-- the signs of a name -/
theorem name_sign {x : Str} (h : IsName x) {c : Nat} (hc : c ∈ tl x) : 97 ≤ c ∧ c ≤ 122 := h.2.2 c hc
theorem tl_ne {x : Str} (h : x.length ≠ 0) : tl x ≠ [] := fun e => h (by rw [len_tl, e]; rfl)
end Mf

namespace Mf
open PySem L2
/-! ### what the top has left, fact by fact -/
section
variable {K : PySem.W.Frag} {h : Heap} {mg : Str → Option Value}
theorem clsF_mk {x : Str} {C : Addr} (X : K.In h) (G : h.Ns mainGlobals mg) (aC : PySem.W.nsIn K mainGlobals x = some (some (.ref C))) (pg : PySem.W.plainGet K C Str.empty = true) (hd : PySem.W.hasDictIn K C = true) (po : PySem.W.plainOver K C = true)
    (sa : PySem.W.findIn K (.ref C) "__setattr__" = some (some (.builtin "object.__setattr__"))) (ha : PySem.W.findIn K (.ref C) "__class__" = some (some (.builtin "object.__class__")))
    (hn : PySem.W.specialIn K (.builtin "object.__class__") "__get__" = some (some (.builtin "getset_descriptor.__get__"))) (htk : PySem.W.takesIn K (.builtin "object.__class__") = some true)
    (hm : PySem.W.mroIn K C (.type "object") = some true) (sf : PySem.W.selfFirst K C = true) (ne : PySem.W.findIn K (.ref C) "__ne__" = some (some (.builtin "object.__ne__"))) : ClsF K mg x C :=
  ⟨PySem.W.mg_of X G aC, ⟨⟨pg, hd, po, sa⟩, ha, hn, htk, hm, by simp [PySem.W.kitOne]⟩, sf, ne⟩
theorem methAt_mk {C : Addr} {m q : Str} {st : Stmt} {ps : List Str} {f : Addr} {oc : Value} {od an : Option Addr} {osl : Array (Option Value)} {kV doc pm cdv ct : Value} (a : PySem.W.findIn K (.ref C) m = some (some (.ref f))) (i : PySem.W.isFn K (.ref f) = true)
    (l : K.lookup f = some ⟨oc, od, .func (PySem.W.fnOf m q (defArgs st) (defBody st) (defScope st) .none kV doc pm an cdv ct), osl⟩) (c : PySem.W.codeIn K cdv q = true) (k : PySem.W.keepIn K (.ref f) = true)
    (hb : ∀ (kV doc pm : Value) (an : Option Addr) (cdv ct : Value) (us : List Value), us.length = ps.length → bindArgs (PySem.W.fnOf m q (defArgs st) (defBody st) (defScope st) .none kV doc pm an cdv ct) ⟨us, []⟩ = pure (ps.zip us)) : MethAt K C m q st ps :=
  ⟨f, _, fun_mk l c k, ⟨a, i, k⟩, (fun_mk l c k).binds hb⟩
theorem mkAt_mk {C : Addr} {q : Str} {st : Stmt} {ps : List Str} {f : Addr} {oc : Value} {od an : Option Addr} {osl : Array (Option Value)} {kV doc pm cdv ct : Value} (a : PySem.W.findIn K (.ref C) "__init__" = some (some (.ref f))) (i : PySem.W.isFn K (.ref f) = true)
    (l : K.lookup f = some ⟨oc, od, .func (PySem.W.fnOf "__init__" q (defArgs st) (defBody st) (defScope st) .none kV doc pm an cdv ct), osl⟩) (c : PySem.W.codeIn K cdv q = true) (k : PySem.W.keepIn K (.ref f) = true) (mk : PySem.W.makesIn K C = true) (kc : PySem.W.keepIn K (.ref C) = true)
    (hb : ∀ (kV doc pm : Value) (an : Option Addr) (cdv ct : Value) (us : List Value), us.length = ps.length → bindArgs (PySem.W.fnOf "__init__" q (defArgs st) (defBody st) (defScope st) .none kV doc pm an cdv ct) ⟨us, []⟩ = pure (ps.zip us)) : MkAt K C q st ps :=
  ⟨f, _, fun_mk l c k, ⟨mk, a, i, kc⟩, (fun_mk l c k).binds hb⟩
theorem law_binds {x q : Str} {st : Stmt} {f : Addr} {fd : FuncData} {p : Str} (F : Fun K x q st f fd)
    (hb : ∀ (kV doc pm : Value) (an : Option Addr) (cdv ct : Value) (u : Value), bindArgs (PySem.W.fnOf x q (defArgs st) (defBody st) (defScope st) .none kV doc pm an cdv ct) ⟨[u], []⟩ = pure [(p, u)]) : ∀ (s : Shared) (u : Value), BindsTo s fd ⟨[u], []⟩ [(p, u)] := fun s u => by
  obtain ⟨oc, od, kV, doc, pm, an, cdv, ct, osl, rfl, _, _⟩ := F.ex
  exact .of_eq (hb kV doc pm an cdv ct u)
/-- a built-in type is no kind of an own class -/
theorem kit_no {C : Addr} {t : String} (ci : PySem.W.isClsIn K C = true) (ty : PySem.W.typeIn K (.ref C) = some (.type "type")) (nf : PySem.W.notFirst K C (.type t) = true) : PySem.W.kitOne K (.type t) (.ref C) = some false := by
  have e : (Value.type t == Value.ref C) = false := by simp
  have sb : PySem.W.subIn K (.type t) (.ref C) = some false := by simpa [PySem.W.notFirst] using nf
  simp only [PySem.W.isClsIn] at ci
  simp [PySem.W.kitOne, PySem.W.kitCls, ci, ty, sb]
/-- a def with one default, a tuple of nothing -/
theorem funD_mk {x q : Str} {st : Stmt} {f T T0 : Addr} {oc tc : Value} {od an td : Option Addr} {osl tsl : Array (Option Value)} {kV doc pm cdv ct : Value} {n : Nat}
    (l : K.lookup f = some ⟨oc, od, .func (PySem.W.fnOf x q (defArgs st) (defBody st) (defScope st) (.ref T) kV doc pm an cdv ct), osl⟩) (c : PySem.W.codeIn K cdv q = true) (k : PySem.W.keepIn K (.ref f) = true)
    (lT : K.lookup T = some ⟨tc, td, .seq [Value.ref T0].toArray n, tsl⟩) :
    FunD K x q (defArgs st) (defBody st) (defScope st) [.ref T0] [] f (PySem.W.fnOf x q (defArgs st) (defBody st) (defScope st) (.ref T) kV doc pm an cdv ct) :=
  ⟨⟨oc, od, .ref T, kV, doc, pm, an, cdv, ct, osl, rfl, l, c, .inr ⟨by simp, T, _, [.ref T0], n, rfl, lT, rfl, .cons rfl .nil⟩, .inl rfl⟩, k⟩
theorem funD_mkV {x q : Str} {st : Stmt} {f T : Addr} {oc tc : Value} {od an td : Option Addr} {osl tsl : Array (Option Value)} {kV doc pm cdv ct : Value} {n : Nat} {dvs : List V} {us : List Value}
    (l : K.lookup f = some ⟨oc, od, .func (PySem.W.fnOf x q (defArgs st) (defBody st) (defScope st) (.ref T) kV doc pm an cdv ct), osl⟩) (c : PySem.W.codeIn K cdv q = true) (k : PySem.W.keepIn K (.ref f) = true)
    (h0 : dvs ≠ []) (lT : K.lookup T = some ⟨tc, td, .seq us.toArray n, tsl⟩) (hv : Vals dvs us) :
    FunD K x q (defArgs st) (defBody st) (defScope st) dvs [] f (PySem.W.fnOf x q (defArgs st) (defBody st) (defScope st) (.ref T) kV doc pm an cdv ct) :=
  ⟨⟨oc, od, .ref T, kV, doc, pm, an, cdv, ct, osl, rfl, l, c, .inr ⟨h0, T, _, us, n, rfl, lT, rfl, hv⟩, .inl rfl⟩, k⟩
/-- own exceptions -/
theorem exm_mk {c cls : Value} {C : Addr} {b : Bool} (hc : c = .ref C) (h1 : PySem.W.subIn K (.ref C) (.type "BaseException") = some true) (ci : PySem.W.isClsIn K C = true) (ty : PySem.W.typeIn K (.ref C) = some (.type "type")) (h2 : PySem.W.subIn K cls (.ref C) = some b) : PySem.W.exmOne K cls c = some b := by
  subst hc
  simp only [PySem.W.isClsIn] at ci
  simp [PySem.W.exmOne, PySem.W.kitCls, h1, ci, ty, h2]
theorem oex_mk {C N : Addr} {nm q : Str} {bs bm : List Value} {sn : List Str} {sub : List Value} {ab : Bool} {col : Option Bool} {dd : Option Addr} {k0 k1 k2 k3 k5 : Option Value} (l : K.lookup C = some (excClassObj nm q C N bs bm true sn sub ab col dd k0 k1 k2 k3 k5 "ValueError.__new__")) (rv : PySem.HandSPX.refsVE bm = true)
    (sa : PySem.W.findIn K (.ref C) "__setattr__" = some (some (.builtin "object.__setattr__"))) (ex : PySem.W.subIn K (.ref C) (.type "BaseException") = some true) (ty : PySem.W.typeIn K (.ref C) = some (.type "type")) (kp : PySem.W.keepIn K (.ref C) = true) : OexC K C :=
  ⟨⟨nm, q, N, bs, bm, sn, sub, ab, col, dd, k0, k1, k2, k3, k5, l, rv⟩, sa, ex, ty, kp⟩
theorem unitT {T0 : Addr} {d0 : Option Addr} {n0 : Nat} {sl0 : Array (Option Value)} (l0 : K.lookup T0 = some ⟨.type "tuple", d0, .seq #[] n0, sl0⟩) (H : Hp) : SqT K H T0 [] :=
  .inr ⟨_, #[], n0, l0, rfl, rfl, by decide, .nil⟩
end
theorem walkL {l : PySem.W.OpenLaw} {q : Program} {loose : List Str} {XP : (Str → Option Value) → Heap → Prop} {YP : World → Heap → Prop} {d : DefRec} {K : Params → PySem.W.Frag} {lv : Nat} {x : Str} (hn : l.most = some 63) (hdf : d.params.defaults = []) (hr : Room lv PySem.callerA)
    (hY : ∀ (w : World) (h : Heap), YP w h → (K w.params).In h)
    (F : ∀ (w : World) (mg : Str → Option Value) (fa : Addr) (h : Heap), (K w.params).In h → h.Ns mainGlobals mg → mg d.name = some (.ref fa) →
      ∃ fd : FuncData, (∀ (s : Shared) (u : Value), BindsTo s fd ⟨[u], []⟩ [(x, u)]) ∧ ∀ base : Heap, (K w.params).In base → base.Ns mainGlobals mg → FnOk l.prog w (K w.params) mg base CX0 lv fa fd [x] (sp_law (K w.params))) :
    PySem.W.WalkO q loose XP YP l.row.toRowW d [] (fun f vs => PySem.call f vs) :=
  L2.walk_of (n := 63) (k := lv) (x := x) (CX := fun _ => CX0) (sp := fun w => sp_law (K w.params)) hn (by decide) hdf hr hY F (fun _ _ a ns hl _ hS => ⟨a, ns, rfl, hS, hl, fun _ => rfl⟩) fun _ _ _ _ _ z => z
end Mf

open PySem L2 Mf
local macro_rules | `(tactic| walk_at "hp") => `(tactic| first | assumption | exact upd_same)
local macro_rules | `(tactic| walk_at "sq") => `(tactic| first | assumption | exact SqL.of (by walk_at "hp") | exact SqT.of (by walk_at "hp"))
local macro_rules | `(tactic| walk_at "sz") => `(tactic| first | assumption | (simp only [PySem.sizeLine_eq, List.length_cons, List.length_nil, List.length_map, List.length_append]; omega) | (simp only [PySem.sizeLine_eq, Str.length_append, empty_len]; omega))
local macro_rules | `(tactic| walk_at "sd") => `(tactic| first | assumption | exact rfl | omega | decide | exact ⟨by omega, by omega⟩ | exact .inl ⟨by omega, by omega⟩ | exact .inr ⟨by omega, by omega⟩ | exact ⟨by decide, by decide, by decide⟩)
local macro_rules | `(tactic| walk_at "s1") => `(tactic| first
  | ((with_reducible refine w_var (v := ?v) ?h ?_); (case h => exact rfl))
  | with_reducible refine w_c ?_
  | with_reducible refine w_op ?_
  | with_reducible refine w_I0 ?_
  | with_reducible refine w_bl ?_
  | with_reducible refine w_test ?_
  | with_reducible refine w_cons ?_
  | with_reducible refine w_nil ?_
  | with_reducible refine w_seq ?_
  | with_reducible refine w_asg ?_
  | with_reducible refine w_gname ?_
  | with_reducible refine w_ifS ?_
  | with_reducible refine w_cb ?_
  | with_reducible refine w_ret ?_
  | with_reducible refine w_drop ?_
  | with_reducible refine w_next ?_
  | with_reducible refine w_retN ?_
  | ((with_reducible refine w_aug (v := ?v) ?h ?_); (case h => exact rfl))
  | with_reducible refine w_ipI ?_
  | with_reducible refine w_int1 ?_
  | with_reducible refine w_call ?_
  | with_reducible refine w_and ?_
  | with_reducible refine w_or ?_
  | with_reducible refine w_not ?_
  | with_reducible refine w_tb ?_
  | with_reducible refine w_un ?_
  | with_reducible refine w_U ?_
  | ((with_reducible refine w_I ?h ?_); (case h => walk_at "sd"))
  | ((with_reducible refine w_eq ?h ?_); (case h => exact rfl))
  | ((with_reducible refine w_ne ?h ?_); (case h => exact rfl))
  | with_reducible refine w_gcons ?_
  | with_reducible refine w_gnil ?_
  | ((with_reducible refine w_gtup (xs := ?xs) ?h ?hn ?_); (case h => walk_at "sq"); (case hn => exact rfl))
  | with_reducible refine w_gsub ?_
  | ((with_reducible refine w_setL (xs := ?xs) (n := ?n) ?h ?hn ?_); (case h => walk_at "hp"); (case hn => exact rfl))
  | ((with_reducible refine w_ixL (xs := ?xs) (v := ?v) ?h ?hn ?_); (case h => walk_at "sq"); (case hn => exact rfl))
  | ((with_reducible refine w_ixT (xs := ?xs) (v := ?v) ?h ?hn ?_); (case h => walk_at "sq"); (case hn => exact rfl))
  | with_reducible refine w_tup ?_
  | with_reducible refine w_lst ?_
  | with_reducible refine iteT ?_
  | with_reducible refine iteF ?_
  | with_reducible refine ite_nt ?_
  | with_reducible refine ite_nf ?_
  | with_reducible refine w_andV ?_
  | with_reducible refine w_orV ?_
  | with_reducible refine w_notV ?_
  | with_reducible refine w_ifE ?_
  | with_reducible refine w_chain ?_
  | with_reducible refine w_yes ?_
  | with_reducible refine w_par ?_
  | with_reducible refine w_two ?_
  | with_reducible refine w_bm ?_
  | with_reducible refine w_bm0 ?_
  | with_reducible refine w_m1 ?_
  | with_reducible refine w_cont ?_
  | with_reducible refine w_iQ ?_
  | ((with_reducible refine w_iQl (xs := ?xs) ?h ?_); (case h => walk_at "sq"))
  | ((with_reducible refine w_iQt (xs := ?xs) ?h ?_); (case h => walk_at "sq"))
  | with_reducible refine w_fld ?_
  | ((with_reducible refine w_fldx (C := ?C) (dx := ?dx) (fs := ?fs) (v := ?v) ?h ?hc ?hn ?hl ?_); (case h => walk_at "hp"); (case hc => assumption); (case hn => assumption); (case hl => first | assumption | exact look_hd))
  | with_reducible refine w_sfld ?_
  | ((with_reducible refine w_sfldx (C := ?C) (dx := ?dx) (fs := ?fs) ?h ?hc ?hn ?hl ?_); (case h => walk_at "hp"); (case hc => assumption); (case hn => assumption); (case hl => first | decide | simp))
  | with_reducible refine w_make ?_
  | with_reducible refine w_sc ?_
  | with_reducible refine w_lc ?_
  | with_reducible refine w_for ?_
  | with_reducible refine w_turn ?_
  | ((with_reducible refine w_wipe ?h ?_); (case h => exact rfl))
  | with_reducible refine w_iR1 ?_
  | ((with_reducible refine w_iR1x ?h ?k ?_); (case h => omega); (case k => omega))
  | with_reducible refine w_iR2 ?_
  | with_reducible refine w_iS ?_
  | with_reducible refine w_iE ?_
  | ((with_reducible refine w_iEx (xs := ?xs) ?h ?_); (case h => walk_at "sq"))
  | with_reducible refine w_iSx ?_
  | with_reducible refine w_strS ?_
  | ((with_reducible refine w_lenL (ys := ?ys) ?h ?_); (case h => walk_at "sq"))
  | ((with_reducible refine w_lenT (ys := ?ys) ?h ?_); (case h => walk_at "sq"))
  | ((with_reducible refine w_lenS ?h ?_); (case h => walk_at "sz"))
  | ((with_reducible refine w_lenD (kvs := ?kvs) ?h ?_); (case h => walk_at "hp"))
  | ((with_reducible refine w_addS ?h ?_); (case h => walk_at "sz"))
  | with_reducible refine w_inC ?_
  | with_reducible refine w_niC ?_
  | with_reducible refine w_isN ?_
  | with_reducible refine w_notN ?_
  | with_reducible refine w_max2 ?_
  | with_reducible refine w_sl ?_
  | with_reducible refine w_noP ?_
  | with_reducible refine w_part ?_
  | with_reducible refine w_exI ?_
  | with_reducible refine w_exS ?_
  | ((with_reducible refine w_slS ?h ?_); (case h => walk_at "sz"))
  | ((with_reducible refine w_tyL (xs := ?xs) ?h ?_); (case h => walk_at "sq"))
  | ((with_reducible refine w_size ?h ?_); (case h => walk_at "sz"))
  | ((with_reducible refine w_clear (xs := ?xs) ?h ?_); (case h => walk_at "hp"))
  | with_reducible refine w_star ?_
  | ((with_reducible refine w_stT (xs := ?xs) ?h ?_); (case h => walk_at "sq"))
  | with_reducible refine w_iL ?_
  | with_reducible refine w_iT ?_
  | ((with_reducible refine w_iLx (xs := ?xs) ?h ?_); (case h => walk_at "sq"))
  | ((with_reducible refine w_iTx (xs := ?xs) ?h ?_); (case h => walk_at "sq"))
  | with_reducible refine w_brk ?_
  | with_reducible refine w_joined ?_
  | with_reducible refine w_js ?_
  | with_reducible refine w_js0 ?_
  | with_reducible refine w_fmt ?_
  | ((with_reducible refine w_fmtS ?h ?_); (case h => walk_at "sz"))
  | ((with_reducible refine w_jx ?h ?_); (case h => walk_at "sz"))
  | with_reducible refine w_dc ?_
  | with_reducible refine w_lc2 ?_
  | with_reducible refine w_turnD ?_
  | with_reducible refine w_turnO ?_
  | with_reducible refine w_turn2 ?_
  | with_reducible refine w_iES ?_
  | with_reducible refine w_dget ?_
  | with_reducible refine w_din ?_
  | with_reducible refine w_dni ?_)
local macro_rules | `(tactic| walk_at "rd") => `(tactic| repeat walk_at "s1")
namespace Mm
open PySem L2 Mf
def top (i : Nat) : Stmt := PySem.Challenge.pw_midfall_k04_program_texts.main.body.getD i (.Pass ⟨0, 0, 0, 0⟩)
abbrev s_source : Stmt := top 16
abbrev s_draw : Stmt := top 17
abbrev s_name : Stmt := top 18
abbrev s_names : Stmt := top 19
abbrev s_step : Stmt := top 20
abbrev s_copy : Stmt := top 22
abbrev s_places : Stmt := top 23
abbrev s_program : Stmt := top 21
abbrev s_any_program : Stmt := top 24
abbrev s_is_name : Stmt := top 9
abbrev s_is_step : Stmt := top 10
abbrev s_invalid_line : Stmt := top 11
abbrev s_line_text : Stmt := top 13
abbrev s_Program___getitem__ : Stmt := inClass (top 14) 4
abbrev s_Program___len__ : Stmt := inClass (top 14) 6
abbrev s_parse_line : Stmt := top 12
abbrev s_Program_text : Stmt := inClass (top 14) 2
abbrev s_Program___eq__ : Stmt := inClass (top 14) 7
abbrev s_Program___init__ : Stmt := inClass (top 14) 0
abbrev s_Program_parse : Stmt := inClass (top 14) 1
abbrev s_line : Stmt := top 25
abbrev s_same_program : Stmt := top 26
abbrev s_law : Stmt := top 27
abbrev s_UnknownProcedure___init__ : Stmt := inClass (top 3) 0
abbrev s_InvalidProgram___init__ : Stmt := inClass (top 2) 0
abbrev O_Program : Type := ((List Str) × (List (Str × (List (Str × Str)))) × (List Str))
def F_Program (K : PySem.W.Frag) (C_Program : Addr)  : Fl O_Program := ⟨fun H x fs => ∃ a0 a1 a2, fs = [(Str.ofString "names", a0), (Str.ofString "bodies", a1), (Str.ofString "places", a2)] ∧ (dTup K dStr).rel H x.1 a0 ∧ (dDict (dTup K (dPair K dStr dStr))).rel H x.2.1 a1 ∧ (dTup K dStr).rel H x.2.2 a2, fun e ⟨a0, a1, a2, h, r0, r1, r2⟩ => ⟨a0, a1, a2, h, (dTup K dStr).mono e r0, (dDict (dTup K (dPair K dStr dStr))).mono e r1, (dTup K dStr).mono e r2⟩⟩
def dO_Program (K : PySem.W.Frag) (C_Program : Addr)  : Rl O_Program := dObj C_Program (F_Program K C_Program)
theorem fld_Program_names {K : PySem.W.Frag} {C_Program : Addr} {B : Hp} {x : O_Program} {v : V} (cl : Cls K C_Program) (nA : NoAttr K C_Program "names") (h : (dO_Program K C_Program).rel B x v) : ∃ w, (dTup K dStr).rel B x.1 w ∧ ∀ H, Same B H → ∃ a C dx fs, v = .ref a ∧ H a = some (.ins C dx fs) ∧ Cls K C ∧ NoAttr K C "names" ∧ fs.lookup (Str.ofString "names") = some w := by
  obtain ⟨p, dx, fs, rfl, h, a0, a1, a2, rfl, r0, r1, r2⟩ := h
  exact ⟨a0, r0, fun H s => ⟨p, _, dx, _, rfl, s _ _ h, cl, nA, rfl⟩⟩
theorem fld_Program_bodies {K : PySem.W.Frag} {C_Program : Addr} {B : Hp} {x : O_Program} {v : V} (cl : Cls K C_Program) (nA : NoAttr K C_Program "bodies") (h : (dO_Program K C_Program).rel B x v) : ∃ w, (dDict (dTup K (dPair K dStr dStr))).rel B x.2.1 w ∧ ∀ H, Same B H → ∃ a C dx fs, v = .ref a ∧ H a = some (.ins C dx fs) ∧ Cls K C ∧ NoAttr K C "bodies" ∧ fs.lookup (Str.ofString "bodies") = some w := by
  obtain ⟨p, dx, fs, rfl, h, a0, a1, a2, rfl, r0, r1, r2⟩ := h
  exact ⟨a1, r1, fun H s => ⟨p, _, dx, _, rfl, s _ _ h, cl, nA, rfl⟩⟩
theorem fld_Program_places {K : PySem.W.Frag} {C_Program : Addr} {B : Hp} {x : O_Program} {v : V} (cl : Cls K C_Program) (nA : NoAttr K C_Program "places") (h : (dO_Program K C_Program).rel B x v) : ∃ w, (dTup K dStr).rel B x.2.2 w ∧ ∀ H, Same B H → ∃ a C dx fs, v = .ref a ∧ H a = some (.ins C dx fs) ∧ Cls K C ∧ NoAttr K C "places" ∧ fs.lookup (Str.ofString "places") = some w := by
  obtain ⟨p, dx, fs, rfl, h, a0, a1, a2, rfl, r0, r1, r2⟩ := h
  exact ⟨a2, r2, fun H s => ⟨p, _, dx, _, rfl, s _ _ h, cl, nA, rfl⟩⟩
end Mm
namespace Mm
open PySem L2 Mf
section
variable {P : Program} {w : World} {K : PySem.W.Frag} {mg : Str → Option Value} {base : Heap} {cx : Nat → Addr}
abbrev n_source : List Str := ["_law_script", "_law_great", "_law_seed", "_law_k", "_law_cell"]
theorem sc_source : FnScope n_source ["_law_script"] (defScope s_source) := ⟨rfl, rfl, rfl, by decide +kernel, rfl, by decide +kernel, by decide +kernel⟩
theorem ok_source (A0 : DefAt K mg "_law_source" s_source ["_law_script"]) (b_enumerate : mg "enumerate" = none) (b_int : mg "int" = none) : Does P w K mg base CX0 1 "_law_source" ["_law_script"] (sp_source K) := by
  obtain ⟨f, fd, F, gm, bd⟩ := A0
  refine ⟨f, fd, ?_, gm, F.kp, bd⟩
  refine F.ok sc_source (fun vs H Q E h => ?_) (fun cdv A outer s H vs Q E hr h => ?_)
  · obtain ⟨a, ns, rfl, _⟩ := h
    rfl
  · obtain ⟨a, ns, rfl, hS, hlen, k⟩ := h
    have hu := hu_of hr
    refine ⟨_, (pss_cons (ps_set (i := 1) sc_source.nd rfl (Or.inl rfl) pe_int)
  (pss_cons (ps_set (i := 2) sc_source.nd rfl (Or.inl rfl) pe_int)
  (pss_cons (ps_for PassesOwn.never rfl (k_iE K (by rfl) b_enumerate (pa_cons (pv 0) pa_nil)) (k_gT K (n := 2) (by rfl) (pgs_cons (pg_name (i := 3) sc_source.nd rfl (Or.inl rfl)) (pgs_cons (pg_name (i := 4) sc_source.nd rfl (Or.inl rfl)) pgs_nil)))
  (C8.pss_cut (ps_if (PW.pt (pw_and (pt_cmpR op_eq (pv 1) pe_int (nomark _)) (pw_and1 (pt_cmpR op_ge (pv 4) (pe_op op_pow pe_int pe_int) (nomark _))))) (pss_one (ps_set (i := 1) sc_source.nd rfl (Or.inl rfl) (pv 4))) pss_nil)
  (pss_one (ps_set (i := 2) sc_source.nd rfl (Or.inl rfl) (pe_op op_mod (pe_callTy c_int1 (by rfl) b_int (by decide +kernel) (pa_cons (pe_op op_add (pe_op op_mul (pe_op op_add (pv 2) (pe_op op_mod (pe_callTy c_int1 (by rfl) b_int (by decide +kernel) (pa_cons (pv 4) pa_nil)) pe_int)) pe_int) (pv 3)) pa_nil)) pe_int)))))
  (pss_one (ps_ret (pe_lst (pa_cons (pv 1) (pa_cons (pv 2) (pa_cons pe_int pa_nil))))))))), ?_⟩
    walk_at "rd"
    refine forb (walk_enum (xs := ns.map V.int)) (fun i σ H2 => ∃ (g sd : Int) (v3 v4 : Option V), σ = [some (.ref a), some (.int g), some (.int sd), v3, v4] ∧ Same H H2 ∧ 0 ≤ sd ∧ sd < 2147483647)
      ⟨0, 104729, _, _, rfl, Same.refl _, by decide, by decide⟩ (fun i σ H2 _ ⟨_, _, _, _, _, s2, _⟩ => s2.seq hS) ?_ ?_
    · rintro i x σ H2 H3 hi ⟨g, sd, v3, v4, rfl, s2, h0, h1⟩ ⟨T, y, z, rfl, nT, rfl, e1, e2⟩
      cases e1
      have e2' : (ns.map V.int)[i]? = some z := e2
      rw [List.getElem?_map] at e2'
      cases e3 : ns[i]? with
      | none => rw [e3] at e2'; cases e2'
      | some n =>
        rw [e3] at e2'; cases e2'
        have s3 : Same H (upd H2 T (.tup [.int (i : Nat), .int n])) := fun b o e => by
          rw [upd_ne (ne_of_none (s2 b o e) nT)]; exact s2 b o e
        walk_at "rd"
        refine w_cut (fun σ' H' => ∃ g', σ' = [some (.ref a), some (.int g'), some (.int sd), some (.int i), some (.int n)] ∧ H' = (upd H2 T (.tup [.int (i : Nat), .int n]))) ?_ ?_
        · walk_at "rd"
          refine w_if (fun h => ?_) (fun h => ?_)
          · walk_at "rd"
            refine w_if (fun h => ?_) (fun h => ?_)
            · walk_at "rd"
              exact ⟨_, rfl, rfl⟩
            · walk_at "rd"
              exact ⟨_, rfl, rfl⟩
          · walk_at "rd"
            exact ⟨_, rfl, rfl⟩
        · rintro σ' H' ⟨g', rfl, rfl⟩
          walk_at "rd"
          exact ⟨_, _, _, _, rfl, s3, Int.emod_nonneg _ (by decide), Int.emod_lt_of_pos _ (by decide)⟩
    · rintro σ H2 ⟨g, sd, v3, v4, rfl, s2, h0, h1⟩
      walk_at "rd"
      intro p np
      exact k p _ (s2.trans (Same.new np)) (s2.free np) ⟨g, sd, upd_same, h0, h1⟩
abbrev n_draw : List Str := ["_law_source_here", "_law_many", "_law_value", "_law_stirred"]
theorem sc_draw : FnScope n_draw ["_law_source_here", "_law_many"] (defScope s_draw) := ⟨rfl, rfl, rfl, by decide +kernel, rfl, by decide +kernel, by decide +kernel⟩
theorem ok_draw (A0 : DefAt K mg "_law_draw" s_draw ["_law_source_here", "_law_many"]) (b_int : mg "int" = none) : Does P w K mg base CX0 1 "_law_draw" ["_law_source_here", "_law_many"] sp_drawM := by
  obtain ⟨f, fd, F, gm, bd⟩ := A0
  refine ⟨f, fd, ?_, gm, F.kp, bd⟩
  refine F.ok sc_draw (fun vs H Q E h => ?_) (fun cdv A outer s H vs Q E hr h => ?_)
  · obtain ⟨_, _, _, _, _, _, rfl, _⟩ := h
    rfl
  · obtain ⟨B, x_0, p, o_0, m, r, rfl, sB, ⟨hp, hb, hx⟩, hm, k⟩ := h
    have hu := hu_of hr
    refine ⟨_, (pss_cons (ps_if (pt_cmpR op_gt (pe_ix (k_ixL K) (pv 0) pe_int (fun _ _ => rfl)) pe_int (nomark _)) (pss_cons (ps_set (i := 2) sc_draw.nd rfl (Or.inl rfl) (pe_op op_mod (pe_callTy c_int1 (by rfl) b_int (by decide +kernel) (pa_cons (pe_ix (k_ixL K) (pv 0) pe_int (fun _ _ => rfl)) pa_nil)) (pv 1)))
  (pss_cons (ps_asg (pe_op op_fdivW (pe_ix (k_ixL K) (pv 0) pe_int (fun _ _ => rfl)) (pv 1)) (pg_sub (pv 0) pe_int set_list))
  (pss_one (ps_ret (pv 2))))) pss_nil)
  (pss_cons (ps_asg (pe_op op_add (pe_ix (k_ixL K) (pv 0) pe_int (fun _ _ => rfl)) pe_int) (pg_sub (pv 0) pe_int set_list))
  (pss_cons (ps_set (i := 3) sc_draw.nd rfl (Or.inl rfl) (pe_op op_mod (pe_callTy c_int1 (by rfl) b_int (by decide +kernel) (pa_cons (pe_op op_pow (pe_op op_add (pe_ix (k_ixL K) (pv 0) pe_int (fun _ _ => rfl)) (pe_op op_mul pe_int (pe_ix (k_ixL K) (pv 0) pe_int (fun _ _ => rfl)))) pe_int) pa_nil)) pe_int))
  (pss_one (ps_ret (pe_op op_mod (pe_callTy c_int1 (by rfl) b_int (by decide +kernel) (pa_cons (pe_op op_mod (pe_callTy c_int1 (by rfl) b_int (by decide +kernel) (pa_cons (pe_op op_mul (pe_op op_add (pv 3) (pe_ix (k_ixL K) (pv 0) pe_int (fun _ _ => rfl))) pe_int) pa_nil)) pe_int) pa_nil)) (pv 1))))))), ?_⟩
    cases (show o_0 = .lst [.int x_0.g, .int x_0.s, .int x_0.c] from hx)
    unfold m_draw at hm
    by_cases hok : (0 ≤ x_0.s ∧ x_0.s < 2147483647 ∧ 0 ≤ x_0.c ∧ x_0.c < 1000000000) ∧ 0 < m ∧ m < 2 ^ 1000
    · rw [if_pos hok] at hm
      obtain ⟨⟨h0, h1, h2, h3⟩, hm0, hM⟩ := hok
      have hD : ∀ z : Int, CDivW z m := fun z => wide_div hm0 (b := 1000) (by omega) (by decide) (by decide)
      have hP : CPow (x_0.s + 7919 * (x_0.c + 1)) 5 := ⟨by decide, by decide, by omega⟩
      have S0 := Sit.start1 sB hp hb
      walk_at "rd"
      refine w_if (fun hg => ?_) (fun hg => ?_)
      · rw [if_pos hg] at hm
        cases hm
        walk_at "rd"
        refine w_I (hD _) ?_
        walk_at "rd"
        exact k _ _ _ _ (S0.set (i := 0) rfl) rfl rfl
      · rw [if_neg hg] at hm
        cases hm
        walk_at "rd"
        exact k _ _ _ _ (S0.set (i := 0) rfl) rfl rfl
    · rw [if_neg hok] at hm
      cases hm
end
end Mm
namespace Mm
open PySem L2 Mf
section
variable {P : Program} {w : World} {K : PySem.W.Frag} {mg : Str → Option Value} {base : Heap} {cx : Nat → Addr}
abbrev n_name : List Str := ["_law_source_here", "_law_taken", "_law_size", "_law_name_here", "_law_k", "_law_one", "_law_letter"]
theorem sc_name : FnScope n_name ["_law_source_here", "_law_taken"] (defScope s_name) := ⟨rfl, rfl, rfl, by decide +kernel, rfl, by decide +kernel, by decide +kernel⟩
def m_name (x_0 : Src3) (x_1 : (List Str)) : Option (Str × Src3) :=
  (m_draw (x_0) ((13 : Int))).bind fun r7 =>
  (atI ([(8 : Int), (4 : Int), (5 : Int), (6 : Int), (7 : Int), (1 : Int), (2 : Int), (3 : Int), (1 : Int), (2 : Int), (3 : Int), (1 : Int), (2 : Int)] : (List Int)) r7.1).bind fun x17 =>
  (rngM x17).bind fun x21 =>
  (lcS (fun (a26 : Int) (st40 : Src3) => (m_draw (st40) ((26 : Int))).bind fun r43 =>
  (ixS (Str.ofString "abcdefghijklmnopqrstuvwxyz") r43.1).bind fun x53 =>
  some ((some x53), r43.2)) x21 r7.2).bind fun r55 =>
  (joinM (Str.ofString "") r55.1).bind fun x75 =>
  (if ((decide ((3 : Int) < x17)) && (decide (x17 < (8 : Int)))) = true then (cutM x75 (some (1 : Int)) none).bind fun x100 =>
  (addS (Str.ofString "q") x100).bind fun x101 =>
  (m_draw (r55.2) ((5 : Int))).bind fun r108 =>
  (atI ([(Str.ofString "read"), (Str.ofString "call"), (Str.ofString "say"), (Str.ofString "try"), x101] : (List Str)) r108.1).bind fun x118 =>
  some (x118, r108.2) else some (x75, r55.2)).bind fun j76 =>
  if (!decide (j76.1 ∈ x_1)) = true then some (j76.1, j76.2) else (charsM (Str.ofString "abcdefghijklmnopq")).bind fun z133 =>
  (lcM (fun (a137 : Str) => (addS (Str.ofString "z") a137).bind fun x153 =>
  some (some x153)) z133).bind fun ys155 =>
  (atI (ys155.filterMap (fun (a171 : Str) => if (!decide (a171 ∈ x_1)) = true then (some a171) else none)) (0 : Int)).bind fun x201 =>
  some (x201, j76.2)
def sp_name (K : PySem.W.Frag) : Sp := fun vs H Q E => ∃ (B : Hp) (x_0 : Src3) (p_0 : Addr) (o_0 : HO) (x_1 : (List Str)) (v_1 : V) (r : (Str × Src3)), vs = [.ref p_0, v_1] ∧ Same B H ∧ (H p_0 = some o_0 ∧ B p_0 = none ∧ cSrc.rel B x_0 o_0) ∧ (dList dStr).rel B x_1 v_1 ∧ m_name x_0 x_1 = some r ∧ ∀ (v : V) (B' H' : Hp) (op_0 : HO), Sit ⟨B, H, [p_0]⟩ B' H' [(p_0, op_0)] → dStr.rel B' r.1 v → cSrc.rel B' r.2 op_0 → Q v H'
theorem use_name {K : PySem.W.Frag} {Φ : Fr} {B H : Hp} {cs : List (Addr × HO)} {Q : VK} {E : XK} {r : (Str × Src3)} {x_0 : Src3} {p_0 : Addr} {o_0 : HO} {i1 : Nat} {x_1 : (List Str)} {v_1 : V} (Z : Sit Φ B H cs) (hc_0 : cs[i1]? = some (p_0, o_0)) (h_0 : cSrc.rel B x_0 o_0) (h_1 : (dList dStr).rel B x_1 v_1) (hm : m_name x_0 x_1 = some r) (k : ∀ (v : V) (B' H' : Hp) (op_0 : HO), Sit Φ B' H' (cs.set i1 (p_0, op_0)) → Same B B' → dStr.rel B' r.1 v → cSrc.rel B' r.2 op_0 → Q v H') : sp_name K ([.ref p_0, v_1] ++ []) H Q E := by
  exact ⟨B, x_0, p_0, o_0, x_1, v_1, r, rfl, Z.sub, ⟨Z.at' hc_0, Z.atB hc_0, h_0⟩, h_1, hm, fun v B' H' op_0 Z' h qp_0 => k v B' H' op_0 (Z.call1 hc_0 Z') Z'.grow h qp_0⟩
theorem ok_name (A0 : DefAt K mg "_law_name" s_name ["_law_source_here", "_law_taken"]) (b_range : mg "range" = none) (D_draw : Does P w K mg base CX0 1 "_law_draw" ["_law_source_here", "_law_many"] sp_drawM) : Does P w K mg base CX0 2 "_law_name" ["_law_source_here", "_law_taken"] (sp_name K ) := by
  obtain ⟨f, fd, F, gm, bd⟩ := A0
  obtain ⟨f_draw, fd_draw, G_draw, g_draw, kp_draw, bd_draw⟩ := D_draw
  refine ⟨f, fd, ?_, gm, F.kp, bd⟩
  refine F.ok sc_name (fun vs H Q E h => ?_) (fun cdv A outer s H vs Q E hr h => ?_)
  · obtain ⟨_, _, _, _, _, _, _, rfl, _⟩ := h
    rfl
  · obtain ⟨B, x_0, p_0, o_0, x_1, v_1, r, rfl, sB, ⟨hp_0, hb_0, hx_0⟩, hx_1, hm, k⟩ := h
    have hu := hu_of hr
    refine ⟨_, (pss_cons (ps_set (i := 2) sc_name.nd rfl (Or.inl rfl) (pe_ix (k_ixL K) (pe_lst (pa_cons pe_int (pa_cons pe_int (pa_cons pe_int (pa_cons pe_int (pa_cons pe_int (pa_cons pe_int (pa_cons pe_int (pa_cons pe_int (pa_cons pe_int (pa_cons pe_int (pa_cons pe_int (pa_cons pe_int (pa_cons pe_int pa_nil)))))))))))))) (pe_call G_draw (hr.mono (by decide)) rfl g_draw kp_draw bd_draw .nil pass0 (pa_cons (pv 0) (pa_cons pe_int pa_nil))) (fun _ _ => rfl)))
  (pss_cons (ps_set (i := 3) sc_name.nd rfl (Or.inl rfl) (k_join K pe_str (pe_lc (own := [("_law_k", 4)]) (tt := tYes) rfl sc_name.nd (pi_range1 (by rfl) b_range (pa_cons (pv 2) pa_nil)) (blkOk_by (own := [("_law_k", 4)]) (N := n_name) (sc := defScope s_name) (by decide +kernel)) (fun _ _ _ _ _ => (pg_name (i := 4) sc_name.nd rfl (Or.inl rfl))) (fun _ _ _ _ _ => pts_nil) (fun _ _ _ _ _ => (pe_ix ix_str pe_str (pe_call G_draw (hr.mono (by decide)) rfl g_draw kp_draw bd_draw .nil pass0 (pa_cons (pv 0) (pa_cons pe_int pa_nil))) (fun _ _ => rfl))))))
  (C8.pss_cut (ps_if (pt_chain op_lt op_lt pe_int (pv 2) pe_int) (pss_one (ps_set (i := 3) sc_name.nd rfl (Or.inl rfl) (pe_ix (k_ixL K) (pe_lst (pa_cons pe_str (pa_cons pe_str (pa_cons pe_str (pa_cons pe_str (pa_cons (pe_op o_addS pe_str (pe_slice sl_str (pv 3) (po_some pe_int) po_none)) pa_nil)))))) (pe_call G_draw (hr.mono (by decide)) rfl g_draw kp_draw bd_draw .nil pass0 (pa_cons (pv 0) (pa_cons pe_int pa_nil))) (fun _ _ => rfl)))) pss_nil)
  (pss_cons (ps_if (pt_cmpR (k_ni K) (pv 3) (pv 1) (by rfl)) (pss_one (ps_ret (pv 3))) pss_nil)
  (pss_one (ps_ret (pe_ix (k_ixL K) (pe_lc (own := [("_law_one", 5)]) rfl sc_name.nd (k_iL K (pe_lc (own := [("_law_letter", 6)]) (tt := tYes) rfl sc_name.nd (pi_str pe_str) (blkOk_by (own := [("_law_letter", 6)]) (N := n_name) (sc := defScope s_name) (by decide +kernel)) (fun _ _ _ _ _ => (pg_name (i := 6) sc_name.nd rfl (Or.inl rfl))) (fun _ _ _ _ _ => pts_nil) (fun _ _ _ _ _ => (pe_op o_addS pe_str (pv 6))))) (blkOk_by (own := [("_law_one", 5)]) (N := n_name) (sc := defScope s_name) (by decide +kernel)) (fun _ _ _ _ _ => (pg_name (i := 5) sc_name.nd rfl (Or.inl rfl))) (fun _ _ _ _ _ => pts_one (pt_cmpR (k_ni K) (pv 5) (pv 1) (by rfl))) (fun _ _ _ _ _ => (pv 5))) pe_int (fun _ _ => rfl)))))))), ?_⟩
    obtain ⟨B0, hB0⟩ : ∃ B0 : Hp, B0 = B := ⟨_, rfl⟩
    subst hB0
    have S0 := Sit.start1 sB hp_0 hb_0
    unfold m_name at hm
    refine w_sig (σ' := [(some (.ref p_0)), (some v_1), none, none, none, none, none]) rfl ?_
    refine w_seq ?_
    refine w_asg ?_
    refine w_op ?_
    refine x_lst ?_
    refine w_evA (EvA.cons Ev.c (EvA.cons Ev.c (EvA.cons Ev.c (EvA.cons Ev.c (EvA.cons Ev.c (EvA.cons Ev.c (EvA.cons Ev.c (EvA.cons Ev.c (EvA.cons Ev.c (EvA.cons Ev.c (EvA.cons Ev.c (EvA.cons Ev.c (EvA.cons Ev.c EvA.nil))))))))))))) ?_
    refine mkL (R := dInt) (xs := [(8 : Int), (4 : Int), (5 : Int), (6 : Int), (7 : Int), (1 : Int), (2 : Int), (3 : Int), (1 : Int), (2 : Int), (3 : Int), (1 : Int), (2 : Int)]) S0 (.cons (show dInt.rel _ (8 : Int) (V.int 8) from rfl) (.cons (show dInt.rel _ (4 : Int) (V.int 4) from rfl) (.cons (show dInt.rel _ (5 : Int) (V.int 5) from rfl) (.cons (show dInt.rel _ (6 : Int) (V.int 6) from rfl) (.cons (show dInt.rel _ (7 : Int) (V.int 7) from rfl) (.cons (show dInt.rel _ (1 : Int) (V.int 1) from rfl) (.cons (show dInt.rel _ (2 : Int) (V.int 2) from rfl) (.cons (show dInt.rel _ (3 : Int) (V.int 3) from rfl) (.cons (show dInt.rel _ (1 : Int) (V.int 1) from rfl) (.cons (show dInt.rel _ (2 : Int) (V.int 2) from rfl) (.cons (show dInt.rel _ (3 : Int) (V.int 3) from rfl) (.cons (show dInt.rel _ (1 : Int) (V.int 1) from rfl) (.cons (show dInt.rel _ (2 : Int) (V.int 2) from rfl) .nil))))))))))))) (by show 13 ≤ BIG; decide) fun v1 B6 H2 S3 s4 h5 => ?_
    refine w_call ?_
    refine w_evA (EvA.cons (Ev.var rfl) (EvA.cons Ev.c EvA.nil)) ?_
    obtain ⟨r7, h8, hm⟩ := bs hm
    refine use_draw S3 (i1 := 0) rfl (Cl.mono _ s4 hx_0) (show dInt.rel _ (13 : Int) (V.int 13) from rfl) h8 fun v9 B13 H10 o14 (S11 : Sit _ B13 H10 [(p_0, o14)]) s12 h16 h15 => ?_
    cases h16
    obtain ⟨x17, hx17, hm⟩ := bs hm
    obtain ⟨_, rfl, r18⟩ := ix_L (K := K) (Rl.mono _ s12 h5) hx17
    refine w_rv (r18 _ S11.sub) ?_
    refine w_gname ?_
    refine w_nx (σ' := [(some (.ref p_0)), (some v_1), (some (V.int x17)), none, none, none, none]) rfl ?_
    refine w_seq ?_
    refine w_asg ?_
    refine w_m1 ?_
    refine w_ev Ev.c ?_
    refine w_exS ?_
    refine w_lc ?_
    refine x_iR1 ?_
    refine w_evA (EvA.cons (Ev.var rfl) EvA.nil) ?_
    obtain ⟨x21, h22, hm⟩ := bs hm
    refine w_itR1 (B := B13) h22 fun J19 it20 hl23 => ?_
    obtain ⟨r55, h56, hm⟩ := bs hm
    refine lcRS (P := dStr) it20 S11 hl23 (fun (st40 : Src3) b cs' => ∃ o41, cs' = [(p_0, o41)] ∧ cSrc.rel b st40 o41) ⟨_, rfl, h15⟩ (h56 : _ = some (r55.1, r55.2)) (fun _ _ _ _ _ Z e _ => e.tr Z.sub) (fun D24 ac25 a26 st40 o27 x28 B31 B32 H33 cs58 ma39 S34 s29 s30 hI57 h35 ho36 RR37 kk38 => ?_) ?_
    · obtain ⟨o41, rfl, h42⟩ := hI57
      refine w_turn ?_
      cases h35
      refine w_gname ?_
      refine w_wipe rfl ?_
      refine w_yes ?_
      refine iteT ?_
      refine w_op ?_
      refine w_ev Ev.c ?_
      refine w_call ?_
      refine w_evA (EvA.cons (Ev.var rfl) (EvA.cons Ev.c EvA.nil)) ?_
      obtain ⟨r43, h44, ho36⟩ := bs ho36
      refine use_draw S34 (i1 := 1) rfl (Cl.mono _ s30 h42) (show dInt.rel _ (26 : Int) (V.int 26) from rfl) h44 fun v45 B49 H46 o50 (S47 : Sit _ B49 H46 [(D24, (.lst ac25)), (p_0, o50)]) s48 h52 h51 => ?_
      cases h52
      obtain ⟨x53, hx53, ho36⟩ := bs ho36
      have hx53l := ixS_len hx53
      refine w_rv (ix_S hx53) ?_
      obtain rfl := Option.some.inj ho36
      exact kk38 _ _ _ _ S47 s48 ⟨o50, rfl, h51⟩ ⟨_, rfl, (show dStr.rel _ x53 (V.str x53) from rfl)⟩
    · intro p59 B66 H60 o61 cs70 S62 s63 hI69 n64 h65
      obtain ⟨o67, rfl, h68⟩ := hI69
      obtain ⟨B73, S71, s72, h74⟩ : ∃ B', Sit _ B' H60 [(p_0, o67)] ∧ Same _ B' ∧ (dList dStr).rel B' r55.1 (.ref p59) := ⟨_, S62.frz (i := 0) rfl n64, S62.frzS (i := 0) rfl, frzL h65 (S62.atB (i := 0) rfl)⟩
      obtain ⟨x75, hx75, hm⟩ := bs hm
      refine q_join (sqL (K := K) h74 S71.sub) hx75 ?_
      refine w_gname ?_
      refine w_nx (σ' := [(some (.ref p_0)), (some v_1), (some (V.int x17)), (some (V.str x75)), none, none, none]) rfl ?_
      obtain ⟨j76, hj77, hm⟩ := bs hm
      refine w_cut (MidD (fun σ' H' => ∃ (B' : Hp) (e124 : V) (o126 : HO), σ' = [(some (.ref p_0)), (some v_1), (some (V.int x17)), (some e124), none, none, none] ∧ Sit (Fr.mk B0 H [p_0]) B' H' [(p_0, o126)] ∧ Same B73 B' ∧ dStr.rel B' j76.1 e124 ∧ cSrc.rel B' j76.2 o126 ∧ True)) ?_ ?_
      · refine w_ifS ?_
        refine w_evT (EvT.test (Ev.chain Ev.c (Ev.var rfl) Ev.c rv_I0 rv_I0)) ?_
        refine w_ifb (fun h99 => ?_) (fun h99 => ?_)
        · rw [ifT h99] at hj77
          refine w_asg ?_
          refine w_op ?_
          refine x_lst ?_
          refine w_cons ?_
          refine w_ev Ev.c ?_
          refine w_cons ?_
          refine w_ev Ev.c ?_
          refine w_cons ?_
          refine w_ev Ev.c ?_
          refine w_cons ?_
          refine w_ev Ev.c ?_
          refine w_cons ?_
          refine w_op ?_
          refine w_ev Ev.c ?_
          obtain ⟨x100, hx100, hj77⟩ := bs hj77
          refine w_sl ?_
          refine w_ev (Ev.var rfl) ?_
          refine w_part ?_
          refine w_ev Ev.c ?_
          refine w_exI ?_
          refine w_noP ?_
          refine q_cut hx100 ?_
          obtain ⟨x101, hx101, hj77⟩ := bs hj77
          refine w_rv (rv_addS hx101) ?_
          refine w_nil ?_
          refine mkL (R := dStr) (xs := [(Str.ofString "read"), (Str.ofString "call"), (Str.ofString "say"), (Str.ofString "try"), x101]) S71 (.cons (show dStr.rel _ (Str.ofString "read") (V.str (Str.ofString "read")) from rfl) (.cons (show dStr.rel _ (Str.ofString "call") (V.str (Str.ofString "call")) from rfl) (.cons (show dStr.rel _ (Str.ofString "say") (V.str (Str.ofString "say")) from rfl) (.cons (show dStr.rel _ (Str.ofString "try") (V.str (Str.ofString "try")) from rfl) (.cons (show dStr.rel _ x101 (V.str x101) from rfl) .nil))))) (by show 5 ≤ BIG; decide) fun v102 B107 H103 S104 s105 h106 => ?_
          refine w_call ?_
          refine w_evA (EvA.cons (Ev.var rfl) (EvA.cons Ev.c EvA.nil)) ?_
          obtain ⟨r108, h109, hj77⟩ := bs hj77
          refine use_draw S104 (i1 := 0) rfl (Cl.mono _ (s72.tr s105) h68) (show dInt.rel _ (5 : Int) (V.int 5) from rfl) h109 fun v110 B114 H111 o115 (S112 : Sit _ B114 H111 [(p_0, o115)]) s113 h117 h116 => ?_
          cases h117
          obtain ⟨x118, hx118, hj77⟩ := bs hj77
          obtain ⟨_, rfl, r119⟩ := ix_L (K := K) (Rl.mono _ s113 h106) hx118
          refine w_rv (r119 _ S112.sub) ?_
          refine w_gname ?_
          refine w_nx (σ' := [(some (.ref p_0)), (some v_1), (some (V.int x17)), (some (V.str x118)), none, none, none]) rfl ?_
          obtain rfl := Option.some.inj hj77
          exact ⟨_, _, _, rfl, S112, (s105.tr s113), (show dStr.rel _ x118 (V.str x118) from rfl), h116, trivial⟩
        · rw [ifF h99] at hj77
          refine w_next ?_
          obtain rfl := Option.some.inj hj77
          exact ⟨_, _, _, rfl, S71, (Same.rf _), (show dStr.rel _ x75 (V.str x75) from rfl), (Cl.mono _ s72 h68), trivial⟩
      · rintro _ H120 ⟨B123, e124, o126, rfl, S121, s122, h125, h127, -⟩
        cases h125
        refine w_seq ?_
        refine w_ifS ?_
        refine w_evT (EvT.test (Ev.op (Ev.var rfl) (Ev.var rfl) (rni_s (sqL (K := K) (Rl.mono _ (s4.tr (s12.tr (s63.tr (s72.tr s122)))) hx_1) S121.sub)))) ?_
        refine w_ifb (fun h128 => ?_) (fun h128 => ?_)
        · rw [ifT h128] at hm
          refine w_ret ?_
          refine w_ev (Ev.var rfl) ?_
          obtain rfl := Option.some.inj hm
          exact k _ _ _ _ S121 (show dStr.rel _ j76.1 (V.str j76.1) from rfl) h127
        · rw [ifF h128] at hm
          refine w_next ?_
          refine w_ret ?_
          refine w_op ?_
          refine w_lc ?_
          refine x_iL ?_
          refine w_lc ?_
          refine x_iS ?_
          refine w_ev Ev.c ?_
          obtain ⟨z133, h134, hm⟩ := bs hm
          have h134l := charsM_le h134
          refine w_itSM (B := B123) h134 fun J131 it132 => ?_
          obtain ⟨ys155, h156, hm⟩ := bs hm
          refine lcR (P := dStr) it132 S121 h134l h156 (fun _ _ _ Z e _ => e.tr Z.sub) (fun D135 ac136 a137 o138 x139 B142 B143 H144 ma150 S145 s140 s141 h146 ho147 RR148 kk149 => ?_) ?_
          · refine w_turn ?_
            obtain ⟨rfl, h152⟩ := h146
            refine w_gname ?_
            refine w_wipe rfl ?_
            refine w_yes ?_
            refine iteT ?_
            obtain ⟨x153, hx153, ho147⟩ := bs ho147
            refine w_ev (Ev.op Ev.c (Ev.var rfl) (rv_addS hx153)) ?_
            obtain rfl := Option.some.inj ho147
            exact kk149 _ _ _ S145 (Same.rf _) ⟨_, rfl, (show dStr.rel _ x153 (V.str x153) from rfl)⟩
          · intro p157 B164 H158 o159 S160 s161 n162 h163
            obtain ⟨B167, S165, s166, h168⟩ : ∃ B', Sit _ B' H158 [(p_0, o126)] ∧ Same _ B' ∧ (dList dStr).rel B' ys155 (.ref p157) := ⟨_, S160.frz (i := 0) rfl n162, S160.frzS (i := 0) rfl, frzL h163 (S160.atB (i := 0) rfl)⟩
            refine w_itL h168 S165.sub fun J129 it130 => ?_
            refine lcR (P := dStr) it130 S165 (dList.le h168) (lcM_total (fun (a171 : Str) => if (!decide (a171 ∈ x_1)) = true then (some a171) else none) ys155) (fun _ _ _ Z e _ => e.tr Z.sub) (fun D169 ac170 a171 o172 x173 B176 B177 H178 ma184 S179 s174 s175 h180 ho181 RR182 kk183 => ?_) ?_
            · refine w_turn ?_
              cases h180
              refine w_gname ?_
              refine w_wipe rfl ?_
              refine w_evT (EvT.test (Ev.op (Ev.var rfl) (Ev.var rfl) (rni_s (sqL (K := K) (Rl.mono _ (s4.tr (s12.tr (s63.tr (s72.tr (s122.tr (s161.tr (s166.tr (s174.tr s175)))))))) hx_1) S179.sub)))) ?_
              refine w_ifb (fun h187 => ?_) (fun h187 => ?_)
              · rw [ifT h187] at ho181
                refine w_ev (Ev.var rfl) ?_
                obtain rfl := Option.some.inj ho181
                exact kk183 _ _ _ S179 (Same.rf _) ⟨_, rfl, (show dStr.rel _ a171 (V.str a171) from rfl)⟩
              · rw [ifF h187] at ho181
                obtain rfl := Option.some.inj ho181
                exact kk183 _ _ _ S179 (Same.rf _) rfl
            · intro p189 B196 H190 o191 S192 s193 n194 h195
              obtain ⟨B199, S197, s198, h200⟩ : ∃ B', Sit _ B' H190 [(p_0, o126)] ∧ Same _ B' ∧ (dList dStr).rel B' (ys155.filterMap (fun (a171 : Str) => if (!decide (a171 ∈ x_1)) = true then (some a171) else none)) (.ref p189) := ⟨_, S192.frz (i := 0) rfl n194, S192.frzS (i := 0) rfl, frzL h195 (S192.atB (i := 0) rfl)⟩
              refine w_ev Ev.c ?_
              obtain ⟨x201, hx201, hm⟩ := bs hm
              obtain ⟨_, rfl, r202⟩ := ix_L (K := K) h200 hx201
              refine w_rv (r202 _ S197.sub) ?_
              obtain rfl := Option.some.inj hm
              exact k _ _ _ _ S197 (show dStr.rel _ x201 (V.str x201) from rfl) (Cl.mono _ (s161.tr (s166.tr (s193.tr s198))) h127)
end
end Mm
namespace Mm
open PySem L2 Mf
section
variable {P : Program} {w : World} {K : PySem.W.Frag} {mg : Str → Option Value} {base : Heap} {cx : Nat → Addr}
abbrev n_names : List Str := ["_law_source_here", "_law_many", "_law_names_here", "_law_k"]
theorem sc_names : FnScope n_names ["_law_source_here", "_law_many"] (defScope s_names) := ⟨rfl, rfl, rfl, by decide +kernel, rfl, by decide +kernel, by decide +kernel⟩
def m_names (x_0 : Src3) (x_1 : Int) : Option ((List Str) × Src3) :=
  (rngM x_1).bind fun x9 =>
  (forL (fun (a18 : Int) (st19 : ((List Str) × Src3)) => (m_name (st19.2) (st19.1)).bind fun r50 =>
  (pushM st19.1 r50.1).bind fun x60 =>
  some (x60, r50.2)) x9 (([] : (List Str)), x_0)).bind fun st72 =>
  some (st72.1, st72.2)
def sp_names (K : PySem.W.Frag) : Sp := fun vs H Q E => ∃ (B : Hp) (x_0 : Src3) (p_0 : Addr) (o_0 : HO) (x_1 : Int) (r : ((List Str) × Src3)), vs = [.ref p_0, (V.int x_1)] ∧ Same B H ∧ (H p_0 = some o_0 ∧ B p_0 = none ∧ cSrc.rel B x_0 o_0) ∧ m_names x_0 x_1 = some r ∧ ∀ (v : V) (B' H' : Hp) (op_0 : HO), Sit ⟨B, H, [p_0]⟩ B' H' [(p_0, op_0)] → (dList dStr).rel B' r.1 v → cSrc.rel B' r.2 op_0 → Q v H'
theorem use_names {K : PySem.W.Frag} {Φ : Fr} {B H : Hp} {cs : List (Addr × HO)} {Q : VK} {E : XK} {r : ((List Str) × Src3)} {x_0 : Src3} {p_0 : Addr} {o_0 : HO} {i1 : Nat} {x_1 : Int} {v_1 : V} (Z : Sit Φ B H cs) (hc_0 : cs[i1]? = some (p_0, o_0)) (h_0 : cSrc.rel B x_0 o_0) (h_1 : dInt.rel B x_1 v_1) (hm : m_names x_0 x_1 = some r) (k : ∀ (v : V) (B' H' : Hp) (op_0 : HO), Sit Φ B' H' (cs.set i1 (p_0, op_0)) → Same B B' → (dList dStr).rel B' r.1 v → cSrc.rel B' r.2 op_0 → Q v H') : sp_names K ([.ref p_0, v_1] ++ []) H Q E := by
  cases h_1
  exact ⟨B, x_0, p_0, o_0, x_1, r, rfl, Z.sub, ⟨Z.at' hc_0, Z.atB hc_0, h_0⟩, hm, fun v B' H' op_0 Z' h qp_0 => k v B' H' op_0 (Z.call1 hc_0 Z') Z'.grow h qp_0⟩
theorem ok_names (A0 : DefAt K mg "_law_names" s_names ["_law_source_here", "_law_many"]) (b_list : mg "list" = none) (b_range : mg "range" = none) (D_name : Does P w K mg base CX0 2 "_law_name" ["_law_source_here", "_law_taken"] (sp_name K )) : Does P w K mg base CX0 3 "_law_names" ["_law_source_here", "_law_many"] (sp_names K ) := by
  obtain ⟨f, fd, F, gm, bd⟩ := A0
  obtain ⟨f_name, fd_name, G_name, g_name, kp_name, bd_name⟩ := D_name
  refine ⟨f, fd, ?_, gm, F.kp, bd⟩
  refine F.ok sc_names (fun vs H Q E h => ?_) (fun cdv A outer s H vs Q E hr h => ?_)
  · obtain ⟨_, _, _, _, _, _, rfl, _⟩ := h
    rfl
  · obtain ⟨B, x_0, p_0, o_0, x_1, r, rfl, sB, ⟨hp_0, hb_0, hx_0⟩, hm, k⟩ := h
    have hu := hu_of hr
    refine ⟨_, (pss_cons (ps_set (i := 2) sc_names.nd rfl (Or.inl rfl) (pe_lst pa_nil))
  (pss_cons (ps_for PassesOwn.never rfl (pi_range1 (by rfl) b_range (pa_cons (pv 1) pa_nil)) (pg_name (i := 3) sc_names.nd rfl (Or.inl rfl))
  (pss_one (ps_expr (k_bm K PySem.F.plainAttrs_list PySem.F.slot_list_append PySem.F.type_list_append mt_append (pv 2) (pa_cons (pe_call G_name (hr.mono (by decide)) rfl g_name kp_name bd_name .nil pass0 (pa_cons (pv 0) (pa_cons (pe_callTy (k_list K) (by rfl) b_list (by decide +kernel) (pa_cons (pv 2) pa_nil)) pa_nil))) pa_nil)))))
  (pss_one (ps_ret (pv 2))))), ?_⟩
    obtain ⟨B0, hB0⟩ : ∃ B0 : Hp, B0 = B := ⟨_, rfl⟩
    subst hB0
    have S0 := Sit.start1 sB hp_0 hb_0
    unfold m_names at hm
    refine w_sig (σ' := [(some (.ref p_0)), (some (V.int x_1)), none, none]) rfl ?_
    refine w_seq ?_
    refine w_asg ?_
    refine x_lst ?_
    refine w_nil ?_
    refine mkO (R := dStr) (xs := []) S0 .nil (by show 0 ≤ BIG; decide) fun p1 o2 H3 S4 n5 h6 => ?_
    refine w_gname ?_
    refine w_nx (σ' := [(some (.ref p_0)), (some (V.int x_1)), (some (.ref p1)), none]) rfl ?_
    refine w_seq ?_
    refine w_for ?_
    refine x_iR1 ?_
    refine w_evA (EvA.cons (Ev.var rfl) EvA.nil) ?_
    obtain ⟨x9, h10, hm⟩ := bs hm
    refine w_itR1 (B := B0) h10 fun J7 it8 hl11 => ?_
    obtain ⟨st72, hl82, hm⟩ := bs hm
    refine forS (s0 := (([] : (List Str)), x_0)) it8 S4 (fun (st12 : ((List Str) × Src3)) b σ' cs' => ∃ (e13 : Option V) (o14 : HO) (o16 : HO), σ' = [(some (.ref p_0)), (some (V.int x_1)), (some (.ref p1)), e13] ∧ cs' = [(p1, o14), (p_0, o16)] ∧ (cList dStr).rel b st12.1 o14 ∧ cSrc.rel b st12.2 o16 ∧ True) ⟨_, _, _, rfl, rfl, h6, hx_0, trivial⟩ hl82 (fun _ _ _ _ _ Z e _ => e.tr Z.sub) (fun a18 st19 o20 x21 B31 B37 H22 _ cs23 ma24 S25 s26 s27 hI28 h29 hf30 => ?_) ?_
    · obtain ⟨e32, o33, o35, rfl, rfl, h34, h36, -⟩ := hI28
      cases h29
      refine w_gname ?_
      refine w_nx (σ' := [(some (.ref p_0)), (some (V.int x_1)), (some (.ref p1)), (some (V.int a18))]) rfl ?_
      refine w_drop ?_
      refine w_bm ?_
      refine w_ev (Ev.var rfl) ?_
      refine w_tyC (Cl.mono _ s27 h34) (S25.at' (i := 0) rfl) ?_
      refine w_cons ?_
      refine w_call ?_
      refine w_cons ?_
      refine w_ev (Ev.var rfl) ?_
      refine w_cons ?_
      refine w_cb ?_
      refine w_evA (EvA.cons (Ev.var rfl) EvA.nil) ?_
      refine q_list S25 (sqC (K := K) (Cl.mono _ s27 h34) (S25.at' (i := 0) rfl)) fun v44 B49 H45 S46 s47 h48 => ?_
      refine w_nil ?_
      obtain ⟨r50, h51, hf30⟩ := bs hf30
      refine use_name S46 (i1 := 1) rfl (Cl.mono _ (s27.tr s47) h36) h48 h51 fun v52 B56 H53 o57 (S54 : Sit _ B56 H53 [(p1, o33), (p_0, o57)]) s55 h59 h58 => ?_
      cases h59
      refine w_nil ?_
      obtain ⟨x60, h61, hf30⟩ := bs hf30
      refine q_append (k := 0) S54 rfl (Cl.mono _ (s27.tr (s47.tr s55)) h34) (show dStr.rel _ r50.1 (V.str r50.1) from rfl) h61 fun o62 H63 (S64 : Sit _ B56 H63 [(p1, o62), (p_0, o57)]) h65 => ?_
      obtain rfl := Option.some.inj hf30
      exact ⟨_, _, S64, (s26.tr (s27.tr (s47.tr s55))), _, _, _, rfl, rfl, h65, h58, trivial⟩
    · intro B71 H66 _ cs67 S68 s69 hI70
      obtain ⟨e73, o74, o76, rfl, rfl, h75, h77, -⟩ := hI70
      obtain ⟨B80, S78, s79, h81⟩ : ∃ B', Sit _ B' H66 [(p_0, o76)] ∧ Same _ B' ∧ (dList dStr).rel B' st72.1 (.ref p1) := ⟨_, S68.frz (i := 0) rfl n5, S68.frzS (i := 0) rfl, frzL h75 (S68.atB (i := 0) rfl)⟩
      refine w_ret ?_
      refine w_ev (Ev.var rfl) ?_
      obtain rfl := Option.some.inj hm
      exact k _ _ _ _ S78 h81 (Cl.mono _ s79 h77)
abbrev n_step : List Str := ["_law_source_here", "_law_names_here", "_law_places_here", "_law_digit"]
theorem sc_step : FnScope n_step ["_law_source_here", "_law_names_here", "_law_places_here"] (defScope s_step) := ⟨rfl, rfl, rfl, by decide +kernel, rfl, by decide +kernel, by decide +kernel⟩
def m_step (x_0 : Src3) (x_1 : (List Str)) (x_2 : (List Str)) : Option ((Str × Str) × Src3) :=
  (m_draw (x_0) ((9 : Int))).bind fun r1 =>
  if ((decide (r1.1 < (3 : Int))) && (decide ((0 : Int) < (x_2.length : Int)))) = true then (m_draw (r1.2) ((x_2.length : Int))).bind fun r12 =>
  (atI x_2 r12.1).bind fun x22 =>
  some (((Str.ofString "read"), x22), r12.2) else if (decide (r1.1 = (8 : Int))) = true then (m_name (r1.2) (([] : (List Str)))).bind fun r37 =>
  some (((Str.ofString "say"), r37.1), r37.2) else (atI ([(Str.ofString "call"), (Str.ofString "try"), (Str.ofString "call")] : (List Str)) (r1.1 % (3 : Int))).bind fun x59 =>
  (m_draw (r1.2) ((x_1.length : Int))).bind fun r61 =>
  (atI x_1 r61.1).bind fun x71 =>
  some ((x59, x71), r61.2)
def sp_step (K : PySem.W.Frag) : Sp := fun vs H Q E => ∃ (B : Hp) (x_0 : Src3) (p_0 : Addr) (o_0 : HO) (x_1 : (List Str)) (v_1 : V) (x_2 : (List Str)) (v_2 : V) (r : ((Str × Str) × Src3)), vs = [.ref p_0, v_1, v_2] ∧ Same B H ∧ (H p_0 = some o_0 ∧ B p_0 = none ∧ cSrc.rel B x_0 o_0) ∧ (dList dStr).rel B x_1 v_1 ∧ (dList dStr).rel B x_2 v_2 ∧ m_step x_0 x_1 x_2 = some r ∧ ∀ (v : V) (B' H' : Hp) (op_0 : HO), Sit ⟨B, H, [p_0]⟩ B' H' [(p_0, op_0)] → (dPair K dStr dStr).rel B' r.1 v → cSrc.rel B' r.2 op_0 → Q v H'
theorem use_step {K : PySem.W.Frag} {Φ : Fr} {B H : Hp} {cs : List (Addr × HO)} {Q : VK} {E : XK} {r : ((Str × Str) × Src3)} {x_0 : Src3} {p_0 : Addr} {o_0 : HO} {i1 : Nat} {x_1 : (List Str)} {v_1 : V} {x_2 : (List Str)} {v_2 : V} (Z : Sit Φ B H cs) (hc_0 : cs[i1]? = some (p_0, o_0)) (h_0 : cSrc.rel B x_0 o_0) (h_1 : (dList dStr).rel B x_1 v_1) (h_2 : (dList dStr).rel B x_2 v_2) (hm : m_step x_0 x_1 x_2 = some r) (k : ∀ (v : V) (B' H' : Hp) (op_0 : HO), Sit Φ B' H' (cs.set i1 (p_0, op_0)) → Same B B' → (dPair K dStr dStr).rel B' r.1 v → cSrc.rel B' r.2 op_0 → Q v H') : sp_step K ([.ref p_0, v_1, v_2] ++ []) H Q E := by
  exact ⟨B, x_0, p_0, o_0, x_1, v_1, x_2, v_2, r, rfl, Z.sub, ⟨Z.at' hc_0, Z.atB hc_0, h_0⟩, h_1, h_2, hm, fun v B' H' op_0 Z' h qp_0 => k v B' H' op_0 (Z.call1 hc_0 Z') Z'.grow h qp_0⟩
theorem ok_step (A0 : DefAt K mg "_law_step" s_step ["_law_source_here", "_law_names_here", "_law_places_here"]) (b_int : mg "int" = none) (b_len : mg "len" = none) (D_draw : Does P w K mg base CX0 1 "_law_draw" ["_law_source_here", "_law_many"] sp_drawM) (D_name : Does P w K mg base CX0 2 "_law_name" ["_law_source_here", "_law_taken"] (sp_name K )) : Does P w K mg base CX0 3 "_law_step" ["_law_source_here", "_law_names_here", "_law_places_here"] (sp_step K ) := by
  obtain ⟨f, fd, F, gm, bd⟩ := A0
  obtain ⟨f_draw, fd_draw, G_draw, g_draw, kp_draw, bd_draw⟩ := D_draw
  obtain ⟨f_name, fd_name, G_name, g_name, kp_name, bd_name⟩ := D_name
  refine ⟨f, fd, ?_, gm, F.kp, bd⟩
  refine F.ok sc_step (fun vs H Q E h => ?_) (fun cdv A outer s H vs Q E hr h => ?_)
  · obtain ⟨_, _, _, _, _, _, _, _, _, rfl, _⟩ := h
    rfl
  · obtain ⟨B, x_0, p_0, o_0, x_1, v_1, x_2, v_2, r, rfl, sB, ⟨hp_0, hb_0, hx_0⟩, hx_1, hx_2, hm, k⟩ := h
    have hu := hu_of hr
    refine ⟨_, (pss_cons (ps_set (i := 3) sc_step.nd rfl (Or.inl rfl) (pe_call G_draw (hr.mono (by decide)) rfl g_draw kp_draw bd_draw .nil pass0 (pa_cons (pv 0) (pa_cons pe_int pa_nil))))
  (pss_cons (ps_if (PW.pt (pw_and (pt_cmpR op_lt (pv 3) pe_int (nomark _)) (pw_and1 (pt_cmpR op_gt (pe_callB (k_len K) (by rfl) b_len (by decide +kernel) (pa_cons (pv 2) pa_nil)) pe_int (nomark _))))) (pss_one (ps_ret (pe_tup (pa_cons pe_str (pa_cons (pe_ix (k_ixL K) (pv 2) (pe_call G_draw (hr.mono (by decide)) rfl g_draw kp_draw bd_draw .nil pass0 (pa_cons (pv 0) (pa_cons (pe_callB (k_len K) (by rfl) b_len (by decide +kernel) (pa_cons (pv 2) pa_nil)) pa_nil))) (fun _ _ => rfl)) pa_nil))))) pss_nil)
  (pss_cons (ps_if (pt_cmpR op_eq (pv 3) pe_int (nomark _)) (pss_one (ps_ret (pe_tup (pa_cons pe_str (pa_cons (pe_call G_name (hr.mono (by decide)) rfl g_name kp_name bd_name .nil pass0 (pa_cons (pv 0) (pa_cons (pe_lst pa_nil) pa_nil))) pa_nil))))) pss_nil)
  (pss_one (ps_ret (pe_tup (pa_cons (pe_ix (k_ixL K) (pe_lst (pa_cons pe_str (pa_cons pe_str (pa_cons pe_str pa_nil)))) (pe_op op_mod (pe_callTy c_int1 (by rfl) b_int (by decide +kernel) (pa_cons (pv 3) pa_nil)) pe_int) (fun _ _ => rfl)) (pa_cons (pe_ix (k_ixL K) (pv 1) (pe_call G_draw (hr.mono (by decide)) rfl g_draw kp_draw bd_draw .nil pass0 (pa_cons (pv 0) (pa_cons (pe_callB (k_len K) (by rfl) b_len (by decide +kernel) (pa_cons (pv 1) pa_nil)) pa_nil))) (fun _ _ => rfl)) pa_nil)))))))), ?_⟩
    obtain ⟨B0, hB0⟩ : ∃ B0 : Hp, B0 = B := ⟨_, rfl⟩
    subst hB0
    have S0 := Sit.start1 sB hp_0 hb_0
    unfold m_step at hm
    refine w_sig (σ' := [(some (.ref p_0)), (some v_1), (some v_2), none]) rfl ?_
    refine w_seq ?_
    refine w_asg ?_
    refine w_call ?_
    refine w_evA (EvA.cons (Ev.var rfl) (EvA.cons Ev.c EvA.nil)) ?_
    obtain ⟨r1, h2, hm⟩ := bs hm
    refine use_draw S0 (i1 := 0) rfl hx_0 (show dInt.rel _ (9 : Int) (V.int 9) from rfl) h2 fun v3 B7 H4 o8 (S5 : Sit _ B7 H4 [(p_0, o8)]) s6 h10 h9 => ?_
    cases h10
    refine w_gname ?_
    refine w_nx (σ' := [(some (.ref p_0)), (some v_1), (some v_2), (some (V.int r1.1))]) rfl ?_
    refine w_seq ?_
    refine w_ifS ?_
    refine w_evT (EvT.and (EvT.test (Ev.op (Ev.var rfl) Ev.c rv_I0)) fun _ => (EvT.test (Ev.op (Ev.cb (EvA.cons (Ev.var rfl) EvA.nil) (rlen_q (sqL (K := K) (Rl.mono _ s6 hx_2) S5.sub))) Ev.c rv_I0))) ?_
    refine w_ifb (fun h11 => ?_) (fun h11 => ?_)
    · rw [ifT h11] at hm
      refine w_ret ?_
      refine x_tup ?_
      refine w_cons ?_
      refine w_ev Ev.c ?_
      refine w_cons ?_
      refine w_op ?_
      refine w_ev (Ev.var rfl) ?_
      refine w_call ?_
      refine w_evA (EvA.cons (Ev.var rfl) (EvA.cons (Ev.cb (EvA.cons (Ev.var rfl) EvA.nil) (rlen_q (sqL (K := K) (Rl.mono _ s6 hx_2) S5.sub))) EvA.nil)) ?_
      obtain ⟨r12, h13, hm⟩ := bs hm
      refine use_draw S5 (i1 := 0) rfl h9 (show dInt.rel _ (x_2.length : Int) (V.int (x_2.length : Int)) from rfl) h13 fun v14 B18 H15 o19 (S16 : Sit _ B18 H15 [(p_0, o19)]) s17 h21 h20 => ?_
      cases h21
      obtain ⟨x22, hx22, hm⟩ := bs hm
      obtain ⟨_, rfl, r23⟩ := ix_L (K := K) (Rl.mono _ (s6.tr s17) hx_2) hx22
      refine w_rv (r23 _ S16.sub) ?_
      refine w_nil ?_
      refine mk2 (K := K)   S16 (show dStr.rel _ (Str.ofString "read") (V.str (Str.ofString "read")) from rfl) (show dStr.rel _ x22 (V.str x22) from rfl) fun v24 B29 H25 S26 s27 h28 => ?_
      obtain rfl := Option.some.inj hm
      exact k _ _ _ _ S26 h28 (Cl.mono _ s27 h20)
    · rw [ifF h11] at hm
      refine w_next ?_
      refine w_seq ?_
      refine w_ifS ?_
      refine w_evT (EvT.test (Ev.op (Ev.var rfl) Ev.c rv_eqI)) ?_
      refine w_ifb (fun h30 => ?_) (fun h30 => ?_)
      · rw [ifT h30] at hm
        refine w_ret ?_
        refine x_tup ?_
        refine w_cons ?_
        refine w_ev Ev.c ?_
        refine w_cons ?_
        refine w_call ?_
        refine w_cons ?_
        refine w_ev (Ev.var rfl) ?_
        refine w_cons ?_
        refine x_lst ?_
        refine w_nil ?_
        refine mkL (R := dStr) (xs := []) S5 .nil (by show 0 ≤ BIG; decide) fun v31 B36 H32 S33 s34 h35 => ?_
        refine w_nil ?_
        obtain ⟨r37, h38, hm⟩ := bs hm
        refine use_name S33 (i1 := 0) rfl (Cl.mono _ s34 h9) h35 h38 fun v39 B43 H40 o44 (S41 : Sit _ B43 H40 [(p_0, o44)]) s42 h46 h45 => ?_
        cases h46
        refine w_nil ?_
        refine mk2 (K := K)   S41 (show dStr.rel _ (Str.ofString "say") (V.str (Str.ofString "say")) from rfl) (show dStr.rel _ r37.1 (V.str r37.1) from rfl) fun v47 B52 H48 S49 s50 h51 => ?_
        obtain rfl := Option.some.inj hm
        exact k _ _ _ _ S49 h51 (Cl.mono _ s50 h45)
      · rw [ifF h30] at hm
        refine w_next ?_
        refine w_ret ?_
        refine x_tup ?_
        refine w_cons ?_
        refine w_op ?_
        refine x_lst ?_
        refine w_evA (EvA.cons Ev.c (EvA.cons Ev.c (EvA.cons Ev.c EvA.nil))) ?_
        refine mkL (R := dStr) (xs := [(Str.ofString "call"), (Str.ofString "try"), (Str.ofString "call")]) S5 (.cons (show dStr.rel _ (Str.ofString "call") (V.str (Str.ofString "call")) from rfl) (.cons (show dStr.rel _ (Str.ofString "try") (V.str (Str.ofString "try")) from rfl) (.cons (show dStr.rel _ (Str.ofString "call") (V.str (Str.ofString "call")) from rfl) .nil))) (by show 3 ≤ BIG; decide) fun v53 B58 H54 S55 s56 h57 => ?_
        refine w_ev (Ev.op (Ev.cb (EvA.cons (Ev.var rfl) EvA.nil) fun _ q => ⟨_, rfl, q⟩) Ev.c (rv_I (by decide))) ?_
        obtain ⟨x59, hx59, hm⟩ := bs hm
        obtain ⟨_, rfl, r60⟩ := ix_L (K := K) h57 hx59
        refine w_rv (r60 _ S55.sub) ?_
        refine w_cons ?_
        refine w_op ?_
        refine w_ev (Ev.var rfl) ?_
        refine w_call ?_
        refine w_evA (EvA.cons (Ev.var rfl) (EvA.cons (Ev.cb (EvA.cons (Ev.var rfl) EvA.nil) (rlen_q (sqL (K := K) (Rl.mono _ (s6.tr s56) hx_1) S55.sub))) EvA.nil)) ?_
        obtain ⟨r61, h62, hm⟩ := bs hm
        refine use_draw S55 (i1 := 0) rfl (Cl.mono _ s56 h9) (show dInt.rel _ (x_1.length : Int) (V.int (x_1.length : Int)) from rfl) h62 fun v63 B67 H64 o68 (S65 : Sit _ B67 H64 [(p_0, o68)]) s66 h70 h69 => ?_
        cases h70
        obtain ⟨x71, hx71, hm⟩ := bs hm
        obtain ⟨_, rfl, r72⟩ := ix_L (K := K) (Rl.mono _ (s6.tr (s56.tr s66)) hx_1) hx71
        refine w_rv (r72 _ S65.sub) ?_
        refine w_nil ?_
        refine mk2 (K := K)   S65 (show dStr.rel _ x59 (V.str x59) from rfl) (show dStr.rel _ x71 (V.str x71) from rfl) fun v73 B78 H74 S75 s76 h77 => ?_
        obtain rfl := Option.some.inj hm
        exact k _ _ _ _ S75 h77 (Cl.mono _ s76 h69)
abbrev n_copy : List Str := ["_law_procedures", "_law_name_here", "_law_body"]
theorem sc_copy : FnScope n_copy ["_law_procedures"] (defScope s_copy) := ⟨rfl, rfl, rfl, by decide +kernel, rfl, by decide +kernel, by decide +kernel⟩
def m_copy (x_0 : (List (Str × (List (Str × Str))))) : Option (List (Str × (List (Str × Str)))) :=
  some (x_0.map (fun (a5 : (Str × (List (Str × Str)))) => (a5.1, a5.2)))
def sp_copy (K : PySem.W.Frag) : Sp := fun vs H Q E => ∃ (B : Hp) (x_0 : (List (Str × (List (Str × Str))))) (v_0 : V) (r : (List (Str × (List (Str × Str))))), vs = [v_0] ∧ Same B H ∧ (dList (dPair K dStr (dList (dPair K dStr dStr)))).rel B x_0 v_0 ∧ m_copy x_0 = some r ∧ ∀ (v : V) (B' H' : Hp) , Sit ⟨B, H, []⟩ B' H' [] → (dList (dPair K dStr (dList (dPair K dStr dStr)))).rel B' r v → Q v H'
theorem use_copy {K : PySem.W.Frag} {Φ : Fr} {B H : Hp} {cs : List (Addr × HO)} {Q : VK} {E : XK} {r : (List (Str × (List (Str × Str))))} {x_0 : (List (Str × (List (Str × Str))))} {v_0 : V} (Z : Sit Φ B H cs) (h_0 : (dList (dPair K dStr (dList (dPair K dStr dStr)))).rel B x_0 v_0) (hm : m_copy x_0 = some r) (k : ∀ (v : V) (B' H' : Hp) , Sit Φ B' H' cs → Same B B' → (dList (dPair K dStr (dList (dPair K dStr dStr)))).rel B' r v → Q v H') : sp_copy K ([v_0] ++ []) H Q E := by
  exact ⟨B, x_0, v_0, r, rfl, Z.sub, h_0, hm, fun v B' H'  Z' h  => k v B' H'  (Z.call0 Z') Z'.grow h ⟩
theorem ok_copy (A0 : DefAt K mg "_law_copy" s_copy ["_law_procedures"]) (b_list : mg "list" = none) : Does P w K mg base CX0 1 "_law_copy" ["_law_procedures"] (sp_copy K ) := by
  obtain ⟨f, fd, F, gm, bd⟩ := A0
  refine ⟨f, fd, ?_, gm, F.kp, bd⟩
  refine F.ok sc_copy (fun vs H Q E h => ?_) (fun cdv A outer s H vs Q E hr h => ?_)
  · obtain ⟨_, _, _, _, rfl, _⟩ := h
    rfl
  · obtain ⟨B, x_0, v_0, r, rfl, sB, hx_0, hm, k⟩ := h
    have hu := hu_of hr
    refine ⟨_, (pss_one (ps_ret (pe_lc (own := [("_law_name_here", 1), ("_law_body", 2)]) (tt := tYes) rfl sc_copy.nd (k_iL K (pv 0)) (blkOk_by (own := [("_law_name_here", 1), ("_law_body", 2)]) (N := n_copy) (sc := defScope s_copy) (by decide +kernel)) (fun _ _ _ _ _ => (k_gT K (n := 2) (by rfl) (pgs_cons (pg_name (i := 1) sc_copy.nd rfl (Or.inl rfl)) (pgs_cons (pg_name (i := 2) sc_copy.nd rfl (Or.inl rfl)) pgs_nil)))) (fun _ _ _ _ _ => pts_nil) (fun _ _ _ _ _ => (pe_tup (pa_cons (pv 1) (pa_cons (pe_callTy (k_list K) (by rfl) b_list (by decide +kernel) (pa_cons (pv 2) pa_nil)) pa_nil))))))), ?_⟩
    obtain ⟨B0, hB0⟩ : ∃ B0 : Hp, B0 = B := ⟨_, rfl⟩
    subst hB0
    have S0 := Sit.start0 sB
    unfold m_copy at hm
    refine w_sig (σ' := [(some v_0), none, none]) rfl ?_
    refine w_ret ?_
    refine w_lc ?_
    refine x_iL ?_
    refine w_ev (Ev.var rfl) ?_
    refine w_itL hx_0 S0.sub fun J1 it2 => ?_
    refine lcR (P := (dPair K dStr (dList (dPair K dStr dStr)))) it2 S0 (dList.le hx_0) (lcM_map (fun (a5 : (Str × (List (Str × Str)))) => (a5.1, a5.2)) x_0) (fun _ _ _ Z e _ => e.tr Z.sub) (fun D3 ac4 a5 o6 x7 B10 B11 H12 ma18 S13 s8 s9 h14 ho15 RR16 kk17 => ?_) ?_
    · refine w_turn ?_
      obtain ⟨w37, w39, h38, h40, hu41⟩ := un_p (K := K) h14
      refine w_gun (hu41 _ S13.sub) rfl ?_
      refine w_gcons ?_
      cases h38
      refine w_gname ?_
      refine w_gcons ?_
      refine w_gname ?_
      refine w_gnil ?_
      refine w_wipe rfl ?_
      refine w_yes ?_
      refine iteT ?_
      refine x_tup ?_
      refine w_cons ?_
      refine w_ev (Ev.var rfl) ?_
      refine w_cons ?_
      refine w_cb ?_
      refine w_evA (EvA.cons (Ev.var rfl) EvA.nil) ?_
      refine q_list S13 (sqL (K := K) h40 S13.sub) fun v42 B47 H43 S44 s45 h46 => ?_
      refine w_nil ?_
      refine mk2 (K := K)   S44 (show dStr.rel _ a5.1 (V.str a5.1) from rfl) h46 fun v48 B53 H49 S50 s51 h52 => ?_
      obtain rfl := Option.some.inj ho15
      exact kk17 _ _ _ S50 (s45.tr s51) ⟨_, rfl, h52⟩
    · intro p55 B62 H56 o57 S58 s59 n60 h61
      obtain ⟨B65, S63, s64, h66⟩ : ∃ B', Sit _ B' H56 [] ∧ Same _ B' ∧ (dList (dPair K dStr (dList (dPair K dStr dStr)))).rel B' (x_0.map (fun (a5 : (Str × (List (Str × Str)))) => (a5.1, a5.2))) (.ref p55) := ⟨_, S58.frz (i := 0) rfl n60, S58.frzS (i := 0) rfl, frzL h61 (S58.atB (i := 0) rfl)⟩
      obtain rfl := Option.some.inj hm
      exact k _ _ _  S63 h66
abbrev n_places : List Str := ["_law_procedures", "_law_found", "_law_name_here", "_law_body", "_law_kind", "_law_word", "_law_place"]
theorem sc_places : FnScope n_places ["_law_procedures"] (defScope s_places) := ⟨rfl, rfl, rfl, by decide +kernel, rfl, by decide +kernel, by decide +kernel⟩
def m_places (x_0 : (List (Str × (List (Str × Str))))) : Option (List Str) :=
  (forL (fun (a16 : (Str × (List (Str × Str)))) (st17 : (List Str)) => (forL (fun (a55 : (Str × Str)) (st56 : (List Str)) => if ((decide (a55.1 = (Str.ofString "read"))) && (!decide (a55.2 ∈ st56))) = true then (pushM st56 a55.2).bind fun x86 =>
  some x86 else some st56) a16.2 st17).bind fun st98 =>
  some st98) x_0 ([] : (List Str))).bind fun st110 =>
  (srtM (st110.map (fun (a125 : Str) => a125))).bind fun r153 =>
  some r153
def sp_places (K : PySem.W.Frag) : Sp := fun vs H Q E => ∃ (B : Hp) (x_0 : (List (Str × (List (Str × Str))))) (v_0 : V) (r : (List Str)), vs = [v_0] ∧ Same B H ∧ (dList (dPair K dStr (dList (dPair K dStr dStr)))).rel B x_0 v_0 ∧ m_places x_0 = some r ∧ ∀ (v : V) (B' H' : Hp) , Sit ⟨B, H, []⟩ B' H' [] → (dList dStr).rel B' r v → Q v H'
theorem use_places {K : PySem.W.Frag} {Φ : Fr} {B H : Hp} {cs : List (Addr × HO)} {Q : VK} {E : XK} {r : (List Str)} {x_0 : (List (Str × (List (Str × Str))))} {v_0 : V} (Z : Sit Φ B H cs) (h_0 : (dList (dPair K dStr (dList (dPair K dStr dStr)))).rel B x_0 v_0) (hm : m_places x_0 = some r) (k : ∀ (v : V) (B' H' : Hp) , Sit Φ B' H' cs → Same B B' → (dList dStr).rel B' r v → Q v H') : sp_places K ([v_0] ++ []) H Q E := by
  exact ⟨B, x_0, v_0, r, rfl, Z.sub, h_0, hm, fun v B' H'  Z' h  => k v B' H'  (Z.call0 Z') Z'.grow h ⟩
theorem ok_places (A0 : DefAt K mg "_law_places" s_places ["_law_procedures"]) (b_sorted : mg "sorted" = none) (b_str : mg "str" = none) : Does P w K mg base CX0 1 "_law_places" ["_law_procedures"] (sp_places K ) := by
  obtain ⟨f, fd, F, gm, bd⟩ := A0
  refine ⟨f, fd, ?_, gm, F.kp, bd⟩
  refine F.ok sc_places (fun vs H Q E h => ?_) (fun cdv A outer s H vs Q E hr h => ?_)
  · obtain ⟨_, _, _, _, rfl, _⟩ := h
    rfl
  · obtain ⟨B, x_0, v_0, r, rfl, sB, hx_0, hm, k⟩ := h
    have hu := hu_of hr
    refine ⟨_, (pss_cons (ps_set (i := 1) sc_places.nd rfl (Or.inl rfl) (pe_lst pa_nil))
  (pss_cons (ps_for PassesOwn.never rfl (k_iL K (pv 0)) (k_gT K (n := 2) (by rfl) (pgs_cons (pg_name (i := 2) sc_places.nd rfl (Or.inl rfl)) (pgs_cons (pg_name (i := 3) sc_places.nd rfl (Or.inl rfl)) pgs_nil)))
  (pss_one (ps_for PassesOwn.never rfl (k_iL K (pv 3)) (k_gT K (n := 2) (by rfl) (pgs_cons (pg_name (i := 4) sc_places.nd rfl (Or.inl rfl)) (pgs_cons (pg_name (i := 5) sc_places.nd rfl (Or.inl rfl)) pgs_nil)))
  (pss_one (ps_if (PW.pt (pw_and (pt_cmpR op_eq (pv 4) pe_str (nomark _)) (pw_and1 (pt_cmpR (k_ni K) (pv 5) (pv 1) (by rfl))))) (pss_one (ps_expr (k_bm K PySem.F.plainAttrs_list PySem.F.slot_list_append PySem.F.type_list_append mt_append (pv 1) (pa_cons (pv 5) pa_nil)))) pss_nil)))))
  (pss_one (ps_ret (pe_callB (k_sortS K) (by rfl) b_sorted (by decide +kernel) (pa_cons (pe_lc (own := [("_law_place", 6)]) (tt := tYes) rfl sc_places.nd (k_iL K (pv 1)) (blkOk_by (own := [("_law_place", 6)]) (N := n_places) (sc := defScope s_places) (by decide +kernel)) (fun _ _ _ _ _ => (pg_name (i := 6) sc_places.nd rfl (Or.inl rfl))) (fun _ _ _ _ _ => pts_nil) (fun _ _ _ _ _ => (pe_callTy c_strS (by rfl) b_str (by decide +kernel) (pa_cons (pv 6) pa_nil)))) pa_nil)))))), ?_⟩
    obtain ⟨B0, hB0⟩ : ∃ B0 : Hp, B0 = B := ⟨_, rfl⟩
    subst hB0
    have S0 := Sit.start0 sB
    unfold m_places at hm
    refine w_sig (σ' := [(some v_0), none, none, none, none, none, none]) rfl ?_
    refine w_seq ?_
    refine w_asg ?_
    refine x_lst ?_
    refine w_nil ?_
    refine mkO (R := dStr) (xs := []) S0 .nil (by show 0 ≤ BIG; decide) fun p1 o2 H3 S4 n5 h6 => ?_
    refine w_gname ?_
    refine w_nx (σ' := [(some v_0), (some (.ref p1)), none, none, none, none, none]) rfl ?_
    refine w_seq ?_
    refine w_for ?_
    refine x_iL ?_
    refine w_ev (Ev.var rfl) ?_
    refine w_itL hx_0 S4.sub fun J7 it8 => ?_
    obtain ⟨st110, hl161, hm⟩ := bs hm
    refine forS (s0 := ([] : (List Str))) it8 S4 (fun (st9 : (List Str)) b σ' cs' => ∃ (e10 : Option V) (e11 : Option V) (e12 : Option V) (e13 : Option V) (o14 : HO), σ' = [(some v_0), (some (.ref p1)), e10, e11, e12, e13, none] ∧ cs' = [(p1, o14)] ∧ (cList dStr).rel b st9 o14 ∧ True) ⟨_, _, _, _, _, rfl, rfl, h6, trivial⟩ hl161 (fun _ _ _ _ _ Z e _ => e.tr Z.sub) (fun a16 st17 o18 x19 B29 B36 H20 _ cs21 ma22 S23 s24 s25 hI26 h27 hf28 => ?_) ?_
    · obtain ⟨e30, e31, e32, e33, o34, rfl, rfl, h35, -⟩ := hI26
      obtain ⟨w43, w45, h44, h46, hu47⟩ := un_p (K := K) h27
      refine w_gun (hu47 _ S23.sub) rfl ?_
      refine w_gcons ?_
      cases h44
      refine w_gname ?_
      refine w_gcons ?_
      refine w_gname ?_
      refine w_gnil ?_
      refine w_nx (σ' := [(some v_0), (some (.ref p1)), (some (V.str a16.1)), (some w45), e32, e33, none]) rfl ?_
      refine w_for ?_
      refine x_iL ?_
      refine w_ev (Ev.var rfl) ?_
      refine w_itL h46 S23.sub fun J48 it49 => ?_
      obtain ⟨st98, hl103, hf28⟩ := bs hf28
      refine forS (s0 := st17) it49 S23 (fun (st50 : (List Str)) b σ' cs' => ∃ (e51 : Option V) (e52 : Option V) (o53 : HO), σ' = [(some v_0), (some (.ref p1)), (some (V.str a16.1)), (some w45), e51, e52, none] ∧ cs' = [(p1, o53)] ∧ (cList dStr).rel b st50 o53 ∧ True) ⟨_, _, _, rfl, rfl, (Cl.mono _ s25 h35), trivial⟩ hl103 (fun _ _ _ _ _ Z e _ => e.tr Z.sub) (fun a55 st56 o57 x58 B68 B73 H59 _ cs60 ma61 S62 s63 s64 hI65 h66 hf67 => ?_) ?_
      · obtain ⟨e69, e70, o71, rfl, rfl, h72, -⟩ := hI65
        obtain ⟨w80, w82, h81, h83, hu84⟩ := un_p (K := K) h66
        refine w_gun (hu84 _ S62.sub) rfl ?_
        refine w_gcons ?_
        cases h81
        refine w_gname ?_
        refine w_gcons ?_
        cases h83
        refine w_gname ?_
        refine w_gnil ?_
        refine w_nx (σ' := [(some v_0), (some (.ref p1)), (some (V.str a16.1)), (some w45), (some (V.str a55.1)), (some (V.str a55.2)), none]) rfl ?_
        refine w_ifS ?_
        refine w_evT (EvT.and (EvT.test (Ev.op (Ev.var rfl) Ev.c rv_eqS)) fun _ => (EvT.test (Ev.op (Ev.var rfl) (Ev.var rfl) (rni_s (sqC (K := K) (Cl.mono _ s64 h72) (S62.at' (i := 0) rfl)))))) ?_
        refine w_ifb (fun h85 => ?_) (fun h85 => ?_)
        · rw [ifT h85] at hf67
          refine w_drop ?_
          refine w_bm ?_
          refine w_ev (Ev.var rfl) ?_
          refine w_tyC (Cl.mono _ s64 h72) (S62.at' (i := 0) rfl) ?_
          refine w_evA (EvA.cons (Ev.var rfl) EvA.nil) ?_
          obtain ⟨x86, h87, hf67⟩ := bs hf67
          refine q_append (k := 0) S62 rfl (Cl.mono _ s64 h72) (show dStr.rel _ a55.2 (V.str a55.2) from rfl) h87 fun o88 H89 (S90 : Sit _ B73 H89 [(p1, o88)]) h91 => ?_
          obtain rfl := Option.some.inj hf67
          exact ⟨_, _, S90, (s63.tr s64), _, _, _, rfl, rfl, h91, trivial⟩
        · rw [ifF h85] at hf67
          refine w_next ?_
          obtain rfl := Option.some.inj hf67
          exact ⟨_, _, S62, (s63.tr s64), _, _, _, rfl, rfl, (Cl.mono _ s64 h72), trivial⟩
      · intro B97 H92 _ cs93 S94 s95 hI96
        obtain ⟨e99, e100, o101, rfl, rfl, h102, -⟩ := hI96
        obtain rfl := Option.some.inj hf28
        exact ⟨_, _, S94, (s24.tr (s25.tr s95)), _, _, _, _, _, rfl, rfl, h102, trivial⟩
    · intro B109 H104 _ cs105 S106 s107 hI108
      obtain ⟨e111, e112, e113, e114, o115, rfl, rfl, h116, -⟩ := hI108
      obtain ⟨B119, S117, s118, h120⟩ : ∃ B', Sit _ B' H104 [] ∧ Same _ B' ∧ (dList dStr).rel B' st110 (.ref p1) := ⟨_, S106.frz (i := 0) rfl n5, S106.frzS (i := 0) rfl, frzL h116 (S106.atB (i := 0) rfl)⟩
      refine w_ret ?_
      refine w_cb ?_
      refine w_cons ?_
      refine w_lc ?_
      refine x_iL ?_
      refine w_ev (Ev.var rfl) ?_
      refine w_itL h120 S117.sub fun J121 it122 => ?_
      refine lcR (P := dStr) it122 S117 (dList.le h120) (lcM_map (fun (a125 : Str) => a125) st110) (fun _ _ _ Z e _ => e.tr Z.sub) (fun D123 ac124 a125 o126 x127 B130 B131 H132 ma138 S133 s128 s129 h134 ho135 RR136 kk137 => ?_) ?_
      · refine w_turn ?_
        cases h134
        refine w_gname ?_
        refine w_wipe rfl ?_
        refine w_yes ?_
        refine iteT ?_
        refine w_ev (Ev.cb (EvA.cons (Ev.var rfl) EvA.nil) fun _ q => ⟨_, rfl, q⟩) ?_
        obtain rfl := Option.some.inj ho135
        exact kk137 _ _ _ S133 (Same.rf _) ⟨_, rfl, (show dStr.rel _ a125 (V.str a125) from rfl)⟩
      · intro p141 B148 H142 o143 S144 s145 n146 h147
        obtain ⟨B151, S149, s150, h152⟩ : ∃ B', Sit _ B' H142 [] ∧ Same _ B' ∧ (dList dStr).rel B' (st110.map (fun (a125 : Str) => a125)) (.ref p141) := ⟨_, S144.frz (i := 0) rfl n146, S144.frzS (i := 0) rfl, frzL h147 (S144.atB (i := 0) rfl)⟩
        refine w_nil ?_
        obtain ⟨r153, h154, hm⟩ := bs hm
        refine q_sortS S149 h152 h154 fun v155 B160 H156 S157 s158 h159 => ?_
        obtain rfl := Option.some.inj hm
        exact k _ _ _  S157 h159
end
end Mm
namespace Mm
open PySem L2 Mf
def Dn (x : Str) : Prop := x.length ≤ 3 ∨ x.length = 8 ∨ x ∈ [Str.ofString "read", Str.ofString "call", Str.ofString "say", Str.ofString "try"] ∨ x.cps.toList.head? = some 113
theorem name_wpD {s : Src3} {n : Int} {xs : List Str} (ok : s.ok n) (hn : n + 10 < 1000000000) (hl : xs.length ≤ 16) : Wp (m_name s xs) (fun r => (IsName r.1 ∧ r.1 ∉ xs ∧ r.2.ok (n + 10)) ∧ Dn r.1) := by
  unfold m_name
  refine (wp_draw ok (by omega) (by decide) (by decide)).bind fun r hr => ?_
  obtain ⟨r0, r1, ok1⟩ := hr
  refine (wp_atM (P := fun x => 1 ≤ x ∧ x ≤ 8) r0 (by exact r1) (by decide)).bind fun z hz => ?_
  refine Wp.go (rngM_eq (by omega) (by omega)) ?_
  refine Wp.bind (P := fun (t : List Str × Src3) => ∃ cs : List Nat, t.1 = cs.map sign ∧ cs.length = z.toNat ∧ (∀ c ∈ cs, 97 ≤ c ∧ c ≤ 122) ∧ t.2.ok (n + 9)) ?_ fun t ht => ?_
  · refine (wp_lcS (fun i ys s' => ∃ cs : List Nat, ys = cs.map sign ∧ cs.length = i ∧ (∀ c ∈ cs, 97 ≤ c ∧ c ≤ 122) ∧ s'.ok (n + 1 + i)) ⟨[], rfl, rfl, by simp, by simpa using ok1⟩ ?_).mono ?_
    · rintro i a ys s' ha ⟨cs, rfl, hc, hcs, ok2⟩
      have hi : i < z.toNat := by
        have := (List.getElem?_eq_some_iff.mp ha).1
        simpa using this
      refine (wp_draw ok2 (by omega) (by decide) (by decide)).bind fun u hu => ?_
      obtain ⟨u0, u1, ok3⟩ := hu
      obtain ⟨c, hc', hc2⟩ := letters_at u0 u1
      refine Wp.go (a := sign c) (by unfold ixS; rw [if_pos (by rw [letters_len]; decide), hc']; rfl) ?_
      exact ⟨_, rfl, cs ++ [c], by simp, by simp [hc], fun d hd => by
        rcases List.mem_append.mp hd with h | h
        · exact hcs d h
        · rw [List.mem_singleton.mp h]; exact hc2, ok3.le (by push_cast; omega)⟩
    · rintro ⟨ys, s'⟩ ⟨cs, h1, h2, h3, h4⟩
      refine ⟨cs, h1, by rw [h2]; simp, h3, h4.le ?_⟩
      have : (List.map (fun k => ((k : Nat) : Int)) (List.range z.toNat)).length = z.toNat := by simp
      rw [this]; omega
  obtain ⟨ys, s2⟩ := t
  obtain ⟨cs, rfl, hc, hcs, ok2⟩ := ht
  refine Wp.go (a := (⟨cs.toArray⟩ : Str)) (by unfold joinM; rw [if_pos (signs_size cs (by omega)), join_signs]) ?_
  have hx : IsName ⟨cs.toArray⟩ := ⟨by rw [len_list]; simp; omega, by rw [len_list]; simp; omega, by simpa using hcs⟩
  have hxl : (⟨cs.toArray⟩ : Str).length = z.toNat := by rw [len_list]; simp; omega
  generalize (⟨cs.toArray⟩ : Str) = x at hx hxl
  have hx8 := hx.2.1
  refine Wp.bind (P := fun (t : Str × Src3) => (IsName t.1 ∧ Dn t.1) ∧ t.2.ok (n + 10)) (Wp.ite (fun h => ?_) (fun h => ⟨_, rfl, ⟨hx, by
    rw [Bool.and_eq_false_iff, decide_eq_false_iff_not, decide_eq_false_iff_not] at h
    show x.length ≤ 3 ∨ x.length = 8 ∨ _
    omega⟩, ok2.le (by omega)⟩)) fun t ht => ?_
  · rw [Bool.and_eq_true, decide_eq_true_iff, decide_eq_true_iff] at h
    refine Wp.go (cutM_eq (by omega)) ?_
    have hxc := cutS_length x (some 1) none
    refine Wp.go (addS_eq (by rw [show (Str.ofString "q").length = 1 from by decide +kernel]; omega)) ?_
    refine (wp_draw ok2 (by omega) (by decide) (by decide)).bind fun u hu => ?_
    obtain ⟨u0, u1, ok3⟩ := hu
    refine (wp_atM (P := fun y => IsName y ∧ Dn y) u0 (by exact u1) ?_).bind fun y hy => ⟨_, rfl, hy, ok3.le (by omega)⟩
    intro y hy
    simp only [List.mem_cons, List.not_mem_nil, or_false] at hy
    rcases hy with rfl | rfl | rfl | rfl | rfl
    · exact ⟨by decide +kernel, .inr (.inr (.inl (by simp)))⟩
    · exact ⟨by decide +kernel, .inr (.inr (.inl (by simp)))⟩
    · exact ⟨by decide +kernel, .inr (.inr (.inl (by simp)))⟩
    · exact ⟨by decide +kernel, .inr (.inr (.inl (by simp)))⟩
    · refine ⟨isName_q hx (by omega), .inr (.inr (.inr ?_))⟩
      show ((Str.ofString "q").cps ++ _).toList.head? = some 113
      rw [Array.toList_append]
      rfl
  · obtain ⟨y, s3⟩ := t
    obtain ⟨hy, ok3⟩ := ht
    refine Wp.ite (fun h => ⟨_, rfl, ⟨hy.1, by simpa using h, ok3⟩, hy.2⟩) (fun _ => ?_)
    refine Wp.go (charsM_eq (by decide +kernel)) ?_
    refine Wp.go (lcM_mapE (fun a => Str.ofString "z" ++ a) fun a ha => ?_) ?_
    · obtain ⟨c, hc, rfl⟩ := List.mem_map.mp ha
      show (addS _ _).bind _ = _
      rw [addS_eq (by rw [show (Str.ofString "z").length = 1 from by decide +kernel, show (⟨#[c]⟩ : Str).length = 1 from rfl]; decide)]
      rfl
    have ez : (chars (Str.ofString "abcdefghijklmnopq")).map (fun a => Str.ofString "z" ++ a) = zNames := by
      unfold chars zNames sign
      rw [List.map_map]
      rfl
    rw [ez]
    obtain ⟨k, hk, hkn⟩ := pigeon zNames xs zNames_nodup (by rw [zNames_len]; omega)
    have hm : k ∈ zNames.filterMap (fun (a : Str) => if (!decide (a ∈ xs)) = true then some a else none) := List.mem_filterMap.mpr ⟨k, hk, by simp [hkn]⟩
    refine (wp_atM (P := fun x => (IsName x ∧ x ∉ xs) ∧ Dn x) (by decide) (by have := List.length_pos_of_mem hm; omega) ?_).bind fun y' hy' => ⟨_, rfl, ⟨hy'.1.1, hy'.1.2, ok3⟩, hy'.2⟩
    intro w hw
    obtain ⟨v, hv, e⟩ := List.mem_filterMap.mp hw
    by_cases hvx : v ∈ xs
    · simp [hvx] at e
    · simp [hvx] at e
      subst e
      exact ⟨⟨zNames_isName _ hv, hvx⟩, .inl (by
        have : ∀ v ∈ zNames, v.length ≤ 3 := by decide +kernel
        exact this _ hv)⟩
theorem name_wp {s : Src3} {n : Int} {xs : List Str} (ok : s.ok n) (hn : n + 10 < 1000000000) (hl : xs.length ≤ 16) : Wp (m_name s xs) (fun r => IsName r.1 ∧ r.1 ∉ xs ∧ r.2.ok (n + 10)) := (name_wpD ok hn hl).mono fun _ h => h.1
theorem names_wpD {s : Src3} {n m : Int} (ok : s.ok n) (h0 : 0 ≤ m) (h1 : m ≤ 16) (hn : n + 10 * m + 10 < 1000000000) : Wp (m_names s m) (fun r => (Names r.1 ∧ (r.1.length : Int) = m ∧ r.2.ok (n + 10 * m)) ∧ ∀ x ∈ r.1, Dn x) := by
  unfold m_names
  refine Wp.go (rngM_eq h0 (by omega)) ?_
  have el : (List.map (fun k => ((k : Nat) : Int)) (List.range m.toNat)).length = m.toNat := by simp
  refine (wp_forL (fun i (t : List Str × Src3) => (Names t.1 ∧ t.1.length = i ∧ t.2.ok (n + 10 * i)) ∧ ∀ x ∈ t.1, Dn x) ⟨⟨⟨List.nodup_nil, by simp⟩, rfl, by simpa using ok⟩, by simp⟩ ?_).bind fun t ht => ?_
  · rintro i a ⟨ys, s'⟩ ha ⟨⟨hN, hl, ok1⟩, hD⟩
    have hi : i < m.toNat := by have := (List.getElem?_eq_some_iff.mp ha).1; rwa [el] at this
    simp only at hl
    refine (name_wpD ok1 (by omega) (by simp only; omega)).bind fun r hr => ?_
    obtain ⟨hr, hrd⟩ := hr
    refine Wp.go (pushM_eq (by simp only; omega)) ?_
    refine ⟨_, rfl, ⟨⟨?_, fun x hx => ?_⟩, by simp [hl], hr.2.2.le (by push_cast; omega)⟩, fun x hx => ?_⟩
    · rw [List.nodup_append]
      exact ⟨hN.1, by simp, fun a ha b hb => by rw [List.mem_singleton.mp hb]; rintro rfl; exact hr.2.1 ha⟩
    · rcases List.mem_append.mp hx with h | h
      · exact hN.2 x h
      · rw [List.mem_singleton.mp h]; exact hr.1
    · rcases List.mem_append.mp hx with h | h
      · exact hD x h
      · rw [List.mem_singleton.mp h]; exact hrd
  · rw [el] at ht
    obtain ⟨ht, hD⟩ := ht
    refine ⟨_, rfl, ⟨ht.1, ?_, ht.2.2.le (by omega)⟩, hD⟩
    have := ht.2.1
    simp only
    omega
theorem names_wp {s : Src3} {n m : Int} (ok : s.ok n) (h0 : 0 ≤ m) (h1 : m ≤ 16) (hn : n + 10 * m + 10 < 1000000000) : Wp (m_names s m) (fun r => Names r.1 ∧ (r.1.length : Int) = m ∧ r.2.ok (n + 10 * m)) := (names_wpD ok h0 h1 hn).mono fun _ h => h.1
/-- a step that is drawn -/
def StepOk (ns pl : List Str) (s : Stp) : Prop := (s.1 = Str.ofString "read" ∧ s.2 ∈ pl) ∨ (s.1 = Str.ofString "say" ∧ IsName s.2) ∨ (s.1 ∈ calls ∧ s.2 ∈ ns)
theorem step_wp {s : Src3} {n : Int} {ns pl : List Str} (ok : s.ok n) (hn : n + 12 < 1000000000) (h0 : 0 < ns.length) (h1 : ns.length ≤ 1000) (h2 : pl.length ≤ 1000) : Wp (m_step s ns pl) (fun r => StepOk ns pl r.1 ∧ r.2.ok (n + 12)) := by
  unfold m_step
  refine (wp_draw ok (by omega) (by decide) (by decide)).bind fun r hr => ?_
  obtain ⟨r0, r1, ok1⟩ := hr
  refine Wp.ite (fun h => ?_) (fun h => Wp.ite (fun h => ?_) (fun h => ?_))
  · rw [Bool.and_eq_true, decide_eq_true_iff, decide_eq_true_iff] at h
    refine (wp_draw ok1 (by omega) h.2 (by omega)).bind fun u hu => ?_
    refine (wp_atM (P := fun x => x ∈ pl) hu.1 hu.2.1 fun x hx => hx).bind fun x hx => ?_
    exact ⟨_, rfl, .inl ⟨rfl, hx⟩, hu.2.2.le (by omega)⟩
  · refine (name_wp ok1 (by omega) (by simp)).bind fun u hu => ?_
    exact ⟨_, rfl, .inr (.inl ⟨rfl, hu.1⟩), hu.2.2.le (by omega)⟩
  · refine (wp_atM (P := fun x => x ∈ calls) (Int.emod_nonneg _ (by decide)) (Int.emod_lt_of_pos _ (by decide)) (by decide +kernel)).bind fun k hk => ?_
    refine (wp_draw ok1 (by omega) (by omega) (by omega)).bind fun u hu => ?_
    refine (wp_atM (P := fun x => x ∈ ns) hu.1 hu.2.1 fun x hx => hx).bind fun x hx => ?_
    exact ⟨_, rfl, .inr (.inr ⟨hk, hx⟩), hu.2.2.le (by omega)⟩
theorem steps_wp {s : Src3} {n : Int} {ns pl : List Str} {is : List Int} (ok : s.ok n) (hi : is.length ≤ 100) (hn : n + 12 * is.length + 12 < 1000000000) (h0 : 0 < ns.length) (h1 : ns.length ≤ 1000) (h2 : pl.length ≤ 1000) :
    Wp (lcS (fun (a : Int) (st : Src3) => (m_step st ns pl).bind fun r => some (some r.1, r.2)) is s) (fun r => r.1.length = is.length ∧ (∀ x ∈ r.1, StepOk ns pl x) ∧ r.2.ok (n + 12 * is.length)) := by
  refine (wp_lcS (fun i ys s' => ys.length = i ∧ (∀ x ∈ ys, StepOk ns pl x) ∧ s'.ok (n + 12 * i)) ⟨rfl, by simp, by simpa using ok⟩ ?_).mono fun r h => h
  rintro i a ys s' ha ⟨hl, hy, ok1⟩
  have hi' := (List.getElem?_eq_some_iff.mp ha).1
  refine (step_wp ok1 (by omega) h0 h1 h2).bind fun r hr => ?_
  refine ⟨_, rfl, by simp [hl], fun x hx => ?_, hr.2.le (by push_cast; omega)⟩
  rcases List.mem_append.mp hx with h | h
  · exact hy x h
  · simp at h; subst h; exact hr.1
/-- procedures that are drawn: the first ones of the names, bodies of at most k steps -/
structure Made (ns pl : List Str) (k : Nat) (ps : List Prc) : Prop where
  nm : nms ps = ns.take ps.length
  len : ps.length ≤ ns.length
  short : ∀ p ∈ ps, p.2.length ≤ k
  step : ∀ p ∈ ps, ∀ s ∈ p.2, StepOk ns pl s
theorem Made.nil {ns pl : List Str} {k : Nat} : Made ns pl k [] := ⟨rfl, Nat.zero_le _, by simp, by simp⟩
theorem Made.push {ns pl : List Str} {k : Nat} {ps : List Prc} {x : Str} {b : List Stp} (h : Made ns pl k ps) (hx : ns[ps.length]? = some x) (hb : b.length ≤ k) (hs : ∀ s ∈ b, StepOk ns pl s) : Made ns pl k (ps ++ [(x, b)]) where
  nm := by
    unfold nms
    rw [List.map_append, List.length_append]
    show nms ps ++ [x] = _
    rw [h.nm]
    exact (take_next hx).symm
  len := by
    have := (List.getElem?_eq_some_iff.mp hx).1
    rw [List.length_append]; simp; omega
  short := fun p hp => by
    rcases List.mem_append.mp hp with z | z
    · exact h.short p z
    · rw [List.mem_singleton.mp z]; exact hb
  step := fun p hp => by
    rcases List.mem_append.mp hp with z | z
    · exact h.step p z
    · rw [List.mem_singleton.mp z]; exact hs
theorem StepOk.good {ns pl : List Str} {s : Stp} (hN : Names ns) (hP : Names pl) (h : StepOk ns pl s) : GoodStp ns s := by
  obtain ⟨k, x⟩ := s
  rcases h with ⟨h1, h2⟩ | ⟨h1, h2⟩ | ⟨h1, h2⟩
  · simp only at h1 h2
    subst h1
    exact ⟨by show Str.ofString "read" ∈ kinds; decide +kernel, hP.2 x h2, fun z => absurd z (by show ¬ Str.ofString "read" ∈ calls; decide +kernel)⟩
  · simp only at h1 h2
    subst h1
    exact ⟨by show Str.ofString "say" ∈ kinds; decide +kernel, h2, fun z => absurd z (by show ¬ Str.ofString "say" ∈ calls; decide +kernel)⟩
  · simp only at h1 h2
    refine ⟨?_, hN.2 x h2, fun _ => h2⟩
    unfold calls at h1
    unfold kinds
    simp only [List.mem_cons, List.not_mem_nil, or_false] at h1 ⊢
    exact .inr (.inr h1)
theorem Made.good {ns pl : List Str} {k : Nat} {ps : List Prc} (h : Made ns pl k ps) (hN : Names ns) (hP : Names pl) (hk : k ≤ 12) (hl : ps.length = ns.length) (h0 : 0 < ns.length) (h16 : ns.length ≤ 16) (hp : pl.length < 64) : Good ps := by
  have en : nms ps = ns := by rw [h.nm, hl, List.take_length]
  refine ⟨by omega, by omega, by rw [en]; exact hN.1, fun p hp => hN.2 _ (by rw [← en]; exact List.mem_map.mpr ⟨p, hp, rfl⟩), fun p hp => Nat.le_trans (h.short p hp) hk, fun p hp s hs => by rw [en]; exact (h.step p hp s hs).good hN hP, ?_⟩
  have : (addAll (reads ps)).length ≤ pl.length := by
    refine nodup_le (addAll_nodup _) fun z hz => ?_
    rw [mem_addAll] at hz
    obtain ⟨p, hp, s, hs, e⟩ := mem_reads.mp hz
    unfold rdOf at e
    by_cases c : s.1 = ("read" : Str)
    · rw [if_pos c] at e
      cases e
      rcases h.step p hp s hs with ⟨_, h2⟩ | ⟨h1, _⟩ | ⟨h1, _⟩
      · exact h2
      · rw [c] at h1; exact absurd h1 (by decide +kernel)
      · rw [c] at h1; exact absurd h1 (by decide +kernel)
    · rw [if_neg c] at e; cases e
  omega
theorem Made.places {ns pl : List Str} {k : Nat} {ps : List Prc} (h : Made ns pl k ps) : (places ps).length ≤ pl.length := by
  refine nd_le (nset_nodup _) fun z hz => ?_
  obtain ⟨p, hp, s, hs, e⟩ := mem_reads.mp (mem_nset.mp hz)
  unfold rdOf at e
  by_cases c : s.1 = ("read" : Str)
  · rw [if_pos c] at e
    cases e
    rcases h.step p hp s hs with ⟨_, h2⟩ | ⟨h1, _⟩ | ⟨h1, _⟩
    · exact h2
    · rw [c] at h1; exact absurd h1 (by decide +kernel)
    · rw [c] at h1; exact absurd h1 (by decide +kernel)
  · rw [if_neg c] at e; cases e
theorem rng_at {m : Int} {i : Nat} {a : Int} (h : (List.map (fun k => ((k : Nat) : Int)) (List.range m.toNat))[i]? = some a) : a = i ∧ i < m.toNat := by
  have hi := (List.getElem?_eq_some_iff.mp h).1
  simp only [List.length_map, List.length_range] at hi
  rw [List.getElem?_map, List.getElem?_range hi] at h
  cases h
  exact ⟨rfl, hi⟩
theorem rng_len (m : Int) : (List.map (fun k => ((k : Nat) : Int)) (List.range m.toNat)).length = m.toNat := by simp
end Mm
namespace Mm
open PySem L2 Mf
section
variable {P : Program} {w : World} {K : PySem.W.Frag} {mg : Str → Option Value} {base : Heap} {cx : Nat → Addr}
abbrev n_program : List Str := ["_law_source_here", "_law_most", "_law_many", "_law_names_here", "_law_places_here", "_law_ring", "_law_procedures", "_law_k", "_law_body", "_law_step_here"]
theorem sc_program : FnScope n_program ["_law_source_here", "_law_most"] (defScope s_program) := ⟨rfl, rfl, rfl, by decide +kernel, rfl, by decide +kernel, by decide +kernel⟩
def m_program (x_0 : Src3) (x_1 : Int) : Option ((List (Str × (List (Str × Str)))) × Src3) :=
  (m_draw (x_0) (x_1)).bind fun r1 =>
  (m_names (r1.2) (((1 : Int) + r1.1))).bind fun r11 =>
  (m_draw (r11.2) ((4 : Int))).bind fun r21 =>
  (m_names (r21.2) (r21.1)).bind fun r31 =>
  (m_draw (r31.2) ((3 : Int))).bind fun r41 =>
  (rngM ((1 : Int) + r1.1)).bind fun x59 =>
  (forL (fun (a69 : Int) (st70 : ((List (Str × (List (Str × Str)))) × Src3)) => (m_draw (st70.2) ((4 : Int))).bind fun r98 =>
  (rngM r98.1).bind fun x108 =>
  (lcS (fun (a113 : Int) (st127 : Src3) => (m_step (st127) (r11.1) (r31.1)).bind fun r130 =>
  some ((some r130.1), r130.2)) x108 r98.2).bind fun r141 =>
  (if (decide (r41.1 = (1 : Int))) = true then (modM (a69 + (1 : Int)) ((1 : Int) + r1.1)).bind fun x160 =>
  (atI r11.1 ((a69 + (1 : Int)) % ((1 : Int) + r1.1))).bind fun x161 =>
  (pushM r141.1 ((Str.ofString "call"), x161)).bind fun x169 =>
  (m_draw (r141.2) ((3 : Int))).bind fun r177 =>
  (rngM r177.1).bind fun x187 =>
  (lcS (fun (a192 : Int) (st206 : Src3) => (m_step (st206) (r11.1) (r31.1)).bind fun r209 =>
  some ((some r209.1), r209.2)) x187 r177.2).bind fun r220 =>
  (catM x169 r220.1).bind fun x240 =>
  some (x240, r220.2) else some (r141.1, r141.2)).bind fun j157 =>
  (atI r11.1 a69).bind fun x254 =>
  (pushM st70.1 (x254, j157.1)).bind fun x266 =>
  some (x266, j157.2)) x59 (([] : (List (Str × (List (Str × Str))))), r41.2)).bind fun st278 =>
  some (st278.1, st278.2)
def sp_program (K : PySem.W.Frag) : Sp := fun vs H Q E => ∃ (B : Hp) (x_0 : Src3) (p_0 : Addr) (o_0 : HO) (x_1 : Int) (r : ((List (Str × (List (Str × Str)))) × Src3)), vs = [.ref p_0, (V.int x_1)] ∧ Same B H ∧ (H p_0 = some o_0 ∧ B p_0 = none ∧ cSrc.rel B x_0 o_0) ∧ m_program x_0 x_1 = some r ∧ ∀ (v : V) (B' H' : Hp) (op_0 : HO), Sit ⟨B, H, [p_0]⟩ B' H' [(p_0, op_0)] → (dList (dPair K dStr (dList (dPair K dStr dStr)))).rel B' r.1 v → cSrc.rel B' r.2 op_0 → Q v H'
theorem use_program {K : PySem.W.Frag} {Φ : Fr} {B H : Hp} {cs : List (Addr × HO)} {Q : VK} {E : XK} {r : ((List (Str × (List (Str × Str)))) × Src3)} {x_0 : Src3} {p_0 : Addr} {o_0 : HO} {i1 : Nat} {x_1 : Int} {v_1 : V} (Z : Sit Φ B H cs) (hc_0 : cs[i1]? = some (p_0, o_0)) (h_0 : cSrc.rel B x_0 o_0) (h_1 : dInt.rel B x_1 v_1) (hm : m_program x_0 x_1 = some r) (k : ∀ (v : V) (B' H' : Hp) (op_0 : HO), Sit Φ B' H' (cs.set i1 (p_0, op_0)) → Same B B' → (dList (dPair K dStr (dList (dPair K dStr dStr)))).rel B' r.1 v → cSrc.rel B' r.2 op_0 → Q v H') : sp_program K ([.ref p_0, v_1] ++ []) H Q E := by
  cases h_1
  exact ⟨B, x_0, p_0, o_0, x_1, r, rfl, Z.sub, ⟨Z.at' hc_0, Z.atB hc_0, h_0⟩, hm, fun v B' H' op_0 Z' h qp_0 => k v B' H' op_0 (Z.call1 hc_0 Z') Z'.grow h qp_0⟩
theorem ok_program (A0 : DefAt K mg "_law_program" s_program ["_law_source_here", "_law_most"]) (b_int : mg "int" = none) (b_range : mg "range" = none) (D_draw : Does P w K mg base CX0 1 "_law_draw" ["_law_source_here", "_law_many"] sp_drawM) (D_names : Does P w K mg base CX0 3 "_law_names" ["_law_source_here", "_law_many"] (sp_names K )) (D_step : Does P w K mg base CX0 3 "_law_step" ["_law_source_here", "_law_names_here", "_law_places_here"] (sp_step K )) : Does P w K mg base CX0 4 "_law_program" ["_law_source_here", "_law_most"] (sp_program K ) := by
  obtain ⟨f, fd, F, gm, bd⟩ := A0
  obtain ⟨f_draw, fd_draw, G_draw, g_draw, kp_draw, bd_draw⟩ := D_draw
  obtain ⟨f_names, fd_names, G_names, g_names, kp_names, bd_names⟩ := D_names
  obtain ⟨f_step, fd_step, G_step, g_step, kp_step, bd_step⟩ := D_step
  refine ⟨f, fd, ?_, gm, F.kp, bd⟩
  refine F.ok sc_program (fun vs H Q E h => ?_) (fun cdv A outer s H vs Q E hr h => ?_)
  · obtain ⟨_, _, _, _, _, _, rfl, _⟩ := h
    rfl
  · obtain ⟨B, x_0, p_0, o_0, x_1, r, rfl, sB, ⟨hp_0, hb_0, hx_0⟩, hm, k⟩ := h
    have hu := hu_of hr
    refine ⟨_, (pss_cons (ps_set (i := 2) sc_program.nd rfl (Or.inl rfl) (pe_op op_add pe_int (pe_call G_draw (hr.mono (by decide)) rfl g_draw kp_draw bd_draw .nil pass0 (pa_cons (pv 0) (pa_cons (pv 1) pa_nil)))))
  (pss_cons (ps_set (i := 3) sc_program.nd rfl (Or.inr rfl) (pe_call G_names (hr.mono (by decide)) rfl g_names kp_names bd_names .nil pass0 (pa_cons (pv 0) (pa_cons (pv 2) pa_nil))))
  (pss_cons (ps_set (i := 4) sc_program.nd rfl (Or.inr rfl) (pe_call G_names (hr.mono (by decide)) rfl g_names kp_names bd_names .nil pass0 (pa_cons (pv 0) (pa_cons (pe_call G_draw (hr.mono (by decide)) rfl g_draw kp_draw bd_draw .nil pass0 (pa_cons (pv 0) (pa_cons pe_int pa_nil))) pa_nil))))
  (pss_cons (ps_set (i := 5) sc_program.nd rfl (Or.inl rfl) (pe_call G_draw (hr.mono (by decide)) rfl g_draw kp_draw bd_draw .nil pass0 (pa_cons (pv 0) (pa_cons pe_int pa_nil))))
  (pss_cons (ps_set (i := 6) sc_program.nd rfl (Or.inl rfl) (pe_lst pa_nil))
  (pss_cons (ps_for PassesOwn.never rfl (pi_range1 (by rfl) b_range (pa_cons (pv 2) pa_nil)) (pg_name (i := 7) sc_program.nd rfl (Or.inl rfl))
  (pss_cons (ps_setLc (i := 8) (own := [("_law_step_here", 9)]) (tt := tYes) rfl sc_program.nd rfl rfl (sw_true rfl rfl rfl (by decide +kernel)) (pi_range1 (by rfl) b_range (pa_cons (pe_call G_draw (hr.mono (by decide)) rfl g_draw kp_draw bd_draw .nil pass0 (pa_cons (pv 0) (pa_cons pe_int pa_nil))) pa_nil)) (blkOk_by (own := [("_law_step_here", 9)]) (N := n_program) (sc := defScope s_program) (by decide +kernel)) (fun _ _ _ _ _ => (pg_name (i := 9) sc_program.nd rfl (Or.inl rfl))) (fun _ _ _ _ _ => pts_nil) (fun _ _ _ _ _ => (pe_call G_step (hr.mono (by decide)) rfl g_step kp_step bd_step .nil pass0 (pa_cons (pv 0) (pa_cons (pv 3) (pa_cons (pv 4) pa_nil))))))
  (C8.pss_cut (ps_if (pt_cmpR op_eq (pv 5) pe_int (nomark _)) (pss_cons (ps_expr (k_bm K PySem.F.plainAttrs_list PySem.F.slot_list_append PySem.F.type_list_append mt_append (pv 8) (pa_cons (pe_tup (pa_cons pe_str (pa_cons (pe_ix (k_ixL K) (pv 3) (pe_op op_mod (pe_callTy c_int1 (by rfl) b_int (by decide +kernel) (pa_cons (pe_op op_add (pv 7) pe_int) pa_nil)) (pv 2)) (fun _ _ => rfl)) pa_nil))) pa_nil)))
  (pss_one (ps_expr (k_bm K PySem.F.plainAttrs_list PySem.F.slot_list_extend PySem.F.type_list_extend mt_extend (pv 8) (pa_cons (pe_lc (own := [("_law_step_here", 9)]) (tt := tYes) rfl sc_program.nd (pi_range1 (by rfl) b_range (pa_cons (pe_call G_draw (hr.mono (by decide)) rfl g_draw kp_draw bd_draw .nil pass0 (pa_cons (pv 0) (pa_cons pe_int pa_nil))) pa_nil)) (blkOk_by (own := [("_law_step_here", 9)]) (N := n_program) (sc := defScope s_program) (by decide +kernel)) (fun _ _ _ _ _ => (pg_name (i := 9) sc_program.nd rfl (Or.inl rfl))) (fun _ _ _ _ _ => pts_nil) (fun _ _ _ _ _ => (pe_call G_step (hr.mono (by decide)) rfl g_step kp_step bd_step .nil pass0 (pa_cons (pv 0) (pa_cons (pv 3) (pa_cons (pv 4) pa_nil)))))) pa_nil))))) pss_nil)
  (pss_one (ps_expr (k_bm K PySem.F.plainAttrs_list PySem.F.slot_list_append PySem.F.type_list_append mt_append (pv 6) (pa_cons (pe_tup (pa_cons (pe_ix (k_ixL K) (pv 3) (pv 7) (fun _ _ => rfl)) (pa_cons (pv 8) pa_nil))) pa_nil)))))))
  (pss_one (ps_ret (pv 6))))))))), ?_⟩
    obtain ⟨B0, hB0⟩ : ∃ B0 : Hp, B0 = B := ⟨_, rfl⟩
    subst hB0
    have S0 := Sit.start1 sB hp_0 hb_0
    unfold m_program at hm
    refine w_sig (σ' := [(some (.ref p_0)), (some (V.int x_1)), none, none, none, none, none, none, none, none]) rfl ?_
    refine w_seq ?_
    refine w_asg ?_
    refine w_op ?_
    refine w_ev Ev.c ?_
    refine w_call ?_
    refine w_evA (EvA.cons (Ev.var rfl) (EvA.cons (Ev.var rfl) EvA.nil)) ?_
    obtain ⟨r1, h2, hm⟩ := bs hm
    refine use_draw S0 (i1 := 0) rfl hx_0 (show dInt.rel _ x_1 (V.int x_1) from rfl) h2 fun v3 B7 H4 o8 (S5 : Sit _ B7 H4 [(p_0, o8)]) s6 h10 h9 => ?_
    cases h10
    refine w_rv rv_I0 ?_
    refine w_gname ?_
    refine w_nx (σ' := [(some (.ref p_0)), (some (V.int x_1)), (some (V.int ((1 : Int) + r1.1))), none, none, none, none, none, none, none]) rfl ?_
    refine w_seq ?_
    refine w_asg ?_
    refine w_call ?_
    refine w_evA (EvA.cons (Ev.var rfl) (EvA.cons (Ev.var rfl) EvA.nil)) ?_
    obtain ⟨r11, h12, hm⟩ := bs hm
    refine use_names S5 (i1 := 0) rfl h9 (show dInt.rel _ ((1 : Int) + r1.1) (V.int ((1 : Int) + r1.1)) from rfl) h12 fun v13 B17 H14 o18 (S15 : Sit _ B17 H14 [(p_0, o18)]) s16 h20 h19 => ?_
    refine w_gname ?_
    refine w_nx (σ' := [(some (.ref p_0)), (some (V.int x_1)), (some (V.int ((1 : Int) + r1.1))), (some v13), none, none, none, none, none, none]) rfl ?_
    refine w_seq ?_
    refine w_asg ?_
    refine w_call ?_
    refine w_cons ?_
    refine w_ev (Ev.var rfl) ?_
    refine w_cons ?_
    refine w_call ?_
    refine w_evA (EvA.cons (Ev.var rfl) (EvA.cons Ev.c EvA.nil)) ?_
    obtain ⟨r21, h22, hm⟩ := bs hm
    refine use_draw S15 (i1 := 0) rfl h19 (show dInt.rel _ (4 : Int) (V.int 4) from rfl) h22 fun v23 B27 H24 o28 (S25 : Sit _ B27 H24 [(p_0, o28)]) s26 h30 h29 => ?_
    cases h30
    refine w_nil ?_
    obtain ⟨r31, h32, hm⟩ := bs hm
    refine use_names S25 (i1 := 0) rfl h29 (show dInt.rel _ r21.1 (V.int r21.1) from rfl) h32 fun v33 B37 H34 o38 (S35 : Sit _ B37 H34 [(p_0, o38)]) s36 h40 h39 => ?_
    refine w_gname ?_
    refine w_nx (σ' := [(some (.ref p_0)), (some (V.int x_1)), (some (V.int ((1 : Int) + r1.1))), (some v13), (some v33), none, none, none, none, none]) rfl ?_
    refine w_seq ?_
    refine w_asg ?_
    refine w_call ?_
    refine w_evA (EvA.cons (Ev.var rfl) (EvA.cons Ev.c EvA.nil)) ?_
    obtain ⟨r41, h42, hm⟩ := bs hm
    refine use_draw S35 (i1 := 0) rfl h39 (show dInt.rel _ (3 : Int) (V.int 3) from rfl) h42 fun v43 B47 H44 o48 (S45 : Sit _ B47 H44 [(p_0, o48)]) s46 h50 h49 => ?_
    cases h50
    refine w_gname ?_
    refine w_nx (σ' := [(some (.ref p_0)), (some (V.int x_1)), (some (V.int ((1 : Int) + r1.1))), (some v13), (some v33), (some (V.int r41.1)), none, none, none, none]) rfl ?_
    refine w_seq ?_
    refine w_asg ?_
    refine x_lst ?_
    refine w_nil ?_
    refine mkO (R := (dPair K dStr (dList (dPair K dStr dStr)))) (xs := []) S45 .nil (by show 0 ≤ BIG; decide) fun p51 o52 H53 S54 n55 h56 => ?_
    refine w_gname ?_
    refine w_nx (σ' := [(some (.ref p_0)), (some (V.int x_1)), (some (V.int ((1 : Int) + r1.1))), (some v13), (some v33), (some (V.int r41.1)), (some (.ref p51)), none, none, none]) rfl ?_
    refine w_seq ?_
    refine w_for ?_
    refine x_iR1 ?_
    refine w_evA (EvA.cons (Ev.var rfl) EvA.nil) ?_
    obtain ⟨x59, h60, hm⟩ := bs hm
    refine w_itR1 (B := B47) h60 fun J57 it58 hl61 => ?_
    obtain ⟨st278, hl289, hm⟩ := bs hm
    refine forS (s0 := (([] : (List (Str × (List (Str × Str))))), r41.2)) it58 S54 (fun (st62 : ((List (Str × (List (Str × Str)))) × Src3)) b σ' cs' => ∃ (e63 : Option V) (e64 : Option V) (o65 : HO) (o67 : HO), σ' = [(some (.ref p_0)), (some (V.int x_1)), (some (V.int ((1 : Int) + r1.1))), (some v13), (some v33), (some (V.int r41.1)), (some (.ref p51)), e63, e64, none] ∧ cs' = [(p51, o65), (p_0, o67)] ∧ (cList (dPair K dStr (dList (dPair K dStr dStr)))).rel b st62.1 o65 ∧ cSrc.rel b st62.2 o67 ∧ True) ⟨_, _, _, _, rfl, rfl, h56, h49, trivial⟩ hl289 (fun _ _ _ _ _ Z e _ => e.tr Z.sub) (fun a69 st70 o71 x72 B82 B89 H73 _ cs74 ma75 S76 s77 s78 hI79 h80 hf81 => ?_) ?_
    · obtain ⟨e83, e84, o85, o87, rfl, rfl, h86, h88, -⟩ := hI79
      cases h80
      refine w_gname ?_
      refine w_nx (σ' := [(some (.ref p_0)), (some (V.int x_1)), (some (V.int ((1 : Int) + r1.1))), (some v13), (some v33), (some (V.int r41.1)), (some (.ref p51)), (some (V.int a69)), e84, none]) rfl ?_
      refine w_seq ?_
      refine w_asg ?_
      refine w_lc ?_
      refine x_iR1 ?_
      refine w_cons ?_
      refine w_call ?_
      refine w_evA (EvA.cons (Ev.var rfl) (EvA.cons Ev.c EvA.nil)) ?_
      obtain ⟨r98, h99, hf81⟩ := bs hf81
      refine use_draw S76 (i1 := 1) rfl (Cl.mono _ s78 h88) (show dInt.rel _ (4 : Int) (V.int 4) from rfl) h99 fun v100 B104 H101 o105 (S102 : Sit _ B104 H101 [(p51, o85), (p_0, o105)]) s103 h107 h106 => ?_
      cases h107
      refine w_nil ?_
      obtain ⟨x108, h109, hf81⟩ := bs hf81
      refine w_itR1 (B := B104) h109 fun J96 it97 hl110 => ?_
      obtain ⟨r141, h142, hf81⟩ := bs hf81
      refine lcRS (P := (dPair K dStr dStr)) it97 S102 hl110 (fun (st127 : Src3) b cs' => ∃ o128, cs' = [(p51, o85), (p_0, o128)] ∧ cSrc.rel b st127 o128) ⟨_, rfl, h106⟩ (h142 : _ = some (r141.1, r141.2)) (fun _ _ _ _ _ Z e _ => e.tr Z.sub) (fun D111 ac112 a113 st127 o114 x115 B118 B119 H120 cs144 ma126 S121 s116 s117 hI143 h122 ho123 RR124 kk125 => ?_) ?_
      · obtain ⟨o128, rfl, h129⟩ := hI143
        refine w_turn ?_
        cases h122
        refine w_gname ?_
        refine w_wipe rfl ?_
        refine w_yes ?_
        refine iteT ?_
        refine w_call ?_
        refine w_evA (EvA.cons (Ev.var rfl) (EvA.cons (Ev.var rfl) (EvA.cons (Ev.var rfl) EvA.nil))) ?_
        obtain ⟨r130, h131, ho123⟩ := bs ho123
        refine use_step S121 (i1 := 2) rfl (Cl.mono _ s117 h129) (Rl.mono _ (s26.tr (s36.tr (s46.tr (s77.tr (s78.tr (s103.tr (s116.tr s117))))))) h20) (Rl.mono _ (s46.tr (s77.tr (s78.tr (s103.tr (s116.tr s117))))) h40) h131 fun v132 B136 H133 o137 (S134 : Sit _ B136 H133 [(D111, (.lst ac112)), (p51, o85), (p_0, o137)]) s135 h139 h138 => ?_
        obtain rfl := Option.some.inj ho123
        exact kk125 _ _ _ _ S134 s135 ⟨o137, rfl, h138⟩ ⟨_, rfl, h139⟩
      · intro p145 B152 H146 o147 cs156 S148 s149 hI155 n150 h151
        obtain ⟨o153, rfl, h154⟩ := hI155
        refine w_gname ?_
        refine w_nx (σ' := [(some (.ref p_0)), (some (V.int x_1)), (some (V.int ((1 : Int) + r1.1))), (some v13), (some v33), (some (V.int r41.1)), (some (.ref p51)), (some (V.int a69)), (some (.ref p145)), none]) rfl ?_
        obtain ⟨j157, hj158, hf81⟩ := bs hf81
        refine w_cut (MidD (fun σ' H' => ∃ (B' : Hp)  (o250 : HO) (o252 : HO), σ' = [(some (.ref p_0)), (some (V.int x_1)), (some (V.int ((1 : Int) + r1.1))), (some v13), (some v33), (some (V.int r41.1)), (some (.ref p51)), (some (V.int a69)), (some (.ref p145)), none] ∧ Sit (Fr.mk B0 H [p_0]) B' H' [(p145, o250), (p51, o85), (p_0, o252)] ∧ Same B152 B' ∧ (cList (dPair K dStr dStr)).rel B' j157.1 o250 ∧ cSrc.rel B' j157.2 o252 ∧ True)) ?_ ?_
        · refine w_ifS ?_
          refine w_evT (EvT.test (Ev.op (Ev.var rfl) Ev.c rv_eqI)) ?_
          refine w_ifb (fun h159 => ?_) (fun h159 => ?_)
          · rw [ifT h159] at hj158
            refine w_seq ?_
            refine w_drop ?_
            refine w_bm ?_
            refine w_ev (Ev.var rfl) ?_
            refine w_tyC h151 (S148.at' (i := 0) rfl) ?_
            refine w_cons ?_
            refine x_tup ?_
            obtain ⟨x160, hx160, hj158⟩ := bs hj158
            obtain ⟨hx160p, rfl⟩ := modM_some hx160
            obtain ⟨x161, hx161, hj158⟩ := bs hj158
            obtain ⟨_, rfl, r162⟩ := ix_L (K := K) (Rl.mono _ (s26.tr (s36.tr (s46.tr (s77.tr (s78.tr (s103.tr s149)))))) h20) hx161
            refine w_evA (EvA.cons Ev.c (EvA.cons (Ev.op (Ev.var rfl) (Ev.op (Ev.cb (EvA.cons (Ev.op (Ev.var rfl) Ev.c rv_I0) EvA.nil) fun _ q => ⟨_, rfl, q⟩) (Ev.var rfl) (rv_I hx160p)) (r162 _ S148.sub)) EvA.nil)) ?_
            refine mk2 (K := K)   S148 (show dStr.rel _ (Str.ofString "call") (V.str (Str.ofString "call")) from rfl) (show dStr.rel _ x161 (V.str x161) from rfl) fun v163 B168 H164 S165 s166 h167 => ?_
            refine w_nil ?_
            obtain ⟨x169, h170, hj158⟩ := bs hj158
            refine q_append (k := 0) S165 rfl (Cl.mono _ s166 h151) h167 h170 fun o171 H172 (S173 : Sit _ B168 H172 [(p145, o171), (p51, o85), (p_0, o153)]) h174 => ?_
            refine w_drop ?_
            refine w_bm ?_
            refine w_ev (Ev.var rfl) ?_
            refine w_tyC h174 (S173.at' (i := 0) rfl) ?_
            refine w_cons ?_
            refine w_lc ?_
            refine x_iR1 ?_
            refine w_cons ?_
            refine w_call ?_
            refine w_evA (EvA.cons (Ev.var rfl) (EvA.cons Ev.c EvA.nil)) ?_
            obtain ⟨r177, h178, hj158⟩ := bs hj158
            refine use_draw S173 (i1 := 2) rfl (Cl.mono _ s166 h154) (show dInt.rel _ (3 : Int) (V.int 3) from rfl) h178 fun v179 B183 H180 o184 (S181 : Sit _ B183 H180 [(p145, o171), (p51, o85), (p_0, o184)]) s182 h186 h185 => ?_
            cases h186
            refine w_nil ?_
            obtain ⟨x187, h188, hj158⟩ := bs hj158
            refine w_itR1 (B := B183) h188 fun J175 it176 hl189 => ?_
            obtain ⟨r220, h221, hj158⟩ := bs hj158
            refine lcRS (P := (dPair K dStr dStr)) it176 S181 hl189 (fun (st206 : Src3) b cs' => ∃ o207, cs' = [(p145, o171), (p51, o85), (p_0, o207)] ∧ cSrc.rel b st206 o207) ⟨_, rfl, h185⟩ (h221 : _ = some (r220.1, r220.2)) (fun _ _ _ _ _ Z e _ => e.tr Z.sub) (fun D190 ac191 a192 st206 o193 x194 B197 B198 H199 cs223 ma205 S200 s195 s196 hI222 h201 ho202 RR203 kk204 => ?_) ?_
            · obtain ⟨o207, rfl, h208⟩ := hI222
              refine w_turn ?_
              cases h201
              refine w_gname ?_
              refine w_wipe rfl ?_
              refine w_yes ?_
              refine iteT ?_
              refine w_call ?_
              refine w_evA (EvA.cons (Ev.var rfl) (EvA.cons (Ev.var rfl) (EvA.cons (Ev.var rfl) EvA.nil))) ?_
              obtain ⟨r209, h210, ho202⟩ := bs ho202
              refine use_step S200 (i1 := 3) rfl (Cl.mono _ s196 h208) (Rl.mono _ (s26.tr (s36.tr (s46.tr (s77.tr (s78.tr (s103.tr (s149.tr (s166.tr (s182.tr (s195.tr s196)))))))))) h20) (Rl.mono _ (s46.tr (s77.tr (s78.tr (s103.tr (s149.tr (s166.tr (s182.tr (s195.tr s196)))))))) h40) h210 fun v211 B215 H212 o216 (S213 : Sit _ B215 H212 [(D190, (.lst ac191)), (p145, o171), (p51, o85), (p_0, o216)]) s214 h218 h217 => ?_
              obtain rfl := Option.some.inj ho202
              exact kk204 _ _ _ _ S213 s214 ⟨o216, rfl, h217⟩ ⟨_, rfl, h218⟩
            · intro p224 B231 H225 o226 cs235 S227 s228 hI234 n229 h230
              obtain ⟨o232, rfl, h233⟩ := hI234
              obtain ⟨B238, S236, s237, h239⟩ : ∃ B', Sit _ B' H225 [(p145, o171), (p51, o85), (p_0, o232)] ∧ Same _ B' ∧ (dList (dPair K dStr dStr)).rel B' r220.1 (.ref p224) := ⟨_, S227.frz (i := 0) rfl n229, S227.frzS (i := 0) rfl, frzL h230 (S227.atB (i := 0) rfl)⟩
              refine w_nil ?_
              obtain ⟨x240, h241, hj158⟩ := bs hj158
              refine q_extend (k := 0) S236 rfl (Cl.mono _ (s182.tr (s228.tr s237)) h174) h239 h241 fun o242 H243 (S244 : Sit _ B238 H243 [(p145, o242), (p51, o85), (p_0, o232)]) h245 => ?_
              obtain rfl := Option.some.inj hj158
              exact ⟨_, _, _, rfl, S244, (s166.tr (s182.tr (s228.tr s237))), h245, (Cl.mono _ s237 h233), trivial⟩
          · rw [ifF h159] at hj158
            refine w_next ?_
            obtain rfl := Option.some.inj hj158
            exact ⟨_, _, _, rfl, S148, (Same.rf _), h151, h154, trivial⟩
        · rintro _ H246 ⟨B249, o250, o252, rfl, S247, s248, h251, h253, -⟩
          refine w_drop ?_
          refine w_bm ?_
          refine w_ev (Ev.var rfl) ?_
          refine w_tyC (Cl.mono _ (s78.tr (s103.tr (s149.tr s248))) h86) (S247.at' (i := 1) rfl) ?_
          refine w_cons ?_
          refine x_tup ?_
          obtain ⟨x254, hx254, hf81⟩ := bs hf81
          obtain ⟨_, rfl, r255⟩ := ix_L (K := K) (Rl.mono _ (s26.tr (s36.tr (s46.tr (s77.tr (s78.tr (s103.tr (s149.tr s248))))))) h20) hx254
          refine w_evA (EvA.cons (Ev.op (Ev.var rfl) (Ev.var rfl) (r255 _ S247.sub)) (EvA.cons (Ev.var rfl) EvA.nil)) ?_
          obtain ⟨B258, S256, s257, h259⟩ : ∃ B', Sit _ B' H246 [(p51, o85), (p_0, o252)] ∧ Same _ B' ∧ (dList (dPair K dStr dStr)).rel B' j157.1 (.ref p145) := ⟨_, S247.frz (i := 0) rfl n150, S247.frzS (i := 0) rfl, frzL h251 (S247.atB (i := 0) rfl)⟩
          refine mk2 (K := K)   S256 (show dStr.rel _ x254 (V.str x254) from rfl) h259 fun v260 B265 H261 S262 s263 h264 => ?_
          refine w_nil ?_
          obtain ⟨x266, h267, hf81⟩ := bs hf81
          refine q_append (k := 0) S262 rfl (Cl.mono _ (s78.tr (s103.tr (s149.tr (s248.tr (s257.tr s263))))) h86) h264 h267 fun o268 H269 (S270 : Sit _ B265 H269 [(p51, o268), (p_0, o252)]) h271 => ?_
          obtain rfl := Option.some.inj hf81
          exact ⟨_, _, S270, (s77.tr (s78.tr (s103.tr (s149.tr (s248.tr (s257.tr s263)))))), _, _, _, _, rfl, rfl, h271, (Cl.mono _ (s257.tr s263) h253), trivial⟩
    · intro B277 H272 _ cs273 S274 s275 hI276
      obtain ⟨e279, e280, o281, o283, rfl, rfl, h282, h284, -⟩ := hI276
      obtain ⟨B287, S285, s286, h288⟩ : ∃ B', Sit _ B' H272 [(p_0, o283)] ∧ Same _ B' ∧ (dList (dPair K dStr (dList (dPair K dStr dStr)))).rel B' st278.1 (.ref p51) := ⟨_, S274.frz (i := 0) rfl n55, S274.frzS (i := 0) rfl, frzL h282 (S274.atB (i := 0) rfl)⟩
      refine w_ret ?_
      refine w_ev (Ev.var rfl) ?_
      obtain rfl := Option.some.inj hm
      exact k _ _ _ _ S285 h288 (Cl.mono _ s286 h284)
abbrev n_any_program : List Str := ["_law_source_here", "_law_names_here", "_law_places_here", "_law_procedures", "_law_name_here", "_law_step_here"]
theorem sc_any_program : FnScope n_any_program ["_law_source_here"] (defScope s_any_program) := ⟨rfl, rfl, rfl, by decide +kernel, rfl, by decide +kernel, by decide +kernel⟩
def m_any_program (x_0 : Src3) : Option ((List (Str × (List (Str × Str)))) × Src3) :=
  (m_draw (x_0) ((6 : Int))).bind fun r1 =>
  if (decide ((0 : Int) < r1.1)) = true then (m_program (r1.2) ((6 : Int))).bind fun r12 =>
  some (r12.1, r12.2) else (m_names (r1.2) ((16 : Int))).bind fun r22 =>
  (m_names (r22.2) ((3 : Int))).bind fun r32 =>
  (forL (fun (a56 : Str) (st57 : ((List (Str × (List (Str × Str)))) × Src3)) => (m_draw (st57.2) ((13 : Int))).bind fun r84 =>
  (rngM r84.1).bind fun x94 =>
  (lcS (fun (a99 : Int) (st113 : Src3) => (m_step (st113) (r22.1) (r32.1)).bind fun r116 =>
  some ((some r116.1), r116.2)) x94 r84.2).bind fun r127 =>
  (pushM st57.1 (a56, r127.1)).bind fun x153 =>
  some (x153, r127.2)) r22.1 (([] : (List (Str × (List (Str × Str))))), r32.2)).bind fun st165 =>
  some (st165.1, st165.2)
def sp_any_program (K : PySem.W.Frag) : Sp := fun vs H Q E => ∃ (B : Hp) (x_0 : Src3) (p_0 : Addr) (o_0 : HO) (r : ((List (Str × (List (Str × Str)))) × Src3)), vs = [.ref p_0] ∧ Same B H ∧ (H p_0 = some o_0 ∧ B p_0 = none ∧ cSrc.rel B x_0 o_0) ∧ m_any_program x_0 = some r ∧ ∀ (v : V) (B' H' : Hp) (op_0 : HO), Sit ⟨B, H, [p_0]⟩ B' H' [(p_0, op_0)] → (dList (dPair K dStr (dList (dPair K dStr dStr)))).rel B' r.1 v → cSrc.rel B' r.2 op_0 → Q v H'
theorem use_any_program {K : PySem.W.Frag} {Φ : Fr} {B H : Hp} {cs : List (Addr × HO)} {Q : VK} {E : XK} {r : ((List (Str × (List (Str × Str)))) × Src3)} {x_0 : Src3} {p_0 : Addr} {o_0 : HO} {i1 : Nat} (Z : Sit Φ B H cs) (hc_0 : cs[i1]? = some (p_0, o_0)) (h_0 : cSrc.rel B x_0 o_0) (hm : m_any_program x_0 = some r) (k : ∀ (v : V) (B' H' : Hp) (op_0 : HO), Sit Φ B' H' (cs.set i1 (p_0, op_0)) → Same B B' → (dList (dPair K dStr (dList (dPair K dStr dStr)))).rel B' r.1 v → cSrc.rel B' r.2 op_0 → Q v H') : sp_any_program K ([.ref p_0] ++ []) H Q E := by
  exact ⟨B, x_0, p_0, o_0, r, rfl, Z.sub, ⟨Z.at' hc_0, Z.atB hc_0, h_0⟩, hm, fun v B' H' op_0 Z' h qp_0 => k v B' H' op_0 (Z.call1 hc_0 Z') Z'.grow h qp_0⟩
theorem ok_any_program (A0 : DefAt K mg "_law_any_program" s_any_program ["_law_source_here"]) (b_range : mg "range" = none) (D_draw : Does P w K mg base CX0 1 "_law_draw" ["_law_source_here", "_law_many"] sp_drawM) (D_program : Does P w K mg base CX0 4 "_law_program" ["_law_source_here", "_law_most"] (sp_program K )) (D_names : Does P w K mg base CX0 3 "_law_names" ["_law_source_here", "_law_many"] (sp_names K )) (D_step : Does P w K mg base CX0 3 "_law_step" ["_law_source_here", "_law_names_here", "_law_places_here"] (sp_step K )) : Does P w K mg base CX0 5 "_law_any_program" ["_law_source_here"] (sp_any_program K ) := by
  obtain ⟨f, fd, F, gm, bd⟩ := A0
  obtain ⟨f_draw, fd_draw, G_draw, g_draw, kp_draw, bd_draw⟩ := D_draw
  obtain ⟨f_program, fd_program, G_program, g_program, kp_program, bd_program⟩ := D_program
  obtain ⟨f_names, fd_names, G_names, g_names, kp_names, bd_names⟩ := D_names
  obtain ⟨f_step, fd_step, G_step, g_step, kp_step, bd_step⟩ := D_step
  refine ⟨f, fd, ?_, gm, F.kp, bd⟩
  refine F.ok sc_any_program (fun vs H Q E h => ?_) (fun cdv A outer s H vs Q E hr h => ?_)
  · obtain ⟨_, _, _, _, _, rfl, _⟩ := h
    rfl
  · obtain ⟨B, x_0, p_0, o_0, r, rfl, sB, ⟨hp_0, hb_0, hx_0⟩, hm, k⟩ := h
    have hu := hu_of hr
    refine ⟨_, (pss_cons (ps_if (pt_cmpR op_gt (pe_call G_draw (hr.mono (by decide)) rfl g_draw kp_draw bd_draw .nil pass0 (pa_cons (pv 0) (pa_cons pe_int pa_nil))) pe_int (nomark _)) (pss_one (ps_ret (pe_call G_program (hr.mono (by decide)) rfl g_program kp_program bd_program .nil pass0 (pa_cons (pv 0) (pa_cons pe_int pa_nil))))) pss_nil)
  (pss_cons (ps_set (i := 1) sc_any_program.nd rfl (Or.inr rfl) (pe_call G_names (hr.mono (by decide)) rfl g_names kp_names bd_names .nil pass0 (pa_cons (pv 0) (pa_cons pe_int pa_nil))))
  (pss_cons (ps_set (i := 2) sc_any_program.nd rfl (Or.inr rfl) (pe_call G_names (hr.mono (by decide)) rfl g_names kp_names bd_names .nil pass0 (pa_cons (pv 0) (pa_cons pe_int pa_nil))))
  (pss_cons (ps_set (i := 3) sc_any_program.nd rfl (Or.inl rfl) (pe_lst pa_nil))
  (pss_cons (ps_for PassesOwn.never rfl (k_iL K (pv 1)) (pg_name (i := 4) sc_any_program.nd rfl (Or.inl rfl))
  (pss_one (ps_expr (k_bm K PySem.F.plainAttrs_list PySem.F.slot_list_append PySem.F.type_list_append mt_append (pv 3) (pa_cons (pe_tup (pa_cons (pv 4) (pa_cons (pe_lc (own := [("_law_step_here", 5)]) (tt := tYes) rfl sc_any_program.nd (pi_range1 (by rfl) b_range (pa_cons (pe_call G_draw (hr.mono (by decide)) rfl g_draw kp_draw bd_draw .nil pass0 (pa_cons (pv 0) (pa_cons pe_int pa_nil))) pa_nil)) (blkOk_by (own := [("_law_step_here", 5)]) (N := n_any_program) (sc := defScope s_any_program) (by decide +kernel)) (fun _ _ _ _ _ => (pg_name (i := 5) sc_any_program.nd rfl (Or.inl rfl))) (fun _ _ _ _ _ => pts_nil) (fun _ _ _ _ _ => (pe_call G_step (hr.mono (by decide)) rfl g_step kp_step bd_step .nil pass0 (pa_cons (pv 0) (pa_cons (pv 1) (pa_cons (pv 2) pa_nil)))))) pa_nil))) pa_nil)))))
  (pss_one (ps_ret (pv 3)))))))), ?_⟩
    obtain ⟨B0, hB0⟩ : ∃ B0 : Hp, B0 = B := ⟨_, rfl⟩
    subst hB0
    have S0 := Sit.start1 sB hp_0 hb_0
    unfold m_any_program at hm
    refine w_sig (σ' := [(some (.ref p_0)), none, none, none, none, none]) rfl ?_
    refine w_seq ?_
    refine w_ifS ?_
    refine w_test ?_
    refine w_op ?_
    refine w_call ?_
    refine w_evA (EvA.cons (Ev.var rfl) (EvA.cons Ev.c EvA.nil)) ?_
    obtain ⟨r1, h2, hm⟩ := bs hm
    refine use_draw S0 (i1 := 0) rfl hx_0 (show dInt.rel _ (6 : Int) (V.int 6) from rfl) h2 fun v3 B7 H4 o8 (S5 : Sit _ B7 H4 [(p_0, o8)]) s6 h10 h9 => ?_
    cases h10
    refine w_ev Ev.c ?_
    refine w_rv rv_I0 ?_
    refine w_bl ?_
    refine w_ifb (fun h11 => ?_) (fun h11 => ?_)
    · rw [ifT h11] at hm
      refine w_ret ?_
      refine w_call ?_
      refine w_evA (EvA.cons (Ev.var rfl) (EvA.cons Ev.c EvA.nil)) ?_
      obtain ⟨r12, h13, hm⟩ := bs hm
      refine use_program S5 (i1 := 0) rfl h9 (show dInt.rel _ (6 : Int) (V.int 6) from rfl) h13 fun v14 B18 H15 o19 (S16 : Sit _ B18 H15 [(p_0, o19)]) s17 h21 h20 => ?_
      obtain rfl := Option.some.inj hm
      exact k _ _ _ _ S16 h21 h20
    · rw [ifF h11] at hm
      refine w_next ?_
      refine w_seq ?_
      refine w_asg ?_
      refine w_call ?_
      refine w_evA (EvA.cons (Ev.var rfl) (EvA.cons Ev.c EvA.nil)) ?_
      obtain ⟨r22, h23, hm⟩ := bs hm
      refine use_names S5 (i1 := 0) rfl h9 (show dInt.rel _ (16 : Int) (V.int 16) from rfl) h23 fun v24 B28 H25 o29 (S26 : Sit _ B28 H25 [(p_0, o29)]) s27 h31 h30 => ?_
      refine w_gname ?_
      refine w_nx (σ' := [(some (.ref p_0)), (some v24), none, none, none, none]) rfl ?_
      refine w_seq ?_
      refine w_asg ?_
      refine w_call ?_
      refine w_evA (EvA.cons (Ev.var rfl) (EvA.cons Ev.c EvA.nil)) ?_
      obtain ⟨r32, h33, hm⟩ := bs hm
      refine use_names S26 (i1 := 0) rfl h30 (show dInt.rel _ (3 : Int) (V.int 3) from rfl) h33 fun v34 B38 H35 o39 (S36 : Sit _ B38 H35 [(p_0, o39)]) s37 h41 h40 => ?_
      refine w_gname ?_
      refine w_nx (σ' := [(some (.ref p_0)), (some v24), (some v34), none, none, none]) rfl ?_
      refine w_seq ?_
      refine w_asg ?_
      refine x_lst ?_
      refine w_nil ?_
      refine mkO (R := (dPair K dStr (dList (dPair K dStr dStr)))) (xs := []) S36 .nil (by show 0 ≤ BIG; decide) fun p42 o43 H44 S45 n46 h47 => ?_
      refine w_gname ?_
      refine w_nx (σ' := [(some (.ref p_0)), (some v24), (some v34), (some (.ref p42)), none, none]) rfl ?_
      refine w_seq ?_
      refine w_for ?_
      refine x_iL ?_
      refine w_ev (Ev.var rfl) ?_
      refine w_itL (Rl.mono _ s37 h31) S45.sub fun J48 it49 => ?_
      obtain ⟨st165, hl175, hm⟩ := bs hm
      refine forS (s0 := (([] : (List (Str × (List (Str × Str))))), r32.2)) it49 S45 (fun (st50 : ((List (Str × (List (Str × Str)))) × Src3)) b σ' cs' => ∃ (e51 : Option V) (o52 : HO) (o54 : HO), σ' = [(some (.ref p_0)), (some v24), (some v34), (some (.ref p42)), e51, none] ∧ cs' = [(p42, o52), (p_0, o54)] ∧ (cList (dPair K dStr (dList (dPair K dStr dStr)))).rel b st50.1 o52 ∧ cSrc.rel b st50.2 o54 ∧ True) ⟨_, _, _, rfl, rfl, h47, h40, trivial⟩ hl175 (fun _ _ _ _ _ Z e _ => e.tr Z.sub) (fun a56 st57 o58 x59 B69 B75 H60 _ cs61 ma62 S63 s64 s65 hI66 h67 hf68 => ?_) ?_
      · obtain ⟨e70, o71, o73, rfl, rfl, h72, h74, -⟩ := hI66
        cases h67
        refine w_gname ?_
        refine w_nx (σ' := [(some (.ref p_0)), (some v24), (some v34), (some (.ref p42)), (some (V.str a56)), none]) rfl ?_
        refine w_drop ?_
        refine w_bm ?_
        refine w_ev (Ev.var rfl) ?_
        refine w_tyC (Cl.mono _ s65 h72) (S63.at' (i := 0) rfl) ?_
        refine w_cons ?_
        refine x_tup ?_
        refine w_cons ?_
        refine w_ev (Ev.var rfl) ?_
        refine w_cons ?_
        refine w_lc ?_
        refine x_iR1 ?_
        refine w_cons ?_
        refine w_call ?_
        refine w_evA (EvA.cons (Ev.var rfl) (EvA.cons Ev.c EvA.nil)) ?_
        obtain ⟨r84, h85, hf68⟩ := bs hf68
        refine use_draw S63 (i1 := 1) rfl (Cl.mono _ s65 h74) (show dInt.rel _ (13 : Int) (V.int 13) from rfl) h85 fun v86 B90 H87 o91 (S88 : Sit _ B90 H87 [(p42, o71), (p_0, o91)]) s89 h93 h92 => ?_
        cases h93
        refine w_nil ?_
        obtain ⟨x94, h95, hf68⟩ := bs hf68
        refine w_itR1 (B := B90) h95 fun J82 it83 hl96 => ?_
        obtain ⟨r127, h128, hf68⟩ := bs hf68
        refine lcRS (P := (dPair K dStr dStr)) it83 S88 hl96 (fun (st113 : Src3) b cs' => ∃ o114, cs' = [(p42, o71), (p_0, o114)] ∧ cSrc.rel b st113 o114) ⟨_, rfl, h92⟩ (h128 : _ = some (r127.1, r127.2)) (fun _ _ _ _ _ Z e _ => e.tr Z.sub) (fun D97 ac98 a99 st113 o100 x101 B104 B105 H106 cs130 ma112 S107 s102 s103 hI129 h108 ho109 RR110 kk111 => ?_) ?_
        · obtain ⟨o114, rfl, h115⟩ := hI129
          refine w_turn ?_
          cases h108
          refine w_gname ?_
          refine w_wipe rfl ?_
          refine w_yes ?_
          refine iteT ?_
          refine w_call ?_
          refine w_evA (EvA.cons (Ev.var rfl) (EvA.cons (Ev.var rfl) (EvA.cons (Ev.var rfl) EvA.nil))) ?_
          obtain ⟨r116, h117, ho109⟩ := bs ho109
          refine use_step S107 (i1 := 2) rfl (Cl.mono _ s103 h115) (Rl.mono _ (s37.tr (s64.tr (s65.tr (s89.tr (s102.tr s103))))) h31) (Rl.mono _ (s64.tr (s65.tr (s89.tr (s102.tr s103)))) h41) h117 fun v118 B122 H119 o123 (S120 : Sit _ B122 H119 [(D97, (.lst ac98)), (p42, o71), (p_0, o123)]) s121 h125 h124 => ?_
          obtain rfl := Option.some.inj ho109
          exact kk111 _ _ _ _ S120 s121 ⟨o123, rfl, h124⟩ ⟨_, rfl, h125⟩
        · intro p131 B138 H132 o133 cs142 S134 s135 hI141 n136 h137
          obtain ⟨o139, rfl, h140⟩ := hI141
          obtain ⟨B145, S143, s144, h146⟩ : ∃ B', Sit _ B' H132 [(p42, o71), (p_0, o139)] ∧ Same _ B' ∧ (dList (dPair K dStr dStr)).rel B' r127.1 (.ref p131) := ⟨_, S134.frz (i := 0) rfl n136, S134.frzS (i := 0) rfl, frzL h137 (S134.atB (i := 0) rfl)⟩
          refine w_nil ?_
          refine mk2 (K := K)   S143 (show dStr.rel _ a56 (V.str a56) from rfl) h146 fun v147 B152 H148 S149 s150 h151 => ?_
          refine w_nil ?_
          obtain ⟨x153, h154, hf68⟩ := bs hf68
          refine q_append (k := 0) S149 rfl (Cl.mono _ (s65.tr (s89.tr (s135.tr (s144.tr s150)))) h72) h151 h154 fun o155 H156 (S157 : Sit _ B152 H156 [(p42, o155), (p_0, o139)]) h158 => ?_
          obtain rfl := Option.some.inj hf68
          exact ⟨_, _, S157, (s64.tr (s65.tr (s89.tr (s135.tr (s144.tr s150))))), _, _, _, rfl, rfl, h158, (Cl.mono _ (s144.tr s150) h140), trivial⟩
      · intro B164 H159 _ cs160 S161 s162 hI163
        obtain ⟨e166, o167, o169, rfl, rfl, h168, h170, -⟩ := hI163
        obtain ⟨B173, S171, s172, h174⟩ : ∃ B', Sit _ B' H159 [(p_0, o169)] ∧ Same _ B' ∧ (dList (dPair K dStr (dList (dPair K dStr dStr)))).rel B' st165.1 (.ref p42) := ⟨_, S161.frz (i := 0) rfl n46, S161.frzS (i := 0) rfl, frzL h168 (S161.atB (i := 0) rfl)⟩
        refine w_ret ?_
        refine w_ev (Ev.var rfl) ?_
        obtain rfl := Option.some.inj hm
        exact k _ _ _ _ S171 h174 (Cl.mono _ s172 h170)
end
end Mm
namespace Mm
open PySem L2 Mf
theorem program_wp3 {s : Src3} {n m : Int} (ok : s.ok n) (hn : n + 2000 < 1000000000) (h0 : 0 < m) (h1 : m ≤ 16) : Wp (m_program s m) (fun r => Good r.1 ∧ (∀ p ∈ r.1, p.2.length ≤ 6) ∧ (r.1.length : Int) ≤ m ∧ (places r.1).length ≤ 3 ∧ r.2.ok (n + 2000)) := by
  unfold m_program
  refine (wp_draw ok (by omega) h0 (by omega)).bind fun r hr => ?_
  obtain ⟨r0, r1, ok1⟩ := hr
  refine (names_wp ok1 (by omega) (by omega) (by omega)).bind fun a ha => ?_
  obtain ⟨hN, hNl, ok2⟩ := ha
  refine (wp_draw ok2 (by omega) (by decide) (by decide)).bind fun q hq => ?_
  obtain ⟨q0, q1, ok3⟩ := hq
  refine (names_wp ok3 (by omega) (by omega) (by omega)).bind fun b hb => ?_
  obtain ⟨hP, hPl, ok4⟩ := hb
  refine (wp_draw ok4 (by omega) (by decide) (by decide)).bind fun g hg => ?_
  obtain ⟨g0, g1, ok5⟩ := hg
  refine Wp.go (rngM_eq (by omega) (by omega)) ?_
  refine (wp_forL (fun i (t : List Prc × Src3) => Made a.1 b.1 6 t.1 ∧ t.1.length = i ∧ t.2.ok (n + 400 + 100 * i)) ⟨.nil, rfl, ok5.le (by push_cast; omega)⟩ ?_).bind fun t ht => ?_
  · rintro i k ⟨ps, s'⟩ hk ⟨hM, hl, ok6⟩
    obtain ⟨rfl, hi⟩ := rng_at hk
    simp only at hl ok6 hM
    refine (wp_draw ok6 (by omega) (by decide) (by decide)).bind fun u hu => ?_
    obtain ⟨u0, u1, ok7⟩ := hu
    refine Wp.go (rngM_eq (by omega) (by omega)) ?_
    refine (steps_wp ok7 (by rw [rng_len]; omega) (by rw [rng_len]; omega) (by omega) (by omega) (by omega)).bind fun w hw => ?_
    obtain ⟨w1, w2, w3⟩ := hw
    rw [rng_len] at w1 w3
    refine Wp.bind (P := fun (z : List Stp × Src3) => z.1.length ≤ 6 ∧ (∀ x ∈ z.1, StepOk a.1 b.1 x) ∧ z.2.ok (n + 400 + 100 * i + 90)) (Wp.ite (fun h => ?_) (fun h => ⟨_, rfl, by simp only; omega, w2, w3.le (by omega)⟩)) fun z hz => ?_
    · refine Wp.go (modM_eq (by omega)) ?_
      refine (wp_atM (P := fun x => x ∈ a.1) (Int.emod_nonneg _ (by omega)) (by rw [hNl]; exact Int.emod_lt_of_pos _ (by omega)) fun x hx => hx).bind fun x hx => ?_
      refine Wp.go (pushM_eq (by omega)) ?_
      refine (wp_draw w3 (by omega) (by decide) (by decide)).bind fun v hv => ?_
      obtain ⟨v0, v1, ok8⟩ := hv
      refine Wp.go (rngM_eq (by omega) (by omega)) ?_
      refine (steps_wp ok8 (by rw [rng_len]; omega) (by rw [rng_len]; omega) (by omega) (by omega) (by omega)).bind fun y hy => ?_
      obtain ⟨y1, y2, y3⟩ := hy
      rw [rng_len] at y1 y3
      refine Wp.go (catM_eq (by simp; omega)) ?_
      refine ⟨_, rfl, by simp; omega, fun x' hx' => ?_, y3.le (by omega)⟩
      simp only at hx'
      rcases List.mem_append.mp hx' with z | z
      · rcases List.mem_append.mp z with z | z
        · exact w2 x' z
        · rw [List.mem_singleton.mp z]; exact .inr (.inr ⟨by show Str.ofString "call" ∈ calls; decide +kernel, hx⟩)
      · exact y2 x' z
    · obtain ⟨z1, z2, z3⟩ := hz
      refine (wp_atI (by omega) (by rw [hNl]; omega)).bind fun x hx => ?_
      refine Wp.go (pushM_eq (by simp only; omega)) ?_
      have : ((i : Nat) : Int).toNat = ps.length := by omega
      rw [this] at hx
      exact ⟨_, rfl, hM.push hx z1 z2, by simp; omega, z3.le (by push_cast; omega)⟩
  · rw [rng_len] at ht
    obtain ⟨hM, hl, ok6⟩ := ht
    refine ⟨_, rfl, hM.good hN hP (by decide) (by omega) (by omega) (by omega) (by omega), hM.short, by show (t.1.length : Int) ≤ m; omega, by have := hM.places; show (places t.1).length ≤ 3; omega, ok6.le (by omega)⟩
theorem program_wp {s : Src3} {n m : Int} (ok : s.ok n) (hn : n + 2000 < 1000000000) (h0 : 0 < m) (h1 : m ≤ 16) : Wp (m_program s m) (fun r => Good r.1 ∧ (∀ p ∈ r.1, p.2.length ≤ 6) ∧ (r.1.length : Int) ≤ m ∧ r.2.ok (n + 2000)) := (program_wp3 ok hn h0 h1).mono fun _ h => ⟨h.1, h.2.1, h.2.2.1, h.2.2.2.2⟩

theorem any_program_wp {s : Src3} {n : Int} (ok : s.ok n) (hn : n + 4000 < 1000000000) : Wp (m_any_program s) (fun r => Good r.1 ∧ (r.1.length ≤ 6 ∨ r.1.length = 16) ∧ r.2.ok (n + 4000)) := by
  unfold m_any_program
  refine (wp_draw ok (by omega) (by decide) (by decide)).bind fun r hr => ?_
  obtain ⟨r0, r1, ok1⟩ := hr
  refine Wp.ite (fun h => ?_) (fun h => ?_)
  · refine (program_wp ok1 (by omega) (by decide) (by decide)).bind fun z hz => ⟨_, rfl, hz.1, .inl (by have := hz.2.2.1; simp only; omega), hz.2.2.2.le (by omega)⟩
  · refine (names_wp ok1 (by decide) (by decide) (by omega)).bind fun a ha => ?_
    obtain ⟨hN, hNl, ok2⟩ := ha
    refine (names_wp ok2 (by decide) (by decide) (by omega)).bind fun b hb => ?_
    obtain ⟨hP, hPl, ok4⟩ := hb
    refine (wp_forL (fun i (t : List Prc × Src3) => Made a.1 b.1 12 t.1 ∧ t.1.length = i ∧ t.2.ok (n + 400 + 200 * i)) ⟨.nil, rfl, ok4.le (by push_cast; omega)⟩ ?_).bind fun t ht => ?_
    · rintro i x ⟨ps, s'⟩ hx ⟨hM, hl, ok6⟩
      simp only at hl ok6 hM
      have hi := (List.getElem?_eq_some_iff.mp hx).1
      refine (wp_draw ok6 (by omega) (by decide) (by decide)).bind fun u hu => ?_
      obtain ⟨u0, u1, ok7⟩ := hu
      refine Wp.go (rngM_eq (by omega) (by omega)) ?_
      refine (steps_wp ok7 (by rw [rng_len]; omega) (by rw [rng_len]; omega) (by omega) (by omega) (by omega)).bind fun w hw => ?_
      obtain ⟨w1, w2, w3⟩ := hw
      rw [rng_len] at w1 w3
      refine Wp.go (pushM_eq (by simp only; omega)) ?_
      rw [← hl] at hx
      exact ⟨_, rfl, hM.push hx (by omega) w2, by simp; omega, w3.le (by push_cast; omega)⟩
    · obtain ⟨hM, hl, ok6⟩ := ht
      refine ⟨_, rfl, hM.good hN hP (by decide) (by omega) (by omega) (by omega) (by omega), .inr (by simp only; omega), ok6.le (by omega)⟩
end Mm
namespace Mm
open PySem L2 Mf
section
variable {P : Program} {w : World} {K : PySem.W.Frag} {mg : Str → Option Value} {base : Heap} {cx : Nat → Addr}
abbrev n_is_name : List Str := ["value", "char"]
theorem sc_is_name : FnScope n_is_name ["value"] (defScope s_is_name) := ⟨rfl, rfl, rfl, by decide +kernel, rfl, by decide +kernel, by decide +kernel⟩
def m_is_name (x_0 : Str) : Option Bool :=
  (if (!true) = true then some true else (lenS x_0).bind fun n6 =>
  some (!((decide ((1 : Int) ≤ n6)) && (decide (n6 ≤ (8 : Int)))))).bind fun c2 =>
  if c2 = true then some false else (charsM x_0).bind fun z14 =>
  some ((z14.map (fun (a18 : Str) => (decide (a18 ∈ chars (Str.ofString "abcdefghijklmnopqrstuvwxyz"))))).all id)
def sp_is_name (K : PySem.W.Frag) : Sp := fun vs H Q E => ∃ (B : Hp) (x_0 : Str) (r : Bool), vs = [(V.str x_0)] ∧ Same B H ∧ m_is_name x_0 = some r ∧ ∀ (v : V) (B' H' : Hp) , Sit ⟨B, H, []⟩ B' H' [] → dBool.rel B' r v → Q v H'
theorem use_is_name {K : PySem.W.Frag} {Φ : Fr} {B H : Hp} {cs : List (Addr × HO)} {Q : VK} {E : XK} {r : Bool} {x_0 : Str} {v_0 : V} (Z : Sit Φ B H cs) (h_0 : dStr.rel B x_0 v_0) (hm : m_is_name x_0 = some r) (k : ∀ (v : V) (B' H' : Hp) , Sit Φ B' H' cs → Same B B' → dBool.rel B' r v → Q v H') : sp_is_name K ([v_0] ++ []) H Q E := by
  cases h_0
  exact ⟨B, x_0, r, rfl, Z.sub, hm, fun v B' H'  Z' h  => k v B' H'  (Z.call0 Z') Z'.grow h ⟩
theorem ok_is_name (A0 : DefAt K mg "is_name" s_is_name ["value"]) (b_all : mg "all" = none) (b_isinstance : mg "isinstance" = none) (b_len : mg "len" = none) (b_str : mg "str" = none) (e_LETTERS : ∃ t, mg "LETTERS" = some (.str "abcdefghijklmnopqrstuvwxyz" t)) : Does P w K mg base CX0 1 "is_name" ["value"] (sp_is_name K ) := by
  obtain ⟨f, fd, F, gm, bd⟩ := A0
  obtain ⟨t_LETTERS, g_LETTERS⟩ := e_LETTERS
  refine ⟨f, fd, ?_, gm, F.kp, bd⟩
  refine F.ok sc_is_name (fun vs H Q E h => ?_) (fun cdv A outer s H vs Q E hr h => ?_)
  · obtain ⟨_, _, _, rfl, _⟩ := h
    rfl
  · obtain ⟨B, x_0, r, rfl, sB, hm, k⟩ := h
    have hu := hu_of hr
    refine ⟨_, (pss_cons (ps_if (PW.pt (pw_or (pt_not (pt_val (pe_callB (k_isi K) (by rfl) b_isinstance (by decide +kernel) (pa_cons (pv 0) (pa_cons (pe_bltn (v := .ty "str") (by rfl) b_str (by decide +kernel) rfl) pa_nil))))) (pw_or1 (pt_not (pt_chain op_le op_le pe_int (pe_callB c_lenS (by rfl) b_len (by decide +kernel) (pa_cons (pv 0) pa_nil)) pe_int))))) (pss_one (ps_ret pe_bl)) pss_nil)
  (pss_one (ps_ret (pe_callB (k_all K rfl) (by rfl) b_all (by decide +kernel) (pa_cons (pe_lc (own := [("char", 1)]) (tt := tYes) rfl sc_is_name.nd (pi_str (pv 0)) (blkOk_by (own := [("char", 1)]) (N := n_is_name) (sc := defScope s_is_name) (by decide +kernel)) (fun _ _ _ _ _ => (pg_name (i := 1) sc_is_name.nd rfl (Or.inl rfl))) (fun _ _ _ _ _ => pts_nil) (fun _ _ _ _ _ => (pe_cmpR o_inC (pv 1) (pe_glob (v := .str "abcdefghijklmnopqrstuvwxyz") rfl g_LETTERS ⟨_, rfl⟩) (by rfl)))) pa_nil))))), ?_⟩
    obtain ⟨B0, hB0⟩ : ∃ B0 : Hp, B0 = B := ⟨_, rfl⟩
    subst hB0
    have S0 := Sit.start0 sB
    unfold m_is_name at hm
    refine w_sig (σ' := [(some (V.str x_0)), none]) rfl ?_
    refine w_seq ?_
    refine w_ifS ?_
    obtain ⟨c2, hc3, hm⟩ := bs hm
    refine cutT (fun b H' => c2 = b ∧ ∃ (B' : Hp), Sit (Fr.mk B0 H []) B' H' [] ∧ Same B0 B') (fun kk4 => ?_) ?_
    · refine w_or ?_
      refine w_evT (EvT.not (EvT.tB (Ev.cb (EvA.cons (Ev.var rfl) (EvA.cons Ev.c EvA.nil)) (isi_s (b := true) (kit_ty (r := true) (by decide +kernel)))))) ?_
      refine w_ifb (fun h5 => ?_) (fun h5 => ?_)
      · rw [ifT h5] at hc3
        obtain rfl := Option.some.inj hc3
        exact kk4 _ _ ⟨rfl, _, S0, (Same.rf _)⟩
      · rw [ifF h5] at hc3
        obtain ⟨n6, hn6, hc3⟩ := bs hc3
        refine w_evT (EvT.not (EvT.test (Ev.chain Ev.c (Ev.cb (EvA.cons (Ev.var rfl) EvA.nil) (len_str hn6)) Ev.c rv_I0 rv_I0))) ?_
        obtain rfl := Option.some.inj hc3
        exact kk4 _ _ ⟨rfl, _, S0, (Same.rf _)⟩
    · rintro _ H7 ⟨rfl, B10, S8, s9⟩
      refine w_ifb (fun h11 => ?_) (fun h11 => ?_)
      · rw [ifT h11] at hm
        refine w_ret ?_
        refine w_ev Ev.c ?_
        obtain rfl := Option.some.inj hm
        exact k _ _ _  S8 (show dBool.rel _ false (V.bl false) from rfl)
      · rw [ifF h11] at hm
        refine w_next ?_
        refine w_ret ?_
        refine w_cb ?_
        refine w_cons ?_
        refine w_lc ?_
        refine x_iS ?_
        refine w_ev (Ev.var rfl) ?_
        obtain ⟨z14, h15, hm⟩ := bs hm
        have h15l := charsM_le h15
        refine w_itSM (B := B10) h15 fun J12 it13 => ?_
        refine lcR (P := dBool) it13 S8 h15l (lcM_map (fun (a18 : Str) => (decide (a18 ∈ chars (Str.ofString "abcdefghijklmnopqrstuvwxyz")))) z14) (fun _ _ _ Z e _ => e.tr Z.sub) (fun D16 ac17 a18 o19 x20 B23 B24 H25 ma31 S26 s21 s22 h27 ho28 RR29 kk30 => ?_) ?_
        · refine w_turn ?_
          obtain ⟨rfl, h34⟩ := h27
          refine w_gname ?_
          refine w_wipe rfl ?_
          refine w_yes ?_
          refine iteT ?_
          refine w_ev (Ev.op (Ev.var rfl) Ev.c (rv_inC h34)) ?_
          obtain rfl := Option.some.inj ho28
          exact kk30 _ _ _ S26 (Same.rf _) ⟨_, rfl, (show dBool.rel _ (decide (a18 ∈ chars (Str.ofString "abcdefghijklmnopqrstuvwxyz"))) (V.bl (decide (a18 ∈ chars (Str.ofString "abcdefghijklmnopqrstuvwxyz")))) from rfl)⟩
        · intro p36 B43 H37 o38 S39 s40 n41 h42
          obtain ⟨B46, S44, s45, h47⟩ : ∃ B', Sit _ B' H37 [] ∧ Same _ B' ∧ (dList dBool).rel B' (z14.map (fun (a18 : Str) => (decide (a18 ∈ chars (Str.ofString "abcdefghijklmnopqrstuvwxyz"))))) (.ref p36) := ⟨_, S39.frz (i := 0) rfl n41, S39.frzS (i := 0) rfl, frzL h42 (S39.atB (i := 0) rfl)⟩
          refine w_nil ?_
          refine rall (Rl.mono _ S44.sub h47) _ ?_
          obtain rfl := Option.some.inj hm
          exact k _ _ _  S44 (show dBool.rel _ ((z14.map (fun (a18 : Str) => (decide (a18 ∈ chars (Str.ofString "abcdefghijklmnopqrstuvwxyz"))))).all id) (V.bl ((z14.map (fun (a18 : Str) => (decide (a18 ∈ chars (Str.ofString "abcdefghijklmnopqrstuvwxyz"))))).all id)) from rfl)
abbrev n_is_step : List Str := ["step", "kind", "name"]
theorem sc_is_step : FnScope n_is_step ["step"] (defScope s_is_step) := ⟨rfl, rfl, rfl, by decide +kernel, rfl, by decide +kernel, by decide +kernel⟩
def m_is_step (x_0 : (Str × Str)) : Option Bool :=
  (if (decide (x_0.1 ∈ ([(Str.ofString "read"), (Str.ofString "say"), (Str.ofString "call"), (Str.ofString "try")] : List Str))) = true then (m_is_name (x_0.2)).bind fun r10 =>
  some r10 else some false).bind fun c6 =>
  some c6
def sp_is_step (K : PySem.W.Frag) : Sp := fun vs H Q E => ∃ (B : Hp) (x_0 : (Str × Str)) (v_0 : V) (r : Bool), vs = [v_0] ∧ Same B H ∧ (dPair K dStr dStr).rel B x_0 v_0 ∧ m_is_step x_0 = some r ∧ ∀ (v : V) (B' H' : Hp) , Sit ⟨B, H, []⟩ B' H' [] → dBool.rel B' r v → Q v H'
theorem use_is_step {K : PySem.W.Frag} {Φ : Fr} {B H : Hp} {cs : List (Addr × HO)} {Q : VK} {E : XK} {r : Bool} {x_0 : (Str × Str)} {v_0 : V} (Z : Sit Φ B H cs) (h_0 : (dPair K dStr dStr).rel B x_0 v_0) (hm : m_is_step x_0 = some r) (k : ∀ (v : V) (B' H' : Hp) , Sit Φ B' H' cs → Same B B' → dBool.rel B' r v → Q v H') : sp_is_step K ([v_0] ++ []) H Q E := by
  exact ⟨B, x_0, v_0, r, rfl, Z.sub, h_0, hm, fun v B' H'  Z' h  => k v B' H'  (Z.call0 Z') Z'.grow h ⟩
theorem ok_is_step (A0 : DefAt K mg "is_step" s_is_step ["step"]) (e_KINDS : ∃ a, mg "KINDS" = some (.ref a) ∧ ∀ H, SqT K H a (([Str.ofString "read", Str.ofString "say", Str.ofString "call", Str.ofString "try"] : List Str).map V.str)) (D_is_name : Does P w K mg base CX0 1 "is_name" ["value"] (sp_is_name K )) : Does P w K mg base CX0 2 "is_step" ["step"] (sp_is_step K ) := by
  obtain ⟨f, fd, F, gm, bd⟩ := A0
  obtain ⟨a_KINDS, g_KINDS, hk_KINDS⟩ := e_KINDS
  obtain ⟨f_is_name, fd_is_name, G_is_name, g_is_name, kp_is_name, bd_is_name⟩ := D_is_name
  refine ⟨f, fd, ?_, gm, F.kp, bd⟩
  refine F.ok sc_is_step (fun vs H Q E h => ?_) (fun cdv A outer s H vs Q E hr h => ?_)
  · obtain ⟨_, _, _, _, rfl, _⟩ := h
    rfl
  · obtain ⟨B, x_0, v_0, r, rfl, sB, hx_0, hm, k⟩ := h
    have hu := hu_of hr
    refine ⟨_, (pss_cons (ps_asg (pv 0) (k_gT K (n := 2) (by rfl) (pgs_cons (pg_name (i := 1) sc_is_step.nd rfl (Or.inl rfl)) (pgs_cons (pg_name (i := 2) sc_is_step.nd rfl (Or.inl rfl)) pgs_nil))))
  (pss_one (ps_ret (pe_and (pe_cmpR (k_in K) (pv 1) (pe_glob (v := .ref a_KINDS) rfl g_KINDS rfl) (by rfl)) (pe_one (pe_call G_is_name (hr.mono (by decide)) rfl g_is_name kp_is_name bd_is_name .nil pass0 (pa_cons (pv 2) pa_nil))))))), ?_⟩
    obtain ⟨B0, hB0⟩ : ∃ B0 : Hp, B0 = B := ⟨_, rfl⟩
    subst hB0
    have S0 := Sit.start0 sB
    unfold m_is_step at hm
    refine w_sig (σ' := [(some v_0), none, none]) rfl ?_
    refine w_seq ?_
    refine w_asg ?_
    refine w_ev (Ev.var rfl) ?_
    obtain ⟨w1, w3, h2, h4, hu5⟩ := un_p (K := K) hx_0
    refine w_gun (hu5 _ S0.sub) rfl ?_
    refine w_gcons ?_
    cases h2
    refine w_gname ?_
    refine w_gcons ?_
    cases h4
    refine w_gname ?_
    refine w_gnil ?_
    refine w_nx (σ' := [(some v_0), (some (V.str x_0.1)), (some (V.str x_0.2))]) rfl ?_
    refine w_ret ?_
    obtain ⟨c6, hc7, hm⟩ := bs hm
    refine cutE (fun v H' => v = V.bl c6 ∧ ∃ (B' : Hp), Sit (Fr.mk B0 H []) B' H' [] ∧ Same B0 B') (fun kk8 => ?_) ?_
    · refine w_andV ?_
      refine w_ev (Ev.op (Ev.var rfl) Ev.c (rin_s (sqT (K := K) (tupC hk_KINDS (by decide)) S0.sub))) ?_
      refine w_bl ?_
      refine w_ifb (fun h9 => ?_) (fun h9 => ?_)
      · rw [ifT h9] at hc7
        refine w_call ?_
        refine w_evA (EvA.cons (Ev.var rfl) EvA.nil) ?_
        obtain ⟨r10, h11, hc7⟩ := bs hc7
        refine use_is_name S0 (show dStr.rel _ x_0.2 (V.str x_0.2) from rfl) h11 fun v12 B16 H13  (S14 : Sit _ B16 H13 []) s15 h17  => ?_
        cases h17
        obtain rfl := Option.some.inj hc7
        exact kk8 _ _ ⟨rfl, _, S14, s15⟩
      · rw [ifF h9] at hc7
        obtain rfl := Option.some.inj hc7
        exact kk8 _ _ ⟨rfl, _, S0, (Same.rf _)⟩
    · rintro _ H18 ⟨rfl, B21, S19, s20⟩
      obtain rfl := Option.some.inj hm
      exact k _ _ _  S19 (show dBool.rel _ c6 (V.bl c6) from rfl)
end
end Mm
namespace Mm
open PySem L2 Mf
section
variable {P : Program} {w : World} {K : PySem.W.Frag} {mg : Str → Option Value} {base : Heap} {cx : Nat → Addr}
abbrev n_invalid_line : List Str := ["procedures", "earlier", "number", "name", "body", "kind", "callee", "step"]
theorem sc_invalid_line : FnScope n_invalid_line ["procedures"] (defScope s_invalid_line) := ⟨rfl, rfl, rfl, by decide +kernel, rfl, by decide +kernel, by decide +kernel⟩
def m_invalid_line (x_0 : (List (Str × (List (Str × Str))))) : Option Int :=
  if (decide ((x_0.length : Int) = (0 : Int))) = true then some (1 : Int) else (forC (R := Int) (fun (a16 : (Int × (Str × (List (Str × Str))))) (st17 : (List Str)) => (if (decide ((16 : Int) < a16.1)) = true then some true else (m_is_name (a16.2.1)).bind fun r56 =>
  if (!r56) = true then some true else if (decide (a16.2.1 ∈ st17)) = true then some true else some (decide ((12 : Int) < (a16.2.2.length : Int)))).bind fun c52 =>
  if c52 = true then some (.ret a16.1) else (lcM (fun (a75 : (Str × Str)) => (m_is_step (a75)).bind fun r90 =>
  some (some r90)) a16.2.2).bind fun ys99 =>
  if (!(ys99.all id)) = true then some (.ret a16.1) else (pushM st17 a16.2.1).bind fun x114 =>
  some (.nx x114)) (enumM 1 x_0) ([] : (List Str))).bind fun c41 =>
  c41.on (fun st126 => (forC (R := Int) (fun (a144 : (Int × (Str × (List (Str × Str))))) (st145 : Unit) => (forC (R := Int) (fun (a185 : (Str × Str)) (st186 : Unit) => (if (decide (a185.1 ∈ ([(Str.ofString "call"), (Str.ofString "try")] : (List Str)))) = true then some (!decide (a185.2 ∈ st126)) else some false).bind fun c213 =>
  if c213 = true then some (.ret a144.1) else some (.nx ())) a144.2.2 ()).bind fun c207 =>
  c207.on (fun st234 => some (.nx ())) (fun r => some (.ret r))) (enumM 1 x_0) ()).bind fun c169 =>
  c169.on (fun st245 => some (0 : Int)) (fun r => some r)) (fun r => some r)
def sp_invalid_line (K : PySem.W.Frag) : Sp := fun vs H Q E => ∃ (B : Hp) (x_0 : (List (Str × (List (Str × Str))))) (v_0 : V) (r : Int), vs = [v_0] ∧ Same B H ∧ (dSeq K (dPair K dStr (dSeq K (dPair K dStr dStr)))).rel B x_0 v_0 ∧ m_invalid_line x_0 = some r ∧ ∀ (v : V) (B' H' : Hp) , Sit ⟨B, H, []⟩ B' H' [] → dInt.rel B' r v → Q v H'
theorem use_invalid_line {K : PySem.W.Frag} {Φ : Fr} {B H : Hp} {cs : List (Addr × HO)} {Q : VK} {E : XK} {r : Int} {x_0 : (List (Str × (List (Str × Str))))} {v_0 : V} (Z : Sit Φ B H cs) (h_0 : (dSeq K (dPair K dStr (dSeq K (dPair K dStr dStr)))).rel B x_0 v_0) (hm : m_invalid_line x_0 = some r) (k : ∀ (v : V) (B' H' : Hp) , Sit Φ B' H' cs → Same B B' → dInt.rel B' r v → Q v H') : sp_invalid_line K ([v_0] ++ []) H Q E := by
  exact ⟨B, x_0, v_0, r, rfl, Z.sub, h_0, hm, fun v B' H'  Z' h  => k v B' H'  (Z.call0 Z') Z'.grow h ⟩
theorem ok_invalid_line (A0 : DefAt K mg "invalid_line" s_invalid_line ["procedures"]) (b_all : mg "all" = none) (b_enumerate : mg "enumerate" = none) (b_len : mg "len" = none) (e_MOST_PROCEDURES : ∃ t, mg "MOST_PROCEDURES" = some (.int 16 t)) (e_MOST_STEPS : ∃ t, mg "MOST_STEPS" = some (.int 12 t)) (D_is_name : Does P w K mg base CX0 1 "is_name" ["value"] (sp_is_name K )) (D_is_step : Does P w K mg base CX0 2 "is_step" ["step"] (sp_is_step K )) : Does P w K mg base CX0 3 "invalid_line" ["procedures"] (sp_invalid_line K ) := by
  obtain ⟨f, fd, F, gm, bd⟩ := A0
  obtain ⟨t_MOST_PROCEDURES, g_MOST_PROCEDURES⟩ := e_MOST_PROCEDURES
  obtain ⟨t_MOST_STEPS, g_MOST_STEPS⟩ := e_MOST_STEPS
  obtain ⟨f_is_name, fd_is_name, G_is_name, g_is_name, kp_is_name, bd_is_name⟩ := D_is_name
  obtain ⟨f_is_step, fd_is_step, G_is_step, g_is_step, kp_is_step, bd_is_step⟩ := D_is_step
  refine ⟨f, fd, ?_, gm, F.kp, bd⟩
  refine F.ok sc_invalid_line (fun vs H Q E h => ?_) (fun cdv A outer s H vs Q E hr h => ?_)
  · obtain ⟨_, _, _, _, rfl, _⟩ := h
    rfl
  · obtain ⟨B, x_0, v_0, r, rfl, sB, hx_0, hm, k⟩ := h
    have hu := hu_of hr
    refine ⟨_, (pss_cons (ps_if (pt_cmpR op_eq (pe_callB (k_len K) (by rfl) b_len (by decide +kernel) (pa_cons (pv 0) pa_nil)) pe_int (nomark _)) (pss_one (ps_ret pe_int)) pss_nil)
  (pss_cons (ps_set (i := 1) sc_invalid_line.nd rfl (Or.inl rfl) (pe_lst pa_nil))
  (pss_cons (ps_for PassesOwn.never rfl (k_iES K (by rfl) b_enumerate (pa_cons (pv 0) pa_nil) (pk_cons pe_int pk_nil)) (k_gT K (n := 2) (by rfl) (pgs_cons (pg_name (i := 2) sc_invalid_line.nd rfl (Or.inl rfl)) (pgs_cons (k_gT K (n := 2) (by rfl) (pgs_cons (pg_name (i := 3) sc_invalid_line.nd rfl (Or.inl rfl)) (pgs_cons (pg_name (i := 4) sc_invalid_line.nd rfl (Or.inl rfl)) pgs_nil))) pgs_nil)))
  (pss_cons (ps_if (PW.pt (pw_or (pt_cmpR op_gt (pv 2) (pe_glob (v := .int 16) rfl g_MOST_PROCEDURES ⟨_, rfl⟩) (nomark _)) (pw_or (pt_not (pt_val (pe_call G_is_name (hr.mono (by decide)) rfl g_is_name kp_is_name bd_is_name .nil pass0 (pa_cons (pv 3) pa_nil)))) (pw_or (pt_cmpR (k_in K) (pv 3) (pv 1) (by rfl)) (pw_or1 (pt_cmpR op_gt (pe_callB (k_len K) (by rfl) b_len (by decide +kernel) (pa_cons (pv 4) pa_nil)) (pe_glob (v := .int 12) rfl g_MOST_STEPS ⟨_, rfl⟩) (nomark _))))))) (pss_one (ps_ret (pv 2))) pss_nil)
  (pss_cons (ps_if (pt_not (pt_val (pe_callB (k_all K rfl) (by rfl) b_all (by decide +kernel) (pa_cons (pe_lc (own := [("step", 7)]) (tt := tYes) rfl sc_invalid_line.nd (k_iQ K (pv 4)) (blkOk_by (own := [("step", 7)]) (N := n_invalid_line) (sc := defScope s_invalid_line) (by decide +kernel)) (fun _ _ _ _ _ => (pg_name (i := 7) sc_invalid_line.nd rfl (Or.inl rfl))) (fun _ _ _ _ _ => pts_nil) (fun _ _ _ _ _ => (pe_call G_is_step (hr.mono (by decide)) rfl g_is_step kp_is_step bd_is_step .nil pass0 (pa_cons (pv 7) pa_nil)))) pa_nil)))) (pss_one (ps_ret (pv 2))) pss_nil)
  (pss_one (ps_expr (k_bm K PySem.F.plainAttrs_list PySem.F.slot_list_append PySem.F.type_list_append mt_append (pv 1) (pa_cons (pv 3) pa_nil)))))))
  (pss_cons (ps_for PassesOwn.never rfl (k_iES K (by rfl) b_enumerate (pa_cons (pv 0) pa_nil) (pk_cons pe_int pk_nil)) (k_gT K (n := 2) (by rfl) (pgs_cons (pg_name (i := 2) sc_invalid_line.nd rfl (Or.inl rfl)) (pgs_cons (k_gT K (n := 2) (by rfl) (pgs_cons (pg_name (i := 3) sc_invalid_line.nd rfl (Or.inl rfl)) (pgs_cons (pg_name (i := 4) sc_invalid_line.nd rfl (Or.inl rfl)) pgs_nil))) pgs_nil)))
  (pss_one (ps_for PassesOwn.never rfl (k_iQ K (pv 4)) (k_gT K (n := 2) (by rfl) (pgs_cons (pg_name (i := 5) sc_invalid_line.nd rfl (Or.inl rfl)) (pgs_cons (pg_name (i := 6) sc_invalid_line.nd rfl (Or.inl rfl)) pgs_nil)))
  (pss_one (ps_if (PW.pt (pw_and (pt_cmpR (k_in K) (pv 5) (pe_tup (pa_cons pe_str (pa_cons pe_str pa_nil))) (by rfl)) (pw_and1 (pt_cmpR (k_ni K) (pv 6) (pv 1) (by rfl))))) (pss_one (ps_ret (pv 2))) pss_nil)))))
  (pss_one (ps_ret pe_int)))))), ?_⟩
    obtain ⟨B0, hB0⟩ : ∃ B0 : Hp, B0 = B := ⟨_, rfl⟩
    subst hB0
    have S0 := Sit.start0 sB
    unfold m_invalid_line at hm
    refine w_sig (σ' := [(some v_0), none, none, none, none, none, none, none]) rfl ?_
    refine w_seq ?_
    refine w_ifS ?_
    refine w_evT (EvT.test (Ev.op (Ev.cb (EvA.cons (Ev.var rfl) EvA.nil) (rlen_q (sqQ (K := K) hx_0 S0.sub))) Ev.c rv_eqI)) ?_
    refine w_ifb (fun h1 => ?_) (fun h1 => ?_)
    · rw [ifT h1] at hm
      refine w_ret ?_
      refine w_ev Ev.c ?_
      obtain rfl := Option.some.inj hm
      exact k _ _ _  S0 (show dInt.rel _ (1 : Int) (V.int 1) from rfl)
    · rw [ifF h1] at hm
      refine w_next ?_
      refine w_seq ?_
      refine w_asg ?_
      refine x_lst ?_
      refine w_nil ?_
      refine mkO (R := dStr) (xs := []) S0 .nil (by show 0 ≤ BIG; decide) fun p2 o3 H4 S5 n6 h7 => ?_
      refine w_gname ?_
      refine w_nx (σ' := [(some v_0), (some (.ref p2)), none, none, none, none, none, none]) rfl ?_
      refine w_seq ?_
      refine w_for ?_
      refine x_iES ?_
      refine w_evA (EvA.cons (Ev.var rfl) EvA.nil) ?_
      refine w_evA (EvA.cons Ev.c EvA.nil) ?_
      refine w_itES (by decide) hx_0 S5.sub fun J8 it9 => ?_
      obtain ⟨c41, hl253, hm⟩ := bs hm
      refine forK (s0 := ([] : (List Str))) it9 S5 (fun (st10 : (List Str)) b σ' cs' => ∃ (e11 : Option V) (e12 : Option V) (e13 : Option V) (o14 : HO), σ' = [(some v_0), (some (.ref p2)), e11, e12, e13, none, none, none] ∧ cs' = [(p2, o14)] ∧ (cList dStr).rel b st10 o14 ∧ True) ⟨_, _, _, _, rfl, rfl, h7, trivial⟩ hl253 (fun _ _ _ _ _ Z e _ => e.tr Z.sub) (fun a16 st17 o18 x19 B29 B35 H20 _ cs21 ma22 S23 s24 s25 hI26 h27 hf28 hret36 hbrk37 => ?_) ?_
      · obtain ⟨e30, e31, e32, o33, rfl, rfl, h34, -⟩ := hI26
        obtain ⟨w42, w44, h43, h45, hu46⟩ := un_p (K := K) h27
        refine w_gun (hu46 _ S23.sub) rfl ?_
        refine w_gcons ?_
        cases h43
        refine w_gname ?_
        refine w_gcons ?_
        obtain ⟨w47, w49, h48, h50, hu51⟩ := un_p (K := K) h45
        refine w_gun (hu51 _ S23.sub) rfl ?_
        refine w_gcons ?_
        cases h48
        refine w_gname ?_
        refine w_gcons ?_
        refine w_gname ?_
        refine w_gnil ?_
        refine w_gnil ?_
        refine w_nx (σ' := [(some v_0), (some (.ref p2)), (some (V.int a16.1)), (some (V.str a16.2.1)), (some w49), none, none, none]) rfl ?_
        refine w_seq ?_
        refine w_ifS ?_
        obtain ⟨c52, hc53, hf28⟩ := bs hf28
        refine cutT (fun b H' => c52 = b ∧ ∃ (B' : Hp), Sit (Fr.mk B0 H []) B' H' [(p2, o33)] ∧ Same B35 B') (fun kk54 => ?_) ?_
        · refine w_or ?_
          refine w_evT (EvT.test (Ev.op (Ev.var rfl) Ev.c rv_I0)) ?_
          refine w_ifb (fun h55 => ?_) (fun h55 => ?_)
          · rw [ifT h55] at hc53
            obtain rfl := Option.some.inj hc53
            exact kk54 _ _ ⟨rfl, _, S23, (Same.rf _)⟩
          · rw [ifF h55] at hc53
            refine w_or ?_
            refine w_not ?_
            refine w_tb ?_
            refine w_call ?_
            refine w_evA (EvA.cons (Ev.var rfl) EvA.nil) ?_
            obtain ⟨r56, h57, hc53⟩ := bs hc53
            refine use_is_name S23 (show dStr.rel _ a16.2.1 (V.str a16.2.1) from rfl) h57 fun v58 B62 H59  (S60 : Sit _ B62 H59 [(p2, o33)]) s61 h63  => ?_
            cases h63
            refine w_bl ?_
            refine w_ifb (fun h64 => ?_) (fun h64 => ?_)
            · rw [ifT h64] at hc53
              obtain rfl := Option.some.inj hc53
              exact kk54 _ _ ⟨rfl, _, S60, s61⟩
            · rw [ifF h64] at hc53
              refine w_or ?_
              refine w_evT (EvT.test (Ev.op (Ev.var rfl) (Ev.var rfl) (rin_s (sqC (K := K) (Cl.mono _ (s25.tr s61) h34) (S60.at' (i := 0) rfl))))) ?_
              refine w_ifb (fun h65 => ?_) (fun h65 => ?_)
              · rw [ifT h65] at hc53
                obtain rfl := Option.some.inj hc53
                exact kk54 _ _ ⟨rfl, _, S60, s61⟩
              · rw [ifF h65] at hc53
                refine w_evT (EvT.test (Ev.op (Ev.cb (EvA.cons (Ev.var rfl) EvA.nil) (rlen_q (sqQ (K := K) (Rl.mono _ s61 h50) S60.sub))) Ev.c rv_I0)) ?_
                obtain rfl := Option.some.inj hc53
                exact kk54 _ _ ⟨rfl, _, S60, s61⟩
        · rintro _ H66 ⟨rfl, B69, S67, s68⟩
          refine w_ifb (fun h70 => ?_) (fun h70 => ?_)
          · rw [ifT h70] at hf28
            refine w_ret ?_
            refine w_ev (Ev.var rfl) ?_
            obtain rfl := Option.some.inj hf28
            cases hret36 _ rfl
            obtain rfl := Option.some.inj hm
            exact k _ _ _  S67.tl (show dInt.rel _ a16.1 (V.int a16.1) from rfl)
          · rw [ifF h70] at hf28
            refine w_next ?_
            refine w_seq ?_
            refine w_ifS ?_
            refine w_not ?_
            refine w_tb ?_
            refine w_cb ?_
            refine w_cons ?_
            refine w_lc ?_
            refine x_iQ ?_
            refine w_ev (Ev.var rfl) ?_
            refine w_itQ (Rl.mono _ s68 h50) S67.sub fun J71 it72 => ?_
            obtain ⟨ys99, h100, hf28⟩ := bs hf28
            refine lcR (P := dBool) it72 S67 (dSeq.le (Rl.mono _ s68 h50)) h100 (fun _ _ _ Z e _ => e.tr Z.sub) (fun D73 ac74 a75 o76 x77 B80 B81 H82 ma88 S83 s78 s79 h84 ho85 RR86 kk87 => ?_) ?_
            · refine w_turn ?_
              refine w_gname ?_
              refine w_wipe rfl ?_
              refine w_yes ?_
              refine iteT ?_
              refine w_call ?_
              refine w_evA (EvA.cons (Ev.var rfl) EvA.nil) ?_
              obtain ⟨r90, h91, ho85⟩ := bs ho85
              refine use_is_step S83 h84 h91 fun v92 B96 H93  (S94 : Sit _ B96 H93 [(D73, (.lst ac74)), (p2, o33)]) s95 h97  => ?_
              cases h97
              obtain rfl := Option.some.inj ho85
              exact kk87 _ _ _ S94 s95 ⟨_, rfl, (show dBool.rel _ r90 (V.bl r90) from rfl)⟩
            · intro p101 B108 H102 o103 S104 s105 n106 h107
              obtain ⟨B111, S109, s110, h112⟩ : ∃ B', Sit _ B' H102 [(p2, o33)] ∧ Same _ B' ∧ (dList dBool).rel B' ys99 (.ref p101) := ⟨_, S104.frz (i := 0) rfl n106, S104.frzS (i := 0) rfl, frzL h107 (S104.atB (i := 0) rfl)⟩
              refine w_nil ?_
              refine rall (Rl.mono _ S109.sub h112) _ ?_
              refine w_bl ?_
              refine w_ifb (fun h113 => ?_) (fun h113 => ?_)
              · rw [ifT h113] at hf28
                refine w_ret ?_
                refine w_ev (Ev.var rfl) ?_
                obtain rfl := Option.some.inj hf28
                cases hret36 _ rfl
                obtain rfl := Option.some.inj hm
                exact k _ _ _  S109.tl (show dInt.rel _ a16.1 (V.int a16.1) from rfl)
              · rw [ifF h113] at hf28
                refine w_next ?_
                refine w_drop ?_
                refine w_bm ?_
                refine w_ev (Ev.var rfl) ?_
                refine w_tyC (Cl.mono _ (s25.tr (s68.tr (s105.tr s110))) h34) (S109.at' (i := 0) rfl) ?_
                refine w_evA (EvA.cons (Ev.var rfl) EvA.nil) ?_
                obtain ⟨x114, h115, hf28⟩ := bs hf28
                refine q_append (k := 0) S109 rfl (Cl.mono _ (s25.tr (s68.tr (s105.tr s110))) h34) (show dStr.rel _ a16.2.1 (V.str a16.2.1) from rfl) h115 fun o116 H117 (S118 : Sit _ B111 H117 [(p2, o116)]) h119 => ?_
                obtain rfl := Option.some.inj hf28
                exact ⟨_, rfl, _, _, S118, (s24.tr (s25.tr (s68.tr (s105.tr s110)))), _, _, _, _, rfl, rfl, h119, trivial⟩
      · intro st126 B125 H120 _ cs121 ec254 S122 s123 hI124
        cases ec254
        replace hm := onx hm
        obtain ⟨e127, e128, e129, o130, rfl, rfl, h131, -⟩ := hI124
        obtain ⟨B134, S132, s133, h135⟩ : ∃ B', Sit _ B' H120 [] ∧ Same _ B' ∧ (dList dStr).rel B' st126 (.ref p2) := ⟨_, S122.frz (i := 0) rfl n6, S122.frzS (i := 0) rfl, frzL h131 (S122.atB (i := 0) rfl)⟩
        refine w_seq ?_
        refine w_for ?_
        refine x_iES ?_
        refine w_evA (EvA.cons (Ev.var rfl) EvA.nil) ?_
        refine w_evA (EvA.cons Ev.c EvA.nil) ?_
        refine w_itES (by decide) (Rl.mono _ (s123.tr s133) hx_0) S132.sub fun J136 it137 => ?_
        obtain ⟨c169, hl251, hm⟩ := bs hm
        refine forK (s0 := ()) it137 S132 (fun (st138 : Unit) b σ' cs' => ∃ (e139 : Option V) (e140 : Option V) (e141 : Option V) (e142 : Option V) (e143 : Option V), σ' = [(some v_0), (some (.ref p2)), e139, e140, e141, e142, e143, none] ∧ cs' = [] ∧ True) ⟨_, _, _, _, _, rfl, rfl, trivial⟩ hl251 (fun _ _ _ _ _ Z e _ => e.tr Z.sub) (fun a144 st145 o146 x147 B157 B163 H148 _ cs149 ma150 S151 s152 s153 hI154 h155 hf156 hret164 hbrk165 => ?_) ?_
        · obtain ⟨e158, e159, e160, e161, e162, rfl, rfl, -⟩ := hI154
          obtain ⟨w170, w172, h171, h173, hu174⟩ := un_p (K := K) h155
          refine w_gun (hu174 _ S151.sub) rfl ?_
          refine w_gcons ?_
          cases h171
          refine w_gname ?_
          refine w_gcons ?_
          obtain ⟨w175, w177, h176, h178, hu179⟩ := un_p (K := K) h173
          refine w_gun (hu179 _ S151.sub) rfl ?_
          refine w_gcons ?_
          cases h176
          refine w_gname ?_
          refine w_gcons ?_
          refine w_gname ?_
          refine w_gnil ?_
          refine w_gnil ?_
          refine w_nx (σ' := [(some v_0), (some (.ref p2)), (some (V.int a144.1)), (some (V.str a144.2.1)), (some w177), e161, e162, none]) rfl ?_
          refine w_for ?_
          refine x_iQ ?_
          refine w_ev (Ev.var rfl) ?_
          refine w_itQ h178 S151.sub fun J180 it181 => ?_
          obtain ⟨c207, hl237, hf156⟩ := bs hf156
          refine forK (s0 := ()) it181 S151 (fun (st182 : Unit) b σ' cs' => ∃ (e183 : Option V) (e184 : Option V), σ' = [(some v_0), (some (.ref p2)), (some (V.int a144.1)), (some (V.str a144.2.1)), (some w177), e183, e184, none] ∧ cs' = [] ∧ True) ⟨_, _, rfl, rfl, trivial⟩ hl237 (fun _ _ _ _ _ Z e _ => e.tr Z.sub) (fun a185 st186 o187 x188 B198 B201 H189 _ cs190 ma191 S192 s193 s194 hI195 h196 hf197 hret202 hbrk203 => ?_) ?_
          · obtain ⟨e199, e200, rfl, rfl, -⟩ := hI195
            obtain ⟨w208, w210, h209, h211, hu212⟩ := un_p (K := K) h196
            refine w_gun (hu212 _ S192.sub) rfl ?_
            refine w_gcons ?_
            cases h209
            refine w_gname ?_
            refine w_gcons ?_
            cases h211
            refine w_gname ?_
            refine w_gnil ?_
            refine w_nx (σ' := [(some v_0), (some (.ref p2)), (some (V.int a144.1)), (some (V.str a144.2.1)), (some w177), (some (V.str a185.1)), (some (V.str a185.2)), none]) rfl ?_
            refine w_ifS ?_
            obtain ⟨c213, hc214, hf197⟩ := bs hf197
            refine cutT (fun b H' => c213 = b ∧ ∃ (B' : Hp), Sit (Fr.mk B0 H []) B' H' [] ∧ Same B201 B') (fun kk215 => ?_) ?_
            · refine w_and ?_
              refine w_test ?_
              refine w_op ?_
              refine w_ev (Ev.var rfl) ?_
              refine x_tup ?_
              refine w_evA (EvA.cons Ev.c (EvA.cons Ev.c EvA.nil)) ?_
              refine mkT (K := K) (R := dStr) (xs := [(Str.ofString "call"), (Str.ofString "try")]) S192 (.cons rfl (.cons rfl .nil)) (by show 2 ≤ BIG; decide) fun v216 B221 H217 S218 s219 h220 => ?_
              refine w_rv (rin_s (sqT (K := K) h220 S218.sub)) ?_
              refine w_bl ?_
              refine w_ifb (fun h222 => ?_) (fun h222 => ?_)
              · rw [ifT h222] at hc214
                refine w_evT (EvT.test (Ev.op (Ev.var rfl) (Ev.var rfl) (rni_s (sqL (K := K) (Rl.mono _ (s152.tr (s153.tr (s193.tr (s194.tr s219)))) h135) S218.sub)))) ?_
                obtain rfl := Option.some.inj hc214
                exact kk215 _ _ ⟨rfl, _, S218, s219⟩
              · rw [ifF h222] at hc214
                obtain rfl := Option.some.inj hc214
                exact kk215 _ _ ⟨rfl, _, S218, s219⟩
            · rintro _ H223 ⟨rfl, B226, S224, s225⟩
              refine w_ifb (fun h227 => ?_) (fun h227 => ?_)
              · rw [ifT h227] at hf197
                refine w_ret ?_
                refine w_ev (Ev.var rfl) ?_
                obtain rfl := Option.some.inj hf197
                cases hret202 _ rfl
                obtain rfl := Option.some.inj hf156
                cases hret164 _ rfl
                obtain rfl := Option.some.inj hm
                exact k _ _ _  S224 (show dInt.rel _ a144.1 (V.int a144.1) from rfl)
              · rw [ifF h227] at hf197
                refine w_next ?_
                obtain rfl := Option.some.inj hf197
                exact ⟨_, rfl, _, _, S224, (s193.tr (s194.tr s225)), _, _, rfl, rfl, trivial⟩
          · intro st234 B233 H228 _ cs229 ec238 S230 s231 hI232
            cases ec238
            replace hf156 := onx hf156
            obtain ⟨e235, e236, rfl, rfl, -⟩ := hI232
            obtain rfl := Option.some.inj hf156
            exact ⟨_, rfl, _, _, S230, (s152.tr (s153.tr s231)), _, _, _, _, _, rfl, rfl, trivial⟩
        · intro st245 B244 H239 _ cs240 ec252 S241 s242 hI243
          cases ec252
          replace hm := onx hm
          obtain ⟨e246, e247, e248, e249, e250, rfl, rfl, -⟩ := hI243
          refine w_ret ?_
          refine w_ev Ev.c ?_
          obtain rfl := Option.some.inj hm
          exact k _ _ _  S241 (show dInt.rel _ (0 : Int) (V.int 0) from rfl)
end
end Mm
namespace Mm
open PySem L2 Mf
section
variable {P : Program} {w : World} {K : PySem.W.Frag} {mg : Str → Option Value} {base : Heap} {cx : Nat → Addr}
abbrev n_line_text : List Str := ["name", "body", "steps", "kind", "word"]
theorem sc_line_text : FnScope n_line_text ["name", "body"] (defScope s_line_text) := ⟨rfl, rfl, rfl, by decide +kernel, rfl, by decide +kernel, by decide +kernel⟩
def m_line_text (x_0 : Str) (x_1 : (List (Str × Str))) : Option Str :=
  if (decide ((x_1.length : Int) = (0 : Int))) = true then (fmtS x_0).bind fun z2 =>
  (fcat Str.empty z2).bind fun z4 =>
  (fcat z4 (Str.ofString ":")).bind fun z6 =>
  some z6 else (lcM (fun (a12 : (Str × Str)) => (fmtS a12.1).bind fun z32 =>
  (fcat Str.empty z32).bind fun z34 =>
  (fcat z34 (Str.ofString " ")).bind fun z36 =>
  (fmtS a12.2).bind fun z38 =>
  (fcat z36 z38).bind fun z40 =>
  some (some z40)) x_1).bind fun ys43 =>
  (joinM (Str.ofString ", ") ys43).bind fun x57 =>
  (fmtS x_0).bind fun z58 =>
  (fcat Str.empty z58).bind fun z60 =>
  (fcat z60 (Str.ofString ": ")).bind fun z62 =>
  (fmtS x57).bind fun z64 =>
  (fcat z62 z64).bind fun z66 =>
  some z66
def sp_line_text (K : PySem.W.Frag) : Sp := fun vs H Q E => ∃ (B : Hp) (x_0 : Str) (x_1 : (List (Str × Str))) (v_1 : V) (r : Str), vs = [(V.str x_0), v_1] ∧ Same B H ∧ (dTup K (dPair K dStr dStr)).rel B x_1 v_1 ∧ m_line_text x_0 x_1 = some r ∧ ∀ (v : V) (B' H' : Hp) , Sit ⟨B, H, []⟩ B' H' [] → dStr.rel B' r v → Q v H'
theorem use_line_text {K : PySem.W.Frag} {Φ : Fr} {B H : Hp} {cs : List (Addr × HO)} {Q : VK} {E : XK} {r : Str} {x_0 : Str} {v_0 : V} {x_1 : (List (Str × Str))} {v_1 : V} (Z : Sit Φ B H cs) (h_0 : dStr.rel B x_0 v_0) (h_1 : (dTup K (dPair K dStr dStr)).rel B x_1 v_1) (hm : m_line_text x_0 x_1 = some r) (k : ∀ (v : V) (B' H' : Hp) , Sit Φ B' H' cs → Same B B' → dStr.rel B' r v → Q v H') : sp_line_text K ([v_0, v_1] ++ []) H Q E := by
  cases h_0
  exact ⟨B, x_0, x_1, v_1, r, rfl, Z.sub, h_1, hm, fun v B' H'  Z' h  => k v B' H'  (Z.call0 Z') Z'.grow h ⟩
theorem ok_line_text (A0 : DefAt K mg "line_text" s_line_text ["name", "body"]) (b_len : mg "len" = none) : Does P w K mg base CX0 1 "line_text" ["name", "body"] (sp_line_text K ) := by
  obtain ⟨f, fd, F, gm, bd⟩ := A0
  refine ⟨f, fd, ?_, gm, F.kp, bd⟩
  refine F.ok sc_line_text (fun vs H Q E h => ?_) (fun cdv A outer s H vs Q E hr h => ?_)
  · obtain ⟨_, _, _, _, _, rfl, _⟩ := h
    rfl
  · obtain ⟨B, x_0, x_1, v_1, r, rfl, sB, hx_1, hm, k⟩ := h
    have hu := hu_of hr
    refine ⟨_, (pss_cons (ps_if (pt_cmpR op_eq (pe_callB (k_len K) (by rfl) b_len (by decide +kernel) (pa_cons (pv 1) pa_nil)) pe_int (nomark _)) (pss_one (ps_ret (e_joined (PJ.cons (pe_fmt (pv 0)) (PJ.cons pe_str PJ.nil))))) pss_nil)
  (pss_cons (ps_set (i := 2) sc_line_text.nd rfl (Or.inl rfl) (k_join K pe_str (pe_lc (own := [("kind", 3), ("word", 4)]) (tt := tYes) rfl sc_line_text.nd (k_iT K (pv 1)) (blkOk_by (own := [("kind", 3), ("word", 4)]) (N := n_line_text) (sc := defScope s_line_text) (by decide +kernel)) (fun _ _ _ _ _ => (k_gT K (n := 2) (by rfl) (pgs_cons (pg_name (i := 3) sc_line_text.nd rfl (Or.inl rfl)) (pgs_cons (pg_name (i := 4) sc_line_text.nd rfl (Or.inl rfl)) pgs_nil)))) (fun _ _ _ _ _ => pts_nil) (fun _ _ _ _ _ => (e_joined (PJ.cons (pe_fmt (pv 3)) (PJ.cons pe_str (PJ.cons (pe_fmt (pv 4)) PJ.nil))))))))
  (pss_one (ps_ret (e_joined (PJ.cons (pe_fmt (pv 0)) (PJ.cons pe_str (PJ.cons (pe_fmt (pv 2)) PJ.nil)))))))), ?_⟩
    obtain ⟨B0, hB0⟩ : ∃ B0 : Hp, B0 = B := ⟨_, rfl⟩
    subst hB0
    have S0 := Sit.start0 sB
    unfold m_line_text at hm
    refine w_sig (σ' := [(some (V.str x_0)), (some v_1), none, none, none]) rfl ?_
    refine w_seq ?_
    refine w_ifS ?_
    refine w_evT (EvT.test (Ev.op (Ev.cb (EvA.cons (Ev.var rfl) EvA.nil) (rlen_q (sqT (K := K) hx_1 S0.sub))) Ev.c rv_eqI)) ?_
    refine w_ifb (fun h1 => ?_) (fun h1 => ?_)
    · rw [ifT h1] at hm
      refine w_ret ?_
      refine w_joined ?_
      refine x_js ?_
      refine x_fmt ?_
      refine w_ev (Ev.var rfl) ?_
      obtain ⟨z2, h3, hm⟩ := bs hm
      refine x_fmtS h3 ?_
      obtain ⟨z4, h5, hm⟩ := bs hm
      refine x_jx h5 ?_
      refine x_js ?_
      refine w_ev Ev.c ?_
      obtain ⟨z6, h7, hm⟩ := bs hm
      refine x_jx h7 ?_
      refine w_js0 ?_
      obtain rfl := Option.some.inj hm
      exact k _ _ _  S0 (show dStr.rel _ z6 (V.str z6) from rfl)
    · rw [ifF h1] at hm
      refine w_next ?_
      refine w_seq ?_
      refine w_asg ?_
      refine w_m1 ?_
      refine w_ev Ev.c ?_
      refine w_exS ?_
      refine w_lc ?_
      refine x_iT ?_
      refine w_ev (Ev.var rfl) ?_
      refine w_itT hx_1 S0.sub fun J8 it9 => ?_
      obtain ⟨ys43, h44, hm⟩ := bs hm
      refine lcR (P := dStr) it9 S0 (dTup.le hx_1) h44 (fun _ _ _ Z e _ => e.tr Z.sub) (fun D10 ac11 a12 o13 x14 B17 B18 H19 ma25 S20 s15 s16 h21 ho22 RR23 kk24 => ?_) ?_
      · refine w_turn ?_
        obtain ⟨w27, w29, h28, h30, hu31⟩ := un_p (K := K) h21
        refine w_gun (hu31 _ S20.sub) rfl ?_
        refine w_gcons ?_
        cases h28
        refine w_gname ?_
        refine w_gcons ?_
        cases h30
        refine w_gname ?_
        refine w_gnil ?_
        refine w_wipe rfl ?_
        refine w_yes ?_
        refine iteT ?_
        refine w_joined ?_
        refine x_js ?_
        refine x_fmt ?_
        refine w_ev (Ev.var rfl) ?_
        obtain ⟨z32, h33, ho22⟩ := bs ho22
        refine x_fmtS h33 ?_
        obtain ⟨z34, h35, ho22⟩ := bs ho22
        refine x_jx h35 ?_
        refine x_js ?_
        refine w_ev Ev.c ?_
        obtain ⟨z36, h37, ho22⟩ := bs ho22
        refine x_jx h37 ?_
        refine x_js ?_
        refine x_fmt ?_
        refine w_ev (Ev.var rfl) ?_
        obtain ⟨z38, h39, ho22⟩ := bs ho22
        refine x_fmtS h39 ?_
        obtain ⟨z40, h41, ho22⟩ := bs ho22
        refine x_jx h41 ?_
        refine w_js0 ?_
        obtain rfl := Option.some.inj ho22
        exact kk24 _ _ _ S20 (Same.rf _) ⟨_, rfl, (show dStr.rel _ z40 (V.str z40) from rfl)⟩
      · intro p45 B52 H46 o47 S48 s49 n50 h51
        obtain ⟨B55, S53, s54, h56⟩ : ∃ B', Sit _ B' H46 [] ∧ Same _ B' ∧ (dList dStr).rel B' ys43 (.ref p45) := ⟨_, S48.frz (i := 0) rfl n50, S48.frzS (i := 0) rfl, frzL h51 (S48.atB (i := 0) rfl)⟩
        obtain ⟨x57, hx57, hm⟩ := bs hm
        refine q_join (sqL (K := K) h56 S53.sub) hx57 ?_
        refine w_gname ?_
        refine w_nx (σ' := [(some (V.str x_0)), (some v_1), (some (V.str x57)), none, none]) rfl ?_
        refine w_ret ?_
        refine w_joined ?_
        refine x_js ?_
        refine x_fmt ?_
        refine w_ev (Ev.var rfl) ?_
        obtain ⟨z58, h59, hm⟩ := bs hm
        refine x_fmtS h59 ?_
        obtain ⟨z60, h61, hm⟩ := bs hm
        refine x_jx h61 ?_
        refine x_js ?_
        refine w_ev Ev.c ?_
        obtain ⟨z62, h63, hm⟩ := bs hm
        refine x_jx h63 ?_
        refine x_js ?_
        refine x_fmt ?_
        refine w_ev (Ev.var rfl) ?_
        obtain ⟨z64, h65, hm⟩ := bs hm
        refine x_fmtS h65 ?_
        obtain ⟨z66, h67, hm⟩ := bs hm
        refine x_jx h67 ?_
        refine w_js0 ?_
        obtain rfl := Option.some.inj hm
        exact k _ _ _  S53 (show dStr.rel _ z66 (V.str z66) from rfl)
abbrev n_Program___getitem__ : List Str := ["self", "name"]
theorem sc_Program___getitem__ : FnScope n_Program___getitem__ ["self", "name"] (defScope s_Program___getitem__) := ⟨rfl, rfl, rfl, by decide +kernel, rfl, by decide +kernel, by decide +kernel⟩
def m_Program___getitem__ (x_0 : O_Program) (x_1 : Str) : Option (List (Str × Str)) :=
  if (!dHas x_0.2.1 x_1) = true then none else (dGet x_0.2.1 x_1).bind fun x11 =>
  some x11
def sp_Program___getitem__ (K : PySem.W.Frag) (C_Program : Addr) : Sp := fun vs H Q E => ∃ (B : Hp) (x_0 : O_Program) (v_0 : V) (x_1 : Str) (r : (List (Str × Str))), vs = [v_0, (V.str x_1)] ∧ Same B H ∧ (dO_Program K C_Program).rel B x_0 v_0 ∧ m_Program___getitem__ x_0 x_1 = some r ∧ ∀ (v : V) (B' H' : Hp) , Sit ⟨B, H, []⟩ B' H' [] → (dTup K (dPair K dStr dStr)).rel B' r v → Q v H'
theorem use_Program___getitem__ {K : PySem.W.Frag} {C_Program : Addr} {Φ : Fr} {B H : Hp} {cs : List (Addr × HO)} {Q : VK} {E : XK} {r : (List (Str × Str))} {x_0 : O_Program} {v_0 : V} {x_1 : Str} {v_1 : V} (Z : Sit Φ B H cs) (h_0 : (dO_Program K C_Program).rel B x_0 v_0) (h_1 : dStr.rel B x_1 v_1) (hm : m_Program___getitem__ x_0 x_1 = some r) (k : ∀ (v : V) (B' H' : Hp) , Sit Φ B' H' cs → Same B B' → (dTup K (dPair K dStr dStr)).rel B' r v → Q v H') : sp_Program___getitem__ K C_Program ([v_0, v_1] ++ []) H Q E := by
  cases h_1
  exact ⟨B, x_0, v_0, x_1, r, rfl, Z.sub, h_0, hm, fun v B' H'  Z' h  => k v B' H'  (Z.call0 Z') Z'.grow h ⟩
theorem ok_Program___getitem__ {C_Program : Addr} (A0 : MethAt K C_Program "__getitem__" "Program.__getitem__" s_Program___getitem__ ["self", "name"]) (T_Program : ClsF K mg "Program" C_Program) (nA_Program_bodies : NoAttr K C_Program "bodies") : MDoes P w K mg base CX0 1 C_Program "__getitem__" ["self", "name"] (sp_Program___getitem__ K C_Program ) := by
  obtain ⟨f, fd, F, me, bd⟩ := A0
  have cl_Program := T_Program.ic.cl
  have g_Program := T_Program.g
  refine ⟨f, fd, ?_, me, bd, F.isIn⟩
  refine F.ok sc_Program___getitem__ (fun vs H Q E h => ?_) (fun cdv A outer s H vs Q E hr h => ?_)
  · obtain ⟨_, _, _, _, _, rfl, _⟩ := h
    rfl
  · obtain ⟨B, x_0, v_0, x_1, r, rfl, sB, hx_0, hm, k⟩ := h
    have hu := hu_of hr
    refine ⟨_, (pss_cons (ps_if (pt_cmp (pc_dnotin hu (pv 1) (k_fld K (pv 0) rfl))) (pss_one ps_dead) pss_nil)
  (pss_one (ps_ret (pe_dget hu (k_fld K (pv 0) rfl) (pv 1) (fun _ _ => rfl))))), ?_⟩
    obtain ⟨B0, hB0⟩ : ∃ B0 : Hp, B0 = B := ⟨_, rfl⟩
    subst hB0
    have S0 := Sit.start0 sB
    unfold m_Program___getitem__ at hm
    refine w_sig (σ' := [(some v_0), (some (V.str x_1))]) rfl ?_
    refine w_seq ?_
    refine w_ifS ?_
    obtain ⟨w2, h3, r1⟩ := fld_Program_bodies T_Program.ic.cl nA_Program_bodies hx_0
    refine w_evT (EvT.tB (Ev.dni (Ev.var rfl) (Ev.fld (Ev.var rfl) (r1 _ S0.sub)) (dqD h3 S0.sub))) ?_
    refine w_ifb (fun h7 => ?_) (fun h7 => ?_)
    · rw [ifT h7] at hm
      cases hm
    · rw [ifF h7] at hm
      refine w_next ?_
      refine w_ret ?_
      obtain ⟨w9, h10, r8⟩ := fld_Program_bodies T_Program.ic.cl nA_Program_bodies hx_0
      obtain ⟨x11, hx11, hm⟩ := bs hm
      obtain ⟨w13, h14, r12⟩ := dget_D h10 hx11
      refine w_ev (Ev.dget (Ev.fld (Ev.var rfl) (r8 _ S0.sub)) (Ev.var rfl) (r12 _ S0.sub)) ?_
      obtain rfl := Option.some.inj hm
      exact k _ _ _  S0 h14
abbrev n_Program___len__ : List Str := ["self"]
theorem sc_Program___len__ : FnScope n_Program___len__ ["self"] (defScope s_Program___len__) := ⟨rfl, rfl, rfl, by decide +kernel, rfl, by decide +kernel, by decide +kernel⟩
def m_Program___len__ (x_0 : O_Program) : Option Int :=
  some (x_0.1.length : Int)
def sp_Program___len__ (K : PySem.W.Frag) (C_Program : Addr) : Sp := fun vs H Q E => ∃ (B : Hp) (x_0 : O_Program) (v_0 : V) (r : Int), vs = [v_0] ∧ Same B H ∧ (dO_Program K C_Program).rel B x_0 v_0 ∧ m_Program___len__ x_0 = some r ∧ ∀ (v : V) (B' H' : Hp) , Sit ⟨B, H, []⟩ B' H' [] → dInt.rel B' r v → Q v H'
theorem use_Program___len__ {K : PySem.W.Frag} {C_Program : Addr} {Φ : Fr} {B H : Hp} {cs : List (Addr × HO)} {Q : VK} {E : XK} {r : Int} {x_0 : O_Program} {v_0 : V} (Z : Sit Φ B H cs) (h_0 : (dO_Program K C_Program).rel B x_0 v_0) (hm : m_Program___len__ x_0 = some r) (k : ∀ (v : V) (B' H' : Hp) , Sit Φ B' H' cs → Same B B' → dInt.rel B' r v → Q v H') : sp_Program___len__ K C_Program ([v_0] ++ []) H Q E := by
  exact ⟨B, x_0, v_0, r, rfl, Z.sub, h_0, hm, fun v B' H'  Z' h  => k v B' H'  (Z.call0 Z') Z'.grow h ⟩
theorem ok_Program___len__ {C_Program : Addr} (A0 : MethAt K C_Program "__len__" "Program.__len__" s_Program___len__ ["self"]) (T_Program : ClsF K mg "Program" C_Program) (b_len : mg "len" = none) (nA_Program_names : NoAttr K C_Program "names") : MDoes P w K mg base CX0 1 C_Program "__len__" ["self"] (sp_Program___len__ K C_Program ) := by
  obtain ⟨f, fd, F, me, bd⟩ := A0
  have cl_Program := T_Program.ic.cl
  have g_Program := T_Program.g
  refine ⟨f, fd, ?_, me, bd, F.isIn⟩
  refine F.ok sc_Program___len__ (fun vs H Q E h => ?_) (fun cdv A outer s H vs Q E hr h => ?_)
  · obtain ⟨_, _, _, _, rfl, _⟩ := h
    rfl
  · obtain ⟨B, x_0, v_0, r, rfl, sB, hx_0, hm, k⟩ := h
    have hu := hu_of hr
    refine ⟨_, (pss_one (ps_ret (pe_callB (k_len K) (by rfl) b_len (by decide +kernel) (pa_cons (k_fld K (pv 0) rfl) pa_nil)))), ?_⟩
    obtain ⟨B0, hB0⟩ : ∃ B0 : Hp, B0 = B := ⟨_, rfl⟩
    subst hB0
    have S0 := Sit.start0 sB
    unfold m_Program___len__ at hm
    refine w_sig (σ' := [(some v_0)]) rfl ?_
    refine w_ret ?_
    obtain ⟨w2, h3, r1⟩ := fld_Program_names T_Program.ic.cl nA_Program_names hx_0
    refine w_ev (Ev.cb (EvA.cons (Ev.fld (Ev.var rfl) (r1 _ S0.sub)) EvA.nil) (rlen_q (sqT (K := K) h3 S0.sub))) ?_
    obtain rfl := Option.some.inj hm
    exact k _ _ _  S0 (show dInt.rel _ (x_0.1.length : Int) (V.int (x_0.1.length : Int)) from rfl)
abbrev n_parse_line : List Str := ["line", "name", "colon", "rest", "body", "piece", "words"]
theorem sc_parse_line : FnScope n_parse_line ["line"] (defScope s_parse_line) := ⟨rfl, rfl, rfl, by decide +kernel, rfl, by decide +kernel, by decide +kernel⟩
def m_parse_line (x_0 : Str) : Option (Str × (List (Str × Str))) :=
  (partM x_0 (Str.ofString ":")).bind fun x1 =>
  if (decide (x1.2.1 = (Str.ofString ""))) = true then some ((Str.ofString ""), ([] : (List (Str × Str)))) else if (decide (x1.2.2 = (Str.ofString ""))) = true then some (x1.1, ([] : (List (Str × Str)))) else if (!(Txt.startswith x1.2.2 (Str.ofString " "))) = true then some ((Str.ofString ""), ([] : (List (Str × Str)))) else (cutM x1.2.2 (some (1 : Int)) none).bind fun x63 =>
  (splitM x63 (Str.ofString ", ")).bind fun x64 =>
  (forC (R := (Str × (List (Str × Str)))) (fun (a77 : Str) (st78 : (List (Str × Str))) => (splitM a77 (Str.ofString " ")).bind fun x102 =>
  if (!decide ((x102.length : Int) = (2 : Int))) = true then some (.ret ((Str.ofString ""), ([] : (List (Str × Str))))) else (atI x102 (0 : Int)).bind fun x123 =>
  (atI x102 (1 : Int)).bind fun x125 =>
  (pushM st78 (x123, x125)).bind fun x133 =>
  some (.nx x133)) x64 ([] : (List (Str × Str)))).bind fun c101 =>
  c101.on (fun st145 => some (x1.1, st145)) (fun r => some r)
def sp_parse_line (K : PySem.W.Frag) : Sp := fun vs H Q E => ∃ (B : Hp) (x_0 : Str) (r : (Str × (List (Str × Str)))), vs = [(V.str x_0)] ∧ Same B H ∧ m_parse_line x_0 = some r ∧ ∀ (v : V) (B' H' : Hp) , Sit ⟨B, H, []⟩ B' H' [] → (dPair K dStr (dTup K (dPair K dStr dStr))).rel B' r v → Q v H'
theorem use_parse_line {K : PySem.W.Frag} {Φ : Fr} {B H : Hp} {cs : List (Addr × HO)} {Q : VK} {E : XK} {r : (Str × (List (Str × Str)))} {x_0 : Str} {v_0 : V} (Z : Sit Φ B H cs) (h_0 : dStr.rel B x_0 v_0) (hm : m_parse_line x_0 = some r) (k : ∀ (v : V) (B' H' : Hp) , Sit Φ B' H' cs → Same B B' → (dPair K dStr (dTup K (dPair K dStr dStr))).rel B' r v → Q v H') : sp_parse_line K ([v_0] ++ []) H Q E := by
  cases h_0
  exact ⟨B, x_0, r, rfl, Z.sub, hm, fun v B' H'  Z' h  => k v B' H'  (Z.call0 Z') Z'.grow h ⟩
theorem ok_parse_line (A0 : DefAt K mg "parse_line" s_parse_line ["line"]) (b_len : mg "len" = none) (b_tuple : mg "tuple" = none) : Does P w K mg base CX0 1 "parse_line" ["line"] (sp_parse_line K ) := by
  obtain ⟨f, fd, F, gm, bd⟩ := A0
  refine ⟨f, fd, ?_, gm, F.kp, bd⟩
  refine F.ok sc_parse_line (fun vs H Q E h => ?_) (fun cdv A outer s H vs Q E hr h => ?_)
  · obtain ⟨_, _, _, rfl, _⟩ := h
    rfl
  · obtain ⟨B, x_0, r, rfl, sB, hm, k⟩ := h
    have hu := hu_of hr
    refine ⟨_, (pss_cons (ps_asg (pe_partition (pv 0) pe_str) (k_gT K (n := 3) (by rfl) (pgs_cons (pg_name (i := 1) sc_parse_line.nd rfl (Or.inl rfl)) (pgs_cons (pg_name (i := 2) sc_parse_line.nd rfl (Or.inl rfl)) (pgs_cons (pg_name (i := 3) sc_parse_line.nd rfl (Or.inl rfl)) pgs_nil)))))
  (pss_cons (ps_if (pt_cmpR op_eq (pv 2) pe_str (nomark _)) (pss_one (ps_ret (pe_tup (pa_cons pe_str (pa_cons (pe_tup pa_nil) pa_nil))))) pss_nil)
  (pss_cons (ps_if (pt_cmpR op_eq (pv 3) pe_str (nomark _)) (pss_one (ps_ret (pe_tup (pa_cons (pv 1) (pa_cons (pe_tup pa_nil) pa_nil))))) pss_nil)
  (pss_cons (ps_if (pt_not (pt_val (pe_m1 PySem.F.slot_str_startswith PySem.F.type_str_startswith mt_startswith (pv 3) pe_str))) (pss_one (ps_ret (pe_tup (pa_cons pe_str (pa_cons (pe_tup pa_nil) pa_nil))))) pss_nil)
  (pss_cons (ps_set (i := 4) sc_parse_line.nd rfl (Or.inl rfl) (pe_lst pa_nil))
  (pss_cons (ps_for PassesOwn.never rfl (k_iL K (pe_split (pe_slice sl_str (pv 3) (po_some pe_int) po_none) pe_str)) (pg_name (i := 5) sc_parse_line.nd rfl (Or.inl rfl))
  (pss_cons (ps_set (i := 6) sc_parse_line.nd rfl (Or.inl rfl) (pe_split (pv 5) pe_str))
  (pss_cons (ps_if (pt_cmpR op_ne (pe_callB (k_len K) (by rfl) b_len (by decide +kernel) (pa_cons (pv 6) pa_nil)) pe_int (nomark _)) (pss_one (ps_ret (pe_tup (pa_cons pe_str (pa_cons (pe_tup pa_nil) pa_nil))))) pss_nil)
  (pss_one (ps_expr (k_bm K PySem.F.plainAttrs_list PySem.F.slot_list_append PySem.F.type_list_append mt_append (pv 4) (pa_cons (pe_tup (pa_cons (pe_ix (k_ixL K) (pv 6) pe_int (fun _ _ => rfl)) (pa_cons (pe_ix (k_ixL K) (pv 6) pe_int (fun _ _ => rfl)) pa_nil))) pa_nil)))))))
  (pss_one (ps_ret (pe_tup (pa_cons (pv 1) (pa_cons (pe_callTy (k_tupL K) (by rfl) b_tuple (by decide +kernel) (pa_cons (pv 4) pa_nil)) pa_nil))))))))))), ?_⟩
    obtain ⟨B0, hB0⟩ : ∃ B0 : Hp, B0 = B := ⟨_, rfl⟩
    subst hB0
    have S0 := Sit.start0 sB
    unfold m_parse_line at hm
    refine w_sig (σ' := [(some (V.str x_0)), none, none, none, none, none, none]) rfl ?_
    refine w_seq ?_
    refine w_asg ?_
    refine w_m1 ?_
    refine w_ev (Ev.var rfl) ?_
    refine w_exS ?_
    refine w_ev Ev.c ?_
    obtain ⟨x1, h2, hm⟩ := bs hm
    refine ⟨_, _, rfl, rfl, (part_l h2).1, (part_l h2).2, fun p168 n169 => ?_⟩
    obtain ⟨v3, B8, H4, e170, e171, S5, s6, h7⟩ := part_sit (K := K) S0 h2 n169
    rw [e170, e171]
    obtain ⟨w9, w11, w13, h10, h12, h14, hu15⟩ := un_t (K := K) h7
    refine w_gun (hu15 _ S5.sub) rfl ?_
    refine w_gcons ?_
    cases h10
    refine w_gname ?_
    refine w_gcons ?_
    cases h12
    refine w_gname ?_
    refine w_gcons ?_
    cases h14
    refine w_gname ?_
    refine w_gnil ?_
    refine w_nx (σ' := [(some (V.str x_0)), (some (V.str x1.1)), (some (V.str x1.2.1)), (some (V.str x1.2.2)), none, none, none]) rfl ?_
    refine w_seq ?_
    refine w_ifS ?_
    refine w_evT (EvT.test (Ev.op (Ev.var rfl) Ev.c rv_eqS)) ?_
    refine w_ifb (fun h16 => ?_) (fun h16 => ?_)
    · rw [ifT h16] at hm
      refine w_ret ?_
      refine x_tup ?_
      refine w_cons ?_
      refine w_ev Ev.c ?_
      refine w_cons ?_
      refine x_tup ?_
      refine w_nil ?_
      refine mkT (K := K) (R := (dPair K dStr dStr)) (xs := []) S5 .nil (by show 0 ≤ BIG; decide) fun v17 B22 H18 S19 s20 h21 => ?_
      refine w_nil ?_
      refine mk2 (K := K)   S19 (show dStr.rel _ (Str.ofString "") (V.str (Str.ofString "")) from rfl) h21 fun v23 B28 H24 S25 s26 h27 => ?_
      obtain rfl := Option.some.inj hm
      exact k _ _ _  S25 h27
    · rw [ifF h16] at hm
      refine w_next ?_
      refine w_seq ?_
      refine w_ifS ?_
      refine w_evT (EvT.test (Ev.op (Ev.var rfl) Ev.c rv_eqS)) ?_
      refine w_ifb (fun h29 => ?_) (fun h29 => ?_)
      · rw [ifT h29] at hm
        refine w_ret ?_
        refine x_tup ?_
        refine w_cons ?_
        refine w_ev (Ev.var rfl) ?_
        refine w_cons ?_
        refine x_tup ?_
        refine w_nil ?_
        refine mkT (K := K) (R := (dPair K dStr dStr)) (xs := []) S5 .nil (by show 0 ≤ BIG; decide) fun v30 B35 H31 S32 s33 h34 => ?_
        refine w_nil ?_
        refine mk2 (K := K)   S32 (show dStr.rel _ x1.1 (V.str x1.1) from rfl) h34 fun v36 B41 H37 S38 s39 h40 => ?_
        obtain rfl := Option.some.inj hm
        exact k _ _ _  S38 h40
      · rw [ifF h29] at hm
        refine w_next ?_
        refine w_seq ?_
        refine w_ifS ?_
        refine w_not ?_
        refine w_tb ?_
        refine w_m1 ?_
        refine w_ev (Ev.var rfl) ?_
        refine w_exS ?_
        refine w_ev Ev.c ?_
        refine ⟨_, _, rfl, rfl, ?_⟩
        refine w_bl ?_
        refine w_ifb (fun h42 => ?_) (fun h42 => ?_)
        · rw [ifT h42] at hm
          refine w_ret ?_
          refine x_tup ?_
          refine w_cons ?_
          refine w_ev Ev.c ?_
          refine w_cons ?_
          refine x_tup ?_
          refine w_nil ?_
          refine mkT (K := K) (R := (dPair K dStr dStr)) (xs := []) S5 .nil (by show 0 ≤ BIG; decide) fun v43 B48 H44 S45 s46 h47 => ?_
          refine w_nil ?_
          refine mk2 (K := K)   S45 (show dStr.rel _ (Str.ofString "") (V.str (Str.ofString "")) from rfl) h47 fun v49 B54 H50 S51 s52 h53 => ?_
          obtain rfl := Option.some.inj hm
          exact k _ _ _  S51 h53
        · rw [ifF h42] at hm
          refine w_next ?_
          refine w_seq ?_
          refine w_asg ?_
          refine x_lst ?_
          refine w_nil ?_
          refine mkO (R := (dPair K dStr dStr)) (xs := []) S5 .nil (by show 0 ≤ BIG; decide) fun p55 o56 H57 S58 n59 h60 => ?_
          refine w_gname ?_
          refine w_nx (σ' := [(some (V.str x_0)), (some (V.str x1.1)), (some (V.str x1.2.1)), (some (V.str x1.2.2)), (some (.ref p55)), none, none]) rfl ?_
          refine w_seq ?_
          refine w_for ?_
          refine x_iL ?_
          refine w_m1 ?_
          obtain ⟨x63, hx63, hm⟩ := bs hm
          refine w_sl ?_
          refine w_ev (Ev.var rfl) ?_
          refine w_part ?_
          refine w_ev Ev.c ?_
          refine w_exI ?_
          refine w_noP ?_
          refine q_cut hx63 ?_
          refine w_exS ?_
          refine w_ev Ev.c ?_
          obtain ⟨x64, h65, hm⟩ := bs hm
          refine q_split S58 h65 fun v66 B71 H67 S68 s69 h70 => ?_
          refine w_itL h70 S68.sub fun J61 it62 => ?_
          obtain ⟨c101, hl166, hm⟩ := bs hm
          refine forK (s0 := ([] : (List (Str × Str)))) it62 S68 (fun (st72 : (List (Str × Str))) b σ' cs' => ∃ (e73 : Option V) (e74 : Option V) (o75 : HO), σ' = [(some (V.str x_0)), (some (V.str x1.1)), (some (V.str x1.2.1)), (some (V.str x1.2.2)), (some (.ref p55)), e73, e74] ∧ cs' = [(p55, o75)] ∧ (cList (dPair K dStr dStr)).rel b st72 o75 ∧ True) ⟨_, _, _, rfl, rfl, (Cl.mono _ s69 h60), trivial⟩ hl166 (fun _ _ _ _ _ Z e _ => e.tr Z.sub) (fun a77 st78 o79 x80 B90 B95 H81 _ cs82 ma83 S84 s85 s86 hI87 h88 hf89 hret96 hbrk97 => ?_) ?_
          · obtain ⟨e91, e92, o93, rfl, rfl, h94, -⟩ := hI87
            cases h88
            refine w_gname ?_
            refine w_nx (σ' := [(some (V.str x_0)), (some (V.str x1.1)), (some (V.str x1.2.1)), (some (V.str x1.2.2)), (some (.ref p55)), (some (V.str a77)), e92]) rfl ?_
            refine w_seq ?_
            refine w_asg ?_
            refine w_m1 ?_
            refine w_ev (Ev.var rfl) ?_
            refine w_exS ?_
            refine w_ev Ev.c ?_
            obtain ⟨x102, h103, hf89⟩ := bs hf89
            refine q_split S84 h103 fun v104 B109 H105 S106 s107 h108 => ?_
            refine w_gname ?_
            refine w_nx (σ' := [(some (V.str x_0)), (some (V.str x1.1)), (some (V.str x1.2.1)), (some (V.str x1.2.2)), (some (.ref p55)), (some (V.str a77)), (some v104)]) rfl ?_
            refine w_seq ?_
            refine w_ifS ?_
            refine w_evT (EvT.test (Ev.op (Ev.cb (EvA.cons (Ev.var rfl) EvA.nil) (rlen_q (sqL (K := K) h108 S106.sub))) Ev.c rv_neI)) ?_
            refine w_ifb (fun h110 => ?_) (fun h110 => ?_)
            · rw [ifT h110] at hf89
              refine w_ret ?_
              refine x_tup ?_
              refine w_cons ?_
              refine w_ev Ev.c ?_
              refine w_cons ?_
              refine x_tup ?_
              refine w_nil ?_
              refine mkT (K := K) (R := (dPair K dStr dStr)) (xs := []) S106 .nil (by show 0 ≤ BIG; decide) fun v111 B116 H112 S113 s114 h115 => ?_
              refine w_nil ?_
              refine mk2 (K := K)   S113 (show dStr.rel _ (Str.ofString "") (V.str (Str.ofString "")) from rfl) h115 fun v117 B122 H118 S119 s120 h121 => ?_
              obtain rfl := Option.some.inj hf89
              cases hret96 _ rfl
              obtain rfl := Option.some.inj hm
              exact k _ _ _  S119.tl h121
            · rw [ifF h110] at hf89
              refine w_next ?_
              refine w_drop ?_
              refine w_bm ?_
              refine w_ev (Ev.var rfl) ?_
              refine w_tyC (Cl.mono _ (s86.tr s107) h94) (S106.at' (i := 0) rfl) ?_
              refine w_cons ?_
              refine x_tup ?_
              obtain ⟨x123, hx123, hf89⟩ := bs hf89
              obtain ⟨_, rfl, r124⟩ := ix_L (K := K) h108 hx123
              obtain ⟨x125, hx125, hf89⟩ := bs hf89
              obtain ⟨_, rfl, r126⟩ := ix_L (K := K) h108 hx125
              refine w_evA (EvA.cons (Ev.op (Ev.var rfl) Ev.c (r124 _ S106.sub)) (EvA.cons (Ev.op (Ev.var rfl) Ev.c (r126 _ S106.sub)) EvA.nil)) ?_
              refine mk2 (K := K)   S106 (show dStr.rel _ x123 (V.str x123) from rfl) (show dStr.rel _ x125 (V.str x125) from rfl) fun v127 B132 H128 S129 s130 h131 => ?_
              refine w_nil ?_
              obtain ⟨x133, h134, hf89⟩ := bs hf89
              refine q_append (k := 0) S129 rfl (Cl.mono _ (s86.tr (s107.tr s130)) h94) h131 h134 fun o135 H136 (S137 : Sit _ B132 H136 [(p55, o135)]) h138 => ?_
              obtain rfl := Option.some.inj hf89
              exact ⟨_, rfl, _, _, S137, (s85.tr (s86.tr (s107.tr s130))), _, _, _, rfl, rfl, h138, trivial⟩
          · intro st145 B144 H139 _ cs140 ec167 S141 s142 hI143
            cases ec167
            replace hm := onx hm
            obtain ⟨e146, e147, o148, rfl, rfl, h149, -⟩ := hI143
            obtain ⟨B152, S150, s151, h153⟩ : ∃ B', Sit _ B' H139 [] ∧ Same _ B' ∧ (dList (dPair K dStr dStr)).rel B' st145 (.ref p55) := ⟨_, S141.frz (i := 0) rfl n59, S141.frzS (i := 0) rfl, frzL h149 (S141.atB (i := 0) rfl)⟩
            refine w_ret ?_
            refine x_tup ?_
            refine w_cons ?_
            refine w_ev (Ev.var rfl) ?_
            refine w_cons ?_
            refine w_cb ?_
            refine w_evA (EvA.cons (Ev.var rfl) EvA.nil) ?_
            refine q_tupL (K := K) S150 h153 fun v154 B159 H155 S156 s157 h158 => ?_
            refine w_nil ?_
            refine mk2 (K := K)   S156 (show dStr.rel _ x1.1 (V.str x1.1) from rfl) h158 fun v160 B165 H161 S162 s163 h164 => ?_
            obtain rfl := Option.some.inj hm
            exact k _ _ _  S162 h164
end
end Mm
namespace Mm
open PySem L2 Mf
section
variable {P : Program} {w : World} {K : PySem.W.Frag} {mg : Str → Option Value} {base : Heap} {cx : Nat → Addr}
abbrev n_Program_text : List Str := ["self", "name"]
theorem sc_Program_text : FnScope n_Program_text ["self"] (defScope s_Program_text) := ⟨rfl, rfl, rfl, by decide +kernel, rfl, by decide +kernel, by decide +kernel⟩
def m_Program_text (x_0 : O_Program) : Option Str :=
  (lcM (fun (a11 : Str) => (dGet x_0.2.1 a11).bind fun x29 =>
  (m_line_text (a11) (x29)).bind fun r33 =>
  some (some r33)) x_0.1).bind fun ys42 =>
  (joinM (Str.ofString "\n") ys42).bind fun x56 =>
  some x56
def sp_Program_text (K : PySem.W.Frag) (C_Program : Addr) : Sp := fun vs H Q E => ∃ (B : Hp) (x_0 : O_Program) (v_0 : V) (r : Str), vs = [v_0] ∧ Same B H ∧ (dO_Program K C_Program).rel B x_0 v_0 ∧ m_Program_text x_0 = some r ∧ ∀ (v : V) (B' H' : Hp) , Sit ⟨B, H, []⟩ B' H' [] → dStr.rel B' r v → Q v H'
theorem use_Program_text {K : PySem.W.Frag} {C_Program : Addr} {Φ : Fr} {B H : Hp} {cs : List (Addr × HO)} {Q : VK} {E : XK} {r : Str} {x_0 : O_Program} {v_0 : V} (Z : Sit Φ B H cs) (h_0 : (dO_Program K C_Program).rel B x_0 v_0) (hm : m_Program_text x_0 = some r) (k : ∀ (v : V) (B' H' : Hp) , Sit Φ B' H' cs → Same B B' → dStr.rel B' r v → Q v H') : sp_Program_text K C_Program ([v_0] ++ []) H Q E := by
  exact ⟨B, x_0, v_0, r, rfl, Z.sub, h_0, hm, fun v B' H'  Z' h  => k v B' H'  (Z.call0 Z') Z'.grow h ⟩
theorem ok_Program_text {C_Program : Addr} (A0 : MethAt K C_Program "text" "Program.text" s_Program_text ["self"]) (T_Program : ClsF K mg "Program" C_Program) (nA_Program_bodies : NoAttr K C_Program "bodies") (nA_Program_names : NoAttr K C_Program "names") (D_line_text : Does P w K mg base CX0 1 "line_text" ["name", "body"] (sp_line_text K )) : MDoes P w K mg base CX0 2 C_Program "text" ["self"] (sp_Program_text K C_Program ) := by
  obtain ⟨f, fd, F, me, bd⟩ := A0
  have cl_Program := T_Program.ic.cl
  have g_Program := T_Program.g
  obtain ⟨f_line_text, fd_line_text, G_line_text, g_line_text, kp_line_text, bd_line_text⟩ := D_line_text
  refine ⟨f, fd, ?_, me, bd, F.isIn⟩
  refine F.ok sc_Program_text (fun vs H Q E h => ?_) (fun cdv A outer s H vs Q E hr h => ?_)
  · obtain ⟨_, _, _, _, rfl, _⟩ := h
    rfl
  · obtain ⟨B, x_0, v_0, r, rfl, sB, hx_0, hm, k⟩ := h
    have hu := hu_of hr
    refine ⟨_, (pss_one (ps_ret (k_join K pe_str (pe_lc (own := [("name", 1)]) (tt := tYes) rfl sc_Program_text.nd (k_iT K (k_fld K (pv 0) rfl)) (blkOk_by (own := [("name", 1)]) (N := n_Program_text) (sc := defScope s_Program_text) (by decide +kernel)) (fun _ _ _ _ _ => (pg_name (i := 1) sc_Program_text.nd rfl (Or.inl rfl))) (fun _ _ _ _ _ => pts_nil) (fun _ _ _ _ _ => (pe_call G_line_text (hr.mono (by decide)) rfl g_line_text kp_line_text bd_line_text .nil pass0 (pa_cons (pv 1) (pa_cons (pe_dget hu (k_fld K (pv 0) rfl) (pv 1) (fun _ _ => rfl)) pa_nil)))))))), ?_⟩
    obtain ⟨B0, hB0⟩ : ∃ B0 : Hp, B0 = B := ⟨_, rfl⟩
    subst hB0
    have S0 := Sit.start0 sB
    unfold m_Program_text at hm
    refine w_sig (σ' := [(some v_0), none]) rfl ?_
    refine w_ret ?_
    refine w_m1 ?_
    refine w_ev Ev.c ?_
    refine w_exS ?_
    refine w_lc ?_
    refine x_iT ?_
    obtain ⟨w7, h8, r6⟩ := fld_Program_names T_Program.ic.cl nA_Program_names hx_0
    refine w_ev (Ev.fld (Ev.var rfl) (r6 _ S0.sub)) ?_
    refine w_itT h8 S0.sub fun J1 it2 => ?_
    obtain ⟨ys42, h43, hm⟩ := bs hm
    refine lcR (P := dStr) it2 S0 (dTup.le h8) h43 (fun _ _ _ Z e _ => e.tr Z.sub) (fun D9 ac10 a11 o12 x13 B16 B17 H18 ma24 S19 s14 s15 h20 ho21 RR22 kk23 => ?_) ?_
    · refine w_turn ?_
      cases h20
      refine w_gname ?_
      refine w_wipe rfl ?_
      refine w_yes ?_
      refine iteT ?_
      refine w_call ?_
      obtain ⟨w27, h28, r26⟩ := fld_Program_bodies T_Program.ic.cl nA_Program_bodies (Rl.mono _ (s14.tr s15) hx_0)
      obtain ⟨x29, hx29, ho21⟩ := bs ho21
      obtain ⟨w31, h32, r30⟩ := dget_D h28 hx29
      refine w_evA (EvA.cons (Ev.var rfl) (EvA.cons (Ev.dget (Ev.fld (Ev.var rfl) (r26 _ S19.sub)) (Ev.var rfl) (r30 _ S19.sub)) EvA.nil)) ?_
      obtain ⟨r33, h34, ho21⟩ := bs ho21
      refine use_line_text S19 (show dStr.rel _ a11 (V.str a11) from rfl) h32 h34 fun v35 B39 H36  (S37 : Sit _ B39 H36 [(D9, (.lst ac10))]) s38 h40  => ?_
      cases h40
      obtain rfl := Option.some.inj ho21
      exact kk23 _ _ _ S37 s38 ⟨_, rfl, (show dStr.rel _ r33 (V.str r33) from rfl)⟩
    · intro p44 B51 H45 o46 S47 s48 n49 h50
      obtain ⟨B54, S52, s53, h55⟩ : ∃ B', Sit _ B' H45 [] ∧ Same _ B' ∧ (dList dStr).rel B' ys42 (.ref p44) := ⟨_, S47.frz (i := 0) rfl n49, S47.frzS (i := 0) rfl, frzL h50 (S47.atB (i := 0) rfl)⟩
      obtain ⟨x56, hx56, hm⟩ := bs hm
      refine q_join (sqL (K := K) h55 S52.sub) hx56 ?_
      obtain rfl := Option.some.inj hm
      exact k _ _ _  S52 (show dStr.rel _ x56 (V.str x56) from rfl)
abbrev n_Program___eq__ : List Str := ["self", "other"]
theorem sc_Program___eq__ : FnScope n_Program___eq__ ["self", "other"] (defScope s_Program___eq__) := ⟨rfl, rfl, rfl, by decide +kernel, rfl, by decide +kernel, by decide +kernel⟩
def m_Program___eq__ (x_0 : O_Program) (x_1 : O_Program) : Option Bool :=
  (if true = true then (eqD ((fun xs => PyData.tuple (xs.map PyData.str)) (x_0.1)) ((fun xs => PyData.tuple (xs.map PyData.str)) (x_1.1))).bind fun b18 =>
  if b18 = true then (eqDict (fun xs => PyData.tuple (xs.map (fun x => PyData.tuple [PyData.str x.1, PyData.str x.2]))) (x_0.2.1) (x_1.2.1)).bind fun b26 =>
  some b26 else some false else some false).bind fun c8 =>
  some c8
def sp_Program___eq__ (K : PySem.W.Frag) (C_Program : Addr) : Sp := fun vs H Q E => ∃ (B : Hp) (x_0 : O_Program) (v_0 : V) (x_1 : O_Program) (v_1 : V) (r : Bool), vs = [v_0, v_1] ∧ Same B H ∧ (dO_Program K C_Program).rel B x_0 v_0 ∧ (dO_Program K C_Program).rel B x_1 v_1 ∧ m_Program___eq__ x_0 x_1 = some r ∧ ∀ (v : V) (B' H' : Hp) , Sit ⟨B, H, []⟩ B' H' [] → dBool.rel B' r v → Q v H'
theorem use_Program___eq__ {K : PySem.W.Frag} {C_Program : Addr} {Φ : Fr} {B H : Hp} {cs : List (Addr × HO)} {Q : VK} {E : XK} {r : Bool} {x_0 : O_Program} {v_0 : V} {x_1 : O_Program} {v_1 : V} (Z : Sit Φ B H cs) (h_0 : (dO_Program K C_Program).rel B x_0 v_0) (h_1 : (dO_Program K C_Program).rel B x_1 v_1) (hm : m_Program___eq__ x_0 x_1 = some r) (k : ∀ (v : V) (B' H' : Hp) , Sit Φ B' H' cs → Same B B' → dBool.rel B' r v → Q v H') : sp_Program___eq__ K C_Program ([v_0, v_1] ++ []) H Q E := by
  exact ⟨B, x_0, v_0, x_1, v_1, r, rfl, Z.sub, h_0, h_1, hm, fun v B' H'  Z' h  => k v B' H'  (Z.call0 Z') Z'.grow h ⟩
theorem ok_Program___eq__ {C_Program : Addr} (A0 : MethAt K C_Program "__eq__" "Program.__eq__" s_Program___eq__ ["self", "other"]) (T_Program : ClsF K mg "Program" C_Program) (b_isinstance : mg "isinstance" = none) (nA_Program_bodies : NoAttr K C_Program "bodies") (nA_Program_names : NoAttr K C_Program "names") : MDoes P w K mg base CX0 1 C_Program "__eq__" ["self", "other"] (sp_Program___eq__ K C_Program ) := by
  obtain ⟨f, fd, F, me, bd⟩ := A0
  have cl_Program := T_Program.ic.cl
  have g_Program := T_Program.g
  refine ⟨f, fd, ?_, me, bd, F.isIn⟩
  refine F.ok sc_Program___eq__ (fun vs H Q E h => ?_) (fun cdv A outer s H vs Q E hr h => ?_)
  · obtain ⟨_, _, _, _, _, _, rfl, _⟩ := h
    rfl
  · obtain ⟨B, x_0, v_0, x_1, v_1, r, rfl, sB, hx_0, hx_1, hm, k⟩ := h
    have hu := hu_of hr
    refine ⟨_, (pss_one (ps_ret (pe_and (pe_callB (k_isi K) (by rfl) b_isinstance (by decide +kernel) (pa_cons (pv 1) (pa_cons (pe_glob (v := .ref C_Program) rfl g_Program rfl) pa_nil))) (pe_and (pe_cmpR (k_eqD K hr.units) (k_fld K (pv 0) rfl) (k_fld K (pv 1) rfl) (nomark _)) (pe_one (pe_cmpR (k_eqDD K (u65 hr)) (k_fld K (pv 0) rfl) (k_fld K (pv 1) rfl) (nomark _))))))), ?_⟩
    obtain ⟨B0, hB0⟩ : ∃ B0 : Hp, B0 = B := ⟨_, rfl⟩
    subst hB0
    have S0 := Sit.start0 sB
    unfold m_Program___eq__ at hm
    refine w_sig (σ' := [(some v_0), (some v_1)]) rfl ?_
    refine w_ret ?_
    obtain ⟨c8, hc9, hm⟩ := bs hm
    refine cutE (fun v H' => v = V.bl c8 ∧ ∃ (B' : Hp), Sit (Fr.mk B0 H []) B' H' [] ∧ Same B0 B') (fun kk10 => ?_) ?_
    · refine w_andV ?_
      refine w_ev (Ev.cb (EvA.cons (Ev.var rfl) (EvA.cons Ev.c EvA.nil)) (isi_o T_Program.ic hx_1 S0.sub T_Program.ic.me)) ?_
      refine w_bl ?_
      refine w_ifb (fun h11 => ?_) (fun h11 => ?_)
      · rw [ifT h11] at hc9
        refine w_andV ?_
        obtain ⟨w13, h14, r12⟩ := fld_Program_names T_Program.ic.cl nA_Program_names hx_0
        obtain ⟨w16, h17, r15⟩ := fld_Program_names T_Program.ic.cl nA_Program_names hx_1
        obtain ⟨b18, hb18, hc9⟩ := bs hc9
        refine w_ev (Ev.op (Ev.fld (Ev.var rfl) (r12 _ S0.sub)) (Ev.fld (Ev.var rfl) (r15 _ S0.sub)) (rv_eqD (drT drStr) (drT drStr) (Rl.mono _ S0.sub h14) (Rl.mono _ S0.sub h17) hb18)) ?_
        refine w_bl ?_
        refine w_ifb (fun h19 => ?_) (fun h19 => ?_)
        · rw [ifT h19] at hc9
          obtain ⟨w21, h22, r20⟩ := fld_Program_bodies T_Program.ic.cl nA_Program_bodies hx_0
          obtain ⟨w24, h25, r23⟩ := fld_Program_bodies T_Program.ic.cl nA_Program_bodies hx_1
          obtain ⟨b26, hb26, hc9⟩ := bs hc9
          refine w_ev (Ev.op (Ev.fld (Ev.var rfl) (r20 _ S0.sub)) (Ev.fld (Ev.var rfl) (r23 _ S0.sub)) (rv_eqDict (drT (dr2 drStr drStr)) (Rl.mono _ S0.sub h22) (Rl.mono _ S0.sub h25) hb26)) ?_
          obtain rfl := Option.some.inj hc9
          exact kk10 _ _ ⟨rfl, _, S0, (Same.rf _)⟩
        · rw [ifF h19] at hc9
          obtain rfl := Option.some.inj hc9
          exact kk10 _ _ ⟨rfl, _, S0, (Same.rf _)⟩
      · rw [ifF h11] at hc9
        obtain rfl := Option.some.inj hc9
        exact kk10 _ _ ⟨rfl, _, S0, (Same.rf _)⟩
    · rintro _ H27 ⟨rfl, B30, S28, s29⟩
      obtain rfl := Option.some.inj hm
      exact k _ _ _  S28 (show dBool.rel _ c8 (V.bl c8) from rfl)
end
end Mm
namespace Mm
open PySem L2 Mf
section
variable {P : Program} {w : World} {K : PySem.W.Frag} {mg : Str → Option Value} {base : Heap} {cx : Nat → Addr}
abbrev n_Program___init__ : List Str := ["self", "procedures", "line", "read", "name", "body", "kind", "word", "place"]
theorem sc_Program___init__ : FnScope n_Program___init__ ["self", "procedures"] (defScope s_Program___init__) := ⟨rfl, rfl, rfl, by decide +kernel, rfl, by decide +kernel, by decide +kernel⟩
def m_Program___init__ (x_1 : (List (Str × (List (Str × Str))))) : Option O_Program :=
  (m_invalid_line (x_1)).bind fun r1 =>
  if (decide ((0 : Int) < r1)) = true then none else (dcL (fun (a64 : (Str × (List (Str × Str)))) => some (some (a64.1, (a64.2.map (fun (a87 : (Str × Str)) => (a87.1, a87.2)))))) x_1 []).bind fun ys143 =>
  (lc2M (γ := (Str × Str)) (fun (a164 : (Str × (List (Str × Str)))) => some a164.2) (fun (a164 : (Str × (List (Str × Str)))) (a190 : (Str × Str)) => if (decide (a190.1 = (Str.ofString "read"))) = true then some (some a190.2) else some none) x_1).bind fun ys216 =>
  (nsetM (ys216.map (fun (a234 : Str) => a234))).bind fun r246 =>
  some ((x_1.map (fun (a14 : (Str × (List (Str × Str)))) => a14.1)), ys143, r246)
def sp_Program___init__ (K : PySem.W.Frag) (C_Program : Addr) : Sp := fun vs H Q E => ∃ (x_1 : (List (Str × (List (Str × Str))))) (r : O_Program), m_Program___init__ x_1 = some r ∧ SpI C_Program (fun B ws => ∃ v_1, ws = [v_1] ∧ (dSeq K (dPair K dStr (dSeq K (dPair K dStr dStr)))).rel B x_1 v_1) (fun B' fs => (F_Program K C_Program).rel B' r fs) vs H Q E
theorem mk_Program___init__ {K : PySem.W.Frag} {C_Program : Addr} {Φ : Fr} {B H : Hp} {cs : List (Addr × HO)} {Q : VK} {E : XK} {r : O_Program} {x_1 : (List (Str × (List (Str × Str))))} {v_1 : V} (Z : Sit Φ B H cs) (h_1 : (dSeq K (dPair K dStr (dSeq K (dPair K dStr dStr)))).rel B x_1 v_1) (hm : m_Program___init__ x_1 = some r) (k : ∀ v B' H', Sit Φ B' H' cs → Same B B' → (dO_Program K C_Program).rel B' r v → Q v H') : MkB C_Program (sp_Program___init__ K C_Program ) E Q ([v_1] ++ []) H := by
  exact fun x dx nx ndx ne => ⟨x_1, r, hm, mkObj Z (fun B' e => ⟨v_1, rfl, (dSeq K (dPair K dStr (dSeq K (dPair K dStr dStr)))).mono e h_1⟩) (fun _ _ q => q) k x dx nx ndx ne⟩
theorem mo_Program___init__ {K : PySem.W.Frag} {C_Program : Addr} {Φ : Fr} {B H : Hp} {cs : List (Addr × HO)} {Q : VK} {E : XK} {r : O_Program} {x_1 : (List (Str × (List (Str × Str))))} {v_1 : V} (Z : Sit Φ B H cs) (h_1 : (dSeq K (dPair K dStr (dSeq K (dPair K dStr dStr)))).rel B x_1 v_1) (hm : m_Program___init__ x_1 = some r) (k : ∀ p dx fs B' H', Sit Φ B' H' ((p, .ins C_Program dx fs) :: cs) → Same B B' → Φ.H p = none → (F_Program K C_Program).rel B' r fs → Q (.ref p) H') : MkB C_Program (sp_Program___init__ K C_Program ) E Q ([v_1] ++ []) H := by
  exact fun x dx nx ndx ne => ⟨x_1, r, hm, mkObjO Z (fun B' e => ⟨v_1, rfl, (dSeq K (dPair K dStr (dSeq K (dPair K dStr dStr)))).mono e h_1⟩) (fun _ _ q => q) k x dx nx ndx ne⟩
theorem ok_Program___init__ {C_Program : Addr} (A0 : MkAt K C_Program "Program.__init__" s_Program___init__ ["self", "procedures"]) (T_Program : ClsF K mg "Program" C_Program) (b_sorted : mg "sorted" = none) (b_str : mg "str" = none) (b_tuple : mg "tuple" = none) (nA_Program_bodies : NoAttr K C_Program "bodies") (nA_Program_names : NoAttr K C_Program "names") (nA_Program_places : NoAttr K C_Program "places") (D_invalid_line : Does P w K mg base CX0 3 "invalid_line" ["procedures"] (sp_invalid_line K )) : MkDoes P w K mg base CX0 4 "Program" C_Program ["self", "procedures"] [] (sp_Program___init__ K C_Program ) := by
  obtain ⟨f, fd, F, mk, bd⟩ := A0
  have cl_Program := T_Program.ic.cl
  have g_Program := T_Program.g
  obtain ⟨f_invalid_line, fd_invalid_line, G_invalid_line, g_invalid_line, kp_invalid_line, bd_invalid_line⟩ := D_invalid_line
  refine ⟨f, fd, [], mk, ?_, bd, .nil, T_Program.g⟩
  refine F.ok sc_Program___init__ (fun vs H Q E h => ?_) (fun cdv A outer s H vs Q E hr h => ?_)
  · obtain ⟨_, _, _, _, _, _, _, rfl, _, _, _, ⟨_, rfl, _⟩, _⟩ := h
    rfl
  · obtain ⟨x_1, r, hm, B, p_0, dx, ws, rfl, sB, hp_0, hb_0, ⟨v_1, rfl, hx_1⟩, k⟩ := h
    have hu := hu_of hr
    refine ⟨_, (pss_cons (ps_set (i := 2) sc_Program___init__.nd rfl (Or.inl rfl) (pe_call G_invalid_line (hr.mono (by decide)) rfl g_invalid_line kp_invalid_line bd_invalid_line .nil pass0 (pa_cons (pv 1) pa_nil)))
  (pss_cons (ps_if (pt_cmpR op_gt (pv 2) pe_int (nomark _)) (pss_one ps_dead) pss_nil)
  (pss_cons (k_sfld K (pv 0) (pe_callTy (k_tupL K) (by rfl) b_tuple (by decide +kernel) (pa_cons (pe_lc (own := [("name", 4), ("body", 5)]) (tt := tYes) rfl sc_Program___init__.nd (k_iQ K (pv 1)) (blkOk_by (own := [("name", 4), ("body", 5)]) (N := n_Program___init__) (sc := defScope s_Program___init__) (by decide +kernel)) (fun _ _ _ _ _ => (k_gT K (n := 2) (by rfl) (pgs_cons (pg_name (i := 4) sc_Program___init__.nd rfl (Or.inl rfl)) (pgs_cons (pg_name (i := 5) sc_Program___init__.nd rfl (Or.inl rfl)) pgs_nil)))) (fun _ _ _ _ _ => pts_nil) (fun _ _ _ _ _ => (pv 4))) pa_nil)) rfl)
  (pss_cons (k_sfld K (pv 0) (pe_dc (own := [("name", 4), ("body", 5)]) (tt := tYes) rfl sc_Program___init__.nd (k_iQ K (pv 1)) (blkOk_by (own := [("name", 4), ("body", 5)]) (N := n_Program___init__) (sc := defScope s_Program___init__) (by decide +kernel)) (fun _ _ _ _ _ => (k_gT K (n := 2) (by rfl) (pgs_cons (pg_name (i := 4) sc_Program___init__.nd rfl (Or.inl rfl)) (pgs_cons (pg_name (i := 5) sc_Program___init__.nd rfl (Or.inl rfl)) pgs_nil)))) (fun _ _ _ _ _ => pts_nil) (fun _ _ _ _ _ => (pv 4)) (fun _ _ _ _ _ => (pe_callTy (k_tupL K) (by rfl) b_tuple (by decide +kernel) (pa_cons (pe_lc (own := [("kind", 6), ("word", 7)]) (tt := tYes) rfl sc_Program___init__.nd (k_iQ K (pv 5)) (by dsimp only [L2.Cx.blk, compEnvC]; exact blkOk_nest (own := [("kind", 6), ("word", 7)]) (N := n_Program___init__) (sc := defScope s_Program___init__) rfl (by decide +kernel)) (fun _ _ _ _ _ => (k_gT K (n := 2) (by rfl) (pgs_cons (pg_name (i := 6) sc_Program___init__.nd rfl (Or.inl rfl)) (pgs_cons (pg_name (i := 7) sc_Program___init__.nd rfl (Or.inl rfl)) pgs_nil)))) (fun _ _ _ _ _ => pts_nil) (fun _ _ _ _ _ => (pe_tup (pa_cons (pv 6) (pa_cons (pv 7) pa_nil))))) pa_nil)))) rfl)
  (pss_cons (ps_setLc2 (i := 3) (own := [("name", 4), ("body", 5), ("kind", 6), ("word", 7)]) (vs1 := [6, 7]) (tt := tYes) rfl sc_Program___init__.nd rfl rfl (sw_true rfl rfl rfl (by decide +kernel)) (k_iQ K (pv 1)) (blkOk_by (own := [("name", 4), ("body", 5), ("kind", 6), ("word", 7)]) (N := n_Program___init__) (sc := defScope s_Program___init__) (by decide +kernel)) (by decide) (fun _ _ _ _ _ => (k_gT K (n := 2) (by rfl) (pgs_cons (pg_name (i := 4) sc_Program___init__.nd rfl (Or.inl rfl)) (pgs_cons (pg_name (i := 5) sc_Program___init__.nd rfl (Or.inl rfl)) pgs_nil)))) (fun _ _ _ _ _ => pts_nil) (fun _ _ _ _ _ => (k_iQ K (pv 5))) (fun _ _ _ _ _ => (k_gT K (n := 2) (by rfl) (pgs_cons (pg_name (i := 6) sc_Program___init__.nd rfl (Or.inl rfl)) (pgs_cons (pg_name (i := 7) sc_Program___init__.nd rfl (Or.inl rfl)) pgs_nil)))) (fun _ _ _ _ _ => pts_one (pt_cmpR op_eq (pv 6) pe_str (nomark _))) (fun _ _ _ _ _ => (pv 7)))
  (pss_one (k_sfld K (pv 0) (pe_callTy (k_tupL K) (by rfl) b_tuple (by decide +kernel) (pa_cons (pe_callB (c_sortT w rfl) (by rfl) b_sorted (by decide +kernel) (pa_cons (e_scT w (own := [("place", 8)]) (tt := tYes) rfl sc_Program___init__.nd (k_iL K (pv 3)) (blkOk_by (own := [("place", 8)]) (N := n_Program___init__) (sc := defScope s_Program___init__) (by decide +kernel)) (fun _ _ _ _ _ => (pg_name (i := 8) sc_Program___init__.nd rfl (Or.inl rfl))) (fun _ _ _ _ _ => pts_nil) (fun _ _ _ _ _ => (pe_callTy c_strS (by rfl) b_str (by decide +kernel) (pa_cons (pv 8) pa_nil)))) pa_nil)) pa_nil)) rfl))))))), ?_⟩
    obtain ⟨B0, hB0⟩ : ∃ B0 : Hp, B0 = B := ⟨_, rfl⟩
    subst hB0
    have S0 := Sit.start1 sB hp_0 hb_0
    unfold m_Program___init__ at hm
    refine w_sig (σ' := [(some (.ref p_0)), (some v_1), none, none, none, none, none, none, none]) rfl ?_
    refine w_seq ?_
    refine w_asg ?_
    refine w_call ?_
    refine w_evA (EvA.cons (Ev.var rfl) EvA.nil) ?_
    obtain ⟨r1, h2, hm⟩ := bs hm
    refine use_invalid_line S0 hx_1 h2 fun v3 B7 H4  (S5 : Sit _ B7 H4 [(p_0, .ins C_Program dx [])]) s6 h8  => ?_
    cases h8
    refine w_gname ?_
    refine w_nx (σ' := [(some (.ref p_0)), (some v_1), (some (V.int r1)), none, none, none, none, none, none]) rfl ?_
    refine w_seq ?_
    refine w_ifS ?_
    refine w_evT (EvT.test (Ev.op (Ev.var rfl) Ev.c rv_I0)) ?_
    refine w_ifb (fun h9 => ?_) (fun h9 => ?_)
    · rw [ifT h9] at hm
      cases hm
    · rw [ifF h9] at hm
      refine w_next ?_
      refine w_seq ?_
      refine w_sfld ?_
      refine w_cb ?_
      refine w_cons ?_
      refine w_lc ?_
      refine x_iQ ?_
      refine w_ev (Ev.var rfl) ?_
      refine w_itQ (Rl.mono _ s6 hx_1) S5.sub fun J10 it11 => ?_
      refine lcR (P := dStr) it11 S5 (dSeq.le (Rl.mono _ s6 hx_1)) (lcM_map (fun (a14 : (Str × (List (Str × Str)))) => a14.1) x_1) (fun _ _ _ Z e _ => e.tr Z.sub) (fun D12 ac13 a14 o15 x16 B19 B20 H21 ma27 S22 s17 s18 h23 ho24 RR25 kk26 => ?_) ?_
      · refine w_turn ?_
        obtain ⟨w34, w36, h35, h37, hu38⟩ := un_p (K := K) h23
        refine w_gun (hu38 _ S22.sub) rfl ?_
        refine w_gcons ?_
        cases h35
        refine w_gname ?_
        refine w_gcons ?_
        refine w_gname ?_
        refine w_gnil ?_
        refine w_wipe rfl ?_
        refine w_yes ?_
        refine iteT ?_
        refine w_ev (Ev.var rfl) ?_
        obtain rfl := Option.some.inj ho24
        exact kk26 _ _ _ S22 (Same.rf _) ⟨_, rfl, (show dStr.rel _ a14.1 (V.str a14.1) from rfl)⟩
      · intro p40 B47 H41 o42 S43 s44 n45 h46
        obtain ⟨B50, S48, s49, h51⟩ : ∃ B', Sit _ B' H41 [(p_0, .ins C_Program dx [])] ∧ Same _ B' ∧ (dList dStr).rel B' (x_1.map (fun (a14 : (Str × (List (Str × Str)))) => a14.1)) (.ref p40) := ⟨_, S43.frz (i := 0) rfl n45, S43.frzS (i := 0) rfl, frzL h46 (S43.atB (i := 0) rfl)⟩
        refine w_nil ?_
        refine q_tupL (K := K) S48 h51 fun v52 B57 H53 S54 s55 h56 => ?_
        refine w_ev (Ev.var rfl) ?_
        refine q_sfld (i := 0) S54 rfl cl_Program nA_Program_names (by show 0 < 1000; decide) putF_nil fun H58 (S59 : Sit _ B57 H58 [(p_0, .ins C_Program dx [(Str.ofString "names", v52)])]) => ?_
        refine w_seq ?_
        refine w_sfld ?_
        refine w_dc ?_
        refine x_iQ ?_
        refine w_ev (Ev.var rfl) ?_
        refine w_itQ (Rl.mono _ (s6.tr (s44.tr (s49.tr s55))) hx_1) S59.sub fun J60 it61 => ?_
        obtain ⟨ys143, h144, hm⟩ := bs hm
        refine dcR (P := (dTup K (dPair K dStr dStr))) it61 S59 (dSeq.le (Rl.mono _ (s6.tr (s44.tr (s49.tr s55))) hx_1)) h144 (fun _ _ _ Z e _ => e.tr Z.sub) (fun D62 ac63 a64 o65 x66 B76 B77 H67 ma68 S69 s70 s71 h72 ho73 RR74 kk75 => ?_) ?_
        · refine w_turnD ?_
          obtain ⟨w78, w80, h79, h81, hu82⟩ := un_p (K := K) h72
          refine w_gun (hu82 _ S69.sub) rfl ?_
          refine w_gcons ?_
          cases h79
          refine w_gname ?_
          refine w_gcons ?_
          refine w_gname ?_
          refine w_gnil ?_
          refine w_wipe rfl ?_
          refine w_yes ?_
          refine iteT ?_
          refine w_ev (Ev.var rfl) ?_
          refine w_cb ?_
          refine w_cons ?_
          refine w_lc ?_
          refine x_iQ ?_
          refine w_ev (Ev.var rfl) ?_
          refine w_itQ h81 S69.sub fun J83 it84 => ?_
          refine lcR (P := (dPair K dStr dStr)) it84 S69 (dSeq.le h81) (lcM_map (fun (a87 : (Str × Str)) => (a87.1, a87.2)) a64.2) (fun _ _ _ Z e _ => e.tr Z.sub) (fun D85 ac86 a87 o88 x89 B92 B93 H94 ma100 S95 s90 s91 h96 ho97 RR98 kk99 => ?_) ?_
          · refine w_turn ?_
            obtain ⟨w113, w115, h114, h116, hu117⟩ := un_p (K := K) h96
            refine w_gun (hu117 _ S95.sub) rfl ?_
            refine w_gcons ?_
            cases h114
            refine w_gname ?_
            refine w_gcons ?_
            cases h116
            refine w_gname ?_
            refine w_gnil ?_
            refine w_wipe rfl ?_
            refine w_yes ?_
            refine iteT ?_
            refine x_tup ?_
            refine w_evA (EvA.cons (Ev.var rfl) (EvA.cons (Ev.var rfl) EvA.nil)) ?_
            refine mk2 (K := K)   S95 (show dStr.rel _ a87.1 (V.str a87.1) from rfl) (show dStr.rel _ a87.2 (V.str a87.2) from rfl) fun v118 B123 H119 S120 s121 h122 => ?_
            obtain rfl := Option.some.inj ho97
            exact kk99 _ _ _ S120 s121 ⟨_, rfl, h122⟩
          · intro p125 B132 H126 o127 S128 s129 n130 h131
            obtain ⟨B135, S133, s134, h136⟩ : ∃ B', Sit _ B' H126 [(D62, (.dK ac63)), (p_0, .ins C_Program dx [(Str.ofString "names", v52)])] ∧ Same _ B' ∧ (dList (dPair K dStr dStr)).rel B' (a64.2.map (fun (a87 : (Str × Str)) => (a87.1, a87.2))) (.ref p125) := ⟨_, S128.frz (i := 0) rfl n130, S128.frzS (i := 0) rfl, frzL h131 (S128.atB (i := 0) rfl)⟩
            refine w_nil ?_
            refine q_tupL (K := K) S133 h136 fun v137 B142 H138 S139 s140 h141 => ?_
            obtain rfl := Option.some.inj ho73
            exact kk75 _ _ _ S139 (s129.tr (s134.tr s140)) ⟨_, rfl, h141⟩
        · intro p145 B152 H146 o147 S148 s149 n150 h151
          obtain ⟨B155, S153, s154, h156⟩ : ∃ B', Sit _ B' H146 [(p_0, .ins C_Program dx [(Str.ofString "names", v52)])] ∧ Same _ B' ∧ (dDict (dTup K (dPair K dStr dStr))).rel B' ys143 (.ref p145) := ⟨_, S148.frz (i := 0) rfl n150, S148.frzS (i := 0) rfl, frzD h151 (S148.atB (i := 0) rfl)⟩
          refine w_ev (Ev.var rfl) ?_
          refine q_sfld (i := 0) S153 rfl cl_Program nA_Program_bodies (by show 1 < 1000; decide) (putF_cons (by decide +kernel) putF_nil) fun H157 (S158 : Sit _ B155 H157 [(p_0, .ins C_Program dx [(Str.ofString "names", v52), (Str.ofString "bodies", (.ref p145))])]) => ?_
          refine w_seq ?_
          refine w_asg ?_
          refine w_lc2 ?_
          refine x_iQ ?_
          refine w_ev (Ev.var rfl) ?_
          refine w_itQ (Rl.mono _ (s6.tr (s44.tr (s49.tr (s55.tr (s149.tr s154))))) hx_1) S158.sub fun J159 it160 => ?_
          obtain ⟨ys216, h217, hm⟩ := bs hm
          refine lc2R (P := dStr) it160 S158 h217 (fun _ _ _ Z e _ => e.tr Z.sub) (fun D161 zs162 ac163 a164 zs165 ws166 x167 B180 B181 H168 ma169 S170 s171 s172 hF173 h174 hz175 hw176 hl177 Nx178 kk179 => ?_) ?_
          · refine w_turnO ?_
            obtain ⟨w182, w184, h183, h185, hu186⟩ := un_p (K := K) h174
            refine w_gun (hu186 _ S170.sub) rfl ?_
            refine w_gcons ?_
            cases h183
            refine w_gname ?_
            refine w_gcons ?_
            refine w_gname ?_
            refine w_gnil ?_
            refine w_wipe rfl ?_
            refine w_yes ?_
            refine iteT ?_
            refine x_iQ ?_
            refine w_ev (Ev.var rfl) ?_
            refine w_itQ h185 S170.sub fun J187 it188 => ?_
            obtain rfl := Option.some.inj hz175
            refine lc2In (P := dStr) it188 S170 (fa_mono (Same.rf _) hF173) (big_lt2 hl177 (dSeq.le h185)) hw176 (fun _ _ _ Z e _ => e.tr Z.sub) (fun ac189 a190 o191 x192 B202 B203 H193 ma194 S195 s196 s197 h198 ho199 RR200 kk201 => ?_) ?_
            · refine w_turn2 ?_
              obtain ⟨w204, w206, h205, h207, hu208⟩ := un_p (K := K) h198
              refine w_gun (hu208 _ S195.sub) rfl ?_
              refine w_gcons ?_
              cases h205
              refine w_gname ?_
              refine w_gcons ?_
              cases h207
              refine w_gname ?_
              refine w_gnil ?_
              refine w_wipe rfl ?_
              refine w_evT (EvT.test (Ev.op (Ev.var rfl) Ev.c rv_eqS)) ?_
              refine w_ifb (fun h209 => ?_) (fun h209 => ?_)
              · rw [ifT h209] at ho199
                refine w_ev (Ev.var rfl) ?_
                obtain rfl := Option.some.inj ho199
                exact kk201 _ _ _ S195 (Same.rf _) ⟨_, rfl, (show dStr.rel _ a190.2 (V.str a190.2) from rfl)⟩
              · rw [ifF h209] at ho199
                obtain rfl := Option.some.inj ho199
                exact kk201 _ _ _ S195 (Same.rf _) rfl
            · intro B214 H210 ac215 S211 s212 hF213
              exact kk179 _ _ _ S211 ((Same.rf _).tr s212) hF213
          · intro p218 B225 H219 o220 S221 s222 n223 h224
            obtain ⟨B228, S226, s227, h229⟩ : ∃ B', Sit _ B' H219 [(p_0, .ins C_Program dx [(Str.ofString "names", v52), (Str.ofString "bodies", (.ref p145))])] ∧ Same _ B' ∧ (dList dStr).rel B' ys216 (.ref p218) := ⟨_, S221.frz (i := 0) rfl n223, S221.frzS (i := 0) rfl, frzL h224 (S221.atB (i := 0) rfl)⟩
            refine w_gname ?_
            refine w_nx (σ' := [(some (.ref p_0)), (some v_1), (some (V.int r1)), (some (.ref p218)), none, none, none, none, none]) rfl ?_
            refine w_sfld ?_
            refine w_cb ?_
            refine w_cons ?_
            refine w_cb ?_
            refine w_cons ?_
            refine w_sc ?_
            refine x_iL ?_
            refine w_ev (Ev.var rfl) ?_
            refine w_itL h229 S226.sub fun J230 it231 => ?_
            obtain ⟨r246, h247, hm⟩ := bs hm
            refine scR it231 S226 (nsetM_lt h247) (fun (a234 : Str) => a234) rfl (fun _ _ _ Z e _ => e.tr Z.sub) (fun D232 o233 a234 x235 B244 B245 H236 ma237 S238 s239 s240 h241 RR242 kk243 => ?_) ?_
            · refine w_turn ?_
              cases h241
              refine w_gname ?_
              refine w_wipe rfl ?_
              refine w_yes ?_
              refine iteT ?_
              refine w_ev (Ev.cb (EvA.cons (Ev.var rfl) EvA.nil) fun _ q => ⟨_, rfl, q⟩) ?_
              exact kk243
            · intro p248 B253 H249 S250 s251 n252
              refine w_nil ?_
              refine q_sortT S250 h247 fun v254 B259 H255 S256 s257 h258 => ?_
              refine w_nil ?_
              refine q_tupL (K := K) S256 h258 fun v260 B265 H261 S262 s263 h264 => ?_
              refine w_ev (Ev.var rfl) ?_
              refine q_sfld (i := 0) S262 rfl cl_Program nA_Program_places (by show 2 < 1000; decide) (putF_cons (by decide +kernel) (putF_cons (by decide +kernel) putF_nil)) fun H266 (S267 : Sit _ B265 H266 [(p_0, .ins C_Program dx [(Str.ofString "names", v52), (Str.ofString "bodies", (.ref p145)), (Str.ofString "places", v260)])]) => ?_
              obtain rfl := Option.some.inj hm
              exact k _ _ _ S267 ⟨_, _, _, rfl, (Rl.mono _ (s149.tr (s154.tr (s222.tr (s227.tr (s251.tr (s257.tr s263)))))) h56), (Rl.mono _ (s222.tr (s227.tr (s251.tr (s257.tr s263)))) h156), h264⟩
end
end Mm
namespace Mm
open PySem L2 Mf
section
variable {P : Program} {w : World} {K : PySem.W.Frag} {mg : Str → Option Value} {base : Heap} {cx : Nat → Addr}
abbrev n_Program_parse : List Str := ["cls", "text", "line"]
theorem sc_Program_parse : FnScope n_Program_parse ["cls", "text"] (defScope s_Program_parse) := ⟨rfl, rfl, rfl, by decide +kernel, rfl, by decide +kernel, by decide +kernel⟩
def m_Program_parse (x_0 : Unit) (x_1 : Str) : Option O_Program :=
  (splitM x_1 (Str.ofString "\n")).bind fun x3 =>
  (lcM (fun (a13 : Str) => (m_parse_line (a13)).bind fun r28 =>
  some (some r28)) x3).bind fun ys37 =>
  (m_Program___init__ (ys37)).bind fun r51 =>
  some r51
def sp_Program_parse (K : PySem.W.Frag) (C_Program : Addr) : Sp := fun vs H Q E => ∃ (B : Hp) (x_0 : Unit) (v_0 : V) (x_1 : Str) (r : O_Program), vs = [v_0, (V.str x_1)] ∧ Same B H ∧ (dCls C_Program).rel B x_0 v_0 ∧ m_Program_parse x_0 x_1 = some r ∧ ∀ (v : V) (B' H' : Hp) , Sit ⟨B, H, []⟩ B' H' [] → (dO_Program K C_Program).rel B' r v → Q v H'
theorem use_Program_parse {K : PySem.W.Frag} {C_Program : Addr} {Φ : Fr} {B H : Hp} {cs : List (Addr × HO)} {Q : VK} {E : XK} {r : O_Program} {x_0 : Unit} {v_0 : V} {x_1 : Str} {v_1 : V} (Z : Sit Φ B H cs) (h_0 : (dCls C_Program).rel B x_0 v_0) (h_1 : dStr.rel B x_1 v_1) (hm : m_Program_parse x_0 x_1 = some r) (k : ∀ (v : V) (B' H' : Hp) , Sit Φ B' H' cs → Same B B' → (dO_Program K C_Program).rel B' r v → Q v H') : sp_Program_parse K C_Program ([v_0, v_1] ++ []) H Q E := by
  cases h_1
  exact ⟨B, x_0, v_0, x_1, r, rfl, Z.sub, h_0, hm, fun v B' H'  Z' h  => k v B' H'  (Z.call0 Z') Z'.grow h ⟩
theorem ok_Program_parse {C_Program : Addr} (A0 : CmAt K C_Program "parse" "Program.parse" s_Program_parse ["cls", "text"]) (T_Program : ClsF K mg "Program" C_Program) (D_Program___init__ : MkDoes P w K mg base CX0 4 "Program" C_Program ["self", "procedures"] [] (sp_Program___init__ K C_Program )) (D_parse_line : Does P w K mg base CX0 1 "parse_line" ["line"] (sp_parse_line K )) : CmDoes P w K mg base CX0 6 C_Program "parse" ["cls", "text"] (sp_Program_parse K C_Program ) := by
  obtain ⟨f, fd, F, me, bd⟩ := A0
  have cl_Program := T_Program.ic.cl
  have g_Program := T_Program.g
  obtain ⟨f_parse_line, fd_parse_line, G_parse_line, g_parse_line, kp_parse_line, bd_parse_line⟩ := D_parse_line
  obtain ⟨f_Program___init__, fd_Program___init__, ds_Program___init__, M_Program___init__, G_Program___init__, bd_Program___init__, vd_Program___init__, g_Program___init__⟩ := D_Program___init__
  cases vd_Program___init__
  refine ⟨f, fd, ?_, me, bd⟩
  refine F.ok sc_Program_parse (fun vs H Q E h => ?_) (fun cdv A outer s H vs Q E hr h => ?_)
  · obtain ⟨_, _, _, _, _, rfl, _⟩ := h
    rfl
  · obtain ⟨B, x_0, v_0, x_1, r, rfl, sB, hx_0, hm, k⟩ := h
    have hu := hu_of hr
    refine ⟨_, (pss_one (ps_ret (pe_makeV M_Program___init__ G_Program___init__ (hr.mono (by decide)) bd_Program___init__ .nil pass0 (pv 0) (pa_cons (pe_lc (own := [("line", 2)]) (tt := tYes) rfl sc_Program_parse.nd (k_iL K (pe_split (pv 1) pe_str)) (blkOk_by (own := [("line", 2)]) (N := n_Program_parse) (sc := defScope s_Program_parse) (by decide +kernel)) (fun _ _ _ _ _ => (pg_name (i := 2) sc_Program_parse.nd rfl (Or.inl rfl))) (fun _ _ _ _ _ => pts_nil) (fun _ _ _ _ _ => (pe_call G_parse_line (hr.mono (by decide)) rfl g_parse_line kp_parse_line bd_parse_line .nil pass0 (pa_cons (pv 2) pa_nil)))) pa_nil)))), ?_⟩
    obtain ⟨B0, hB0⟩ : ∃ B0 : Hp, B0 = B := ⟨_, rfl⟩
    subst hB0
    have S0 := Sit.start0 sB
    unfold m_Program_parse at hm
    refine w_sig (σ' := [(some v_0), (some (V.str x_1)), none]) rfl ?_
    refine w_ret ?_
    refine w_makeV ?_
    refine w_ev (Ev.var rfl) ?_
    refine ⟨hx_0, ?_⟩
    refine w_make ?_
    refine w_cons ?_
    refine w_lc ?_
    refine x_iL ?_
    refine w_m1 ?_
    refine w_ev (Ev.var rfl) ?_
    refine w_exS ?_
    refine w_ev Ev.c ?_
    obtain ⟨x3, h4, hm⟩ := bs hm
    refine q_split S0 h4 fun v5 B10 H6 S7 s8 h9 => ?_
    refine w_itL h9 S7.sub fun J1 it2 => ?_
    obtain ⟨ys37, h38, hm⟩ := bs hm
    refine lcR (P := (dPair K dStr (dTup K (dPair K dStr dStr)))) it2 S7 (dList.le h9) h38 (fun _ _ _ Z e _ => e.tr Z.sub) (fun D11 ac12 a13 o14 x15 B18 B19 H20 ma26 S21 s16 s17 h22 ho23 RR24 kk25 => ?_) ?_
    · refine w_turn ?_
      cases h22
      refine w_gname ?_
      refine w_wipe rfl ?_
      refine w_yes ?_
      refine iteT ?_
      refine w_call ?_
      refine w_evA (EvA.cons (Ev.var rfl) EvA.nil) ?_
      obtain ⟨r28, h29, ho23⟩ := bs ho23
      refine use_parse_line S21 (show dStr.rel _ a13 (V.str a13) from rfl) h29 fun v30 B34 H31  (S32 : Sit _ B34 H31 [(D11, (.lst ac12))]) s33 h35  => ?_
      obtain rfl := Option.some.inj ho23
      exact kk25 _ _ _ S32 s33 ⟨_, rfl, h35⟩
    · intro p39 B46 H40 o41 S42 s43 n44 h45
      obtain ⟨B49, S47, s48, h50⟩ : ∃ B', Sit _ B' H40 [] ∧ Same _ B' ∧ (dList (dPair K dStr (dTup K (dPair K dStr dStr)))).rel B' ys37 (.ref p39) := ⟨_, S42.frz (i := 0) rfl n44, S42.frzS (i := 0) rfl, frzL h45 (S42.atB (i := 0) rfl)⟩
      refine w_nil ?_
      obtain ⟨r51, h52, hm⟩ := bs hm
      refine mk_Program___init__ S47 ((subLQ (subP2 subR (subTQ subR))) h50) h52 fun v53 B58 H54 S55 s56 h57 => ?_
      obtain rfl := Option.some.inj hm
      exact k _ _ _  S55 h57
end
end Mm
namespace Mm
open PySem L2 Mf
theorem chars_letters (x : Str) : ((chars x).map (fun a => decide (a ∈ chars (Str.ofString "abcdefghijklmnopqrstuvwxyz")))).all id = decide (∀ c ∈ x.cps.toList, 97 ≤ c ∧ c ≤ 122) := by
  have e : ∀ c : Nat, decide ((⟨#[c]⟩ : Str) ∈ chars (Str.ofString "abcdefghijklmnopqrstuvwxyz")) = decide (97 ≤ c ∧ c ≤ 122) := fun c => by
    rw [← letters_mem]
    refine decide_eq_decide.mpr ⟨fun z => ?_, fun z => List.mem_map.mpr ⟨c, z, rfl⟩⟩
    obtain ⟨m, hm, e⟩ := List.mem_map.mp z
    injection e with e
    have : m = c := by simpa using e
    exact this ▸ hm
  rw [Bool.eq_iff_iff, decide_eq_true_iff, List.all_map, List.all_eq_true]
  unfold chars
  constructor
  · intro h c hc
    have := h _ (List.mem_map.mpr ⟨c, hc, rfl⟩)
    simp only [Function.comp, id] at this
    have e2 := e c
    unfold chars at e2
    rw [e2] at this
    exact of_decide_eq_true this
  · intro h a ha
    obtain ⟨c, hc, rfl⟩ := List.mem_map.mp ha
    have e2 := e c
    unfold chars at e2
    simp only [Function.comp, id]
    rw [e2]
    exact decide_eq_true (h c hc)
theorem is_name_eq {x : Str} (h : x.length < 1000000) : m_is_name x = some (decide (IsName x)) := by
  unfold m_is_name
  rw [if_neg (by decide), lenS_eq h, Option.bind_some, Option.bind_some, charsM_eq h, Option.bind_some, chars_letters]
  by_cases h1 : 1 ≤ x.length ∧ x.length ≤ 8
  · rw [if_neg (by simp; omega)]
    congr 1
    refine decide_eq_decide.mpr ⟨fun z => ⟨h1.1, h1.2, z⟩, fun z => z.2.2⟩
  · rw [if_pos (by simp; omega)]
    congr 1
    exact (decide_eq_false fun z => h1 ⟨z.1, z.2.1⟩).symm
theorem is_name_yes {x : Str} (h : IsName x) : m_is_name x = some true := by
  rw [is_name_eq (by have := h.2.1; omega), decide_eq_true h]
theorem is_step_eq {s : Stp} (h : s.2.length < 1000000) : m_is_step s = some (decide (s.1 ∈ kinds ∧ IsName s.2)) := by
  unfold m_is_step
  rw [is_name_eq h]
  by_cases c : s.1 ∈ kinds
  · rw [if_pos (by exact decide_eq_true c)]
    simp only [Option.bind_some]
    congr 1
    exact decide_eq_decide.mpr ⟨fun z => ⟨c, z⟩, fun z => z.2⟩
  · rw [if_neg (by intro z; exact c (of_decide_eq_true z))]
    simp only [Option.bind_some]
    congr 1
    exact (decide_eq_false fun z => c z.1).symm
theorem enum_at {α : Type} {k : Int} {xs : List α} {i : Nat} {a : Int × α} (h : (enumM k xs)[i]? = some a) : xs[i]? = some a.2 ∧ a.1 = k + i := by
  unfold enumM at h
  rw [List.getElem?_zipWith] at h
  cases e : xs[i]? with
  | none => rw [e] at h; cases e2 : (List.range xs.length)[i]? <;> rw [e2] at h <;> cases h
  | some x =>
    have hi := (List.getElem?_eq_some_iff.mp e).1
    rw [e, List.getElem?_range hi] at h
    cases h
    exact ⟨rfl, rfl⟩
theorem enum_len {α : Type} (k : Int) (xs : List α) : (enumM k xs).length = xs.length := by unfold enumM; simp
theorem invalid_line_good {ps : List Prc} (hg : Good ps) : m_invalid_line ps = some 0 := by
  refine Wp.eq ?_
  unfold m_invalid_line
  have h0 := hg.pos
  have h16 := hg.few
  refine Wp.no (by rw [decide_eq_false_iff_not]; omega) ?_
  refine Wp.bind (P := fun c => c = .nx (nms ps)) (wp_forC (fun i es => es = (nms ps).take i) rfl ?_ ?_) fun c hc => ?_
  · rintro i ⟨k, n, b⟩ es ha rfl
    obtain ⟨hp, hk⟩ := enum_at ha
    simp only at hp hk
    have hm := List.mem_of_getElem? hp
    have hi := (List.getElem?_eq_some_iff.mp hp).1
    have hb := hg.short _ hm
    have hn := hg.name _ hm
    simp only at hb hn
    have nin : n ∉ (nms ps).take i := fun z => by
      have nd := hg.nd
      have e2 : (nms ps)[i]? = some n := by unfold nms; rw [List.getElem?_map, hp]; rfl
      obtain ⟨j, hj⟩ := List.getElem?_of_mem z
      have hj2 : (nms ps)[j]? = some n := by
        rw [List.getElem?_take] at hj
        split at hj
        · exact hj
        · cases hj
      have := Sit.nodup_inj nd e2 hj2
      rw [List.getElem?_take] at hj
      split at hj
      · omega
      · cases hj
    refine Wp.bind (P := fun c => c = false) (Wp.no (by simp only; rw [decide_eq_false_iff_not]; omega) (Wp.go (is_name_yes hn) (Wp.no rfl (Wp.no (by simp only; rw [decide_eq_false_iff_not]; exact nin) (Wp.some (by simp only; rw [decide_eq_false_iff_not]; omega)))))) fun c hc => ?_
    subst hc
    refine Wp.no rfl ?_
    refine Wp.go (lcM_mapE (fun _ => true) fun s hs => ?_) ?_
    · have gs := hg.step _ hm s hs
      rw [is_step_eq (by have := gs.2.1.2.1; omega), decide_eq_true ⟨gs.1, gs.2.1⟩]
      rfl
    refine Wp.no (by simp) ?_
    refine Wp.go (pushM_eq (by rw [List.length_take]; omega)) ?_
    refine Wp.some ?_
    simp only
    exact (take_next (show (nms ps)[i]? = some n by unfold nms; rw [List.getElem?_map, hp]; rfl)).symm
  · intro s hs
    rw [enum_len] at hs
    subst hs
    rw [show ps.length = (nms ps).length by unfold nms; simp, List.take_length]
  · subst hc
    refine Wp.bind (P := fun c => c = .nx ()) (wp_forC (fun _ _ => True) trivial ?_ fun _ _ => rfl) fun c hc => ?_
    · rintro i ⟨k, n, b⟩ _ ha _
      obtain ⟨hp, hk⟩ := enum_at ha
      have hm := List.mem_of_getElem? hp
      simp only at hm
      refine Wp.bind (P := fun c => c = .nx ()) (wp_forC (fun _ _ => True) trivial ?_ fun _ _ => rfl) fun c hc => ?_
      · rintro j s _ hs _
        have gs := hg.step _ hm s (List.mem_of_getElem? hs)
        refine Wp.bind (P := fun c => c = false) (Wp.ite (fun h => Wp.some ?_) (fun _ => Wp.some rfl)) fun c hc => ?_
        · have := gs.2.2 (of_decide_eq_true h)
          simp [this]
        · subst hc
          exact Wp.no rfl (Wp.some trivial)
      · subst hc
        exact Wp.some trivial
    · subst hc
      exact Wp.some rfl
/-- the program of these procedures -/
def pgO (ps : List Prc) : O_Program := (nms ps, ps, places ps)
theorem dcL_id {β : Type} : ∀ (qs acc : List (Str × β)), ((acc ++ qs).map Prod.fst).Nodup → dcL (fun (a : Str × β) => some (some a)) qs acc = some (acc ++ qs)
  | [], acc, _ => by simp [dcL]
  | q :: qs, acc, nd => by
    unfold dcL
    have e : dPut acc q.1 q.2 = acc ++ [q] := by
      unfold dPut
      rw [if_neg]
      intro z
      rw [List.any_eq_true] at z
      obtain ⟨x, hx, e⟩ := z
      have e := of_decide_eq_true e
      rw [List.map_append, List.nodup_append] at nd
      exact nd.2.2 x.1 (List.mem_map.mpr ⟨x, hx, rfl⟩) q.1 (by simp) e
    simp only [Option.bind_some]
    rw [e, dcL_id qs (acc ++ [q]) (by simpa using nd)]
    simp
theorem lc2M_total {α β γ : Type} (F : α → List γ) (g : α → γ → Option β) : ∀ as : List α, (as.flatMap fun a => (F a).filterMap (g a)).length < 1000000 → lc2M (fun a => some (F a)) (fun a c => some (g a c)) as = some (as.flatMap fun a => (F a).filterMap (g a))
  | [], _ => rfl
  | a :: as, h => by
    unfold lc2M
    rw [List.flatMap_cons, List.length_append] at h
    simp only [Option.bind_some]
    rw [lcM_total, Option.bind_some, lc2M_total F g as (by omega), Option.bind_some, if_pos (by rw [List.length_append]; unfold BIG; omega), List.flatMap_cons]
theorem reads_len {ps : List Prc} (h : ∀ p ∈ ps, p.2.length ≤ 12) : (reads ps).length ≤ ps.length * 12 := by
  unfold reads
  induction ps with
  | nil => simp
  | cons p ps ih =>
    rw [List.flatMap_cons, List.length_append, List.length_cons]
    have h1 := ih fun q hq => h q (List.mem_cons_of_mem _ hq)
    have h2 := h p List.mem_cons_self
    have h3 := List.length_filterMap_le rdOf p.2
    omega
theorem pinit {ps : List Prc} (hg : Good ps) : m_Program___init__ ps = some (pgO ps) := by
  unfold m_Program___init__
  rw [invalid_line_good hg, Option.bind_some, if_neg (by decide)]
  have e1 : (fun (a : Str × List (Str × Str)) => some (some (a.1, a.2.map fun (b : Str × Str) => (b.1, b.2)))) = fun (a : Prc) => some (some a) := by
    funext a
    simp
  rw [e1, dcL_id ps [] (by rw [List.nil_append]; exact hg.nd), Option.bind_some]
  have e2 : (fun (a : Str × List (Str × Str)) (b : Str × Str) => if (decide (b.1 = Str.ofString "read")) = true then some (some b.2) else some none) = fun (_ : Prc) (c : Stp) => some (rdOf c) := by
    funext a b
    unfold rdOf
    by_cases c : b.1 = Str.ofString "read"
    · rw [if_pos (decide_eq_true c), if_pos c]
    · rw [if_neg (by rw [decide_eq_false c]; decide), if_neg c]
  rw [e2]
  have hr := reads_len hg.short
  have h16 := hg.few
  have e3 : (ps.flatMap fun a => a.2.filterMap rdOf) = reads ps := rfl
  rw [lc2M_total (fun a : Prc => a.2) (fun _ c => rdOf c) ps (by rw [e3]; omega), Option.bind_some, e3]
  simp only [List.map_id']
  rw [nsetM_eq (by omega) hg.plc, Option.bind_some]
  rfl
theorem mem_rdOf {b : List Stp} {z : Str} : z ∈ b.filterMap rdOf ↔ (Str.ofString "read", z) ∈ b := by
  rw [List.mem_filterMap]
  constructor
  · rintro ⟨⟨k, y⟩, h, e⟩
    unfold rdOf at e
    by_cases c : k = ("read" : Str)
    · rw [if_pos c] at e
      cases e
      rw [← c]
      exact h
    · rw [if_neg c] at e; cases e
  · intro h
    exact ⟨_, h, by unfold rdOf; rw [if_pos]; rfl⟩
theorem places_oks {ps : List Prc} (hg : Good ps) : Oks (places ps) := fun x hx => by
  unfold places at hx
  rw [mem_nset] at hx
  obtain ⟨p, hp, s, hs, e⟩ := mem_reads.mp hx
  unfold rdOf at e
  by_cases c : s.1 = ("read" : Str)
  · rw [if_pos c] at e
    cases e
    exact (hg.step p hp s hs).2.1.ok
  · rw [if_neg c] at e; cases e
theorem places_nodup (ps : List Prc) : (places ps).Nodup := nset_nodup _
theorem places_len {ps : List Prc} (hg : Good ps) : (places ps).length < 64 := by
  have h2 : (places ps).length = (addAll (reads ps)).length := by unfold places nset; rw [srt_len]
  have h3 := hg.plc
  omega
theorem m_places_eq {ps : List Prc} (hg : Good ps) : m_places ps = some (places ps) := by
  refine Wp.eq ?_
  unfold m_places
  have hr := reads_len hg.short
  have h16 := hg.few
  have hin : ∀ p ∈ ps, ∀ st : List Str, st.Nodup → st.length ≤ 1000 → Wp (forL (fun (a55 : (Str × Str)) (st56 : (List Str)) => if ((decide (a55.1 = (Str.ofString "read"))) && (!decide (a55.2 ∈ st56))) = true then (pushM st56 a55.2).bind fun x86 => some x86 else some st56) p.2 st) (fun st' => st'.Nodup ∧ st'.length ≤ st.length + 12 ∧ ∀ z, z ∈ st' ↔ z ∈ st ∨ z ∈ p.2.filterMap rdOf) := by
    intro p hp st nd hl
    have h12 := hg.short p hp
    refine (wp_forL (fun i (cur : List Str) => cur.Nodup ∧ cur.length ≤ st.length + i ∧ ∀ z, z ∈ cur ↔ z ∈ st ∨ z ∈ (p.2.take i).filterMap rdOf) ⟨nd, by simp, by simp⟩ ?_).mono ?_
    · rintro i ⟨k, y⟩ cur ha ⟨h1, h2, h3⟩
      have hi := (List.getElem?_eq_some_iff.mp ha).1
      have et : ∀ z, z ∈ (p.2.take (i + 1)).filterMap rdOf ↔ z ∈ (p.2.take i).filterMap rdOf ∨ (k = Str.ofString "read" ∧ z = y) := by
        intro z
        rw [take_next ha, List.filterMap_append, List.mem_append]
        refine or_congr Iff.rfl ?_
        rw [mem_rdOf, List.mem_singleton, Prod.mk.injEq]
        exact ⟨fun h => ⟨h.1.symm, h.2⟩, fun h => ⟨h.1.symm, h.2⟩⟩
      refine Wp.ite (fun hc => ?_) (fun hc => ?_)
      · rw [Bool.and_eq_true] at hc
        have c1 : k = Str.ofString "read" := of_decide_eq_true hc.1
        have c2 : y ∉ cur := by simpa using hc.2
        refine Wp.go (pushM_eq (by omega)) (Wp.some ⟨?_, by simp; omega, fun z => ?_⟩)
        · exact List.nodup_append.mpr ⟨h1, by simp, fun a ha b hb e => c2 (by have hb := List.mem_singleton.mp hb; simp only at hb; rw [← hb, ← e]; exact ha)⟩
        · rw [List.mem_append, h3, et, List.mem_singleton, or_assoc]
          exact or_congr Iff.rfl (or_congr Iff.rfl ⟨fun h => ⟨c1, h⟩, fun h => h.2⟩)
      · refine Wp.some ⟨h1, by omega, fun z => ?_⟩
        rw [et, ← or_assoc, ← h3]
        refine ⟨.inl, fun h => h.elim id fun ⟨c1, c2⟩ => ?_⟩
        subst c2
        rw [Bool.and_eq_false_iff] at hc
        rcases hc with hc | hc
        · exact absurd c1 (of_decide_eq_false hc)
        · simpa using hc
    · rintro st' ⟨h1, h2, h3⟩
      rw [List.take_length] at h3
      exact ⟨h1, by omega, h3⟩
  refine (wp_forL (fun i (st : List Str) => st.Nodup ∧ st.length ≤ 12 * i ∧ ∀ z, z ∈ st ↔ z ∈ reads (ps.take i)) ⟨List.nodup_nil, by simp, by unfold reads; simp⟩ ?_).bind fun st hst => ?_
  · rintro i p st hp ⟨h1, h2, h3⟩
    have hi := (List.getElem?_eq_some_iff.mp hp).1
    refine (hin p (List.mem_of_getElem? hp) st h1 (by omega)).bind fun st' ⟨k1, k2, k3⟩ => Wp.some ⟨k1, by omega, fun z => ?_⟩
    rw [k3, h3, take_next hp]
    unfold reads
    rw [List.flatMap_append, List.mem_append]
    simp
  · obtain ⟨h1, h2, h3⟩ := hst
    rw [List.take_length] at h3
    rw [List.map_id']
    have hl : st.length < 64 := by
      have h5 := nodup_le h1 (fun z hz => mem_addAll.mpr ((h3 z).mp hz))
      have := hg.plc
      omega
    refine Wp.go (srtM_eq hl) (Wp.some ?_)
    rw [srt_nset h1]
    exact nset_congr h3
theorem get_eq {ps : List Prc} {p : Prc} (hg : Good ps) (h : p ∈ ps) : m_Program___getitem__ (pgO ps) p.1 = some p.2 := by
  unfold m_Program___getitem__ pgO dHas
  simp only
  rw [dGet_mem hg.nd h, if_neg (by simp)]
  rfl
theorem oks_shaped {xs : List Str} (h : Oks xs) : SeqAt.shaped (PyData.tuple (xs.map PyData.str)) = true := shaped_strsT h
theorem pgEq {ps qs : List Prc} (hp : Good ps) (hq : Good qs) : m_Program___eq__ (pgO ps) (pgO qs) = some (decide (ps = qs)) := by
  unfold m_Program___eq__ pgO
  simp only [if_true]
  have e1 : eqD (PyData.tuple ((nms ps).map PyData.str)) (PyData.tuple ((nms qs).map PyData.str)) = some (decide (nms ps = nms qs)) := by
    unfold eqD
    rw [if_pos ⟨oks_shaped hp.oks, oks_shaped hq.oks⟩, eqv_strsT]
  rw [e1, Option.bind_some]
  by_cases c : nms ps = nms qs
  · rw [if_pos (decide_eq_true c)]
    unfold eqDict
    have s1 : ∀ x ∈ ps, SeqAt.shaped (PyData.tuple (x.2.map fun x => PyData.tuple [PyData.str x.1, PyData.str x.2])) = true := fun x hx => shaped_rowT (hp.step x hx)
    have s2 : ∀ x ∈ qs, SeqAt.shaped (PyData.tuple (x.2.map fun x => PyData.tuple [PyData.str x.1, PyData.str x.2])) = true := fun x hx => shaped_rowT (hq.step x hx)
    rw [if_pos ⟨s1, s2⟩]
    simp only [Option.bind_some]
    have hl : ps.length = qs.length := by
      have := congrArg List.length c
      unfold nms at this
      simpa using this
    rw [hl, beq_self_eq_true, Bool.true_and]
    congr 1
    rw [Bool.eq_iff_iff, decide_eq_true_iff, List.all_eq_true]
    constructor
    · intro h
      refine List.ext_getElem? fun i => ?_
      cases e : ps[i]? with
      | none =>
        have : qs.length ≤ i := by rw [← hl]; exact List.getElem?_eq_none_iff.mp e
        rw [List.getElem?_eq_none_iff.mpr this]
      | some p =>
        have hm := List.mem_of_getElem? e
        have hi := (List.getElem?_eq_some_iff.mp e).1
        have e2 : qs[i]? = some qs[i] := List.getElem?_eq_getElem (by omega)
        rw [e2]
        congr 1
        have hn : p.1 = (qs[i]).1 := by
          have h1 : (nms ps)[i]? = some p.1 := by unfold nms; rw [List.getElem?_map, e]; rfl
          have h2 : (nms qs)[i]? = some (qs[i]).1 := by unfold nms; rw [List.getElem?_map, e2]; rfl
          rw [c, h2] at h1
          injection h1 with h1
          exact h1.symm
        have := h p hm
        rw [hn, dGet_mem hq.nd (List.getElem_mem (by omega))] at this
        simp only at this
        have e3 := (eqv_rowT p.2 (qs[i]).2).symm.trans this
        have := of_decide_eq_true e3
        exact Prod.ext hn this
    · rintro rfl p hm
      rw [dGet_mem hp.nd hm]
      simp only
      exact (eqv_rowT p.2 p.2).trans (decide_eq_true rfl)
  · rw [if_neg (by rw [decide_eq_false c]; decide)]
    simp only [Option.bind_some]
    congr 1
    refine (decide_eq_false ?_).symm
    rintro rfl
    exact c rfl
theorem ofS_len1 : (Str.ofString " ").length = 1 ∧ (Str.ofString ":").length = 1 ∧ (Str.ofString ": ").length = 2 ∧ (Str.ofString ", ").length = 2 ∧ (Str.ofString "\n").length = 1 := by decide +kernel
theorem empty_len0 : Str.empty.length = 0 := rfl
theorem line_text_eq {ns : List Str} {p : Prc} (hn : IsName p.1) (hl : p.2.length ≤ 12) (hs : ∀ s ∈ p.2, GoodStp ns s) : m_line_text p.1 p.2 = some (lineOf p) := by
  obtain ⟨l1, l2, l3, l4, _⟩ := ofS_len1
  have hn8 := hn.2.1
  unfold m_line_text lineOf
  by_cases c : p.2 = []
  · rw [c, if_pos (by simp), if_pos rfl, fmtS_eq (by omega), Option.bind_some, fcat_eq (by rw [empty_len0]; omega), Option.bind_some, empty_app, fcat_eq (by omega)]
    rfl
  · rw [if_neg (by simp [c]), if_neg c]
    have e1 : lcM (fun (a : Str × Str) => (fmtS a.1).bind fun z => (fcat Str.empty z).bind fun z => (fcat z (Str.ofString " ")).bind fun z1 => (fmtS a.2).bind fun z => (fcat z1 z).bind fun z => some (some z)) p.2 = some (p.2.map stpTxt) := by
      refine lcM_mapE stpTxt fun s h => ?_
      have gs := hs s h
      have k1 := kinds_len gs.1
      have k2 := gs.2.1.2.1
      rw [fmtS_eq (by omega), Option.bind_some, fcat_eq (by rw [empty_len0]; omega), Option.bind_some, empty_app, fcat_eq (by omega), Option.bind_some, fmtS_eq (by omega), Option.bind_some, fcat_eq (by rw [Str.length_append]; omega)]
      rfl
    rw [e1, Option.bind_some]
    have hb : ∀ z ∈ p.2.map stpTxt, z.length ≤ 13 := fun z hz => by
      obtain ⟨s, h, rfl⟩ := List.mem_map.mp hz
      exact stpTxt_len (hs s h)
    have hj : joinM (Str.ofString ", ") (p.2.map stpTxt) = some (Txt.join (Str.ofString ", ") (p.2.map stpTxt)) := by
      unfold joinM
      have := sum_len hb
      rw [List.length_map] at this ⊢
      rw [if_pos (by rw [l4]; omega)]
    have hjl := join_len (y := Str.ofString ", ") hb
    rw [List.length_map, l4] at hjl
    rw [hj, Option.bind_some, fmtS_eq (by omega), Option.bind_some, fcat_eq (by rw [empty_len0]; omega), Option.bind_some, empty_app, fcat_eq (by omega), Option.bind_some, fmtS_eq (by omega), Option.bind_some, fcat_eq (by rw [Str.length_append]; omega)]
    rfl
theorem text_eq {ps : List Prc} (hg : Good ps) : m_Program_text (pgO ps) = some (textOf ps) := by
  unfold m_Program_text pgO textOf
  simp only
  have h16 := hg.few
  have e1 : ∀ qs : List Prc, (∀ p ∈ qs, p ∈ ps) → lcM (fun (a : Str) => (dGet ps a).bind fun x => (m_line_text a x).bind fun r => some (some r)) (nms qs) = some (qs.map lineOf) := by
    intro qs
    induction qs with
    | nil => intro _; rfl
    | cons q qs ih =>
      intro h
      have hm := h q List.mem_cons_self
      unfold nms
      rw [List.map_cons]
      unfold lcM
      rw [dGet_mem hg.nd hm, Option.bind_some, line_text_eq (hg.name q hm) (hg.short q hm) (hg.step q hm), Option.bind_some, Option.bind_some]
      have := ih fun p hp => h p (List.mem_cons_of_mem _ hp)
      unfold nms at this
      rw [this]
      rfl
  rw [e1 ps fun _ h => h, Option.bind_some]
  have hb : ∀ z ∈ ps.map lineOf, z.length ≤ 200 := fun z hz => by
    obtain ⟨p, h, rfl⟩ := List.mem_map.mp hz
    exact lineOf_len (hg.name p h) (hg.short p h) (hg.step p h)
  unfold joinM
  have := sum_len hb
  rw [List.length_map] at this ⊢
  rw [if_pos (by rw [ofS_len1.2.2.2.2]; omega)]
  rfl
theorem copy_eq (ps : List Prc) : m_copy ps = some ps := by
  unfold m_copy
  simp
end Mm
namespace Mm
open PySem L2 Mf
section
variable {P : Program} {w : World} {K : PySem.W.Frag} {mg : Str → Option Value} {base : Heap} {cx : Nat → Addr}
abbrev n_line : List Str := ["_law_name_here", "_law_body", "_law_kind", "_law_word"]
theorem sc_line : FnScope n_line ["_law_name_here", "_law_body"] (defScope s_line) := ⟨rfl, rfl, rfl, by decide +kernel, rfl, by decide +kernel, by decide +kernel⟩
def m_line (x_0 : Str) (x_1 : (List (Str × Str))) : Option Str :=
  if (decide ((x_1.length : Int) = (0 : Int))) = true then (addS x_0 (Str.ofString ":")).bind fun x2 =>
  some x2 else (addS x_0 (Str.ofString ": ")).bind fun x4 =>
  (lcM (fun (a9 : (Str × Str)) => (addS a9.1 (Str.ofString " ")).bind fun x29 =>
  (addS x29 a9.2).bind fun x30 =>
  some (some x30)) x_1).bind fun ys32 =>
  (joinM (Str.ofString ", ") ys32).bind fun x46 =>
  (addS x4 x46).bind fun x47 =>
  some x47
def sp_line (K : PySem.W.Frag) : Sp := fun vs H Q E => ∃ (B : Hp) (x_0 : Str) (x_1 : (List (Str × Str))) (v_1 : V) (r : Str), vs = [(V.str x_0), v_1] ∧ Same B H ∧ (dList (dPair K dStr dStr)).rel B x_1 v_1 ∧ m_line x_0 x_1 = some r ∧ ∀ (v : V) (B' H' : Hp) , Sit ⟨B, H, []⟩ B' H' [] → dStr.rel B' r v → Q v H'
theorem use_line {K : PySem.W.Frag} {Φ : Fr} {B H : Hp} {cs : List (Addr × HO)} {Q : VK} {E : XK} {r : Str} {x_0 : Str} {v_0 : V} {x_1 : (List (Str × Str))} {v_1 : V} (Z : Sit Φ B H cs) (h_0 : dStr.rel B x_0 v_0) (h_1 : (dList (dPair K dStr dStr)).rel B x_1 v_1) (hm : m_line x_0 x_1 = some r) (k : ∀ (v : V) (B' H' : Hp) , Sit Φ B' H' cs → Same B B' → dStr.rel B' r v → Q v H') : sp_line K ([v_0, v_1] ++ []) H Q E := by
  cases h_0
  exact ⟨B, x_0, x_1, v_1, r, rfl, Z.sub, h_1, hm, fun v B' H'  Z' h  => k v B' H'  (Z.call0 Z') Z'.grow h ⟩
theorem ok_line (A0 : DefAt K mg "_law_line" s_line ["_law_name_here", "_law_body"]) (b_len : mg "len" = none) : Does P w K mg base CX0 1 "_law_line" ["_law_name_here", "_law_body"] (sp_line K ) := by
  obtain ⟨f, fd, F, gm, bd⟩ := A0
  refine ⟨f, fd, ?_, gm, F.kp, bd⟩
  refine F.ok sc_line (fun vs H Q E h => ?_) (fun cdv A outer s H vs Q E hr h => ?_)
  · obtain ⟨_, _, _, _, _, rfl, _⟩ := h
    rfl
  · obtain ⟨B, x_0, x_1, v_1, r, rfl, sB, hx_1, hm, k⟩ := h
    have hu := hu_of hr
    refine ⟨_, (pss_cons (ps_if (pt_cmpR op_eq (pe_callB (k_len K) (by rfl) b_len (by decide +kernel) (pa_cons (pv 1) pa_nil)) pe_int (nomark _)) (pss_one (ps_ret (pe_op o_addS (pv 0) pe_str))) pss_nil)
  (pss_one (ps_ret (pe_op o_addS (pe_op o_addS (pv 0) pe_str) (k_join K pe_str (pe_lc (own := [("_law_kind", 2), ("_law_word", 3)]) (tt := tYes) rfl sc_line.nd (k_iL K (pv 1)) (blkOk_by (own := [("_law_kind", 2), ("_law_word", 3)]) (N := n_line) (sc := defScope s_line) (by decide +kernel)) (fun _ _ _ _ _ => (k_gT K (n := 2) (by rfl) (pgs_cons (pg_name (i := 2) sc_line.nd rfl (Or.inl rfl)) (pgs_cons (pg_name (i := 3) sc_line.nd rfl (Or.inl rfl)) pgs_nil)))) (fun _ _ _ _ _ => pts_nil) (fun _ _ _ _ _ => (pe_op o_addS (pe_op o_addS (pv 2) pe_str) (pv 3))))))))), ?_⟩
    obtain ⟨B0, hB0⟩ : ∃ B0 : Hp, B0 = B := ⟨_, rfl⟩
    subst hB0
    have S0 := Sit.start0 sB
    unfold m_line at hm
    refine w_sig (σ' := [(some (V.str x_0)), (some v_1), none, none]) rfl ?_
    refine w_seq ?_
    refine w_ifS ?_
    refine w_evT (EvT.test (Ev.op (Ev.cb (EvA.cons (Ev.var rfl) EvA.nil) (rlen_q (sqL (K := K) hx_1 S0.sub))) Ev.c rv_eqI)) ?_
    refine w_ifb (fun h1 => ?_) (fun h1 => ?_)
    · rw [ifT h1] at hm
      refine w_ret ?_
      obtain ⟨x2, hx2, hm⟩ := bs hm
      refine w_ev (Ev.op (Ev.var rfl) Ev.c (rv_addS hx2)) ?_
      obtain rfl := Option.some.inj hm
      exact k _ _ _  S0 (show dStr.rel _ x2 (V.str x2) from rfl)
    · rw [ifF h1] at hm
      refine w_next ?_
      refine w_ret ?_
      refine w_op ?_
      obtain ⟨x4, hx4, hm⟩ := bs hm
      refine w_ev (Ev.op (Ev.var rfl) Ev.c (rv_addS hx4)) ?_
      refine w_m1 ?_
      refine w_ev Ev.c ?_
      refine w_exS ?_
      refine w_lc ?_
      refine x_iL ?_
      refine w_ev (Ev.var rfl) ?_
      refine w_itL hx_1 S0.sub fun J5 it6 => ?_
      obtain ⟨ys32, h33, hm⟩ := bs hm
      refine lcR (P := dStr) it6 S0 (dList.le hx_1) h33 (fun _ _ _ Z e _ => e.tr Z.sub) (fun D7 ac8 a9 o10 x11 B14 B15 H16 ma22 S17 s12 s13 h18 ho19 RR20 kk21 => ?_) ?_
      · refine w_turn ?_
        obtain ⟨w24, w26, h25, h27, hu28⟩ := un_p (K := K) h18
        refine w_gun (hu28 _ S17.sub) rfl ?_
        refine w_gcons ?_
        cases h25
        refine w_gname ?_
        refine w_gcons ?_
        cases h27
        refine w_gname ?_
        refine w_gnil ?_
        refine w_wipe rfl ?_
        refine w_yes ?_
        refine iteT ?_
        obtain ⟨x29, hx29, ho19⟩ := bs ho19
        obtain ⟨x30, hx30, ho19⟩ := bs ho19
        refine w_ev (Ev.op (Ev.op (Ev.var rfl) Ev.c (rv_addS hx29)) (Ev.var rfl) (rv_addS hx30)) ?_
        obtain rfl := Option.some.inj ho19
        exact kk21 _ _ _ S17 (Same.rf _) ⟨_, rfl, (show dStr.rel _ x30 (V.str x30) from rfl)⟩
      · intro p34 B41 H35 o36 S37 s38 n39 h40
        obtain ⟨B44, S42, s43, h45⟩ : ∃ B', Sit _ B' H35 [] ∧ Same _ B' ∧ (dList dStr).rel B' ys32 (.ref p34) := ⟨_, S37.frz (i := 0) rfl n39, S37.frzS (i := 0) rfl, frzL h40 (S37.atB (i := 0) rfl)⟩
        obtain ⟨x46, hx46, hm⟩ := bs hm
        refine q_join (sqL (K := K) h45 S42.sub) hx46 ?_
        obtain ⟨x47, hx47, hm⟩ := bs hm
        refine w_rv (rv_addS hx47) ?_
        obtain rfl := Option.some.inj hm
        exact k _ _ _  S42 (show dStr.rel _ x47 (V.str x47) from rfl)
abbrev n_same_program : List Str := ["_law_program_here", "_law_procedures", "_law_names_here", "_law_rows", "_law_name_here", "_law_body", "_law_row"]
theorem sc_same_program : FnScope n_same_program ["_law_program_here", "_law_procedures"] (defScope s_same_program) := ⟨rfl, rfl, rfl, by decide +kernel, rfl, by decide +kernel, by decide +kernel⟩
def m_same_program (x_0 : O_Program) (x_1 : (List (Str × (List (Str × Str))))) : Option Bool :=
  (lcM (fun (a47 : Str) => (m_Program___getitem__ (x_0) (a47)).bind fun r62 =>
  some (some r62)) (x_1.map (fun (a5 : (Str × (List (Str × Str)))) => a5.1))).bind fun ys71 =>
  (if (!true) = true then some true else if (!true) = true then some true else (m_Program___len__ (x_0)).bind fun r102 =>
  (natM r102).bind fun n110 =>
  some (!decide (n110 = ((x_1.map (fun (a5 : (Str × (List (Str × Str)))) => a5.1)).length : Int)))).bind fun c91 =>
  if c91 = true then some false else if (!((ys71.map (fun (a121 : (List (Str × Str))) => true)).all id)) = true then some false else ((eqD ((fun xs => PyData.tuple (xs.map PyData.str)) (x_0.1)) ((fun xs => PyData.tuple (xs.map PyData.str)) ((x_1.map (fun (a5 : (Str × (List (Str × Str)))) => a5.1))))).bind fun b171 =>
  if (!b171) = true then some true else (m_places (x_1)).bind fun r182 =>
  (eqD ((fun xs => PyData.tuple (xs.map PyData.str)) (x_0.2.2)) ((fun xs => PyData.tuple (xs.map PyData.str)) (r182))).bind fun b196 =>
  some (!b196)).bind fun c153 =>
  if c153 = true then some false else (eqD ((fun xs => PyData.list (xs.map (fun xs => PyData.tuple (xs.map (fun x => PyData.tuple [PyData.str x.1, PyData.str x.2]))))) (ys71)) ((fun xs => PyData.list (xs.map (fun xs => PyData.tuple (xs.map (fun x => PyData.tuple [PyData.str x.1, PyData.str x.2]))))) ((x_1.map (fun (a206 : (Str × (List (Str × Str)))) => a206.2))))).bind fun b256 =>
  some b256
def sp_same_program (K : PySem.W.Frag) (C_Program : Addr) : Sp := fun vs H Q E => ∃ (B : Hp) (x_0 : O_Program) (v_0 : V) (x_1 : (List (Str × (List (Str × Str))))) (v_1 : V) (r : Bool), vs = [v_0, v_1] ∧ Same B H ∧ (dO_Program K C_Program).rel B x_0 v_0 ∧ (dList (dPair K dStr (dList (dPair K dStr dStr)))).rel B x_1 v_1 ∧ m_same_program x_0 x_1 = some r ∧ ∀ (v : V) (B' H' : Hp) , Sit ⟨B, H, []⟩ B' H' [] → dBool.rel B' r v → Q v H'
theorem use_same_program {K : PySem.W.Frag} {C_Program : Addr} {Φ : Fr} {B H : Hp} {cs : List (Addr × HO)} {Q : VK} {E : XK} {r : Bool} {x_0 : O_Program} {v_0 : V} {x_1 : (List (Str × (List (Str × Str))))} {v_1 : V} (Z : Sit Φ B H cs) (h_0 : (dO_Program K C_Program).rel B x_0 v_0) (h_1 : (dList (dPair K dStr (dList (dPair K dStr dStr)))).rel B x_1 v_1) (hm : m_same_program x_0 x_1 = some r) (k : ∀ (v : V) (B' H' : Hp) , Sit Φ B' H' cs → Same B B' → dBool.rel B' r v → Q v H') : sp_same_program K C_Program ([v_0, v_1] ++ []) H Q E := by
  exact ⟨B, x_0, v_0, x_1, v_1, r, rfl, Z.sub, h_0, h_1, hm, fun v B' H'  Z' h  => k v B' H'  (Z.call0 Z') Z'.grow h ⟩
theorem ok_same_program {C_Program : Addr} (A0 : DefAt K mg "_law_same_program" s_same_program ["_law_program_here", "_law_procedures"]) (T_Program : ClsF K mg "Program" C_Program) (b_all : mg "all" = none) (b_isinstance : mg "isinstance" = none) (b_len : mg "len" = none) (b_tuple : mg "tuple" = none) (nA_Program_names : NoAttr K C_Program "names") (nA_Program_places : NoAttr K C_Program "places") (D_Program___getitem__ : MDoes P w K mg base CX0 1 C_Program "__getitem__" ["self", "name"] (sp_Program___getitem__ K C_Program )) (D_Program___len__ : MDoes P w K mg base CX0 1 C_Program "__len__" ["self"] (sp_Program___len__ K C_Program )) (D_places : Does P w K mg base CX0 1 "_law_places" ["_law_procedures"] (sp_places K )) : Does P w K mg base CX0 3 "_law_same_program" ["_law_program_here", "_law_procedures"] (sp_same_program K C_Program ) := by
  obtain ⟨f, fd, F, gm, bd⟩ := A0
  have cl_Program := T_Program.ic.cl
  have g_Program := T_Program.g
  obtain ⟨f_places, fd_places, G_places, g_places, kp_places, bd_places⟩ := D_places
  obtain ⟨f_Program___getitem__, fd_Program___getitem__, G_Program___getitem__, m_Program___getitem__, bd_Program___getitem__, q_Program___getitem__⟩ := D_Program___getitem__
  obtain ⟨f_Program___len__, fd_Program___len__, G_Program___len__, m_Program___len__, bd_Program___len__, q_Program___len__⟩ := D_Program___len__
  refine ⟨f, fd, ?_, gm, F.kp, bd⟩
  refine F.ok sc_same_program (fun vs H Q E h => ?_) (fun cdv A outer s H vs Q E hr h => ?_)
  · obtain ⟨_, _, _, _, _, _, rfl, _⟩ := h
    rfl
  · obtain ⟨B, x_0, v_0, x_1, v_1, r, rfl, sB, hx_0, hx_1, hm, k⟩ := h
    have hu := hu_of hr
    refine ⟨_, (pss_cons (ps_setLc (i := 2) (own := [("_law_name_here", 4), ("_law_body", 5)]) (tt := tYes) rfl sc_same_program.nd rfl rfl (sw_true rfl rfl rfl (by decide +kernel)) (k_iL K (pv 1)) (blkOk_by (own := [("_law_name_here", 4), ("_law_body", 5)]) (N := n_same_program) (sc := defScope s_same_program) (by decide +kernel)) (fun _ _ _ _ _ => (k_gT K (n := 2) (by rfl) (pgs_cons (pg_name (i := 4) sc_same_program.nd rfl (Or.inl rfl)) (pgs_cons (pg_name (i := 5) sc_same_program.nd rfl (Or.inl rfl)) pgs_nil)))) (fun _ _ _ _ _ => pts_nil) (fun _ _ _ _ _ => (pv 4)))
  (pss_cons (ps_setLc (i := 3) (own := [("_law_name_here", 4)]) (tt := tYes) rfl sc_same_program.nd rfl rfl (sw_true rfl rfl rfl (by decide +kernel)) (k_iL K (pv 2)) (blkOk_by (own := [("_law_name_here", 4)]) (N := n_same_program) (sc := defScope s_same_program) (by decide +kernel)) (fun _ _ _ _ _ => (pg_name (i := 4) sc_same_program.nd rfl (Or.inl rfl))) (fun _ _ _ _ _ => pts_nil) (fun _ _ _ _ _ => (e_getO m_Program___getitem__ q_Program___getitem__ G_Program___getitem__ (hr.mono (by decide)) bd_Program___getitem__ pass0 (pv 0) (pv 4))))
  (pss_cons (ps_if (PW.pt (pw_or (pt_not (pt_val (pe_callB (k_isi K) (by rfl) b_isinstance (by decide +kernel) (pa_cons (k_fld K (pv 0) rfl) (pa_cons (pe_bltn (v := .ty "tuple") (by rfl) b_tuple (by decide +kernel) rfl) pa_nil))))) (pw_or (pt_not (pt_val (pe_callB (k_isi K) (by rfl) b_isinstance (by decide +kernel) (pa_cons (k_fld K (pv 0) rfl) (pa_cons (pe_bltn (v := .ty "tuple") (by rfl) b_tuple (by decide +kernel) rfl) pa_nil))))) (pw_or1 (pt_cmpR op_ne (pe_callB (c_lenO m_Program___len__ G_Program___len__ (hr.mono (by decide)) bd_Program___len__ pass0) (by rfl) b_len (by decide +kernel) (pa_cons (pv 0) pa_nil)) (pe_callB (k_len K) (by rfl) b_len (by decide +kernel) (pa_cons (pv 2) pa_nil)) (nomark _)))))) (pss_one (ps_ret pe_bl)) pss_nil)
  (pss_cons (ps_if (pt_not (pt_val (pe_callB (k_all K rfl) (by rfl) b_all (by decide +kernel) (pa_cons (pe_lc (own := [("_law_row", 6)]) (tt := tYes) rfl sc_same_program.nd (k_iL K (pv 3)) (blkOk_by (own := [("_law_row", 6)]) (N := n_same_program) (sc := defScope s_same_program) (by decide +kernel)) (fun _ _ _ _ _ => (pg_name (i := 6) sc_same_program.nd rfl (Or.inl rfl))) (fun _ _ _ _ _ => pts_nil) (fun _ _ _ _ _ => (pe_callB (k_isi K) (by rfl) b_isinstance (by decide +kernel) (pa_cons (pv 6) (pa_cons (pe_bltn (v := .ty "tuple") (by rfl) b_tuple (by decide +kernel) rfl) pa_nil))))) pa_nil)))) (pss_one (ps_ret pe_bl)) pss_nil)
  (pss_cons (ps_if (PW.pt (pw_or (pt_cmpR (k_neD K hr.units) (k_fld K (pv 0) rfl) (pe_callTy (k_tupL K) (by rfl) b_tuple (by decide +kernel) (pa_cons (pv 2) pa_nil)) (nomark _)) (pw_or1 (pt_cmpR (k_neD K hr.units) (k_fld K (pv 0) rfl) (pe_callTy (k_tupL K) (by rfl) b_tuple (by decide +kernel) (pa_cons (pe_call G_places (hr.mono (by decide)) rfl g_places kp_places bd_places .nil pass0 (pa_cons (pv 1) pa_nil)) pa_nil)) (nomark _))))) (pss_one (ps_ret pe_bl)) pss_nil)
  (pss_one (ps_ret (pe_cmpR (k_eqD K hr.units) (pv 3) (pe_lc (own := [("_law_name_here", 4), ("_law_body", 5)]) (tt := tYes) rfl sc_same_program.nd (k_iL K (pv 1)) (blkOk_by (own := [("_law_name_here", 4), ("_law_body", 5)]) (N := n_same_program) (sc := defScope s_same_program) (by decide +kernel)) (fun _ _ _ _ _ => (k_gT K (n := 2) (by rfl) (pgs_cons (pg_name (i := 4) sc_same_program.nd rfl (Or.inl rfl)) (pgs_cons (pg_name (i := 5) sc_same_program.nd rfl (Or.inl rfl)) pgs_nil)))) (fun _ _ _ _ _ => pts_nil) (fun _ _ _ _ _ => (pe_callTy (k_tupL K) (by rfl) b_tuple (by decide +kernel) (pa_cons (pv 5) pa_nil)))) (nomark _))))))))), ?_⟩
    obtain ⟨B0, hB0⟩ : ∃ B0 : Hp, B0 = B := ⟨_, rfl⟩
    subst hB0
    have S0 := Sit.start0 sB
    unfold m_same_program at hm
    refine w_sig (σ' := [(some v_0), (some v_1), none, none, none, none, none]) rfl ?_
    refine w_seq ?_
    refine w_asg ?_
    refine w_lc ?_
    refine x_iL ?_
    refine w_ev (Ev.var rfl) ?_
    refine w_itL hx_1 S0.sub fun J1 it2 => ?_
    refine lcR (P := dStr) it2 S0 (dList.le hx_1) (lcM_map (fun (a5 : (Str × (List (Str × Str)))) => a5.1) x_1) (fun _ _ _ Z e _ => e.tr Z.sub) (fun D3 ac4 a5 o6 x7 B10 B11 H12 ma18 S13 s8 s9 h14 ho15 RR16 kk17 => ?_) ?_
    · refine w_turn ?_
      obtain ⟨w25, w27, h26, h28, hu29⟩ := un_p (K := K) h14
      refine w_gun (hu29 _ S13.sub) rfl ?_
      refine w_gcons ?_
      cases h26
      refine w_gname ?_
      refine w_gcons ?_
      refine w_gname ?_
      refine w_gnil ?_
      refine w_wipe rfl ?_
      refine w_yes ?_
      refine iteT ?_
      refine w_ev (Ev.var rfl) ?_
      obtain rfl := Option.some.inj ho15
      exact kk17 _ _ _ S13 (Same.rf _) ⟨_, rfl, (show dStr.rel _ a5.1 (V.str a5.1) from rfl)⟩
    · intro p31 B38 H32 o33 S34 s35 n36 h37
      obtain ⟨B41, S39, s40, h42⟩ : ∃ B', Sit _ B' H32 [] ∧ Same _ B' ∧ (dList dStr).rel B' (x_1.map (fun (a5 : (Str × (List (Str × Str)))) => a5.1)) (.ref p31) := ⟨_, S34.frz (i := 0) rfl n36, S34.frzS (i := 0) rfl, frzL h37 (S34.atB (i := 0) rfl)⟩
      refine w_gname ?_
      refine w_nx (σ' := [(some v_0), (some v_1), (some (.ref p31)), none, none, none, none]) rfl ?_
      refine w_seq ?_
      refine w_asg ?_
      refine w_lc ?_
      refine x_iL ?_
      refine w_ev (Ev.var rfl) ?_
      refine w_itL h42 S39.sub fun J43 it44 => ?_
      obtain ⟨ys71, h72, hm⟩ := bs hm
      refine lcR (P := (dTup K (dPair K dStr dStr))) it44 S39 (dList.le h42) h72 (fun _ _ _ Z e _ => e.tr Z.sub) (fun D45 ac46 a47 o48 x49 B52 B53 H54 ma60 S55 s50 s51 h56 ho57 RR58 kk59 => ?_) ?_
      · refine w_turn ?_
        cases h56
        refine w_gname ?_
        refine w_wipe rfl ?_
        refine w_yes ?_
        refine iteT ?_
        refine w_op ?_
        refine w_ev (Ev.var rfl) ?_
        refine w_ev (Ev.var rfl) ?_
        refine q_getO (Rl.mono _ (s35.tr (s40.tr (s50.tr s51))) hx_0) S55.sub ?_
        obtain ⟨r62, h63, ho57⟩ := bs ho57
        refine use_Program___getitem__ S55 (Rl.mono _ (s35.tr (s40.tr (s50.tr s51))) hx_0) (show dStr.rel _ a47 (V.str a47) from rfl) h63 fun v64 B68 H65  (S66 : Sit _ B68 H65 [(D45, (.lst ac46))]) s67 h69  => ?_
        obtain rfl := Option.some.inj ho57
        exact kk59 _ _ _ S66 s67 ⟨_, rfl, h69⟩
      · intro p73 B80 H74 o75 S76 s77 n78 h79
        obtain ⟨B83, S81, s82, h84⟩ : ∃ B', Sit _ B' H74 [] ∧ Same _ B' ∧ (dList (dTup K (dPair K dStr dStr))).rel B' ys71 (.ref p73) := ⟨_, S76.frz (i := 0) rfl n78, S76.frzS (i := 0) rfl, frzL h79 (S76.atB (i := 0) rfl)⟩
        refine w_gname ?_
        refine w_nx (σ' := [(some v_0), (some v_1), (some (.ref p31)), (some (.ref p73)), none, none, none]) rfl ?_
        refine w_seq ?_
        refine w_ifS ?_
        obtain ⟨c91, hc92, hm⟩ := bs hm
        refine cutT (fun b H' => c91 = b ∧ ∃ (B' : Hp), Sit (Fr.mk B0 H []) B' H' [] ∧ Same B83 B') (fun kk93 => ?_) ?_
        · refine w_or ?_
          obtain ⟨w95, h96, r94⟩ := fld_Program_names T_Program.ic.cl nA_Program_names (Rl.mono _ (s35.tr (s40.tr (s77.tr s82))) hx_0)
          refine w_evT (EvT.not (EvT.tB (Ev.cb (EvA.cons (Ev.fld (Ev.var rfl) (r94 _ S81.sub)) (EvA.cons Ev.c EvA.nil)) (isi_xT (b := true) h96 S81.sub (kit_ty (r := true) (by decide +kernel)))))) ?_
          refine w_ifb (fun h97 => ?_) (fun h97 => ?_)
          · rw [ifT h97] at hc92
            obtain rfl := Option.some.inj hc92
            exact kk93 _ _ ⟨rfl, _, S81, (Same.rf _)⟩
          · rw [ifF h97] at hc92
            refine w_or ?_
            obtain ⟨w99, h100, r98⟩ := fld_Program_places T_Program.ic.cl nA_Program_places (Rl.mono _ (s35.tr (s40.tr (s77.tr s82))) hx_0)
            refine w_evT (EvT.not (EvT.tB (Ev.cb (EvA.cons (Ev.fld (Ev.var rfl) (r98 _ S81.sub)) (EvA.cons Ev.c EvA.nil)) (isi_xT (b := true) h100 S81.sub (kit_ty (r := true) (by decide +kernel)))))) ?_
            refine w_ifb (fun h101 => ?_) (fun h101 => ?_)
            · rw [ifT h101] at hc92
              obtain rfl := Option.some.inj hc92
              exact kk93 _ _ ⟨rfl, _, S81, (Same.rf _)⟩
            · rw [ifF h101] at hc92
              refine w_test ?_
              refine w_op ?_
              refine w_cb ?_
              refine w_evA (EvA.cons (Ev.var rfl) EvA.nil) ?_
              refine q_lenO (Rl.mono _ (s35.tr (s40.tr (s77.tr s82))) hx_0) S81.sub ?_
              obtain ⟨r102, h103, hc92⟩ := bs hc92
              refine use_Program___len__ S81 (Rl.mono _ (s35.tr (s40.tr (s77.tr s82))) hx_0) h103 fun v104 B108 H105  (S106 : Sit _ B108 H105 []) s107 h109  => ?_
              cases h109
              obtain ⟨n110, h111, hc92⟩ := bs hc92
              refine lenI h111 ?_
              refine w_ev (Ev.cb (EvA.cons (Ev.var rfl) EvA.nil) (rlen_q (sqL (K := K) (Rl.mono _ (s77.tr (s82.tr s107)) h42) S106.sub))) ?_
              refine w_rv rv_neI ?_
              refine w_bl ?_
              obtain rfl := Option.some.inj hc92
              exact kk93 _ _ ⟨rfl, _, S106, s107⟩
        · rintro _ H112 ⟨rfl, B115, S113, s114⟩
          refine w_ifb (fun h116 => ?_) (fun h116 => ?_)
          · rw [ifT h116] at hm
            refine w_ret ?_
            refine w_ev Ev.c ?_
            obtain rfl := Option.some.inj hm
            exact k _ _ _  S113 (show dBool.rel _ false (V.bl false) from rfl)
          · rw [ifF h116] at hm
            refine w_next ?_
            refine w_seq ?_
            refine w_ifS ?_
            refine w_not ?_
            refine w_tb ?_
            refine w_cb ?_
            refine w_cons ?_
            refine w_lc ?_
            refine x_iL ?_
            refine w_ev (Ev.var rfl) ?_
            refine w_itL (Rl.mono _ s114 h84) S113.sub fun J117 it118 => ?_
            refine lcR (P := dBool) it118 S113 (dList.le (Rl.mono _ s114 h84)) (lcM_map (fun (a121 : (List (Str × Str))) => true) ys71) (fun _ _ _ Z e _ => e.tr Z.sub) (fun D119 ac120 a121 o122 x123 B126 B127 H128 ma134 S129 s124 s125 h130 ho131 RR132 kk133 => ?_) ?_
            · refine w_turn ?_
              refine w_gname ?_
              refine w_wipe rfl ?_
              refine w_yes ?_
              refine iteT ?_
              refine w_ev (Ev.cb (EvA.cons (Ev.var rfl) (EvA.cons Ev.c EvA.nil)) (isi_xT (b := true) h130 S129.sub (kit_ty (r := true) (by decide +kernel)))) ?_
              obtain rfl := Option.some.inj ho131
              exact kk133 _ _ _ S129 (Same.rf _) ⟨_, rfl, (show dBool.rel _ true (V.bl true) from rfl)⟩
            · intro p137 B144 H138 o139 S140 s141 n142 h143
              obtain ⟨B147, S145, s146, h148⟩ : ∃ B', Sit _ B' H138 [] ∧ Same _ B' ∧ (dList dBool).rel B' (ys71.map (fun (a121 : (List (Str × Str))) => true)) (.ref p137) := ⟨_, S140.frz (i := 0) rfl n142, S140.frzS (i := 0) rfl, frzL h143 (S140.atB (i := 0) rfl)⟩
              refine w_nil ?_
              refine rall (Rl.mono _ S145.sub h148) _ ?_
              refine w_bl ?_
              refine w_ifb (fun h149 => ?_) (fun h149 => ?_)
              · rw [ifT h149] at hm
                refine w_ret ?_
                refine w_ev Ev.c ?_
                obtain rfl := Option.some.inj hm
                exact k _ _ _  S145 (show dBool.rel _ false (V.bl false) from rfl)
              · rw [ifF h149] at hm
                refine w_next ?_
                refine w_seq ?_
                refine w_ifS ?_
                obtain ⟨c153, hc154, hm⟩ := bs hm
                refine cutT (fun b H' => c153 = b ∧ ∃ (B' : Hp), Sit (Fr.mk B0 H []) B' H' [] ∧ Same B147 B') (fun kk155 => ?_) ?_
                · refine w_or ?_
                  refine w_test ?_
                  refine w_op ?_
                  obtain ⟨w163, h164, r162⟩ := fld_Program_names T_Program.ic.cl nA_Program_names (Rl.mono _ (s35.tr (s40.tr (s77.tr (s82.tr (s114.tr (s141.tr s146)))))) hx_0)
                  refine w_ev (Ev.fld (Ev.var rfl) (r162 _ S145.sub)) ?_
                  refine w_cb ?_
                  refine w_evA (EvA.cons (Ev.var rfl) EvA.nil) ?_
                  refine q_tupL (K := K) S145 (Rl.mono _ (s77.tr (s82.tr (s114.tr (s141.tr s146)))) h42) fun v165 B170 H166 S167 s168 h169 => ?_
                  obtain ⟨b171, hb171, hc154⟩ := bs hc154
                  refine w_rv (rv_neD (drT drStr) (drT drStr) (Rl.mono _ S167.sub (Rl.mono _ s168 h164)) (Rl.mono _ S167.sub h169) hb171) ?_
                  refine w_bl ?_
                  refine w_ifb (fun h172 => ?_) (fun h172 => ?_)
                  · rw [ifT h172] at hc154
                    obtain rfl := Option.some.inj hc154
                    exact kk155 _ _ ⟨rfl, _, S167, s168⟩
                  · rw [ifF h172] at hc154
                    refine w_test ?_
                    refine w_op ?_
                    obtain ⟨w180, h181, r179⟩ := fld_Program_places T_Program.ic.cl nA_Program_places (Rl.mono _ (s35.tr (s40.tr (s77.tr (s82.tr (s114.tr (s141.tr (s146.tr s168))))))) hx_0)
                    refine w_ev (Ev.fld (Ev.var rfl) (r179 _ S167.sub)) ?_
                    refine w_cb ?_
                    refine w_cons ?_
                    refine w_call ?_
                    refine w_evA (EvA.cons (Ev.var rfl) EvA.nil) ?_
                    obtain ⟨r182, h183, hc154⟩ := bs hc154
                    refine use_places S167 (Rl.mono _ (s35.tr (s40.tr (s77.tr (s82.tr (s114.tr (s141.tr (s146.tr s168))))))) hx_1) h183 fun v184 B188 H185  (S186 : Sit _ B188 H185 []) s187 h189  => ?_
                    refine w_nil ?_
                    refine q_tupL (K := K) S186 h189 fun v190 B195 H191 S192 s193 h194 => ?_
                    obtain ⟨b196, hb196, hc154⟩ := bs hc154
                    refine w_rv (rv_neD (drT drStr) (drT drStr) (Rl.mono _ S192.sub (Rl.mono _ (s187.tr s193) h181)) (Rl.mono _ S192.sub h194) hb196) ?_
                    refine w_bl ?_
                    obtain rfl := Option.some.inj hc154
                    exact kk155 _ _ ⟨rfl, _, S192, (s168.tr (s187.tr s193))⟩
                · rintro _ H197 ⟨rfl, B200, S198, s199⟩
                  refine w_ifb (fun h201 => ?_) (fun h201 => ?_)
                  · rw [ifT h201] at hm
                    refine w_ret ?_
                    refine w_ev Ev.c ?_
                    obtain rfl := Option.some.inj hm
                    exact k _ _ _  S198 (show dBool.rel _ false (V.bl false) from rfl)
                  · rw [ifF h201] at hm
                    refine w_next ?_
                    refine w_ret ?_
                    refine w_op ?_
                    refine w_ev (Ev.var rfl) ?_
                    refine w_lc ?_
                    refine x_iL ?_
                    refine w_ev (Ev.var rfl) ?_
                    refine w_itL (Rl.mono _ (s35.tr (s40.tr (s77.tr (s82.tr (s114.tr (s141.tr (s146.tr s199))))))) hx_1) S198.sub fun J202 it203 => ?_
                    refine lcR (P := (dTup K (dPair K dStr dStr))) it203 S198 (dList.le (Rl.mono _ (s35.tr (s40.tr (s77.tr (s82.tr (s114.tr (s141.tr (s146.tr s199))))))) hx_1)) (lcM_map (fun (a206 : (Str × (List (Str × Str)))) => a206.2) x_1) (fun _ _ _ Z e _ => e.tr Z.sub) (fun D204 ac205 a206 o207 x208 B211 B212 H213 ma219 S214 s209 s210 h215 ho216 RR217 kk218 => ?_) ?_
                    · refine w_turn ?_
                      obtain ⟨w232, w234, h233, h235, hu236⟩ := un_p (K := K) h215
                      refine w_gun (hu236 _ S214.sub) rfl ?_
                      refine w_gcons ?_
                      cases h233
                      refine w_gname ?_
                      refine w_gcons ?_
                      refine w_gname ?_
                      refine w_gnil ?_
                      refine w_wipe rfl ?_
                      refine w_yes ?_
                      refine iteT ?_
                      refine w_cb ?_
                      refine w_evA (EvA.cons (Ev.var rfl) EvA.nil) ?_
                      refine q_tupL (K := K) S214 h235 fun v237 B242 H238 S239 s240 h241 => ?_
                      obtain rfl := Option.some.inj ho216
                      exact kk218 _ _ _ S239 s240 ⟨_, rfl, h241⟩
                    · intro p244 B251 H245 o246 S247 s248 n249 h250
                      obtain ⟨B254, S252, s253, h255⟩ : ∃ B', Sit _ B' H245 [] ∧ Same _ B' ∧ (dList (dTup K (dPair K dStr dStr))).rel B' (x_1.map (fun (a206 : (Str × (List (Str × Str)))) => a206.2)) (.ref p244) := ⟨_, S247.frz (i := 0) rfl n249, S247.frzS (i := 0) rfl, frzL h250 (S247.atB (i := 0) rfl)⟩
                      obtain ⟨b256, hb256, hm⟩ := bs hm
                      refine w_rv (rv_eqD (drL (drT (dr2 drStr drStr))) (drL (drT (dr2 drStr drStr))) (Rl.mono _ S252.sub (Rl.mono _ (s114.tr (s141.tr (s146.tr (s199.tr (s248.tr s253))))) h84)) (Rl.mono _ S252.sub h255) hb256) ?_
                      obtain rfl := Option.some.inj hm
                      exact k _ _ _  S252 (show dBool.rel _ b256 (V.bl b256) from rfl)
abbrev n_law : List Str := ["_law_script", "_law_source_here", "_law_procedures", "_law_due", "_law_program_here", "_law_again", "_law_name_here", "_law_body"]
theorem sc_law : FnScope n_law ["_law_script"] (defScope s_law) := ⟨rfl, rfl, rfl, by decide +kernel, rfl, by decide +kernel, by decide +kernel⟩
def m_law (x_s : Src3) : Option Bool :=
  (m_any_program (x_s)).bind fun r1 =>
  (lcM (fun (a15 : (Str × (List (Str × Str)))) => (m_line (a15.1) (a15.2)).bind fun r35 =>
  some (some r35)) r1.1).bind fun ys44 =>
  (joinM (Str.ofString "\n") ys44).bind fun x58 =>
  (m_copy (r1.1)).bind fun r59 =>
  (m_Program___init__ (r59)).bind fun r67 =>
  (m_Program_text (r67)).bind fun r75 =>
  if (!decide (r75 = x58)) = true then some false else (m_Program_parse (()) (x58)).bind fun r84 =>
  (if (!true) = true then some true else (m_same_program (r84) (r1.1)).bind fun r96 =>
  if (!r96) = true then some true else (m_Program_text (r84)).bind fun r105 =>
  some (!decide (r105 = x58))).bind fun c92 =>
  if c92 = true then some false else ((m_Program___eq__ (r84) (r67)).bind fun r121 =>
  if r121 = true then (m_Program___eq__ (r67) (r84)).bind fun r130 =>
  if r130 = true then (m_Program_text (r67)).bind fun r139 =>
  some (decide (r139 = x58)) else some false else some false).bind fun c118 =>
  some c118
theorem ok_law {C_Program : Addr} {f : Addr} {fd : FuncData} (F : Fun K "law" "law" s_law f fd) (T_Program : ClsF K mg "Program" C_Program) (b_isinstance : mg "isinstance" = none) (D_Program___init__ : MkDoes P w K mg base CX0 4 "Program" C_Program ["self", "procedures"] [] (sp_Program___init__ K C_Program )) (D_Program_text : MDoes P w K mg base CX0 2 C_Program "text" ["self"] (sp_Program_text K C_Program )) (D_Program___eq__ : MDoes P w K mg base CX0 1 C_Program "__eq__" ["self", "other"] (sp_Program___eq__ K C_Program )) (D_Program_parse : CmDoes P w K mg base CX0 6 C_Program "parse" ["cls", "text"] (sp_Program_parse K C_Program )) (D_source : Does P w K mg base CX0 1 "_law_source" ["_law_script"] (sp_source K)) (D_any_program : Does P w K mg base CX0 5 "_law_any_program" ["_law_source_here"] (sp_any_program K )) (D_line : Does P w K mg base CX0 1 "_law_line" ["_law_name_here", "_law_body"] (sp_line K )) (D_copy : Does P w K mg base CX0 1 "_law_copy" ["_law_procedures"] (sp_copy K )) (D_same_program : Does P w K mg base CX0 3 "_law_same_program" ["_law_program_here", "_law_procedures"] (sp_same_program K C_Program )) (hlaw : ∀ s : Src3, s.ok 0 → m_law s = some true) : FnOk P w K mg base CX0 8 f fd ["_law_script"] (sp_law K) := by
  have cl_Program := T_Program.ic.cl
  have g_Program := T_Program.g
  obtain ⟨f_source, fd_source, G_source, g_source, kp_source, bd_source⟩ := D_source
  obtain ⟨f_any_program, fd_any_program, G_any_program, g_any_program, kp_any_program, bd_any_program⟩ := D_any_program
  obtain ⟨f_line, fd_line, G_line, g_line, kp_line, bd_line⟩ := D_line
  obtain ⟨f_copy, fd_copy, G_copy, g_copy, kp_copy, bd_copy⟩ := D_copy
  obtain ⟨f_same_program, fd_same_program, G_same_program, g_same_program, kp_same_program, bd_same_program⟩ := D_same_program
  obtain ⟨f_Program___init__, fd_Program___init__, ds_Program___init__, M_Program___init__, G_Program___init__, bd_Program___init__, vd_Program___init__, g_Program___init__⟩ := D_Program___init__
  cases vd_Program___init__
  obtain ⟨f_Program_text, fd_Program_text, G_Program_text, m_Program_text, bd_Program_text, q_Program_text⟩ := D_Program_text
  obtain ⟨f_Program___eq__, fd_Program___eq__, G_Program___eq__, m_Program___eq__, bd_Program___eq__, q_Program___eq__⟩ := D_Program___eq__
  obtain ⟨f_Program_parse, fd_Program_parse, G_Program_parse, m_Program_parse, bd_Program_parse⟩ := D_Program_parse
  refine F.ok sc_law (fun vs H Q E h => ?_) (fun cdv A outer s H vs Q E hr h => ?_)
  · obtain ⟨_, _, rfl, _⟩ := h
    rfl
  · obtain ⟨a_0, ns, rfl, hS, hlen, k⟩ := h
    have hu := hu_of hr
    refine ⟨_, (pss_cons (ps_set (i := 1) sc_law.nd rfl (Or.inl rfl) (pe_call G_source (hr.mono (by decide)) rfl g_source kp_source bd_source .nil pass0 (pa_cons (pv 0) pa_nil)))
  (pss_cons (ps_set (i := 2) sc_law.nd rfl (Or.inl rfl) (pe_call G_any_program (hr.mono (by decide)) rfl g_any_program kp_any_program bd_any_program .nil pass0 (pa_cons (pv 1) pa_nil)))
  (pss_cons (ps_set (i := 3) sc_law.nd rfl (Or.inl rfl) (k_join K pe_str (pe_lc (own := [("_law_name_here", 6), ("_law_body", 7)]) (tt := tYes) rfl sc_law.nd (k_iL K (pv 2)) (blkOk_by (own := [("_law_name_here", 6), ("_law_body", 7)]) (N := n_law) (sc := defScope s_law) (by decide +kernel)) (fun _ _ _ _ _ => (k_gT K (n := 2) (by rfl) (pgs_cons (pg_name (i := 6) sc_law.nd rfl (Or.inl rfl)) (pgs_cons (pg_name (i := 7) sc_law.nd rfl (Or.inl rfl)) pgs_nil)))) (fun _ _ _ _ _ => pts_nil) (fun _ _ _ _ _ => (pe_call G_line (hr.mono (by decide)) rfl g_line kp_line bd_line .nil pass0 (pa_cons (pv 6) (pa_cons (pv 7) pa_nil)))))))
  (pss_cons (ps_set (i := 4) sc_law.nd rfl (Or.inl rfl) (pe_make M_Program___init__ G_Program___init__ (hr.mono (by decide)) rfl g_Program___init__ bd_Program___init__ .nil pass0 (pa_cons (pe_call G_copy (hr.mono (by decide)) rfl g_copy kp_copy bd_copy .nil pass0 (pa_cons (pv 2) pa_nil)) pa_nil)))
  (pss_cons (ps_if (pt_cmpR op_ne (pe_meth0 (pv 4) T_Program.ic.cl m_Program_text G_Program_text (hr.mono (by decide)) bd_Program_text .nil pass0) (pv 3) (nomark _)) (pss_one (ps_ret pe_bl)) pss_nil)
  (pss_cons (ps_set (i := 5) sc_law.nd rfl (Or.inl rfl) (pe_cm m_Program_parse G_Program_parse (hr.mono (by decide)) bd_Program_parse pass0 (pe_glob (v := .ref C_Program) rfl g_Program rfl) (pa_cons (pv 3) pa_nil)))
  (pss_cons (ps_if (PW.pt (pw_or (pt_not (pt_val (pe_callB (k_isi K) (by rfl) b_isinstance (by decide +kernel) (pa_cons (pv 5) (pa_cons (pe_glob (v := .ref C_Program) rfl g_Program rfl) pa_nil))))) (pw_or (pt_not (pt_val (pe_call G_same_program (hr.mono (by decide)) rfl g_same_program kp_same_program bd_same_program .nil pass0 (pa_cons (pv 5) (pa_cons (pv 2) pa_nil))))) (pw_or1 (pt_cmpR op_ne (pe_meth0 (pv 5) T_Program.ic.cl m_Program_text G_Program_text (hr.mono (by decide)) bd_Program_text .nil pass0) (pv 3) (nomark _)))))) (pss_one (ps_ret pe_bl)) pss_nil)
  (pss_one (ps_ret (pe_and (pe_cmpR (o_cmpO K (fun _ _ => rfl) m_Program___eq__ G_Program___eq__ (hr.mono (by decide)) bd_Program___eq__ pass0) (pv 5) (pv 4) (nomark _)) (pe_and (pe_cmpR (o_cmpO K (fun _ _ => rfl) m_Program___eq__ G_Program___eq__ (hr.mono (by decide)) bd_Program___eq__ pass0) (pv 4) (pv 5) (nomark _)) (pe_one (pe_cmpR op_eq (pe_meth0 (pv 4) T_Program.ic.cl m_Program_text G_Program_text (hr.mono (by decide)) bd_Program_text .nil pass0) (pv 3) (nomark _)))))))))))))), ?_⟩
    have S0 : Sit (Fr.mk (fun _ => none) H []) (fun _ => none) H [] := Sit.start0 (fun _ _ z => by cases z)
    obtain ⟨B0, hB0⟩ : ∃ B0 : Hp, B0 = fun _ => none := ⟨_, rfl⟩
    rw [← hB0] at S0
    refine w_sig (σ' := [(some (.ref a_0)), none, none, none, none, none, none, none]) rfl ?_
    refine w_seq ?_
    refine w_asg ?_
    refine w_call ?_
    refine w_evA (EvA.cons (Ev.var rfl) EvA.nil) ?_
    refine use_source hS hlen fun p_s H1 sH np hsrc => ?_
    obtain ⟨x_s, o_s, hok, hp_s, h_s⟩ := src_of (B := B0) hsrc
    have S1 := S0.src sH np hp_s
    have n_s := np
    have hm := hlaw x_s hok
    unfold m_law at hm
    refine w_gname ?_
    refine w_nx (σ' := [(some (.ref a_0)), (some (.ref p_s)), none, none, none, none, none, none]) rfl ?_
    refine w_seq ?_
    refine w_asg ?_
    refine w_call ?_
    refine w_evA (EvA.cons (Ev.var rfl) EvA.nil) ?_
    obtain ⟨r1, h2, hm⟩ := bs hm
    refine use_any_program S1 (i1 := 0) rfl h_s h2 fun v3 B7 H4 o8 (S5 : Sit _ B7 H4 [(p_s, o8)]) s6 h10 h9 => ?_
    refine w_gname ?_
    refine w_nx (σ' := [(some (.ref a_0)), (some (.ref p_s)), (some v3), none, none, none, none, none]) rfl ?_
    refine w_seq ?_
    refine w_asg ?_
    refine w_m1 ?_
    refine w_ev Ev.c ?_
    refine w_exS ?_
    refine w_lc ?_
    refine x_iL ?_
    refine w_ev (Ev.var rfl) ?_
    refine w_itL h10 S5.sub fun J11 it12 => ?_
    obtain ⟨ys44, h45, hm⟩ := bs hm
    refine lcR (P := dStr) it12 S5 (dList.le h10) h45 (fun _ _ _ Z e _ => e.tr Z.sub) (fun D13 ac14 a15 o16 x17 B20 B21 H22 ma28 S23 s18 s19 h24 ho25 RR26 kk27 => ?_) ?_
    · refine w_turn ?_
      obtain ⟨w30, w32, h31, h33, hu34⟩ := un_p (K := K) h24
      refine w_gun (hu34 _ S23.sub) rfl ?_
      refine w_gcons ?_
      cases h31
      refine w_gname ?_
      refine w_gcons ?_
      refine w_gname ?_
      refine w_gnil ?_
      refine w_wipe rfl ?_
      refine w_yes ?_
      refine iteT ?_
      refine w_call ?_
      refine w_evA (EvA.cons (Ev.var rfl) (EvA.cons (Ev.var rfl) EvA.nil)) ?_
      obtain ⟨r35, h36, ho25⟩ := bs ho25
      refine use_line S23 (show dStr.rel _ a15.1 (V.str a15.1) from rfl) h33 h36 fun v37 B41 H38  (S39 : Sit _ B41 H38 [(D13, (.lst ac14)), (p_s, o8)]) s40 h42  => ?_
      cases h42
      obtain rfl := Option.some.inj ho25
      exact kk27 _ _ _ S39 s40 ⟨_, rfl, (show dStr.rel _ r35 (V.str r35) from rfl)⟩
    · intro p46 B53 H47 o48 S49 s50 n51 h52
      obtain ⟨B56, S54, s55, h57⟩ : ∃ B', Sit _ B' H47 [(p_s, o8)] ∧ Same _ B' ∧ (dList dStr).rel B' ys44 (.ref p46) := ⟨_, S49.frz (i := 0) rfl n51, S49.frzS (i := 0) rfl, frzL h52 (S49.atB (i := 0) rfl)⟩
      obtain ⟨x58, hx58, hm⟩ := bs hm
      refine q_join (sqL (K := K) h57 S54.sub) hx58 ?_
      refine w_gname ?_
      refine w_nx (σ' := [(some (.ref a_0)), (some (.ref p_s)), (some v3), (some (V.str x58)), none, none, none, none]) rfl ?_
      refine w_seq ?_
      refine w_asg ?_
      refine w_make ?_
      refine w_cons ?_
      refine w_call ?_
      refine w_evA (EvA.cons (Ev.var rfl) EvA.nil) ?_
      obtain ⟨r59, h60, hm⟩ := bs hm
      refine use_copy S54 (Rl.mono _ (s50.tr s55) h10) h60 fun v61 B65 H62  (S63 : Sit _ B65 H62 [(p_s, o8)]) s64 h66  => ?_
      refine w_nil ?_
      obtain ⟨r67, h68, hm⟩ := bs hm
      refine mk_Program___init__ S63 ((subLQ (subP2 subR (subLQ subR))) h66) h68 fun v69 B74 H70 S71 s72 h73 => ?_
      refine w_gname ?_
      refine w_nx (σ' := [(some (.ref a_0)), (some (.ref p_s)), (some v3), (some (V.str x58)), (some v69), none, none, none]) rfl ?_
      refine w_seq ?_
      refine w_ifS ?_
      refine w_test ?_
      refine w_op ?_
      refine x_meth ?_
      refine w_ev (Ev.var rfl) ?_
      refine q_meth h73 S71.sub (by rintro _ ⟨_, _, _, rfl, _⟩; rfl) ?_
      refine w_nil ?_
      obtain ⟨r75, h76, hm⟩ := bs hm
      refine use_Program_text S71 h73 h76 fun v77 B81 H78  (S79 : Sit _ B81 H78 [(p_s, o8)]) s80 h82  => ?_
      cases h82
      refine w_ev (Ev.var rfl) ?_
      refine w_rv rv_neS ?_
      refine w_bl ?_
      refine w_ifb (fun h83 => ?_) (fun h83 => ?_)
      · rw [ifT h83] at hm
        refine w_ret ?_
        refine w_ev Ev.c ?_
        exact retB (Option.some.inj hm) k
      · rw [ifF h83] at hm
        refine w_next ?_
        refine w_seq ?_
        refine w_asg ?_
        refine w_cm ?_
        refine w_ev Ev.c ?_
        refine ⟨rfl, ?_⟩
        refine w_evA (EvA.cons (Ev.var rfl) EvA.nil) ?_
        obtain ⟨r84, h85, hm⟩ := bs hm
        refine use_Program_parse S79 rfl (show dStr.rel _ x58 (V.str x58) from rfl) h85 fun v86 B90 H87  (S88 : Sit _ B90 H87 [(p_s, o8)]) s89 h91  => ?_
        refine w_gname ?_
        refine w_nx (σ' := [(some (.ref a_0)), (some (.ref p_s)), (some v3), (some (V.str x58)), (some v69), (some v86), none, none]) rfl ?_
        refine w_seq ?_
        refine w_ifS ?_
        obtain ⟨c92, hc93, hm⟩ := bs hm
        refine cutT (fun b H' => c92 = b ∧ ∃ (B' : Hp), Sit (Fr.mk B0 H []) B' H' [(p_s, o8)] ∧ Same B90 B') (fun kk94 => ?_) ?_
        · refine w_or ?_
          refine w_evT (EvT.not (EvT.tB (Ev.cb (EvA.cons (Ev.var rfl) (EvA.cons Ev.c EvA.nil)) (isi_o T_Program.ic h91 S88.sub T_Program.ic.me)))) ?_
          refine w_ifb (fun h95 => ?_) (fun h95 => ?_)
          · rw [ifT h95] at hc93
            obtain rfl := Option.some.inj hc93
            exact kk94 _ _ ⟨rfl, _, S88, (Same.rf _)⟩
          · rw [ifF h95] at hc93
            refine w_or ?_
            refine w_not ?_
            refine w_tb ?_
            refine w_call ?_
            refine w_evA (EvA.cons (Ev.var rfl) (EvA.cons (Ev.var rfl) EvA.nil)) ?_
            obtain ⟨r96, h97, hc93⟩ := bs hc93
            refine use_same_program S88 h91 (Rl.mono _ (s50.tr (s55.tr (s64.tr (s72.tr (s80.tr s89))))) h10) h97 fun v98 B102 H99  (S100 : Sit _ B102 H99 [(p_s, o8)]) s101 h103  => ?_
            cases h103
            refine w_bl ?_
            refine w_ifb (fun h104 => ?_) (fun h104 => ?_)
            · rw [ifT h104] at hc93
              obtain rfl := Option.some.inj hc93
              exact kk94 _ _ ⟨rfl, _, S100, s101⟩
            · rw [ifF h104] at hc93
              refine w_test ?_
              refine w_op ?_
              refine x_meth ?_
              refine w_ev (Ev.var rfl) ?_
              refine q_meth (Rl.mono _ s101 h91) S100.sub (by rintro _ ⟨_, _, _, rfl, _⟩; rfl) ?_
              refine w_nil ?_
              obtain ⟨r105, h106, hc93⟩ := bs hc93
              refine use_Program_text S100 (Rl.mono _ s101 h91) h106 fun v107 B111 H108  (S109 : Sit _ B111 H108 [(p_s, o8)]) s110 h112  => ?_
              cases h112
              refine w_ev (Ev.var rfl) ?_
              refine w_rv rv_neS ?_
              refine w_bl ?_
              obtain rfl := Option.some.inj hc93
              exact kk94 _ _ ⟨rfl, _, S109, (s101.tr s110)⟩
        · rintro _ H113 ⟨rfl, B116, S114, s115⟩
          refine w_ifb (fun h117 => ?_) (fun h117 => ?_)
          · rw [ifT h117] at hm
            refine w_ret ?_
            refine w_ev Ev.c ?_
            exact retB (Option.some.inj hm) k
          · rw [ifF h117] at hm
            refine w_next ?_
            refine w_ret ?_
            obtain ⟨c118, hc119, hm⟩ := bs hm
            refine cutE (fun v H' => v = V.bl c118 ∧ ∃ (B' : Hp), Sit (Fr.mk B0 H []) B' H' [(p_s, o8)] ∧ Same B116 B') (fun kk120 => ?_) ?_
            · refine w_andV ?_
              refine w_op ?_
              refine w_ev (Ev.var rfl) ?_
              refine w_ev (Ev.var rfl) ?_
              refine q_cmpO (Rl.mono _ s115 h91) S114.sub (obj_ty T_Program.ic (Rl.mono _ S114.sub (Rl.mono _ (s80.tr (s89.tr s115)) h73))) nf_self ?_
              obtain ⟨r121, h122, hc119⟩ := bs hc119
              refine use_Program___eq__ S114 (Rl.mono _ s115 h91) (Rl.mono _ (s80.tr (s89.tr s115)) h73) h122 fun v123 B127 H124  (S125 : Sit _ B127 H124 [(p_s, o8)]) s126 h128  => ?_
              cases h128
              refine w_bl ?_
              refine w_ifb (fun h129 => ?_) (fun h129 => ?_)
              · rw [ifT h129] at hc119
                refine w_andV ?_
                refine w_op ?_
                refine w_ev (Ev.var rfl) ?_
                refine w_ev (Ev.var rfl) ?_
                refine q_cmpO (Rl.mono _ (s80.tr (s89.tr (s115.tr s126))) h73) S125.sub (obj_ty T_Program.ic (Rl.mono _ S125.sub (Rl.mono _ (s115.tr s126) h91))) nf_self ?_
                obtain ⟨r130, h131, hc119⟩ := bs hc119
                refine use_Program___eq__ S125 (Rl.mono _ (s80.tr (s89.tr (s115.tr s126))) h73) (Rl.mono _ (s115.tr s126) h91) h131 fun v132 B136 H133  (S134 : Sit _ B136 H133 [(p_s, o8)]) s135 h137  => ?_
                cases h137
                refine w_bl ?_
                refine w_ifb (fun h138 => ?_) (fun h138 => ?_)
                · rw [ifT h138] at hc119
                  refine w_op ?_
                  refine x_meth ?_
                  refine w_ev (Ev.var rfl) ?_
                  refine q_meth (Rl.mono _ (s80.tr (s89.tr (s115.tr (s126.tr s135)))) h73) S134.sub (by rintro _ ⟨_, _, _, rfl, _⟩; rfl) ?_
                  refine w_nil ?_
                  obtain ⟨r139, h140, hc119⟩ := bs hc119
                  refine use_Program_text S134 (Rl.mono _ (s80.tr (s89.tr (s115.tr (s126.tr s135)))) h73) h140 fun v141 B145 H142  (S143 : Sit _ B145 H142 [(p_s, o8)]) s144 h146  => ?_
                  cases h146
                  refine w_ev (Ev.var rfl) ?_
                  refine w_rv rv_eqS ?_
                  obtain rfl := Option.some.inj hc119
                  exact kk120 _ _ ⟨rfl, _, S143, (s126.tr (s135.tr s144))⟩
                · rw [ifF h138] at hc119
                  obtain rfl := Option.some.inj hc119
                  exact kk120 _ _ ⟨rfl, _, S134, (s126.tr s135)⟩
              · rw [ifF h129] at hc119
                obtain rfl := Option.some.inj hc119
                exact kk120 _ _ ⟨rfl, _, S125, s126⟩
            · rintro _ H147 ⟨rfl, B150, S148, s149⟩
              exact retB (Option.some.inj hm) k
end
end Mm
namespace Mm
open PySem L2 Mf

theorem row_ly {ns : List Str} {ss : List Stp} (h : ∀ s ∈ ss, GoodStp ns s) : Ly 2 (dRowT ss) := Ly.mapT fun s hs => Ly.t2 (Ly.str (kinds_ok (h s hs).1)) (Ly.str (h s hs).2.1.ok)
theorem good_row {ps : List Prc} (hg : Good ps) {p : Prc} (h : p ∈ ps) : Ly 2 (dRowT p.2) := row_ly (hg.step p h)
theorem len_eq (ps : List Prc) : m_Program___len__ (pgO ps) = some (ps.length : Int) := by
  unfold m_Program___len__ pgO nms
  simp
theorem same_eq {ps : List Prc} (hg : Good ps) : m_same_program (pgO ps) ps = some true := by
  refine Wp.eq ?_
  unfold m_same_program
  have h16 := hg.few
  have enm : (ps.map fun (a : Str × List (Str × Str)) => a.1) = nms ps := rfl
  rw [enm]
  refine Wp.go (lcM_mapE (bodyOf ps) fun x hx => ?_) ?_
  · have hb := body_of hg hx
    have := get_eq hg hb.2
    simp only at this
    rw [this]
    rfl
  have eb : (nms ps).map (bodyOf ps) = ps.map fun (a : Str × List (Str × Str)) => a.2 := by
    unfold nms
    rw [List.map_map]
    refine List.map_congr_left fun p hp => ?_
    show bodyOf ps p.1 = p.2
    unfold bodyOf
    rw [dGet_mem hg.nd hp]
    rfl
  rw [eb]
  refine Wp.bind (P := fun c => c = false) ?_ fun c hc => ?_
  · refine Wp.no rfl (Wp.no rfl (Wp.go (len_eq ps) (Wp.go (natM_eq (by omega)) (Wp.some ?_))))
    unfold nms
    simp
  subst hc
  refine Wp.no rfl (Wp.no (by simp) ?_)
  have e1 : (pgO ps).1 = nms ps := rfl
  have e2 : (pgO ps).2.2 = places ps := rfl
  refine Wp.bind (P := fun c => c = false) ?_ fun c hc => ?_
  · rw [e1, e2]
    refine Wp.go (eqD_self (strsT_ly hg.oks) (by decide)) (Wp.no rfl (Wp.go (m_places_eq hg) (Wp.go (eqD_self (strsT_ly (places_oks hg)) (by decide)) (Wp.some rfl))))
  subst hc
  refine Wp.no rfl (Wp.go (eqD_self (n := 3) ?_ (by decide)) (Wp.some rfl))
  refine Ly.mapL fun b hb => ?_
  obtain ⟨p, hp, rfl⟩ := List.mem_map.mp hb
  exact good_row hg hp
open TL in
theorem sign_facts : tl (Str.ofString ":") = [58] ∧ tl (Str.ofString " ") = [32] ∧ tl (Str.ofString ", ") = [44, 32] ∧ tl (Str.ofString "\n") = [10] ∧ Str.ofString ": " = Str.ofString ":" ++ Str.ofString " " ∧ Str.ofString "" = Str.empty := by decide +kernel
theorem all256 : (Str.ofString ":").cps.all (· < 256) = true ∧ (Str.ofString " ").cps.all (· < 256) = true ∧ (Str.ofString ", ").cps.all (· < 256) = true ∧ (Str.ofString "\n").cps.all (· < 256) = true := by decide +kernel
theorem kind_signs : ∀ k ∈ kinds, ∀ c ∈ TL.tl k, 97 ≤ c ∧ c ≤ 122 := by decide +kernel
open TL in
theorem stp_signs {ns : List Str} {s : Stp} (h : GoodStp ns s) {c : Nat} (hc : c ∈ tl (stpTxt s)) : c = 32 ∨ (97 ≤ c ∧ c ≤ 122) := by
  unfold stpTxt at hc
  rw [tl_append, tl_append, sign_facts.2.1] at hc
  rcases List.mem_append.mp hc with q | q
  · rcases List.mem_append.mp q with q | q
    · exact .inr (kind_signs _ h.1 c q)
    · exact .inl (List.mem_singleton.mp q)
  · exact .inr (name_sign h.2.1 q)
open TL in
theorem joinL_signs {S : List Nat} {P : Nat → Prop} (hS : ∀ c ∈ S, P c) : ∀ {ps : List (List Nat)}, (∀ p ∈ ps, ∀ c ∈ p, P c) → ∀ c ∈ joinL S ps, P c
  | [], _, c, hc => by cases hc
  | [p], h, c, hc => h p (List.mem_singleton.mpr rfl) c hc
  | p :: q :: r, h, c, hc => by
    have hc : c ∈ p ++ (S ++ joinL S (q :: r)) := hc
    rcases List.mem_append.mp hc with z | z
    · exact h p List.mem_cons_self c z
    · rcases List.mem_append.mp z with z | z
      · exact hS c z
      · exact joinL_signs hS (fun p hp => h p (List.mem_cons_of_mem _ hp)) c z
open TL in
theorem steps_signs {ns : List Str} {b : List Stp} (h : ∀ s ∈ b, GoodStp ns s) {c : Nat} (hc : c ∈ tl (Txt.join (Str.ofString ", ") (b.map stpTxt))) : c = 32 ∨ c = 44 ∨ (97 ≤ c ∧ c ≤ 122) := by
  rw [join_eq, tl_join] at hc
  refine joinL_signs (P := fun c => c = 32 ∨ c = 44 ∨ (97 ≤ c ∧ c ≤ 122)) (fun c hc => ?_) (fun p hp c hc => ?_) c hc
  · rw [sign_facts.2.2.1] at hc
    simp only [List.mem_cons, List.not_mem_nil, or_false] at hc
    omega
  · obtain ⟨z, hz, rfl⟩ := List.mem_map.mp hp
    obtain ⟨s, hs, rfl⟩ := List.mem_map.mp hz
    rcases stp_signs (h s hs) hc with q | q
    · exact .inl q
    · exact .inr (.inr q)
/-- the rest of a line, behind the colon -/
def restOf (b : List Stp) : Str := if b = [] then Str.empty else Str.ofString " " ++ Txt.join (Str.ofString ", ") (b.map stpTxt)
theorem line_form (p : Prc) : lineOf p = p.1 ++ Str.ofString ":" ++ restOf p.2 := by
  unfold lineOf restOf
  by_cases c : p.2 = []
  · rw [if_pos c, if_pos c, app_empty]
  · rw [if_neg c, if_neg c, sign_facts.2.2.2.2.1, app_assoc, app_assoc, app_assoc]
open TL in
theorem piece_split {ns : List Str} {s : Stp} (h : GoodStp ns s) : splitM (stpTxt s) (Str.ofString " ") = some [s.1, s.2] := by
  have e : stpTxt s = Txt.join (Str.ofString " ") [s.1, s.2] := by rw [join_eq]; rfl
  have hl := stpTxt_len h
  rw [e] at hl ⊢
  refine splitM_join sign_facts.2.1 all256.2.1 (by simp) (fun p hp hm => ?_) (by omega) (by simp)
  simp only [List.mem_cons, List.not_mem_nil, or_false] at hp
  rcases hp with rfl | rfl
  · have := kind_signs _ h.1 _ hm; omega
  · have := name_sign h.2.1 hm; omega
open TL in
theorem parse_line_eq {ns : List Str} {p : Prc} (hn : IsName p.1) (hl : p.2.length ≤ 12) (hs : ∀ s ∈ p.2, GoodStp ns s) : m_parse_line (lineOf p) = some p := by
  refine Wp.eq ?_
  have hll := lineOf_len hn hl hs
  have hfree : 58 ∉ tl p.1 := fun hm => by have := name_sign hn hm; omega
  rw [line_form] at hll ⊢
  unfold m_parse_line
  refine Wp.go (partM_app sign_facts.1 hfree (by omega)) ?_
  have hc : ¬ Str.ofString ":" = Str.ofString "" := by decide +kernel
  refine Wp.no (decide_eq_false hc) ?_
  by_cases c : p.2 = []
  · refine Wp.yes (decide_eq_true ?_) (Wp.some ?_)
    · unfold restOf
      rw [if_pos c]
      exact sign_facts.2.2.2.2.2.symm
    · rw [← c]
  · have er : restOf p.2 = Str.ofString " " ++ Txt.join (Str.ofString ", ") (p.2.map stpTxt) := by unfold restOf; rw [if_neg c]
    have hne : ¬ restOf p.2 = Str.ofString "" := fun z => by
      have := congrArg tl z
      rw [er, tl_append, sign_facts.2.1, sign_facts.2.2.2.2.2] at this
      cases this
    refine Wp.no (decide_eq_false hne) ?_
    simp only
    rw [er]
    have hsw : Txt.startswith (Str.ofString " " ++ Txt.join (Str.ofString ", ") (p.2.map stpTxt)) (Str.ofString " ") = true := sw_app (by rw [sign_facts.2.1]; simp)
    rw [hsw]
    refine Wp.no rfl ?_
    have hjl : (Txt.join (Str.ofString ", ") (p.2.map stpTxt)).length ≤ 200 := by
      rw [er, len_app, len_app, len_app] at hll
      omega
    refine Wp.go (cutM_eq (by rw [len_app]; have : (Str.ofString " ").length = 1 := by decide +kernel
                              omega)) ?_
    rw [cut1_app (by rw [sign_facts.2.1]; rfl)]
    refine Wp.go (splitM_join sign_facts.2.2.1 all256.2.2.1 (by simp [c]) (fun q hq hm => ?_) (by omega) (by simp; omega)) ?_
    · obtain ⟨s, hs', rfl⟩ := List.mem_map.mp hq
      rcases stp_signs (hs s hs') hm with z | z <;> omega
    refine Wp.bind (P := fun z => z = .nx p.2) (wp_forC (fun i (st : List Stp) => st = p.2.take i) rfl ?_ ?_) ?_
    · rintro i a st ha rfl
      rw [List.getElem?_map] at ha
      cases e : p.2[i]? with
      | none => rw [e] at ha; cases ha
      | some s =>
        rw [e] at ha
        cases ha
        have hi := (List.getElem?_eq_some_iff.mp e).1
        refine Wp.go (piece_split (hs s (List.mem_of_getElem? e))) (Wp.no (by simp) (Wp.go (a := s.1) rfl (Wp.go (a := s.2) rfl (Wp.go (pushM_eq (by simp; omega)) (Wp.some ?_)))))
        rw [take_next e]
    · rintro st rfl
      rw [List.length_map, List.take_length]
    · rintro _ rfl
      exact Wp.some rfl
open TL in
theorem line_signs {ns : List Str} {p : Prc} (hn : IsName p.1) (hs : ∀ s ∈ p.2, GoodStp ns s) {c : Nat} (hc : c ∈ tl (lineOf p)) : c ≠ 10 := by
  rw [line_form, tl_append, tl_append, sign_facts.1] at hc
  rcases List.mem_append.mp hc with q | q
  · rcases List.mem_append.mp q with q | q
    · have := name_sign hn q; omega
    · have := List.mem_singleton.mp q; omega
  · unfold restOf at q
    split at q
    · cases q
    · rw [tl_append, sign_facts.2.1] at q
      rcases List.mem_append.mp q with q | q
      · have := List.mem_singleton.mp q; omega
      · rcases steps_signs hs q with z | z | z <;> omega
theorem lcM_parse {ps : List Prc} (hg : Good ps) : lcM (fun (a13 : Str) => (m_parse_line (a13)).bind fun r28 => some (some r28)) (ps.map lineOf) = some ps := by
  have gen : ∀ qs : List Prc, (∀ p ∈ qs, p ∈ ps) → lcM (fun (a13 : Str) => (m_parse_line (a13)).bind fun r28 => some (some r28)) (qs.map lineOf) = some qs := by
    intro qs
    induction qs with
    | nil => intro _; rfl
    | cons q qs ih =>
      intro h
      have hm := h q List.mem_cons_self
      rw [List.map_cons]
      unfold lcM
      rw [parse_line_eq (hg.name q hm) (hg.short q hm) (hg.step q hm), Option.bind_some, Option.bind_some, ih fun p hp => h p (List.mem_cons_of_mem _ hp)]
      rfl
  exact gen ps fun _ h => h
theorem text_len {ps : List Prc} (hg : Good ps) : (textOf ps).length < 10000 := by
  have hb : ∀ z ∈ ps.map lineOf, z.length ≤ 200 := fun z hz => by
    obtain ⟨p, h, rfl⟩ := List.mem_map.mp hz
    exact lineOf_len (hg.name p h) (hg.short p h) (hg.step p h)
  have := join_len (y := Str.ofString "\n") hb
  have h16 := hg.few
  have e1 : (Str.ofString "\n").length = 1 := by decide +kernel
  rw [List.length_map, e1] at this
  unfold textOf
  omega
theorem parse_eq {ps : List Prc} (hg : Good ps) : m_Program_parse () (textOf ps) = some (pgO ps) := by
  unfold m_Program_parse
  have h16 := hg.few
  have e : splitM (textOf ps) (Str.ofString "\n") = some (ps.map lineOf) := splitM_join sign_facts.2.2.2.1 all256.2.2.2 (by have := hg.pos; intro z; rw [List.map_eq_nil_iff] at z; rw [z] at this; cases this) (fun q hq hm => by
    obtain ⟨p, hp, rfl⟩ := List.mem_map.mp hq
    exact line_signs (hg.name p hp) (hg.step p hp) hm rfl) (by have := text_len hg; unfold textOf at this; omega) (by simp; omega)
  rw [e, Option.bind_some, lcM_parse hg, Option.bind_some, pinit hg]
  rfl
theorem law_line_eq {ns : List Str} {p : Prc} (hn : IsName p.1) (hl : p.2.length ≤ 12) (hs : ∀ s ∈ p.2, GoodStp ns s) : m_line p.1 p.2 = some (lineOf p) := by
  obtain ⟨l1, l2, l3, l4, _⟩ := ofS_len1
  have hn8 := hn.2.1
  unfold m_line lineOf
  by_cases c : p.2 = []
  · rw [c, if_pos (by simp), if_pos rfl, addS_eq (by omega)]
    rfl
  · rw [if_neg (by simp [c]), if_neg c, addS_eq (by omega), Option.bind_some]
    have e1 : lcM (fun (a9 : (Str × Str)) => (addS a9.1 (Str.ofString " ")).bind fun x29 => (addS x29 a9.2).bind fun x30 => some (some x30)) p.2 = some (p.2.map stpTxt) := by
      refine lcM_mapE stpTxt fun s h => ?_
      have gs := hs s h
      have k1 := kinds_len gs.1
      have k2 := gs.2.1.2.1
      rw [addS_eq (by omega), Option.bind_some, addS_eq (by rw [Str.length_append]; omega)]
      rfl
    rw [e1, Option.bind_some]
    have hb : ∀ z ∈ p.2.map stpTxt, z.length ≤ 13 := fun z hz => by
      obtain ⟨s, h, rfl⟩ := List.mem_map.mp hz
      exact stpTxt_len (hs s h)
    have hj : joinM (Str.ofString ", ") (p.2.map stpTxt) = some (Txt.join (Str.ofString ", ") (p.2.map stpTxt)) := by
      unfold joinM
      have := sum_len hb
      rw [List.length_map] at this ⊢
      rw [if_pos (by rw [l4]; omega)]
    have hjl := join_len (y := Str.ofString ", ") hb
    rw [List.length_map, l4] at hjl
    rw [hj, Option.bind_some, addS_eq (by rw [Str.length_append]; omega)]
    rfl
theorem law_pure : ∀ s : Src3, s.ok 0 → m_law s = some true := by
  intro s ok
  refine Wp.eq ?_
  unfold m_law
  refine (any_program_wp ok (by decide)).bind fun u hu => ?_
  obtain ⟨ps, s1⟩ := u
  obtain ⟨hg, _, ok1⟩ := hu
  simp only at hg ok1 ⊢
  have h16 := hg.few
  refine Wp.go (a := ps.map lineOf) ?_ ?_
  · exact lcM_mapE lineOf fun p hp => by rw [law_line_eq (hg.name p hp) (hg.short p hp) (hg.step p hp)]; rfl
  have hj : joinM (Str.ofString "\n") (ps.map lineOf) = some (textOf ps) := by
    have hb : ∀ z ∈ ps.map lineOf, z.length ≤ 200 := fun z hz => by
      obtain ⟨p, h, rfl⟩ := List.mem_map.mp hz
      exact lineOf_len (hg.name p h) (hg.short p h) (hg.step p h)
    unfold joinM
    have := sum_len hb
    rw [List.length_map] at this ⊢
    rw [if_pos (by rw [ofS_len1.2.2.2.2]; omega)]
    rfl
  refine Wp.go hj (Wp.go (copy_eq ps) (Wp.go (pinit hg) (Wp.go (text_eq hg) (Wp.no (by simp) (Wp.go (parse_eq hg) ?_)))))
  refine Wp.go (a := false) ?_ (Wp.no rfl ?_)
  · rw [if_neg (by simp), same_eq hg, Option.bind_some, if_neg (by simp), text_eq hg]
    simp
  · have e := pgEq hg hg
    rw [decide_eq_true rfl] at e
    refine Wp.go (a := true) ?_ (Wp.some rfl)
    rw [e, Option.bind_some, if_pos rfl, Option.bind_some, if_pos rfl, text_eq hg]
    simp
end Mm
namespace Mm
open PySem L2 Mf
theorem all_mk {l : PySem.W.OpenLaw} {w : World} {K : PySem.W.Frag} {h : Heap} {mg : Str → Option Value} {fa : Addr} (X : K.In h) (G : h.Ns mainGlobals mg) (hfa : mg "law" = some (.ref fa))
    {A_KINDS : Addr} {dd_KINDS : Option Addr} {nn_KINDS : Nat} {ss_KINDS : Array (Option Value)} {tk0_KINDS tk1_KINDS tk2_KINDS tk3_KINDS : Tok}
    {t_LETTERS : Tok}
    {t_MOST_PROCEDURES : Tok}
    {t_MOST_STEPS : Tok}
    {C_Program : Addr}
    {f_source : Addr} {od_source an_source : Option Addr} {sl_source : Array (Option Value)} {oc_source kV_source dc_source pm_source cd_source ct_source : Value}
    {f_draw : Addr} {od_draw an_draw : Option Addr} {sl_draw : Array (Option Value)} {oc_draw kV_draw dc_draw pm_draw cd_draw ct_draw : Value}
    {f_name : Addr} {od_name an_name : Option Addr} {sl_name : Array (Option Value)} {oc_name kV_name dc_name pm_name cd_name ct_name : Value}
    {f_names : Addr} {od_names an_names : Option Addr} {sl_names : Array (Option Value)} {oc_names kV_names dc_names pm_names cd_names ct_names : Value}
    {f_step : Addr} {od_step an_step : Option Addr} {sl_step : Array (Option Value)} {oc_step kV_step dc_step pm_step cd_step ct_step : Value}
    {f_copy : Addr} {od_copy an_copy : Option Addr} {sl_copy : Array (Option Value)} {oc_copy kV_copy dc_copy pm_copy cd_copy ct_copy : Value}
    {f_places : Addr} {od_places an_places : Option Addr} {sl_places : Array (Option Value)} {oc_places kV_places dc_places pm_places cd_places ct_places : Value}
    {f_program : Addr} {od_program an_program : Option Addr} {sl_program : Array (Option Value)} {oc_program kV_program dc_program pm_program cd_program ct_program : Value}
    {f_any_program : Addr} {od_any_program an_any_program : Option Addr} {sl_any_program : Array (Option Value)} {oc_any_program kV_any_program dc_any_program pm_any_program cd_any_program ct_any_program : Value}
    {f_is_name : Addr} {od_is_name an_is_name : Option Addr} {sl_is_name : Array (Option Value)} {oc_is_name kV_is_name dc_is_name pm_is_name cd_is_name ct_is_name : Value}
    {f_is_step : Addr} {od_is_step an_is_step : Option Addr} {sl_is_step : Array (Option Value)} {oc_is_step kV_is_step dc_is_step pm_is_step cd_is_step ct_is_step : Value}
    {f_invalid_line : Addr} {od_invalid_line an_invalid_line : Option Addr} {sl_invalid_line : Array (Option Value)} {oc_invalid_line kV_invalid_line dc_invalid_line pm_invalid_line cd_invalid_line ct_invalid_line : Value}
    {f_line_text : Addr} {od_line_text an_line_text : Option Addr} {sl_line_text : Array (Option Value)} {oc_line_text kV_line_text dc_line_text pm_line_text cd_line_text ct_line_text : Value}
    {f_Program___getitem__ : Addr} {od_Program___getitem__ an_Program___getitem__ : Option Addr} {sl_Program___getitem__ : Array (Option Value)} {oc_Program___getitem__ kV_Program___getitem__ dc_Program___getitem__ pm_Program___getitem__ cd_Program___getitem__ ct_Program___getitem__ : Value}
    {f_Program___len__ : Addr} {od_Program___len__ an_Program___len__ : Option Addr} {sl_Program___len__ : Array (Option Value)} {oc_Program___len__ kV_Program___len__ dc_Program___len__ pm_Program___len__ cd_Program___len__ ct_Program___len__ : Value}
    {f_parse_line : Addr} {od_parse_line an_parse_line : Option Addr} {sl_parse_line : Array (Option Value)} {oc_parse_line kV_parse_line dc_parse_line pm_parse_line cd_parse_line ct_parse_line : Value}
    {f_Program_text : Addr} {od_Program_text an_Program_text : Option Addr} {sl_Program_text : Array (Option Value)} {oc_Program_text kV_Program_text dc_Program_text pm_Program_text cd_Program_text ct_Program_text : Value}
    {f_Program___eq__ : Addr} {od_Program___eq__ an_Program___eq__ : Option Addr} {sl_Program___eq__ : Array (Option Value)} {oc_Program___eq__ kV_Program___eq__ dc_Program___eq__ pm_Program___eq__ cd_Program___eq__ ct_Program___eq__ : Value}
    {f_Program___init__ : Addr} {od_Program___init__ an_Program___init__ : Option Addr} {sl_Program___init__ : Array (Option Value)} {oc_Program___init__ kV_Program___init__ dc_Program___init__ pm_Program___init__ cd_Program___init__ ct_Program___init__ : Value}
    {f_Program_parse : Addr} {od_Program_parse an_Program_parse : Option Addr} {sl_Program_parse : Array (Option Value)} {oc_Program_parse kV_Program_parse dc_Program_parse pm_Program_parse cd_Program_parse ct_Program_parse : Value}
    {q_Program_parse : Addr} {rr_Program_parse : List Value}
    {f_line : Addr} {od_line an_line : Option Addr} {sl_line : Array (Option Value)} {oc_line kV_line dc_line pm_line cd_line ct_line : Value}
    {f_same_program : Addr} {od_same_program an_same_program : Option Addr} {sl_same_program : Array (Option Value)} {oc_same_program kV_same_program dc_same_program pm_same_program cd_same_program ct_same_program : Value}
    {f_law : Addr} {od_law an_law : Option Addr} {sl_law : Array (Option Value)} {oc_law kV_law dc_law pm_law cd_law ct_law : Value}
    (z_all : PySem.W.nsIn K mainGlobals "all" = some none)
    (z_enumerate : PySem.W.nsIn K mainGlobals "enumerate" = some none)
    (z_int : PySem.W.nsIn K mainGlobals "int" = some none)
    (z_isinstance : PySem.W.nsIn K mainGlobals "isinstance" = some none)
    (z_len : PySem.W.nsIn K mainGlobals "len" = some none)
    (z_list : PySem.W.nsIn K mainGlobals "list" = some none)
    (z_range : PySem.W.nsIn K mainGlobals "range" = some none)
    (z_sorted : PySem.W.nsIn K mainGlobals "sorted" = some none)
    (z_str : PySem.W.nsIn K mainGlobals "str" = some none)
    (z_tuple : PySem.W.nsIn K mainGlobals "tuple" = some none)
    (ga_KINDS : PySem.W.nsIn K mainGlobals "KINDS" = some (some (.ref A_KINDS)))
    (gl_KINDS : K.lookup A_KINDS = some ⟨.type "tuple", dd_KINDS, .seq [Value.str (Str.ofString "read") tk0_KINDS, Value.str (Str.ofString "say") tk1_KINDS, Value.str (Str.ofString "call") tk2_KINDS, Value.str (Str.ofString "try") tk3_KINDS].toArray nn_KINDS, ss_KINDS⟩)
    (ga_LETTERS : PySem.W.nsIn K mainGlobals "LETTERS" = some (some (.str "abcdefghijklmnopqrstuvwxyz" t_LETTERS)))
    (ga_MOST_PROCEDURES : PySem.W.nsIn K mainGlobals "MOST_PROCEDURES" = some (some (.int 16 t_MOST_PROCEDURES)))
    (ga_MOST_STEPS : PySem.W.nsIn K mainGlobals "MOST_STEPS" = some (some (.int 12 t_MOST_STEPS)))
    (cA_Program : PySem.W.nsIn K mainGlobals "Program" = some (some (.ref C_Program)))
    (pg_Program : PySem.W.plainGet K C_Program Str.empty = true)
    (hd_Program : PySem.W.hasDictIn K C_Program = true)
    (po_Program : PySem.W.plainOver K C_Program = true)
    (sa_Program : PySem.W.findIn K (.ref C_Program) "__setattr__" = some (some (.builtin "object.__setattr__")))
    (ha_Program : PySem.W.findIn K (.ref C_Program) "__class__" = some (some (.builtin "object.__class__")))
    (hn_Program : PySem.W.specialIn K (.builtin "object.__class__") "__get__" = some (some (.builtin "getset_descriptor.__get__")))
    (ht_Program : PySem.W.takesIn K (.builtin "object.__class__") = some true)
    (hm_Program : PySem.W.mroIn K C_Program (.type "object") = some true)
    (sf_Program : PySem.W.selfFirst K C_Program = true)
    (ne_Program : PySem.W.findIn K (.ref C_Program) "__ne__" = some (some (.builtin "object.__ne__")))
    (nA_Program_bodies : PySem.W.findIn K (.ref C_Program) "bodies" = some none)
    (nA_Program_names : PySem.W.findIn K (.ref C_Program) "names" = some none)
    (nA_Program_places : PySem.W.findIn K (.ref C_Program) "places" = some none)
    (a_source : PySem.W.nsIn K mainGlobals "_law_source" = some (some (.ref f_source)))
    (l_source : K.lookup f_source = some ⟨oc_source, od_source, .func (PySem.W.fnOf "_law_source" "_law_source" (defArgs s_source) (defBody s_source) (defScope s_source) .none kV_source dc_source pm_source an_source cd_source ct_source), sl_source⟩)
    (c_source : PySem.W.codeIn K cd_source "_law_source" = true)
    (k_source : PySem.W.keepIn K (.ref f_source) = true)
    (a_draw : PySem.W.nsIn K mainGlobals "_law_draw" = some (some (.ref f_draw)))
    (l_draw : K.lookup f_draw = some ⟨oc_draw, od_draw, .func (PySem.W.fnOf "_law_draw" "_law_draw" (defArgs s_draw) (defBody s_draw) (defScope s_draw) .none kV_draw dc_draw pm_draw an_draw cd_draw ct_draw), sl_draw⟩)
    (c_draw : PySem.W.codeIn K cd_draw "_law_draw" = true)
    (k_draw : PySem.W.keepIn K (.ref f_draw) = true)
    (a_name : PySem.W.nsIn K mainGlobals "_law_name" = some (some (.ref f_name)))
    (l_name : K.lookup f_name = some ⟨oc_name, od_name, .func (PySem.W.fnOf "_law_name" "_law_name" (defArgs s_name) (defBody s_name) (defScope s_name) .none kV_name dc_name pm_name an_name cd_name ct_name), sl_name⟩)
    (c_name : PySem.W.codeIn K cd_name "_law_name" = true)
    (k_name : PySem.W.keepIn K (.ref f_name) = true)
    (a_names : PySem.W.nsIn K mainGlobals "_law_names" = some (some (.ref f_names)))
    (l_names : K.lookup f_names = some ⟨oc_names, od_names, .func (PySem.W.fnOf "_law_names" "_law_names" (defArgs s_names) (defBody s_names) (defScope s_names) .none kV_names dc_names pm_names an_names cd_names ct_names), sl_names⟩)
    (c_names : PySem.W.codeIn K cd_names "_law_names" = true)
    (k_names : PySem.W.keepIn K (.ref f_names) = true)
    (a_step : PySem.W.nsIn K mainGlobals "_law_step" = some (some (.ref f_step)))
    (l_step : K.lookup f_step = some ⟨oc_step, od_step, .func (PySem.W.fnOf "_law_step" "_law_step" (defArgs s_step) (defBody s_step) (defScope s_step) .none kV_step dc_step pm_step an_step cd_step ct_step), sl_step⟩)
    (c_step : PySem.W.codeIn K cd_step "_law_step" = true)
    (k_step : PySem.W.keepIn K (.ref f_step) = true)
    (a_copy : PySem.W.nsIn K mainGlobals "_law_copy" = some (some (.ref f_copy)))
    (l_copy : K.lookup f_copy = some ⟨oc_copy, od_copy, .func (PySem.W.fnOf "_law_copy" "_law_copy" (defArgs s_copy) (defBody s_copy) (defScope s_copy) .none kV_copy dc_copy pm_copy an_copy cd_copy ct_copy), sl_copy⟩)
    (c_copy : PySem.W.codeIn K cd_copy "_law_copy" = true)
    (k_copy : PySem.W.keepIn K (.ref f_copy) = true)
    (a_places : PySem.W.nsIn K mainGlobals "_law_places" = some (some (.ref f_places)))
    (l_places : K.lookup f_places = some ⟨oc_places, od_places, .func (PySem.W.fnOf "_law_places" "_law_places" (defArgs s_places) (defBody s_places) (defScope s_places) .none kV_places dc_places pm_places an_places cd_places ct_places), sl_places⟩)
    (c_places : PySem.W.codeIn K cd_places "_law_places" = true)
    (k_places : PySem.W.keepIn K (.ref f_places) = true)
    (a_program : PySem.W.nsIn K mainGlobals "_law_program" = some (some (.ref f_program)))
    (l_program : K.lookup f_program = some ⟨oc_program, od_program, .func (PySem.W.fnOf "_law_program" "_law_program" (defArgs s_program) (defBody s_program) (defScope s_program) .none kV_program dc_program pm_program an_program cd_program ct_program), sl_program⟩)
    (c_program : PySem.W.codeIn K cd_program "_law_program" = true)
    (k_program : PySem.W.keepIn K (.ref f_program) = true)
    (a_any_program : PySem.W.nsIn K mainGlobals "_law_any_program" = some (some (.ref f_any_program)))
    (l_any_program : K.lookup f_any_program = some ⟨oc_any_program, od_any_program, .func (PySem.W.fnOf "_law_any_program" "_law_any_program" (defArgs s_any_program) (defBody s_any_program) (defScope s_any_program) .none kV_any_program dc_any_program pm_any_program an_any_program cd_any_program ct_any_program), sl_any_program⟩)
    (c_any_program : PySem.W.codeIn K cd_any_program "_law_any_program" = true)
    (k_any_program : PySem.W.keepIn K (.ref f_any_program) = true)
    (a_is_name : PySem.W.nsIn K mainGlobals "is_name" = some (some (.ref f_is_name)))
    (l_is_name : K.lookup f_is_name = some ⟨oc_is_name, od_is_name, .func (PySem.W.fnOf "is_name" "is_name" (defArgs s_is_name) (defBody s_is_name) (defScope s_is_name) .none kV_is_name dc_is_name pm_is_name an_is_name cd_is_name ct_is_name), sl_is_name⟩)
    (c_is_name : PySem.W.codeIn K cd_is_name "is_name" = true)
    (k_is_name : PySem.W.keepIn K (.ref f_is_name) = true)
    (a_is_step : PySem.W.nsIn K mainGlobals "is_step" = some (some (.ref f_is_step)))
    (l_is_step : K.lookup f_is_step = some ⟨oc_is_step, od_is_step, .func (PySem.W.fnOf "is_step" "is_step" (defArgs s_is_step) (defBody s_is_step) (defScope s_is_step) .none kV_is_step dc_is_step pm_is_step an_is_step cd_is_step ct_is_step), sl_is_step⟩)
    (c_is_step : PySem.W.codeIn K cd_is_step "is_step" = true)
    (k_is_step : PySem.W.keepIn K (.ref f_is_step) = true)
    (a_invalid_line : PySem.W.nsIn K mainGlobals "invalid_line" = some (some (.ref f_invalid_line)))
    (l_invalid_line : K.lookup f_invalid_line = some ⟨oc_invalid_line, od_invalid_line, .func (PySem.W.fnOf "invalid_line" "invalid_line" (defArgs s_invalid_line) (defBody s_invalid_line) (defScope s_invalid_line) .none kV_invalid_line dc_invalid_line pm_invalid_line an_invalid_line cd_invalid_line ct_invalid_line), sl_invalid_line⟩)
    (c_invalid_line : PySem.W.codeIn K cd_invalid_line "invalid_line" = true)
    (k_invalid_line : PySem.W.keepIn K (.ref f_invalid_line) = true)
    (a_line_text : PySem.W.nsIn K mainGlobals "line_text" = some (some (.ref f_line_text)))
    (l_line_text : K.lookup f_line_text = some ⟨oc_line_text, od_line_text, .func (PySem.W.fnOf "line_text" "line_text" (defArgs s_line_text) (defBody s_line_text) (defScope s_line_text) .none kV_line_text dc_line_text pm_line_text an_line_text cd_line_text ct_line_text), sl_line_text⟩)
    (c_line_text : PySem.W.codeIn K cd_line_text "line_text" = true)
    (k_line_text : PySem.W.keepIn K (.ref f_line_text) = true)
    (a_Program___getitem__ : PySem.W.findIn K (.ref C_Program) "__getitem__" = some (some (.ref f_Program___getitem__)))
    (i_Program___getitem__ : PySem.W.isFn K (.ref f_Program___getitem__) = true)
    (l_Program___getitem__ : K.lookup f_Program___getitem__ = some ⟨oc_Program___getitem__, od_Program___getitem__, .func (PySem.W.fnOf "__getitem__" "Program.__getitem__" (defArgs s_Program___getitem__) (defBody s_Program___getitem__) (defScope s_Program___getitem__) .none kV_Program___getitem__ dc_Program___getitem__ pm_Program___getitem__ an_Program___getitem__ cd_Program___getitem__ ct_Program___getitem__), sl_Program___getitem__⟩)
    (c_Program___getitem__ : PySem.W.codeIn K cd_Program___getitem__ "Program.__getitem__" = true)
    (k_Program___getitem__ : PySem.W.keepIn K (.ref f_Program___getitem__) = true)
    (a_Program___len__ : PySem.W.findIn K (.ref C_Program) "__len__" = some (some (.ref f_Program___len__)))
    (i_Program___len__ : PySem.W.isFn K (.ref f_Program___len__) = true)
    (l_Program___len__ : K.lookup f_Program___len__ = some ⟨oc_Program___len__, od_Program___len__, .func (PySem.W.fnOf "__len__" "Program.__len__" (defArgs s_Program___len__) (defBody s_Program___len__) (defScope s_Program___len__) .none kV_Program___len__ dc_Program___len__ pm_Program___len__ an_Program___len__ cd_Program___len__ ct_Program___len__), sl_Program___len__⟩)
    (c_Program___len__ : PySem.W.codeIn K cd_Program___len__ "Program.__len__" = true)
    (k_Program___len__ : PySem.W.keepIn K (.ref f_Program___len__) = true)
    (a_parse_line : PySem.W.nsIn K mainGlobals "parse_line" = some (some (.ref f_parse_line)))
    (l_parse_line : K.lookup f_parse_line = some ⟨oc_parse_line, od_parse_line, .func (PySem.W.fnOf "parse_line" "parse_line" (defArgs s_parse_line) (defBody s_parse_line) (defScope s_parse_line) .none kV_parse_line dc_parse_line pm_parse_line an_parse_line cd_parse_line ct_parse_line), sl_parse_line⟩)
    (c_parse_line : PySem.W.codeIn K cd_parse_line "parse_line" = true)
    (k_parse_line : PySem.W.keepIn K (.ref f_parse_line) = true)
    (a_Program_text : PySem.W.findIn K (.ref C_Program) "text" = some (some (.ref f_Program_text)))
    (i_Program_text : PySem.W.isFn K (.ref f_Program_text) = true)
    (l_Program_text : K.lookup f_Program_text = some ⟨oc_Program_text, od_Program_text, .func (PySem.W.fnOf "text" "Program.text" (defArgs s_Program_text) (defBody s_Program_text) (defScope s_Program_text) .none kV_Program_text dc_Program_text pm_Program_text an_Program_text cd_Program_text ct_Program_text), sl_Program_text⟩)
    (c_Program_text : PySem.W.codeIn K cd_Program_text "Program.text" = true)
    (k_Program_text : PySem.W.keepIn K (.ref f_Program_text) = true)
    (a_Program___eq__ : PySem.W.findIn K (.ref C_Program) "__eq__" = some (some (.ref f_Program___eq__)))
    (i_Program___eq__ : PySem.W.isFn K (.ref f_Program___eq__) = true)
    (l_Program___eq__ : K.lookup f_Program___eq__ = some ⟨oc_Program___eq__, od_Program___eq__, .func (PySem.W.fnOf "__eq__" "Program.__eq__" (defArgs s_Program___eq__) (defBody s_Program___eq__) (defScope s_Program___eq__) .none kV_Program___eq__ dc_Program___eq__ pm_Program___eq__ an_Program___eq__ cd_Program___eq__ ct_Program___eq__), sl_Program___eq__⟩)
    (c_Program___eq__ : PySem.W.codeIn K cd_Program___eq__ "Program.__eq__" = true)
    (k_Program___eq__ : PySem.W.keepIn K (.ref f_Program___eq__) = true)
    (a_Program___init__ : PySem.W.findIn K (.ref C_Program) "__init__" = some (some (.ref f_Program___init__)))
    (i_Program___init__ : PySem.W.isFn K (.ref f_Program___init__) = true)
    (l_Program___init__ : K.lookup f_Program___init__ = some ⟨oc_Program___init__, od_Program___init__, .func (PySem.W.fnOf "__init__" "Program.__init__" (defArgs s_Program___init__) (defBody s_Program___init__) (defScope s_Program___init__) .none kV_Program___init__ dc_Program___init__ pm_Program___init__ an_Program___init__ cd_Program___init__ ct_Program___init__), sl_Program___init__⟩)
    (c_Program___init__ : PySem.W.codeIn K cd_Program___init__ "Program.__init__" = true)
    (k_Program___init__ : PySem.W.keepIn K (.ref f_Program___init__) = true)
    (mk_Program___init__ : PySem.W.makesIn K C_Program = true)
    (kc_Program___init__ : PySem.W.keepIn K (.ref C_Program) = true)
    (rd_Program : PySem.W.readsIn K C_Program (.type "type") = true)
    (rg_Program : PySem.W.specialIn K (.ref C_Program) "__getattribute__" = some (some (.builtin "type.__getattribute__")))
    (a_Program_parse : PySem.W.findCls K (.ref C_Program) (.type "type") "parse" = some (.get (.builtin "classmethod.__get__") (.ref q_Program_parse) .none (.ref C_Program)))
    (r_Program_parse : PySem.W.recIn K q_Program_parse "classmethod" = some (.ref f_Program_parse :: rr_Program_parse))
    (i_Program_parse : PySem.W.fnIn K f_Program_parse = true)
    (l_Program_parse : K.lookup f_Program_parse = some ⟨oc_Program_parse, od_Program_parse, .func (PySem.W.fnOf "parse" "Program.parse" (defArgs s_Program_parse) (defBody s_Program_parse) (defScope s_Program_parse) .none kV_Program_parse dc_Program_parse pm_Program_parse an_Program_parse cd_Program_parse ct_Program_parse), sl_Program_parse⟩)
    (c_Program_parse : PySem.W.codeIn K cd_Program_parse "Program.parse" = true)
    (k_Program_parse : PySem.W.keepIn K (.ref f_Program_parse) = true)
    (a_line : PySem.W.nsIn K mainGlobals "_law_line" = some (some (.ref f_line)))
    (l_line : K.lookup f_line = some ⟨oc_line, od_line, .func (PySem.W.fnOf "_law_line" "_law_line" (defArgs s_line) (defBody s_line) (defScope s_line) .none kV_line dc_line pm_line an_line cd_line ct_line), sl_line⟩)
    (c_line : PySem.W.codeIn K cd_line "_law_line" = true)
    (k_line : PySem.W.keepIn K (.ref f_line) = true)
    (a_same_program : PySem.W.nsIn K mainGlobals "_law_same_program" = some (some (.ref f_same_program)))
    (l_same_program : K.lookup f_same_program = some ⟨oc_same_program, od_same_program, .func (PySem.W.fnOf "_law_same_program" "_law_same_program" (defArgs s_same_program) (defBody s_same_program) (defScope s_same_program) .none kV_same_program dc_same_program pm_same_program an_same_program cd_same_program ct_same_program), sl_same_program⟩)
    (c_same_program : PySem.W.codeIn K cd_same_program "_law_same_program" = true)
    (k_same_program : PySem.W.keepIn K (.ref f_same_program) = true)
    (a_law : PySem.W.nsIn K mainGlobals "law" = some (some (.ref f_law)))
    (l_law : K.lookup f_law = some ⟨oc_law, od_law, .func (PySem.W.fnOf "law" "law" (defArgs s_law) (defBody s_law) (defScope s_law) .none kV_law dc_law pm_law an_law cd_law ct_law), sl_law⟩)
    (c_law : PySem.W.codeIn K cd_law "law" = true)
    (k_law : PySem.W.keepIn K (.ref f_law) = true)
    : ∃ fd : FuncData, (∀ (s : Shared) (u : Value), BindsTo s fd ⟨[u], []⟩ [("_law_script", u)]) ∧ ∀ base : Heap, K.In base → base.Ns mainGlobals mg → FnOk l.prog w K mg base CX0 8 fa fd ["_law_script"] (sp_law K) := by
  have b_all := PySem.W.mg_none_of X G z_all
  have b_enumerate := PySem.W.mg_none_of X G z_enumerate
  have b_int := PySem.W.mg_none_of X G z_int
  have b_isinstance := PySem.W.mg_none_of X G z_isinstance
  have b_len := PySem.W.mg_none_of X G z_len
  have b_list := PySem.W.mg_none_of X G z_list
  have b_range := PySem.W.mg_none_of X G z_range
  have b_sorted := PySem.W.mg_none_of X G z_sorted
  have b_str := PySem.W.mg_none_of X G z_str
  have b_tuple := PySem.W.mg_none_of X G z_tuple
  have e_KINDS : ∃ a, mg "KINDS" = some (.ref a) ∧ ∀ H, SqT K H a (([Str.ofString "read", Str.ofString "say", Str.ofString "call", Str.ofString "try"] : List Str).map V.str) := ⟨A_KINDS, PySem.W.mg_of X G ga_KINDS, fun H => .inr ⟨_, _, nn_KINDS, gl_KINDS, rfl, rfl, by show 4 ≤ sizeLine; decide, .cons ⟨_, rfl⟩ (.cons ⟨_, rfl⟩ (.cons ⟨_, rfl⟩ (.cons ⟨_, rfl⟩ (.nil))))⟩⟩
  have e_LETTERS := (⟨t_LETTERS, PySem.W.mg_of X G ga_LETTERS⟩ : ∃ t, mg "LETTERS" = some (.str "abcdefghijklmnopqrstuvwxyz" t))
  have e_MOST_PROCEDURES := (⟨t_MOST_PROCEDURES, PySem.W.mg_of X G ga_MOST_PROCEDURES⟩ : ∃ t, mg "MOST_PROCEDURES" = some (.int 16 t))
  have e_MOST_STEPS := (⟨t_MOST_STEPS, PySem.W.mg_of X G ga_MOST_STEPS⟩ : ∃ t, mg "MOST_STEPS" = some (.int 12 t))
  have T_Program : ClsF K mg "Program" C_Program := clsF_mk X G cA_Program pg_Program hd_Program po_Program sa_Program ha_Program hn_Program ht_Program hm_Program sf_Program ne_Program
  have A_source : DefAt K mg "_law_source" s_source ["_law_script"] := defAt_mk X G a_source l_source c_source k_source (fun _ _ _ _ _ _ us hl => match us, hl with | [_], _ => rfl)
  have A_draw : DefAt K mg "_law_draw" s_draw ["_law_source_here", "_law_many"] := defAt_mk X G a_draw l_draw c_draw k_draw (fun _ _ _ _ _ _ us hl => match us, hl with | [_, _], _ => rfl)
  have A_name : DefAt K mg "_law_name" s_name ["_law_source_here", "_law_taken"] := defAt_mk X G a_name l_name c_name k_name (fun _ _ _ _ _ _ us hl => match us, hl with | [_, _], _ => rfl)
  have A_names : DefAt K mg "_law_names" s_names ["_law_source_here", "_law_many"] := defAt_mk X G a_names l_names c_names k_names (fun _ _ _ _ _ _ us hl => match us, hl with | [_, _], _ => rfl)
  have A_step : DefAt K mg "_law_step" s_step ["_law_source_here", "_law_names_here", "_law_places_here"] := defAt_mk X G a_step l_step c_step k_step (fun _ _ _ _ _ _ us hl => match us, hl with | [_, _, _], _ => rfl)
  have A_copy : DefAt K mg "_law_copy" s_copy ["_law_procedures"] := defAt_mk X G a_copy l_copy c_copy k_copy (fun _ _ _ _ _ _ us hl => match us, hl with | [_], _ => rfl)
  have A_places : DefAt K mg "_law_places" s_places ["_law_procedures"] := defAt_mk X G a_places l_places c_places k_places (fun _ _ _ _ _ _ us hl => match us, hl with | [_], _ => rfl)
  have A_program : DefAt K mg "_law_program" s_program ["_law_source_here", "_law_most"] := defAt_mk X G a_program l_program c_program k_program (fun _ _ _ _ _ _ us hl => match us, hl with | [_, _], _ => rfl)
  have A_any_program : DefAt K mg "_law_any_program" s_any_program ["_law_source_here"] := defAt_mk X G a_any_program l_any_program c_any_program k_any_program (fun _ _ _ _ _ _ us hl => match us, hl with | [_], _ => rfl)
  have A_is_name : DefAt K mg "is_name" s_is_name ["value"] := defAt_mk X G a_is_name l_is_name c_is_name k_is_name (fun _ _ _ _ _ _ us hl => match us, hl with | [_], _ => rfl)
  have A_is_step : DefAt K mg "is_step" s_is_step ["step"] := defAt_mk X G a_is_step l_is_step c_is_step k_is_step (fun _ _ _ _ _ _ us hl => match us, hl with | [_], _ => rfl)
  have A_invalid_line : DefAt K mg "invalid_line" s_invalid_line ["procedures"] := defAt_mk X G a_invalid_line l_invalid_line c_invalid_line k_invalid_line (fun _ _ _ _ _ _ us hl => match us, hl with | [_], _ => rfl)
  have A_line_text : DefAt K mg "line_text" s_line_text ["name", "body"] := defAt_mk X G a_line_text l_line_text c_line_text k_line_text (fun _ _ _ _ _ _ us hl => match us, hl with | [_, _], _ => rfl)
  have A_Program___getitem__ : MethAt K C_Program "__getitem__" "Program.__getitem__" s_Program___getitem__ ["self", "name"] := methAt_mk a_Program___getitem__ i_Program___getitem__ l_Program___getitem__ c_Program___getitem__ k_Program___getitem__ (fun _ _ _ _ _ _ us hl => match us, hl with | [_, _], _ => rfl)
  have A_Program___len__ : MethAt K C_Program "__len__" "Program.__len__" s_Program___len__ ["self"] := methAt_mk a_Program___len__ i_Program___len__ l_Program___len__ c_Program___len__ k_Program___len__ (fun _ _ _ _ _ _ us hl => match us, hl with | [_], _ => rfl)
  have A_parse_line : DefAt K mg "parse_line" s_parse_line ["line"] := defAt_mk X G a_parse_line l_parse_line c_parse_line k_parse_line (fun _ _ _ _ _ _ us hl => match us, hl with | [_], _ => rfl)
  have A_Program_text : MethAt K C_Program "text" "Program.text" s_Program_text ["self"] := methAt_mk a_Program_text i_Program_text l_Program_text c_Program_text k_Program_text (fun _ _ _ _ _ _ us hl => match us, hl with | [_], _ => rfl)
  have A_Program___eq__ : MethAt K C_Program "__eq__" "Program.__eq__" s_Program___eq__ ["self", "other"] := methAt_mk a_Program___eq__ i_Program___eq__ l_Program___eq__ c_Program___eq__ k_Program___eq__ (fun _ _ _ _ _ _ us hl => match us, hl with | [_, _], _ => rfl)
  have A_Program___init__ : MkAt K C_Program "Program.__init__" s_Program___init__ ["self", "procedures"] := mkAt_mk a_Program___init__ i_Program___init__ l_Program___init__ c_Program___init__ k_Program___init__ mk_Program___init__ kc_Program___init__ (fun _ _ _ _ _ _ us hl => match us, hl with | [_, _], _ => rfl)
  have A_Program_parse : CmAt K C_Program "parse" "Program.parse" s_Program_parse ["cls", "text"] := cmAt_mk rd_Program rg_Program a_Program_parse r_Program_parse i_Program_parse ⟨_, fun_mk l_Program_parse c_Program_parse k_Program_parse, (fun_mk l_Program_parse c_Program_parse k_Program_parse).binds (fun _ _ _ _ _ _ us hl => match us, hl with | [_, _], _ => rfl)⟩
  have A_line : DefAt K mg "_law_line" s_line ["_law_name_here", "_law_body"] := defAt_mk X G a_line l_line c_line k_line (fun _ _ _ _ _ _ us hl => match us, hl with | [_, _], _ => rfl)
  have A_same_program : DefAt K mg "_law_same_program" s_same_program ["_law_program_here", "_law_procedures"] := defAt_mk X G a_same_program l_same_program c_same_program k_same_program (fun _ _ _ _ _ _ us hl => match us, hl with | [_, _], _ => rfl)
  have F_law := fun_mk (st := s_law) l_law c_law k_law
  have efa := hfa.symm.trans (PySem.W.mg_of X G a_law)
  cases efa
  refine ⟨_, law_binds (p := "_law_script") F_law (fun _ _ _ _ _ _ _ => rfl), fun base _ _ => ?_⟩
  have D_source := ok_source (P := l.prog) (w := w) (base := base) A_source b_enumerate b_int 
  have D_draw := ok_draw (P := l.prog) (w := w) (base := base) A_draw b_int 
  have D_name := ok_name (P := l.prog) (w := w) (base := base) A_name b_range D_draw 
  have D_names := ok_names (P := l.prog) (w := w) (base := base) A_names b_list b_range D_name 
  have D_step := ok_step (P := l.prog) (w := w) (base := base) A_step b_int b_len D_draw D_name 
  have D_copy := ok_copy (P := l.prog) (w := w) (base := base) A_copy b_list 
  have D_places := ok_places (P := l.prog) (w := w) (base := base) A_places b_sorted b_str 
  have D_program := ok_program (P := l.prog) (w := w) (base := base) A_program b_int b_range D_draw D_names D_step 
  have D_any_program := ok_any_program (P := l.prog) (w := w) (base := base) A_any_program b_range D_draw D_program D_names D_step 
  have D_is_name := ok_is_name (P := l.prog) (w := w) (base := base) A_is_name b_all b_isinstance b_len b_str e_LETTERS 
  have D_is_step := ok_is_step (P := l.prog) (w := w) (base := base) A_is_step e_KINDS D_is_name 
  have D_invalid_line := ok_invalid_line (P := l.prog) (w := w) (base := base) A_invalid_line b_all b_enumerate b_len e_MOST_PROCEDURES e_MOST_STEPS D_is_name D_is_step 
  have D_line_text := ok_line_text (P := l.prog) (w := w) (base := base) A_line_text b_len 
  have D_Program___getitem__ := ok_Program___getitem__ (P := l.prog) (w := w) (base := base) A_Program___getitem__ T_Program nA_Program_bodies 
  have D_Program___len__ := ok_Program___len__ (P := l.prog) (w := w) (base := base) A_Program___len__ T_Program b_len nA_Program_names 
  have D_parse_line := ok_parse_line (P := l.prog) (w := w) (base := base) A_parse_line b_len b_tuple 
  have D_Program_text := ok_Program_text (P := l.prog) (w := w) (base := base) A_Program_text T_Program nA_Program_bodies nA_Program_names D_line_text 
  have D_Program___eq__ := ok_Program___eq__ (P := l.prog) (w := w) (base := base) A_Program___eq__ T_Program b_isinstance nA_Program_bodies nA_Program_names 
  have D_Program___init__ := ok_Program___init__ (P := l.prog) (w := w) (base := base) A_Program___init__ T_Program b_sorted b_str b_tuple nA_Program_bodies nA_Program_names nA_Program_places D_invalid_line 
  have D_Program_parse := ok_Program_parse (P := l.prog) (w := w) (base := base) A_Program_parse T_Program D_Program___init__ D_parse_line 
  have D_line := ok_line (P := l.prog) (w := w) (base := base) A_line b_len 
  have D_same_program := ok_same_program (P := l.prog) (w := w) (base := base) A_same_program T_Program b_all b_isinstance b_len b_tuple nA_Program_names nA_Program_places D_Program___getitem__ D_Program___len__ D_places 
  exact ok_law (P := l.prog) (w := w) (base := base) F_law T_Program b_isinstance D_Program___init__ D_Program_text D_Program___eq__ D_Program_parse D_source D_any_program D_line D_copy D_same_program law_pure
end Mm
open PySem PySem.W PyProof.Rows
set_option maxRecDepth 100000 in
set_option maxHeartbeats 0 in
theorem PySem.Challenge.cw_midfall_k04_program_texts_holds : PySem.Challenge.rw_midfall_k04_program_texts.Holds := by
  w_on; o_law; k_head; (case hw => w_witness2)
  k_fill
  refine Mf.walkL (l := PySem.Challenge.rw_midfall_k04_program_texts) (lv := 8) (x := "_law_script") rfl rfl ⟨rfl, by decide, by decide⟩ (fun w h Y => PySem.W.kIn_of Y) ?F
  case F =>
    intro w mg fa h KX G hmg
    refine' Mm.all_mk KX G hmg ?z_all ?z_enumerate ?z_int ?z_isinstance ?z_len ?z_list ?z_range ?z_sorted ?z_str ?z_tuple ?ga_KINDS ?gl_KINDS ?ga_LETTERS ?ga_MOST_PROCEDURES ?ga_MOST_STEPS ?cA_Program ?pg_Program ?hd_Program ?po_Program ?sa_Program ?ha_Program ?hn_Program ?ht_Program ?hm_Program ?sf_Program ?ne_Program ?nA_Program_bodies ?nA_Program_names ?nA_Program_places ?a_source ?l_source ?c_source ?k_source ?a_draw ?l_draw ?c_draw ?k_draw ?a_name ?l_name ?c_name ?k_name ?a_names ?l_names ?c_names ?k_names ?a_step ?l_step ?c_step ?k_step ?a_copy ?l_copy ?c_copy ?k_copy ?a_places ?l_places ?c_places ?k_places ?a_program ?l_program ?c_program ?k_program ?a_any_program ?l_any_program ?c_any_program ?k_any_program ?a_is_name ?l_is_name ?c_is_name ?k_is_name ?a_is_step ?l_is_step ?c_is_step ?k_is_step ?a_invalid_line ?l_invalid_line ?c_invalid_line ?k_invalid_line ?a_line_text ?l_line_text ?c_line_text ?k_line_text ?a_Program___getitem__ ?i_Program___getitem__ ?l_Program___getitem__ ?c_Program___getitem__ ?k_Program___getitem__ ?a_Program___len__ ?i_Program___len__ ?l_Program___len__ ?c_Program___len__ ?k_Program___len__ ?a_parse_line ?l_parse_line ?c_parse_line ?k_parse_line ?a_Program_text ?i_Program_text ?l_Program_text ?c_Program_text ?k_Program_text ?a_Program___eq__ ?i_Program___eq__ ?l_Program___eq__ ?c_Program___eq__ ?k_Program___eq__ ?a_Program___init__ ?i_Program___init__ ?l_Program___init__ ?c_Program___init__ ?k_Program___init__ ?mk_Program___init__ ?kc_Program___init__ ?rd_Program ?rg_Program ?a_Program_parse ?r_Program_parse ?i_Program_parse ?l_Program_parse ?c_Program_parse ?k_Program_parse ?a_line ?l_line ?c_line ?k_line ?a_same_program ?l_same_program ?c_same_program ?k_same_program ?a_law ?l_law ?c_law ?k_law
    (case z_all => k_is)
    (case z_enumerate => k_is)
    (case z_int => k_is)
    (case z_isinstance => k_is)
    (case z_len => k_is)
    (case z_list => k_is)
    (case z_range => k_is)
    (case z_sorted => k_is)
    (case z_str => k_is)
    (case z_tuple => k_is)
    (case ga_KINDS => k_is)
    (case gl_KINDS => k_is)
    (case ga_LETTERS => k_is)
    (case ga_MOST_PROCEDURES => k_is)
    (case ga_MOST_STEPS => k_is)
    (case cA_Program => k_is)
    (case pg_Program => k_is)
    (case hd_Program => k_is)
    (case po_Program => k_is)
    (case sa_Program => k_is)
    (case ha_Program => k_is)
    (case hn_Program => k_is)
    (case ht_Program => k_is)
    (case hm_Program => k_is)
    (case sf_Program => k_is)
    (case ne_Program => k_is)
    (case nA_Program_bodies => k_is)
    (case nA_Program_names => k_is)
    (case nA_Program_places => k_is)
    (case a_source => k_is)
    (case l_source => k_is)
    (case c_source => k_is)
    (case k_source => k_is)
    (case a_draw => k_is)
    (case l_draw => k_is)
    (case c_draw => k_is)
    (case k_draw => k_is)
    (case a_name => k_is)
    (case l_name => k_is)
    (case c_name => k_is)
    (case k_name => k_is)
    (case a_names => k_is)
    (case l_names => k_is)
    (case c_names => k_is)
    (case k_names => k_is)
    (case a_step => k_is)
    (case l_step => k_is)
    (case c_step => k_is)
    (case k_step => k_is)
    (case a_copy => k_is)
    (case l_copy => k_is)
    (case c_copy => k_is)
    (case k_copy => k_is)
    (case a_places => k_is)
    (case l_places => k_is)
    (case c_places => k_is)
    (case k_places => k_is)
    (case a_program => k_is)
    (case l_program => k_is)
    (case c_program => k_is)
    (case k_program => k_is)
    (case a_any_program => k_is)
    (case l_any_program => k_is)
    (case c_any_program => k_is)
    (case k_any_program => k_is)
    (case a_is_name => k_is)
    (case l_is_name => k_is)
    (case c_is_name => k_is)
    (case k_is_name => k_is)
    (case a_is_step => k_is)
    (case l_is_step => k_is)
    (case c_is_step => k_is)
    (case k_is_step => k_is)
    (case a_invalid_line => k_is)
    (case l_invalid_line => k_is)
    (case c_invalid_line => k_is)
    (case k_invalid_line => k_is)
    (case a_line_text => k_is)
    (case l_line_text => k_is)
    (case c_line_text => k_is)
    (case k_line_text => k_is)
    (case a_Program___getitem__ => k_is)
    (case i_Program___getitem__ => k_is)
    (case l_Program___getitem__ => k_is)
    (case c_Program___getitem__ => k_is)
    (case k_Program___getitem__ => k_is)
    (case a_Program___len__ => k_is)
    (case i_Program___len__ => k_is)
    (case l_Program___len__ => k_is)
    (case c_Program___len__ => k_is)
    (case k_Program___len__ => k_is)
    (case a_parse_line => k_is)
    (case l_parse_line => k_is)
    (case c_parse_line => k_is)
    (case k_parse_line => k_is)
    (case a_Program_text => k_is)
    (case i_Program_text => k_is)
    (case l_Program_text => k_is)
    (case c_Program_text => k_is)
    (case k_Program_text => k_is)
    (case a_Program___eq__ => k_is)
    (case i_Program___eq__ => k_is)
    (case l_Program___eq__ => k_is)
    (case c_Program___eq__ => k_is)
    (case k_Program___eq__ => k_is)
    (case a_Program___init__ => k_is)
    (case i_Program___init__ => k_is)
    (case l_Program___init__ => k_is)
    (case c_Program___init__ => k_is)
    (case k_Program___init__ => k_is)
    (case mk_Program___init__ => k_is)
    (case kc_Program___init__ => k_is)
    (case rd_Program => k_is)
    (case rg_Program => k_is)
    (case a_Program_parse => k_is)
    (case r_Program_parse => k_is)
    (case i_Program_parse => k_is)
    (case l_Program_parse => k_is)
    (case c_Program_parse => k_is)
    (case k_Program_parse => k_is)
    (case a_line => k_is)
    (case l_line => k_is)
    (case c_line => k_is)
    (case k_line => k_is)
    (case a_same_program => k_is)
    (case l_same_program => k_is)
    (case c_same_program => k_is)
    (case k_same_program => k_is)
    (case a_law => k_is)
    (case l_law => k_is)
    (case c_law => k_is)
    (case k_law => k_is)
#print axioms PySem.Challenge.cw_midfall_k04_program_texts_holds
