import PyProof.Rows.All
import Wide.All
import OpenK.AllK
import Wide.FinOn
import HandS.ForMost
import HandS.Wide
import HandS.Walk
import HandS.IsInst
import HandS.More
import HandS.RaiseMore
import HandS.Codes
import HandS.Star
import HandS.Deep
import HandS.SetBool
import HandS.SlotsOwn
import HandS.Defaults
import HandS.EndBits
import PySem.Challenge.RW_midfall_k01_name_sets
set_option Elab.async false
set_option linter.all false
set_option maxRecDepth 100000
set_option maxHeartbeats 4000000
namespace Mf
open PySem L2

/-! ### heaps: all but one object stands -/
def Kp (p : Addr) (H H' : Hp) : Prop := ∀ b o, b ≠ p → H b = some o → H' b = some o
theorem Kp.refl (p : Addr) (H : Hp) : Kp p H H := fun _ _ _ h => h
theorem Kp.trans {p : Addr} {H H1 H2 : Hp} (a : Kp p H H1) (b : Kp p H1 H2) : Kp p H H2 := fun x o n h => b x o n (a x o n h)
theorem Kp.of {p : Addr} {H H' : Hp} (e : Same H H') : Kp p H H' := fun b o _ h => e b o h
theorem Kp.new {p q : Addr} {H : Hp} {o : HO} (h : H q = none) : Kp p H (upd H q o) := fun b u _ e => by
  rw [upd_ne (ne_of_none e h)]; exact e
theorem Kp.upd {p : Addr} {H : Hp} {o : HO} : Kp p H (L2.upd H p o) := fun b u n e => by
  rw [upd_ne n]; exact e
theorem Same.new {q : Addr} {H : Hp} {o : HO} (h : H q = none) : Same H (upd H q o) := fun b u e => by
  rw [upd_ne (ne_of_none e h)]; exact e
/-- a local object may change -/
theorem Same.mut {H H' : Hp} {p : Addr} {o : HO} (e : Same H H') (h : H p = none) : Same H (upd H' p o) := fun a u ha => by
  rw [upd_ne (ne_of_none ha h)]; exact e a u ha
theorem Kp.mut {H H' : Hp} {q p : Addr} {o : HO} (e : Kp q H H') (h : H p = none) : Kp q H (L2.upd H' p o) := fun a u n ha => by
  rw [upd_ne (ne_of_none ha h)]; exact e a u n ha
def hid (p : Addr) (H : Hp) : Hp := fun b => if b = p then none else H b
theorem hid_ne {p b : Addr} {H : Hp} (h : b ≠ p) : hid p H b = H b := by unfold hid; rw [if_neg h]
theorem hid_some {p b : Addr} {H : Hp} {o : HO} (h : hid p H b = some o) : b ≠ p ∧ H b = some o := by
  unfold hid at h
  by_cases e : b = p
  · rw [if_pos e] at h; cases h
  · rw [if_neg e] at h; exact ⟨e, h⟩
theorem hid_same {p : Addr} {H : Hp} : Same (hid p H) H := fun _ _ h => (hid_some h).2
theorem Kp.hid {p : Addr} {H H' : Hp} (e : Kp p H H') : Same (hid p H) (hid p H') := fun b o h => by
  obtain ⟨n, q⟩ := hid_some h
  rw [hid_ne n]; exact e b o n q

/-! ### defs as they stand, and what they do -/
def DefAt (K : PySem.W.Frag) (mg : Str → Option Value) (x : Str) (st : Stmt) (ps : List Str) : Prop := ∃ f fd, Fun K x x st f fd ∧ mg x = some (.ref f) ∧ Binds K fd ps []
def Does (P : Program) (w : World) (K : PySem.W.Frag) (mg : Str → Option Value) (base : Heap) (CX : CXT) (lv : Nat) (x : Str) (ps : List Str) (sp : Sp) : Prop :=
  ∃ f fd, FnOk P w K mg base CX lv f fd ps sp ∧ mg x = some (.ref f) ∧ PySem.W.keepIn K (.ref f) = true ∧ Binds K fd ps []
theorem defAt_mk {K : PySem.W.Frag} {h : Heap} {mg : Str → Option Value} {x : Str} {st : Stmt} {ps : List Str} {f : Addr} {oc : Value} {od an : Option Addr} {osl : Array (Option Value)} {kV doc pm cdv ct : Value} (X : K.In h) (G : h.Ns mainGlobals mg)
    (a : PySem.W.nsIn K mainGlobals x = some (some (.ref f))) (l : K.lookup f = some ⟨oc, od, .func (PySem.W.fnOf x x (defArgs st) (defBody st) (defScope st) .none kV doc pm an cdv ct), osl⟩)
    (c : PySem.W.codeIn K cdv x = true) (k : PySem.W.keepIn K (.ref f) = true)
    (hb : ∀ (kV doc pm : Value) (an : Option Addr) (cdv ct : Value) (us : List Value), us.length = ps.length → bindArgs (PySem.W.fnOf x x (defArgs st) (defBody st) (defScope st) .none kV doc pm an cdv ct) ⟨us, []⟩ = pure (ps.zip us)) : DefAt K mg x st ps :=
  ⟨f, _, fun_mk l c k, PySem.W.mg_of X G a, (fun_mk l c k).binds hb⟩
/-! ### the law's own source of draws -/
/-- at p: the great number, the seed, the count -/
def Src (H : Hp) (p : Addr) (c : Nat) : Prop := ∃ g s : Int, H p = some (.lst [.int g, .int s, .int (c : Int)]) ∧ 0 ≤ s ∧ s < 2147483647
theorem Src.same {H H' : Hp} {p : Addr} {c : Nat} (h : Src H p c) (e : Same H H') : Src H' p c := by
  obtain ⟨g, s, h1, h2⟩ := h
  exact ⟨g, s, e _ _ h1, h2⟩
def LIM : Nat := 1000000000

def sp_source (K : PySem.W.Frag) : Sp := fun vs H Q _ => ∃ (a : Addr) (ns : List Int), vs = [.ref a] ∧ SqL K H a (ns.map V.int) ∧ ns.length ≤ 63 ∧
  ∀ p H', Same H H' → H p = none → Src H' p 0 → Q (.ref p) H'
def sp_draw : Sp := fun vs H Q _ => ∃ (p : Addr) (c : Nat) (m : Int), vs = [.ref p, .int m] ∧ Src H p c ∧ c < LIM ∧ 0 < m ∧ m < 2 ^ 1000 ∧
  ∀ (v : Int) (c' : Nat) (o : HO), 0 ≤ v → v < m → c' ≤ c + 1 → Src (upd H p o) p c' → Q (.int v) (upd H p o)
def sp_law (K : PySem.W.Frag) : Sp := fun vs H Q _ => ∃ (a : Addr) (ns : List Int), vs = [.ref a] ∧ SqL K H a (ns.map V.int) ∧ ns.length ≤ 63 ∧ ∀ H', Q (.bl true) H'
theorem use_source {K : PySem.W.Frag} {a : Addr} {ns : List Int} {H : Hp} {Q : VK} {E : XK} (h : SqL K H a (ns.map V.int)) (hl : ns.length ≤ 63) (g : ∀ p H', Same H H' → H p = none → Src H' p 0 → Q (.ref p) H') : sp_source K ([.ref a] ++ []) H Q E := ⟨a, ns, rfl, h, hl, g⟩
end Mf

namespace Mf
open PySem L2 PyProof.Rows
/-! ### a reading, step by step, from what is known -/
section
variable {K : PySem.W.Frag} {σ : L2.St} {H : Hp} {Q : VK} {QT : Bool → Hp → Prop} {QA : List V → Hp → Prop} {D : Ends} {ta tb tc te : TE} {tt tu : TT} {tr tA : TA} {t1 t2 : TS} {i j : Int} {v x y : V} {b : Bool} {r r' : R2} {n m : Nat} {p q a : Addr} {xs ys : List V}
theorem w_var {k : Nat} (h : σ[k]? = some (some v)) (g : Q v H) : tVar k σ H Q := ⟨v, h, g⟩
theorem w_c (g : Q v H) : tC v σ H Q := g
theorem w_op (g : ta σ H fun x H1 => tb σ H1 fun y H2 => r x y H2 Q) : tOp r ta tb σ H Q := g
theorem w_un {r : V → Hp → VK → Prop} (g : ta σ H fun x H1 => r x H1 Q) : tUn r ta σ H Q := g
theorem w_I0 {f : Int → Int → V} (g : Q (f i j) H) : rI0 f (.int i) (.int j) H Q := ⟨i, j, rfl, rfl, g⟩
theorem w_I {C : Int → Int → Prop} {f : Int → Int → V} (h : C i j) (g : Q (f i j) H) : rI C f (.int i) (.int j) H Q := ⟨i, j, rfl, rfl, h, g⟩
theorem w_U {f : Int → V} (g : Q (f i) H) : rU f (.int i) H Q := ⟨i, rfl, g⟩
theorem w_eq (h : scal x y = true) (g : Q (.bl (decide (x = y))) H) : rEq x y H Q := ⟨h, g⟩
theorem w_ne (h : scal x y = true) (g : Q (.bl (!decide (x = y))) H) : rNe x y H Q := ⟨h, g⟩
theorem w_test (g : te σ H fun x H1 => ∃ k, x = .bl k ∧ QT k H1) : tTest te σ H QT := g
theorem w_tb (g : te σ H fun x H1 => ∃ k, x = .bl k ∧ QT k H1) : tB te σ H QT := g
theorem w_bl {R : Bool → Prop} (g : R b) : ∃ k, V.bl b = .bl k ∧ R k := ⟨b, rfl, g⟩
theorem w_and (g : tt σ H fun c H1 => if c = true then tu σ H1 QT else QT false H1) : tAnd tt tu σ H QT := g
theorem w_or (g : tt σ H fun c H1 => if c = true then QT true H1 else tu σ H1 QT) : tOr tt tu σ H QT := g
theorem w_not (g : tt σ H fun c H1 => QT (!c) H1) : tNot tt σ H QT := g
theorem w_yes (g : QT true H) : tYes σ H QT := g
theorem w_andV (g : ta σ H fun x H1 => ∃ c, x = .bl c ∧ if c = true then tb σ H1 Q else Q (.bl false) H1) : tAndV ta tb σ H Q := g
theorem w_orV (g : ta σ H fun x H1 => ∃ c, x = .bl c ∧ if c = true then Q (.bl true) H1 else tb σ H1 Q) : tOrV ta tb σ H Q := g
theorem w_notV (g : ta σ H fun x H1 => ∃ c, x = .bl c ∧ Q (.bl (!c)) H1) : tNotV ta σ H Q := g
theorem w_ifE (g : tt σ H fun c H1 => if c = true then ta σ H1 Q else tb σ H1 Q) : tIf tt ta tb σ H Q := g
theorem w_chain (g : ta σ H fun x H1 => tb σ H1 fun y H2 => r x y H2 fun z H3 => ∃ k, z = .bl k ∧ (if k = true then tc σ H3 fun w' H4 => r' y w' H4 Q else Q (.bl false) H3)) : tChain r r' ta tb tc σ H Q := g

variable {nx bk ct : L2.St → Hp → Prop} {rt : VK}
theorem w_next (g : nx σ H) : tNext ⟨nx, rt, bk, ct⟩ σ H := g
theorem w_seq (g : t1 ⟨t2 ⟨nx, rt, bk, ct⟩, rt, bk, ct⟩ σ H) : tSeq t1 t2 ⟨nx, rt, bk, ct⟩ σ H := g
theorem w_cut (Mid : L2.St → Hp → Prop) (h : t1 ⟨Mid, rt, bk, ct⟩ σ H) (g : ∀ σ' H', Mid σ' H' → t2 ⟨nx, rt, bk, ct⟩ σ' H') : C8.tCut t1 t2 ⟨nx, rt, bk, ct⟩ σ H := ⟨Mid, h, g⟩
theorem w_drop (g : te σ H fun _ H1 => nx σ H1) : tDrop te ⟨nx, rt, bk, ct⟩ σ H := g
theorem w_ret (g : te σ H rt) : tRet te ⟨nx, rt, bk, ct⟩ σ H := g
theorem w_retN (g : rt .non H) : tRetN ⟨nx, rt, bk, ct⟩ σ H := g
theorem w_cont (g : ct σ H) : tCont ⟨nx, rt, bk, ct⟩ σ H := g
theorem w_brk (g : bk σ H) : tBreak ⟨nx, rt, bk, ct⟩ σ H := g
theorem w_ifS (g : tt σ H fun b H1 => if b = true then t1 D σ H1 else t2 D σ H1) : tIfS tt t1 t2 D σ H := g
theorem w_asg {gg : TG} (g : te σ H fun x H1 => gg x σ H1 nx) : tAsg te gg ⟨nx, rt, bk, ct⟩ σ H := g
theorem w_fix (g : t1 ⟨nx, rt, bk, ct⟩ σ H) (e : D = ⟨nx, rt, bk, ct⟩) : t1 D σ H := by rw [e]; exact g
theorem w_if {c A B : Prop} [Decidable c] (h1 : c → A) (h2 : ¬ c → B) : if (decide c) = true then A else B := by
  by_cases h : c
  · rw [decide_eq_true h]; exact iteT (h1 h)
  · rw [decide_eq_false h]; exact iteF (h2 h)
theorem w_ifn {c A B : Prop} [Decidable c] (h1 : ¬ c → A) (h2 : c → B) : if (!decide c) = true then A else B := by
  by_cases h : c
  · rw [decide_eq_true h]; exact iteF (h2 h)
  · rw [decide_eq_false h]; exact iteT (h1 h)
theorem w_ifb {c : Bool} {A B : Prop} (h1 : c = true → A) (h2 : c = false → B) : if c = true then A else B := by
  cases c
  · exact iteF (h2 rfl)
  · exact iteT (h1 rfl)
theorem w_aug {k : Nat} {ti : TIp} (h : σ[k]? = some (some v)) (g : te σ H fun y H1 => ti v y H1 fun z H2 => nx (σ.set k (some z)) H2) : tAug k te ti ⟨nx, rt, bk, ct⟩ σ H := ⟨v, h, g⟩
theorem w_ipI {f : Int → Int → Int} (g : Q (.int (f i j)) H) : ipI f (.int i) (.int j) H Q := ⟨i, j, rfl, rfl, g⟩
theorem w_par {k l : Nat} (g : tA σ H fun vs H1 => ∃ v w, vs = [v, w] ∧ nx ((σ.set k (some v)).set l (some w)) H1) : tPar k l tA ⟨nx, rt, bk, ct⟩ σ H := g
theorem w_fld {f : Str} (g : ta σ H fun x H1 => ∃ a C dx fs v, x = .ref a ∧ H1 a = some (.ins C dx fs) ∧ Cls K C ∧ NoAttr K C f ∧ fs.lookup f = some v ∧ Q v H1) : tFld K ta f σ H Q := g
theorem w_gname {k : Nat} {R : L2.St → Hp → Prop} (g : R (σ.set k (some v)) H) : gName k v σ H R := g
theorem w_gnil {R : L2.St → Hp → Prop} (g : R σ H) : gNil [] σ H R := ⟨rfl, g⟩
theorem w_gcons {t : TG} {u : TGs} {R : L2.St → Hp → Prop} (g : t v σ H fun σ' H' => u xs σ' H' R) : gCons t u (v :: xs) σ H R := ⟨v, xs, rfl, g⟩
theorem w_gtup {t : TGs} {R : L2.St → Hp → Prop} (h : SqT K H a xs) (hn : xs.length = n) (g : t xs σ H R) : gTup K n t (.ref a) σ H R := ⟨a, xs, rfl, h, hn, g⟩
theorem w_gsub {to ti : TE} {t : TSet} {R : L2.St → Hp → Prop} (g : to σ H fun o H1 => ti σ H1 fun i H2 => t o i v H2 fun H3 => R σ H3) : gSub to ti t v σ H R := g
theorem w_setL {k : Int} {R : Hp → Prop} (h : H p = some (.lst xs)) (hk : ixN xs.length k = some n) (g : R (upd H p (.lst (xs.set n v)))) : rSetL (.ref p) (.int k) v H R := ⟨p, xs, k, n, rfl, rfl, h, hk, g⟩
theorem w_two {R : V → V → Prop} (g : R x y) : ∃ v w, [x, y] = [v, w] ∧ R v w := ⟨x, y, rfl, g⟩
theorem w_nil (g : QA [] H) : tNil σ H QA := g
theorem w_cons (g : ta σ H fun x H1 => tr σ H1 fun xs H2 => QA (x :: xs) H2) : tCons ta tr σ H QA := g
theorem w_tup (g : tA σ H fun xs H1 => xs.length ≤ sizeLine ∧ ∀ p, H1 p = none → Q (.ref p) (upd H1 p (.tup xs))) : tTup tA σ H Q := g
theorem w_lst (g : tA σ H fun xs H1 => xs.length ≤ sizeLine ∧ ∀ p, H1 p = none → Q (.ref p) (upd H1 p (.lst xs))) : tLst tA σ H Q := g
theorem w_call {sp : Sp} {dvs : List V} {E : XK} (g : tA σ H fun vs H1 => sp (vs ++ dvs) H1 Q E) : tCall sp dvs E tA σ H Q := g
theorem w_cb {r : List V → Hp → VK → Prop} (g : tA σ H fun vs H1 => r vs H1 Q) : tCB r tA σ H Q := g
theorem w_bm {T : String} {r : V → List V → Hp → VK → Prop} (g : ta σ H fun x H1 => tyV K T x H1 ∧ tA σ H1 fun xs H2 => r x xs H2 Q) : tBM K T r ta tA σ H Q := g
theorem w_bm0 {T : String} {r : V → List V → Hp → VK → Prop} (g : ta σ H fun x H1 => tyV K T x H1 ∧ r x [] H1 Q) : tBM0 K T r ta σ H Q := g
theorem w_m1 {r : V → List V → Hp → VK → Prop} (g : ta σ H fun x H1 => (∃ a, x = .str a) ∧ tb σ H1 fun y H2 => r x [y] H2 Q) : tM1 r ta tb σ H Q := g
theorem w_ixL (h : SqL K H p xs) (ha : atI xs i = some v) (g : Q v H) : rIxL K (.ref p) (.int i) H Q := ⟨p, xs, i, v, rfl, rfl, h, ha, g⟩
theorem w_ixT (h : SqT K H p xs) (ha : atI xs i = some v) (g : Q v H) : rIxT K (.ref p) (.int i) H Q := ⟨p, xs, i, v, rfl, rfl, h, ha, g⟩
theorem w_append (h : H p = some (.lst xs)) (hl : xs.length < sizeLine) (g : Q .non (upd H p (.lst (xs ++ [v])))) : rAppend (.ref p) [v] H Q := ⟨p, xs, v, rfl, rfl, h, hl, g⟩
end

/-! ### rules by a name of ours -/
section
variable {X : Cx}
def rInt1 : List V → Hp → VK → Prop := fun xs H Q => ∃ i, xs = [.int i] ∧ Q (.int i) H
theorem c_int1 : CallR X (.type "int") rInt1 := fun pins s σ H xs us Q I r ⟨i, e, q⟩ => call_int1 pins s σ H xs us Q I r (.inl ⟨i, e, q⟩)
def rStrI : List V → Hp → VK → Prop := fun xs H Q => ∃ i, xs = [.int i] ∧ i.natAbs.log2 < 1920 ∧ Q (.str (toString i)) H
theorem c_strI : CallR X (.type "str") rStrI := call_str_int
def rStrS : List V → Hp → VK → Prop := fun xs H Q => ∃ a, xs = [.str a] ∧ Q (.str a) H
theorem c_strS : CallR X (.type "str") rStrS := SkE.call_str_str
def rLenQ (K : PySem.W.Frag) : List V → Hp → VK → Prop := fun xs H Q => ∃ p ys, xs = [.ref p] ∧ (SqL K H p ys ∨ SqT K H p ys) ∧ Q (.int ys.length) H
theorem c_len : CallR X (.builtin "len") (rLenQ X.K) := call_len_seq
def rLenS : List V → Hp → VK → Prop := fun xs H Q => ∃ z, xs = [.str z] ∧ z.length ≤ sizeLine ∧ Q (.int z.length) H
theorem c_lenS : CallR X (.builtin "len") rLenS := call_len_str
def rLenD : List V → Hp → VK → Prop := fun xs H Q => ∃ a kvs, xs = [V.ref a] ∧ H a = some (.dK kvs) ∧ Q (.int kvs.length) H
theorem c_lenD : CallR X (.builtin "len") rLenD := call_lenD
def rListQ (K : PySem.W.Frag) : List V → Hp → VK → Prop := fun xs H Q => ∃ p ys, xs = [.ref p] ∧ (SqL K H p ys ∨ SqT K H p ys) ∧ ∀ l, H l = none → Q (.ref l) (upd H l (.lst ys))
theorem c_list : CallR X (.type "list") (rListQ X.K) := call_list_of
def rTupL (K : PySem.W.Frag) : List V → Hp → VK → Prop := fun xs H Q => ∃ p ys, xs = [.ref p] ∧ SqL K H p ys ∧ ∀ l, H l = none → Q (.ref l) (upd H l (.tup ys))
theorem c_tupL : CallR X (.type "tuple") (rTupL X.K) := fun pins s σ H xs us Q I r ⟨p, ys, e, h, q⟩ => call_tuple_of pins s σ H xs us Q I r ⟨p, ys, e, .inl ⟨h, q⟩⟩
def rTupT (K : PySem.W.Frag) : List V → Hp → VK → Prop := fun xs H Q => ∃ p ys, xs = [.ref p] ∧ SqT K H p ys ∧ Q (.ref p) H
theorem c_tupT : CallR X (.type "tuple") (rTupT X.K) := fun pins s σ H xs us Q I r ⟨p, ys, e, h, q⟩ => call_tuple_of pins s σ H xs us Q I r ⟨p, ys, e, .inr ⟨h, q⟩⟩
def rAddS : R2 := fun x y H Q => ∃ i j, x = .str i ∧ y = .str j ∧ i.length + j.length ≤ sizeLine ∧ Q (.str (i ++ j)) H
theorem o_addS : OpR X (binaryOp .Add) rAddS := op_add_str
def rInC (neg : Bool) : R2 := fun x y H Q => ∃ (c : Nat) (z : Str), x = .str ⟨#[c]⟩ ∧ y = .str z ∧ Q (.bl (if neg then !decide (c ∈ z.cps.toList) else decide (c ∈ z.cps.toList))) H
theorem o_inC : OpR X (compareOp .In) (rInC false) := op_in_sign
theorem o_niC : OpR X (compareOp .NotIn) (rInC true) := op_notIn_sign
def rIsN : R2 := fun x y H Q => y = .non ∧ Q (.bl (decide (x = .non))) H
def rNotN : R2 := fun x y H Q => y = .non ∧ Q (.bl (!decide (x = .non))) H
theorem o_isN : OpR X (compareOp .Is) rIsN := op_isN
theorem o_notN : OpR X (compareOp .IsNot) rNotN := op_notN
def rMax2 : List V → Hp → VK → Prop := fun xs H Q => ∃ i j, xs = [.int i, .int j] ∧ Q (.int (if j > i then j else i)) H
theorem c_max2 (hc : X.calm = true) : CallR X (.builtin "max") rMax2 := call_max2 hc
def rInsert : V → List V → Hp → VK → Prop := fun x vs H Q => ∃ (l : Addr) (xs : List V) (i : Int) (y : V), x = .ref l ∧ vs = [.int i, y] ∧ H l = some (.lst xs) ∧ xs.length < sizeLine ∧ 0 ≤ i ∧ i < 2 ^ 63 ∧ Q .non (upd H l (.lst (xs.take i.toNat ++ [y] ++ xs.drop i.toNat)))
theorem m_insert : MtR X "list.insert" rInsert := mt_insert
def rJoin (K : PySem.W.Frag) : V → List V → Hp → VK → Prop := fun x xs H Q => ∃ a p, ∃ ys : List Str, x = .str a ∧ xs = [.ref p] ∧ (SqL K H p (ys.map V.str) ∨ SqT K H p (ys.map V.str)) ∧ (ys.map (·.length)).sum + ys.length * a.length ≤ 16777216 ∧ Q (.str (Txt.join a ys)) H
theorem e_join {o e : Expr} {to te : TE} {apos pos : Pos} (ho : PE X o to) (he : PE X e te) (hs : starEach [e] X.env = [(false, eval e X.env)] := by rfl) (hbase : attributeBase o "join" X.env (eval o X.env) = eval o X.env := by rfl) (hline : (apos.endLine == pos.line) = true := by rfl) :
    PE X (.Call (.Attribute o "join" apos) [e] [] pos) (tM1 (rJoin X.K) to te) := pe_join ho he hs hbase hline
end
section
variable {K : PySem.W.Frag} {σ : L2.St} {H : Hp} {Q : VK} {i j : Int} {p q : Addr} {xs ys : List V} {v x y : V} {z z' : Str} {b : Bool}
theorem w_int1 (g : Q (.int i) H) : rInt1 [.int i] H Q := ⟨i, rfl, g⟩
theorem w_strI (h : i.natAbs.log2 < 1920) (g : Q (.str (toString i)) H) : rStrI [.int i] H Q := ⟨i, rfl, h, g⟩
theorem w_strS (g : Q (.str z) H) : rStrS [.str z] H Q := ⟨z, rfl, g⟩
theorem w_lenL (h : SqL K H p ys) (g : Q (.int ys.length) H) : rLenQ K [.ref p] H Q := ⟨p, ys, rfl, .inl h, g⟩
theorem w_lenT (h : SqT K H p ys) (g : Q (.int ys.length) H) : rLenQ K [.ref p] H Q := ⟨p, ys, rfl, .inr h, g⟩
theorem w_lenS (h : z.length ≤ sizeLine) (g : Q (.int z.length) H) : rLenS [.str z] H Q := ⟨z, rfl, h, g⟩
theorem w_lenD {kvs : List (Key × V)} (h : H p = some (.dK kvs)) (g : Q (.int kvs.length) H) : rLenD [.ref p] H Q := ⟨p, kvs, rfl, h, g⟩
theorem w_listL (h : SqL K H p ys) (g : ∀ l, H l = none → Q (.ref l) (upd H l (.lst ys))) : rListQ K [.ref p] H Q := ⟨p, ys, rfl, .inl h, g⟩
theorem w_listT (h : SqT K H p ys) (g : ∀ l, H l = none → Q (.ref l) (upd H l (.lst ys))) : rListQ K [.ref p] H Q := ⟨p, ys, rfl, .inr h, g⟩
theorem w_tupL (h : SqL K H p ys) (g : ∀ l, H l = none → Q (.ref l) (upd H l (.tup ys))) : rTupL K [.ref p] H Q := ⟨p, ys, rfl, h, g⟩
theorem w_tupT (h : SqT K H p ys) (g : Q (.ref p) H) : rTupT K [.ref p] H Q := ⟨p, ys, rfl, h, g⟩
theorem w_addS (h : z.length + z'.length ≤ sizeLine) (g : Q (.str (z ++ z')) H) : rAddS (.str z) (.str z') H Q := ⟨z, z', rfl, rfl, h, g⟩
theorem w_inC {c : Nat} (g : Q (.bl (decide (c ∈ z.cps.toList))) H) : rInC false (.str ⟨#[c]⟩) (.str z) H Q := ⟨c, z, rfl, rfl, g⟩
theorem w_niC {c : Nat} (g : Q (.bl (!decide (c ∈ z.cps.toList))) H) : rInC true (.str ⟨#[c]⟩) (.str z) H Q := ⟨c, z, rfl, rfl, g⟩
theorem w_isN (g : Q (.bl (decide (x = .non))) H) : rIsN x .non H Q := ⟨rfl, g⟩
theorem w_notN (g : Q (.bl (!decide (x = .non))) H) : rNotN x .non H Q := ⟨rfl, g⟩
theorem w_max2 (g : Q (.int (if j > i then j else i)) H) : rMax2 [.int i, .int j] H Q := ⟨i, j, rfl, g⟩
theorem w_insert (h : H p = some (.lst xs)) (hl : xs.length < sizeLine) (h0 : 0 ≤ i) (h1 : i < 2 ^ 63) (g : Q .non (upd H p (.lst (xs.take i.toNat ++ [y] ++ xs.drop i.toNat)))) : rInsert (.ref p) [.int i, y] H Q := ⟨p, xs, i, y, rfl, rfl, h, hl, h0, h1, g⟩
theorem w_clear (h : H p = some (.lst xs)) (g : Q .non (upd H p (.lst []))) : rClear (.ref p) [] H Q := ⟨p, xs, rfl, rfl, h, g⟩
theorem w_ixS {c : Nat} (h : z.length ≤ sizeLine) (ha : atI z.cps.toList i = some c) (g : Q (.str ⟨#[c]⟩) H) : rIxS (.str z) (.int i) H Q := ⟨z, i, c, rfl, rfl, h, ha, g⟩
theorem w_inL (h : SqL K H p ys) (fx : flatV x = true) (fy : ys.all flatV = true) (g : Q (.bl (inV x ys)) H) : rIn K false x (.ref p) H Q := ⟨p, ys, rfl, .inl h, fx, fy, g⟩
theorem w_inT (h : SqT K H p ys) (fx : flatV x = true) (fy : ys.all flatV = true) (g : Q (.bl (inV x ys)) H) : rIn K false x (.ref p) H Q := ⟨p, ys, rfl, .inr h, fx, fy, g⟩
theorem w_niL (h : SqL K H p ys) (fx : flatV x = true) (fy : ys.all flatV = true) (g : Q (.bl (!inV x ys)) H) : rIn K true x (.ref p) H Q := ⟨p, ys, rfl, .inl h, fx, fy, g⟩
theorem w_niT (h : SqT K H p ys) (fx : flatV x = true) (fy : ys.all flatV = true) (g : Q (.bl (!inV x ys)) H) : rIn K true x (.ref p) H Q := ⟨p, ys, rfl, .inr h, fx, fy, g⟩
theorem w_all {bs : List Bool} (h : SqL K H p (bs.map V.bl)) (g : Q (.bl (bs.all id)) H) : rAll K [.ref p] H Q := ⟨p, bs, rfl, h, g⟩
theorem w_any {bs : List Bool} (h : SqL K H p (bs.map V.bl)) (g : Q (.bl (bs.any id)) H) : rAny K [.ref p] H Q := ⟨p, bs, rfl, h, g⟩
theorem w_sort {zs : List Str} (h : SqL K H p (zs.map V.str)) (hl : zs.length < 64) (g : ∀ (ys : List Str) (p : Addr), ys.Perm zs → PyProof.Rows.sortedS ys = true → H p = none → Q (.ref p) (upd H p (.lst (ys.map V.str)))) : rSortedS K [.ref p] H Q := ⟨p, zs, rfl, h, hl, g⟩
theorem w_cat (h : H p = some (.lst xs)) (h' : H q = some (.lst ys)) (hl : xs.length + ys.length ≤ sizeLine) (g : ∀ l, H l = none → Q (.ref l) (upd H l (.lst (xs ++ ys)))) : rCat (.ref p) (.ref q) H Q := ⟨p, q, xs, ys, rfl, rfl, h, h', hl, g⟩
theorem w_isi {t u : Value} (hc : ClsV y u) (ht : TyX K H x t) (hk : PySem.W.kitOne K t u = some b) (g : Q (.bl b) H) : rIsi K [x, y] H Q := ⟨x, y, t, u, b, rfl, hc, ht, hk, g⟩
theorem w_join {zs : List Str} (h : SqL K H p (zs.map V.str)) (hl : (zs.map (·.length)).sum + zs.length * z.length ≤ 16777216) (g : Q (.str (Txt.join z zs)) H) : rJoin K (.str z) [.ref p] H Q := ⟨z, p, zs, rfl, rfl, .inl h, hl, g⟩
theorem w_slS {lo hi : Option Int} (h : z.length ≤ sizeLine) (g : Q (.str (cutS z lo hi)) H) : rSlS (.str z) lo hi H Q := ⟨z, rfl, h, g⟩
theorem w_slL {lo hi : Option Int} (h : SqL K H p xs) (g : ∀ l, H l = none → Q (.ref l) (upd H l (.lst (cutV xs lo hi)))) : rSlL K (.ref p) lo hi H Q := ⟨p, xs, rfl, h, g⟩
theorem w_sl {r : V → Option Int → Option Int → Hp → VK → Prop} {te : TE} {tl th : TO} (g : te σ H fun x H1 => tl σ H1 fun l H2 => th σ H2 fun u H3 => r x l u H3 Q) : tSl r te tl th σ H Q := g
theorem w_noP {QO : Option Int → Hp → Prop} (g : QO none H) : tNoPart σ H QO := g
theorem w_part {te : TE} {QO : Option Int → Hp → Prop} (g : te σ H fun x H1 => ∃ i, x = .int i ∧ QO (some i) H1) : tPart te σ H QO := g
theorem w_exI {R : Int → Prop} (g : R i) : ∃ k, V.int i = .int k ∧ R k := ⟨i, rfl, g⟩
theorem w_exS {R : Prop} (g : R) : (∃ a, V.str z = .str a) ∧ R := ⟨⟨z, rfl⟩, g⟩
theorem w_tyL {R : Prop} (h : SqL K H p xs) (g : R) : tyV K "list" (.ref p) H ∧ R := ⟨.inl ⟨rfl, xs, h⟩, g⟩
theorem w_size {R : Prop} {n : Nat} (h : n ≤ sizeLine) (g : R) : n ≤ sizeLine ∧ R := ⟨h, g⟩
theorem w_star {te : TE} {t : TA} {QA : List V → Hp → Prop} (g : te σ H fun x H1 => ∃ p xs, x = V.ref p ∧ (SqT K H1 p xs ∨ SqL K H1 p xs) ∧ t σ H1 fun ys H2 => QA (xs ++ ys) H2) : StX.tStar K te t σ H QA := g
theorem w_stT {R : List V → Prop} (h : SqT K H p xs) (g : R xs) : ∃ p' xs, V.ref p = V.ref p' ∧ (SqT K H p' xs ∨ SqL K H p' xs) ∧ R xs := ⟨p, xs, rfl, .inl h, g⟩
theorem w_iL {tl : TE} {R : It → Hp → Prop} (g : tl σ H fun x H1 => ∃ a, x = .ref a ∧ (∃ xs, SqL K H1 a xs) ∧ R (Itl K a) H1) : iList K tl σ H R := g
theorem w_iT {tl : TE} {R : It → Hp → Prop} (g : tl σ H fun x H1 => ∃ a, x = .ref a ∧ (∃ xs, SqT K H1 a xs) ∧ R (Itt K a) H1) : iTup K tl σ H R := g
theorem w_iLx {R : Addr → Prop} (h : SqL K H p xs) (g : R p) : ∃ a, V.ref p = .ref a ∧ (∃ xs, SqL K H a xs) ∧ R a := ⟨p, rfl, ⟨xs, h⟩, g⟩
theorem w_iTx {R : Addr → Prop} (h : SqT K H p xs) (g : R p) : ∃ a, V.ref p = .ref a ∧ (∃ xs, SqT K H a xs) ∧ R a := ⟨p, rfl, ⟨xs, h⟩, g⟩
end

/-! ### comprehensions and loops, apart from what they walk -/
section
variable {K : PySem.W.Frag} {σ : L2.St} {H : Hp} {Q : VK} {g : TG} {tt : TT} {te : TE} {vs : List Nat} {wi : TI} {J : It} {n : Nat} {G : Hp → Prop} {Y : Nat → Hp → V → Hp → Prop}
/-- one turn of a comprehension: the target, the test, the element; R: what is kept, or none -/
def Turn1 (g : TG) (tt : TT) (te : TE) (vs : List Nat) (σ : L2.St) (x : V) (H : Hp) (R : Option V → Hp → Prop) : Prop :=
  g x (wipe σ vs) H fun σ2 H2 => wipe σ2 vs = wipe σ vs ∧ tt σ2 H2 fun b H3 => if b = true then te σ2 H3 fun y H4 => R (some y) H4 else R none H3
def LcB (J : It) (g : TG) (tt : TT) (te : TE) (vs : List Nat) (σ : L2.St) (Q : VK) (H1 : Hp) : Prop :=
  ∀ D, H1 D = none → ∃ W : Nat → Nat → Hp → Prop, (∃ m, W 0 m (upd H1 D (.lst []))) ∧ ∀ i m H, W i m H →
    (J.stop i H ∧ Q (.ref D) H) ∨ (J.go i H ∧ ∃ Nx : Hp → Prop, (∀ H', Nx H' → ∃ m', m' < m ∧ W (i + 1) m' H') ∧ ∀ x H', J.yld i H x H' → g x (wipe σ vs) H' fun σ2 H2 => wipe σ2 vs = wipe σ vs ∧ tt σ2 H2 fun b H3 =>
      if b = true then te σ2 H3 fun y H4 => ∃ acc, H4 D = some (.lst acc) ∧ acc.length < sizeLine ∧ Nx (upd H4 D (.lst (acc ++ [y]))) else Nx H3)
theorem w_lc (h : wi σ H fun J H1 => LcB J g tt te vs σ Q H1) : tLc wi g tt te vs σ H Q := h
/-- what a turn must leave: the list so far stands at D, and the word holds of the longer one (or of the same, where nothing is kept) -/
def LcR (D : Addr) (P : List V → Hp → Prop) : Option V → Hp → Prop
  | some y, H => ∃ acc, H D = some (.lst acc) ∧ acc.length < sizeLine ∧ ∃ acc', P acc' (upd H D (.lst (acc ++ [y])))
  | none, H => ∃ acc', P acc' H
theorem lcr_some {D : Addr} {P : List V → Hp → Prop} {y : V} {acc : List V} (h : H D = some (.lst acc)) (hl : acc.length < sizeLine) (hp : P (acc ++ [y]) (upd H D (.lst (acc ++ [y])))) : LcR D P (some y) H := ⟨acc, h, hl, _, hp⟩
theorem lcr_none {D : Addr} {P : List V → Hp → Prop} {acc : List V} (hp : P acc H) : LcR D P none H := ⟨acc, hp⟩
/-- an invariant by the turn, the list so far and the heap -/
theorem lcb (w : Walk J n G Y) (Pv : Addr → Nat → List V → Hp → Prop) (h0 : ∀ D, H D = none → Pv D 0 [] (upd H D (.lst [])))
    (hG : ∀ D i acc H', H D = none → i ≤ n → Pv D i acc H' → G H')
    (hs : ∀ D i x acc H1 H2, H D = none → i < n → Pv D i acc H1 → Y i H1 x H2 → Turn1 g tt te vs σ x H2 (LcR D (Pv D (i + 1))))
    (hd : ∀ D acc H', H D = none → Pv D n acc H' → Q (.ref D) H') : LcB J g tt te vs σ Q H := by
  intro D nD
  refine ⟨fun i m H' => m = n - i ∧ i ≤ n ∧ ∃ acc, Pv D i acc H', ⟨n, by simp, Nat.zero_le _, [], h0 D nD⟩, ?_⟩
  rintro i m H' ⟨rfl, hi, acc, p⟩
  have q := hG D i acc H' nD hi p
  by_cases e : i = n
  · subst e
    exact .inl ⟨w.stops H' q, hd D acc H' nD p⟩
  · have hlt : i < n := by omega
    refine .inr ⟨w.goes i H' hlt q, fun H'' => ∃ acc, Pv D (i + 1) acc H'', fun H'' ⟨acc', p'⟩ => ⟨n - (i + 1), by omega, rfl, by omega, acc', p'⟩, fun x H2 y => ?_⟩
    exact hs D i x acc H' H2 nD hlt p (w.yields i H' x H2 hlt q y)
/-- a comprehension whose turn makes nothing: a filter and a map; the items by ea, what is kept by eb -/
theorem lcb_pure {α β : Type} (ea : α → V) (eb : β → V) {xs : List α} {G : Hp → Prop} (w : Walk J (xs.map ea).length G (YAt (xs.map ea))) (hG : ∀ H', Same H H' → G H') (hl : xs.length < sizeLine) (f : α → Option β)
    (hs : ∀ x H', x ∈ xs → Same H H' → ∀ R : Option V → Hp → Prop, R ((f x).map eb) H' → Turn1 g tt te vs σ (ea x) H' R)
    (hd : ∀ D, H D = none → Q (.ref D) (upd H D (.lst ((xs.filterMap f).map eb)))) : LcB J g tt te vs σ Q H := by
  refine lcb w (fun D i acc H' => H' = upd H D (.lst acc) ∧ acc = ((xs.take i).filterMap f).map eb) (fun D nD => ⟨rfl, rfl⟩) (fun D i acc H' nD _ p => ?_) (fun D i x acc H1 H2 nD hi p y => ?_) (fun D acc H' nD p => ?_)
  · obtain ⟨rfl, rfl⟩ := p
    exact hG _ (Same.new nD)
  · obtain ⟨rfl, rfl⟩ := p
    obtain ⟨rfl, hx⟩ := y
    rw [List.getElem?_map] at hx
    cases hq : xs[i]? with
    | none => rw [hq] at hx; cases hx
    | some z =>
      rw [hq] at hx
      cases hx
      refine hs z _ (List.mem_of_getElem? hq) (Same.new nD) _ ?_
      have e : xs.take (i + 1) = xs.take i ++ [z] := by
        rw [List.take_succ, hq] <;> rfl
      cases hf : f z with
      | none =>
        refine lcr_none (acc := ((xs.take (i + 1)).filterMap f).map eb) ⟨?_, rfl⟩
        rw [e, List.filterMap_append]
        simp [hf]
      | some v =>
        refine lcr_some upd_same ?_ ⟨by rw [upd_upd], ?_⟩
        · rw [List.length_map]
          refine Nat.lt_of_le_of_lt (List.length_filterMap_le _ _) ?_
          rw [List.length_take]; omega
        · rw [e, List.filterMap_append]
          simp [hf]
  · obtain ⟨rfl, rfl⟩ := p
    rw [List.length_map, List.take_length]
    exact hd D nD
theorem w_turn {x : V} {R : Option V → Hp → Prop} (h : g x (wipe σ vs) H fun σ2 H2 => wipe σ2 vs = wipe σ vs ∧ tt σ2 H2 fun b H3 => if b = true then te σ2 H3 fun y H4 => R (some y) H4 else R none H3) : Turn1 g tt te vs σ x H R := h
theorem w_wipe {σ2 : L2.St} {A : Prop} (h : wipe σ2 vs = wipe σ vs) (g : A) : wipe σ2 vs = wipe σ vs ∧ A := ⟨h, g⟩
theorem w_iR1 {ta : TA} {R : It → Hp → Prop} (g : ta σ H fun vs H1 => ∃ j : Int, vs = [.int j] ∧ -(2 ^ 62) ≤ j ∧ j < 2 ^ 62 ∧ R (Itr 0 j.toNat) H1) : iRng1 ta σ H R := g
theorem w_iR1x {R : Int → Prop} {i : Int} (h0 : -(2 ^ 62) ≤ i) (h1 : i < 2 ^ 62) (g : R i) : ∃ j : Int, [V.int i] = [.int j] ∧ -(2 ^ 62) ≤ j ∧ j < 2 ^ 62 ∧ R j := ⟨i, rfl, h0, h1, g⟩
theorem w_iR2 {ta : TA} {R : It → Hp → Prop} (g : ta σ H fun vs H1 => ∃ i j : Int, vs = [.int i, .int j] ∧ (-(2 ^ 62) ≤ i ∧ i < 2 ^ 62 ∧ -(2 ^ 62) ≤ j ∧ j < 2 ^ 62) ∧ R (Itr i (j - i).toNat) H1) : iRng2 ta σ H R := g
theorem w_iE {ta : TA} {R : It → Hp → Prop} (g : ta σ H fun vs H1 => ∃ a xs, vs = [.ref a] ∧ SqL K H1 a xs ∧ R (Ite K a) H1) : iEnum K ta σ H R := g
theorem w_iEx {R : Addr → Prop} {p : Addr} {xs : List V} (h : SqL K H p xs) (g : R p) : ∃ a xs, [V.ref p] = [.ref a] ∧ SqL K H a xs ∧ R a := ⟨p, xs, rfl, h, g⟩
theorem w_iS {R : It → Hp → Prop} (g : te σ H fun v H1 => ∃ x, v = .str x ∧ R (Its x) H1) : iStr te σ H R := g
theorem w_iSx {R : Str → Prop} {z : Str} (g : R z) : ∃ x, V.str z = .str x ∧ R x := ⟨z, rfl, g⟩
def ForB (J : It) (g : TG) (tb : TS) (D : Ends) (σ : L2.St) (H1 : Hp) : Prop := ∃ W : Nat → Nat → L2.St → Hp → Prop, (∃ m, W 0 m σ H1) ∧ ∀ i m σ H, W i m σ H →
  (J.stop i H ∧ D.nx σ H) ∨ (J.go i H ∧ ∃ N : L2.St → Hp → Prop, (∀ σ' H', N σ' H' → ∃ m', m' < m ∧ W (i + 1) m' σ' H') ∧ ∀ x H', J.yld i H x H' → g x σ H' fun σ2 H2 => tb { D with nx := N, ct := N, bk := D.nx } σ2 H2)
theorem w_for {tb : TS} {D : Ends} (h : wi σ H fun J H1 => ForB J g tb D σ H1) : tFor wi g tb D σ H := h
theorem forb {tb : TS} {nx bk ct : L2.St → Hp → Prop} {rt : VK} (w : Walk J n G Y) (Pv : Nat → L2.St → Hp → Prop) (h0 : Pv 0 σ H) (hG : ∀ i σ H, i ≤ n → Pv i σ H → G H)
    (hs : ∀ i x σ H H', i < n → Pv i σ H → Y i H x H' → g x σ H' fun σ2 H2 => tb ⟨Pv (i + 1), rt, nx, Pv (i + 1)⟩ σ2 H2) (hd : ∀ σ H, Pv n σ H → nx σ H) : ForB J g tb ⟨nx, rt, bk, ct⟩ σ H :=
  for_it w Pv h0 hG hs hd
end

/-! ### rules with the written part named -/
section
variable {X : Cx}
theorem k_ixL (K : PySem.W.Frag) (h : X.K = K := by rfl) : IxR X (rIxL K) := by subst h; exact ix_list
theorem k_ixT (K : PySem.W.Frag) (h : X.K = K := by rfl) : IxR X (rIxT K) := by subst h; exact ix_tup
theorem k_slL (K : PySem.W.Frag) (h : X.K = K := by rfl) : SlR X (rSlL K) := by subst h; exact sl_list
theorem k_slT (K : PySem.W.Frag) (h : X.K = K := by rfl) : SlR X (rSlT K) := by subst h; exact sl_tup
theorem k_in (K : PySem.W.Frag) (h : X.K = K := by rfl) : OpR X (compareOp .In) (rIn K false) := by subst h; exact op_in_seq
theorem k_ni (K : PySem.W.Frag) (h : X.K = K := by rfl) : OpR X (compareOp .NotIn) (rIn K true) := by subst h; exact op_notIn_seq
theorem k_eqD (K : PySem.W.Frag) (hu : X.A.units + 64 < cLine) (h : X.K = K := by rfl) : OpR X (compareOp .Eq) (rEqD K) := by subst h; exact op_eqD hu
theorem k_neD (K : PySem.W.Frag) (hu : X.A.units + 64 < cLine) (h : X.K = K := by rfl) : OpR X (compareOp .NotEq) (rNeD K) := by subst h; exact op_neD hu
theorem k_inD (K : PySem.W.Frag) (hu : X.A.units + 65 < cLine) (h : X.K = K := by rfl) : OpR X (compareOp .In) (rInD K) := by subst h; exact op_inD hu
theorem k_niD (K : PySem.W.Frag) (hu : X.A.units + 65 < cLine) (h : X.K = K := by rfl) : OpR X (compareOp .NotIn) (rNotInD K) := by subst h; exact op_notInD hu
theorem k_len (K : PySem.W.Frag) (h : X.K = K := by rfl) : CallR X (.builtin "len") (rLenQ K) := by subst h; exact c_len
theorem k_list (K : PySem.W.Frag) (h : X.K = K := by rfl) : CallR X (.type "list") (rListQ K) := by subst h; exact c_list
theorem k_tupL (K : PySem.W.Frag) (h : X.K = K := by rfl) : CallR X (.type "tuple") (rTupL K) := by subst h; exact c_tupL
theorem k_tupT (K : PySem.W.Frag) (h : X.K = K := by rfl) : CallR X (.type "tuple") (rTupT K) := by subst h; exact c_tupT
theorem k_all (K : PySem.W.Frag) (hc : X.calm = true) (h : X.K = K := by rfl) : CallR X (.builtin "all") (rAll K) := by subst h; exact cr_all hc
theorem k_any (K : PySem.W.Frag) (hc : X.calm = true) (h : X.K = K := by rfl) : CallR X (.builtin "any") (rAny K) := by subst h; exact cr_any hc
theorem k_sortS (K : PySem.W.Frag) (h : X.K = K := by rfl) : CallR X (.builtin "sorted") (rSortedS K) := by subst h; exact cr_sortedS
theorem k_isi (K : PySem.W.Frag) (h : X.K = K := by rfl) : CallR X (.builtin "isinstance") (rIsi K) := by subst h; exact call_isi
theorem k_index (K : PySem.W.Frag) (h : X.K = K := by rfl) : MtR X "list.index" (rIndex K) := by subst h; exact mt_index
theorem k_indexD (K : PySem.W.Frag) (hu : X.A.units + 65 < cLine) (h : X.K = K := by rfl) : MtR X "list.index" (rIndexD K) := by subst h; exact mt_indexD hu
variable {o e tg l : Expr} {es : List Expr} {te to tl ta : TE} {t : TA} {f name : Str} {pos apos cpos p tpos : Pos}
theorem k_fld (K : PySem.W.Frag) (he : PE X e ta) (hb : attributeBase e f X.env (eval e X.env) = eval e X.env) (h : X.K = K := by rfl) : PE X (.Attribute e f pos) (tFld K ta f) := by subst h; exact pe_fld he hb
theorem k_sfld (K : PySem.W.Frag) {value : Expr} {tv : TE} {pos' : Pos} (ha : PE X o ta) (hv : PE X value tv) (hs : swapsWith value (some (.Attribute o f pos')) pos.line X.env = pure false) (h : X.K = K := by rfl) : PS X (.Assign [.Attribute o f pos'] value pos) (sFld K ta tv f) := by subst h; exact ps_fld ha hv hs
theorem k_iL (K : PySem.W.Frag) (hl : PE X l tl) (h : X.K = K := by rfl) : PI X tg l (iList K tl) := by subst h; exact pi_list hl
theorem k_iT (K : PySem.W.Frag) (hl : PE X l tl) (h : X.K = K := by rfl) : PI X tg l (iTup K tl) := by subst h; exact pi_tup hl
theorem k_iE (K : PySem.W.Frag) {tA : TA} {elts : List Expr} {kk : Nat} (hg : Gl X "enumerate") (hm : X.mg "enumerate" = none) (ha : PA X [e] tA) (hs : starEach [e] X.env = [(false, eval e X.env)] := by rfl) (h : X.K = K := by rfl) :
    PI X (.Tuple elts kk tpos) (.Call (.Name "enumerate" p) [e] [] pos) (iEnum K tA) := by subst h; exact pi_enum hg hm ha hs
theorem k_gT (K : PySem.W.Frag) {k n : Nat} {tG : TGs} (hc : X.calm = true) (hp : PGs X es tG) (hn : (assignEach es X.env).length = n := by rfl) (hst : (assignEach es X.env).findIdx? (·.1) = none := by rfl) (h : X.K = K := by rfl) : PG X (.Tuple es k pos) (gTup K n tG) := by subst h; exact pg_tup hc hp hn hst
theorem k_star (K : PySem.W.Frag) (he : PE X e te) (hr : PA X es t) (hs : starEach (.Starred e p :: es) X.env = (true, eval e X.env) :: starEach es X.env := by rfl) (h : X.K = K := by rfl) : PA X (.Starred e p :: es) (StX.tStar K te t) := by subst h; exact StX.pa_star he hr hs
theorem k_join (K : PySem.W.Frag) (ho : PE X o to) (he : PE X e te) (hs : starEach [e] X.env = [(false, eval e X.env)] := by rfl) (hbase : attributeBase o "join" X.env (eval o X.env) = eval o X.env := by rfl) (hline : (apos.endLine == pos.line) = true := by rfl) (h : X.K = K := by rfl) :
    PE X (.Call (.Attribute o "join" apos) [e] [] pos) (tM1 (rJoin K) to te) := by subst h; exact pe_join ho he hs hbase hline
theorem k_bm (K : PySem.W.Frag) {T id : String} {r : V → List V → Hp → VK → Prop} (pa : PlainAttrs T) (slot : Slot T name id) (hty : typeOf (.builtin id) = pure (.type "method_descriptor")) (hm : MtR X id r) (ho : PE X o to) (ha : PA X (e :: es) t)
    (hbase : attributeBase o name X.env (eval o X.env) = eval o X.env := by rfl)
    (hfew : ((backTo cpos (starEach (e :: es) X.env)).all (fun x => !x.1) && (backToKw cpos (keywordEach [] X.env)).all (fun x => x.1.isSome)
      && decide ((e :: es).length + ([] : List Keyword).length + (if ([] : List Keyword).isEmpty then 0 else 1) < 30)) = true := by rfl)
    (hline : (apos.endLine == cpos.line) = true := by rfl) (hs : starEach (e :: es) X.env = (false, eval e X.env) :: starEach es X.env := by rfl) (hplain : (backTo cpos (starEach es X.env)).any (·.1) = false := by rfl) (h : X.K = K := by rfl) :
    PE X (.Call (.Attribute o name apos) (e :: es) [] cpos) (tBM K T r to t) := by subst h; exact pe_bm pa slot hty hm ho ha hbase hfew hline hs hplain
theorem k_bm0 (K : PySem.W.Frag) {T id : String} {r : V → List V → Hp → VK → Prop} (pa : PlainAttrs T) (slot : Slot T name id) (hty : typeOf (.builtin id) = pure (.type "method_descriptor")) (hm : MtR X id r) (ho : PE X o to)
    (hbase : attributeBase o name X.env (eval o X.env) = eval o X.env := by rfl) (hline : (apos.endLine == cpos.line) = true := by rfl) (h : X.K = K := by rfl) : PE X (.Call (.Attribute o name apos) [] [] cpos) (tBM0 K T r to) := by subst h; exact pe_bm0 pa slot hty hm ho hbase hline
end
/-! ### what may be a list or a tuple -/
def iSeq (K : PySem.W.Frag) (tl : TE) : TI := fun σ H R => tl σ H fun x H1 => ∃ a, x = .ref a ∧ (((∃ xs, SqL K H1 a xs) ∧ R (Itl K a) H1) ∨ ((∃ xs, SqT K H1 a xs) ∧ R (Itt K a) H1))
theorem k_iQ {X : Cx} {tg l : Expr} {tl : TE} (K : PySem.W.Frag) (hl : PE X l tl) (hK : X.K = K := by rfl) : PI X tg l (iSeq K tl) := by
  subst hK
  refine ⟨fun pins s σ H R I h => thn (hl.run pins s σ H _ I h) fun v s1 ⟨x, H1, I1, r1, a, e, q1⟩ => ?_⟩
  subst e
  cases r1
  have fin : ∀ b, b ∈ [s1.heap.objs.size] → FpOk X pins H1 b := fun b hb => by
    rw [List.mem_singleton.mp hb]
    exact I1.fpOk (Nat.le_refl _) (I1.hok.fresh (Nat.le_refl _))
  rcases q1 with ⟨⟨xs, hq⟩, q⟩ | ⟨⟨xs, hq⟩, q⟩
  · obtain ⟨its, rv, p, hz⟩ := I1.list hq
    exact wpAny_pyIter_list p.isList ⟨s1.heap.objs.size, [s1.heap.objs.size], _, _, H1, rfl, I1.kept (t' := s1.toks) fun b o e => Heap.get?_push_of_some _ e, turn_list a _, ⟨_, Heap.get?_push_size _ rfl, rfl, rfl⟩, fin, q⟩
  · obtain ⟨its, rv, p, hz⟩ := I1.tuple hq
    exact wpAny_pyIter_tuple (show s1.heap.IsTuple a its.toArray from p) ⟨s1.heap.objs.size, [s1.heap.objs.size], _, _, H1, rfl, I1.kept (t' := s1.toks) fun b o e => Heap.get?_push_of_some _ e, turn_tuple a _, ⟨_, Heap.get?_push_size _ rfl, rfl, rfl⟩, fin, q⟩
section
variable {K : PySem.W.Frag} {σ : L2.St} {H : Hp} {p : Addr} {xs : List V}
theorem w_iQ {tl : TE} {R : It → Hp → Prop} (g : tl σ H fun x H1 => ∃ a, x = .ref a ∧ (((∃ xs, SqL K H1 a xs) ∧ R (Itl K a) H1) ∨ ((∃ xs, SqT K H1 a xs) ∧ R (Itt K a) H1))) : iSeq K tl σ H R := g
theorem w_iQl {A B : Addr → Prop} (h : SqL K H p xs) (g : A p) : ∃ a, V.ref p = .ref a ∧ (((∃ xs, SqL K H a xs) ∧ A a) ∨ ((∃ xs, SqT K H a xs) ∧ B a)) := ⟨p, rfl, .inl ⟨⟨xs, h⟩, g⟩⟩
theorem w_iQt {A B : Addr → Prop} (h : SqT K H p xs) (g : B p) : ∃ a, V.ref p = .ref a ∧ (((∃ xs, SqL K H a xs) ∧ A a) ∨ ((∃ xs, SqT K H a xs) ∧ B a)) := ⟨p, rfl, .inr ⟨⟨xs, h⟩, g⟩⟩
end
theorem ite_nt {A B : Prop} (h : B) : if (!true) = true then A else B := by simpa using h
theorem ite_nf {A B : Prop} (h : A) : if (!false) = true then A else B := by simpa using h
end Mf

namespace Mf
open PySem L2 TL
/-! ### names -/
def IsName (x : Str) : Prop := 1 ≤ x.length ∧ x.length ≤ 8 ∧ ∀ c ∈ x.cps.toList, 97 ≤ c ∧ c ≤ 122
instance (x : Str) : Decidable (IsName x) := inferInstanceAs (Decidable (_ ∧ _ ∧ _))
theorem len_list (x : Str) : x.length = x.cps.toList.length := by
  show x.cps.size = _; rw [Array.length_toList]
theorem str_ext {x y : Str} (h : x.cps.toList = y.cps.toList) : x = y := by
  cases x; cases y
  congr
  exact Array.toList_inj.mp h
theorem app_list (x y : Str) : (x ++ y).cps.toList = x.cps.toList ++ y.cps.toList := by
  show (x.cps ++ y.cps).toList = _
  exact Array.toList_append
theorem eqV_str (x y : Str) : eqV (.str y) (.str x) = decide (y = x) := by
  show (y == x) = decide (y = x)
  by_cases h : y = x
  · rw [decide_eq_true h, h]; exact beq_self_eq_true x
  · rw [decide_eq_false h]; exact beq_eq_false_iff_ne.mpr h
theorem inV_strs (x : Str) : ∀ xs : List Str, inV (.str x) (xs.map V.str) = decide (x ∈ xs)
  | [] => by simp [inV]
  | y :: ys => by
    have ih := inV_strs x ys
    unfold inV at ih ⊢
    rw [List.map_cons, List.any_cons, ih, eqV_str]
    by_cases h : y = x
    · subst h; simp
    · have h' : ¬ x = y := fun e => h e.symm
      simp [h, h']
theorem flat_strsM (xs : List Str) : (xs.map V.str).all flatV = true := by
  rw [List.all_eq_true]
  intro v hv
  obtain ⟨x, _, rfl⟩ := List.mem_map.mp hv
  rfl
theorem atI_all {α : Type} {xs : List α} (P : α → Prop) (h : ∀ x ∈ xs, P x) {v : Int} (h0 : 0 ≤ v) (h1 : v < xs.length) : ∃ x, atI xs v = some x ∧ P x := by
  have hj : v.toNat < xs.length := by omega
  refine ⟨xs[v.toNat], ?_, h _ (List.getElem_mem hj)⟩
  have e : ((v.toNat : Nat) : Int) = v := by omega
  exact (congrArg (atI xs) e).symm.trans (atI_nat (List.getElem?_eq_getElem hj))
/-- more than the others have: one is new -/
theorem pigeon {α : Type} [DecidableEq α] : ∀ (ks xs : List α), ks.Nodup → xs.length < ks.length → ∃ k ∈ ks, k ∉ xs
  | [], xs, _, h => by simp at h
  | k :: ks, xs, nd, h => by
    obtain ⟨h1, h2⟩ := List.nodup_cons.mp nd
    by_cases hk : k ∈ xs
    · have hl : (xs.erase k).length < ks.length := by
        rw [List.length_erase_of_mem hk]
        have : 0 < xs.length := List.length_pos_of_mem hk
        simp at h
        omega
      obtain ⟨j, hj, hn⟩ := pigeon ks (xs.erase k) h2 hl
      refine ⟨j, List.mem_cons_of_mem _ hj, fun hm => hn ?_⟩
      exact (List.mem_erase_of_ne (fun (e : j = k) => h1 (by rw [← e]; exact hj))).mpr hm
    · exact ⟨k, List.mem_cons_self, hk⟩
def sign (c : Nat) : Str := ⟨#[c]⟩
theorem joinL_signs : ∀ cs : List Nat, joinL [] (cs.map fun c => [c]) = cs
  | [] => rfl
  | [c] => rfl
  | c :: d :: r => by
    have ih := joinL_signs (d :: r)
    show [c] ++ ([] ++ joinL [] ((d :: r).map fun c => [c])) = _
    rw [ih]; rfl
theorem join_signs (cs : List Nat) : Txt.join "" (cs.map sign) = ⟨cs.toArray⟩ := by
  apply str_ext
  rw [join_eq]
  have e := tl_join "" (cs.map sign)
  have e1 : tl "" = [] := by decide +kernel
  rw [e1, List.map_map] at e
  refine Eq.trans (show (Str.join "" (cs.map sign)).cps.toList = tl (Str.join "" (cs.map sign)) from rfl) (e.trans ?_)
  exact joinL_signs cs
theorem cut1 (z : Str) : (cutS z (some 1) none).cps.toList = z.cps.toList.drop 1 := by
  have e : HT.sIx z.length 0 (some 1) = min 1 z.length := by
    unfold HT.sIx
    simp
  have e2 : HT.sIx z.length z.length none = z.length := rfl
  show (((z.cps.toList.drop (HT.sIx z.length 0 (some 1))).take (HT.sIx z.length z.length none - HT.sIx z.length 0 (some 1))).toArray).toList = _
  rw [e, e2, List.toList_toArray, len_list]
  cases h : z.cps.toList with
  | nil => simp
  | cons a r => simp [List.take_of_length_le]
theorem isName_q {x : Str} (h : IsName x) (hl : 3 < x.length) : IsName ("q" ++ cutS x (some 1) none) := by
  have e : ("q" ++ cutS x (some 1) none : Str).cps.toList = 113 :: x.cps.toList.drop 1 := by
    rw [app_list, cut1]
    rfl
  refine ⟨?_, ?_, fun c hc => ?_⟩
  · rw [len_list, e]; simp
  · rw [len_list, e, List.length_cons, List.length_drop, ← len_list]
    have := h.2.1; omega
  · rw [e] at hc
    rcases List.mem_cons.mp hc with rfl | hc
    · omega
    · exact h.2.2 c (List.mem_of_mem_drop hc)
theorem signs_size (cs : List Nat) (h : cs.length ≤ 1000) : ((cs.map sign).map (·.length)).sum + (cs.map sign).length * (Str.ofString "").length ≤ 16777216 := by
  have e : (Str.ofString "").length = 0 := by decide +kernel
  have e2 : ∀ l : List Nat, ((l.map sign).map (·.length)).sum = l.length := by
    intro l
    induction l with
    | nil => rfl
    | cons a r ih => rw [List.map_cons, List.map_cons, List.sum_cons, ih, List.length_cons, show (sign a).length = 1 from rfl]; omega
  rw [e, e2]; omega
theorem walk_signs (z : Str) : Walk (Its z) (z.cps.toList.map fun c => V.str (sign c)).length (fun _ => True) (YAt (z.cps.toList.map fun c => V.str (sign c))) := by
  have e : (z.cps.toList.map fun c => V.str (sign c)).length = z.cps.size := by rw [List.length_map, Array.length_toList]
  rw [e]
  refine walk_str.mono (fun _ h => h) fun i H x H' hi _ ⟨h1, c, h2, h3⟩ => ⟨h1, ?_⟩
  rw [List.getElem?_map, Array.getElem?_toList, h2, h3]
  rfl
end Mf

namespace Mf
open PySem L2
/-! ### the law's helpers: what they promise, and how a promise is used -/
def But (p : Addr) (H H' : Hp) : Prop := ∀ b, b ≠ p → H' b = H b
theorem But.kp {p : Addr} {H H' : Hp} (h : But p H H') : Kp p H H' := fun b o n e => by rw [h b n]; exact e
theorem use_draw {p : Addr} {c : Nat} {m : Int} {H : Hp} {Q : VK} {E : XK} (h : Src H p c) (hc : c < LIM) (h0 : 0 < m) (h1 : m < 2 ^ 1000)
    (g : ∀ (v : Int) (c' : Nat) (H' : Hp), 0 ≤ v → v < m → c' ≤ c + 1 → Src H' p c' → But p H H' → Q (.int v) H') : sp_draw ([.ref p, .int m] ++ []) H Q E :=
  ⟨p, c, m, rfl, h, hc, h0, h1, fun v c' o a b d e => g v c' _ a b d e fun b n => upd_ne n⟩
theorem Src.ne {H : Hp} {p q : Addr} {c : Nat} (h : Src H p c) (n : H q = none) : q ≠ p := by
  obtain ⟨g, s, h1, _⟩ := h
  exact (ne_of_none h1 n).symm
theorem Src.tracked {H : Hp} {p q : Addr} {c : Nat} (h : Src H p c) (n : H q = none) : p ≠ q := (h.ne n).symm
theorem Src.new {H : Hp} {p q : Addr} {c : Nat} {o : HO} (h : Src H p c) (n : H q = none) : Src (upd H q o) p c := h.same (Same.new n)
theorem Src.mut {H : Hp} {p q : Addr} {c : Nat} {o : HO} (h : Src H p c) (n : p ≠ q) : Src (upd H q o) p c := by
  obtain ⟨g, s, h1, h2⟩ := h
  exact ⟨g, s, by rw [upd_ne n]; exact h1, h2⟩
def sp_name (K : PySem.W.Frag) : Sp := fun vs H Q _ => ∃ (p a : Addr) (c : Nat) (xs : List Str), vs = [.ref p, .ref a] ∧ Src H p c ∧ c + 10 < LIM ∧ SqL K (hid p H) a (xs.map V.str) ∧ xs.length ≤ 16 ∧
  ∀ (x : Str) (c' : Nat) (H' : Hp), Kp p H H' → Src H' p c' → c' ≤ c + 10 → x ∉ xs → IsName x → Q (.str x) H'
theorem letters_at {v : Int} (h0 : 0 ≤ v) (h1 : v < 26) : ∃ c, atI (Str.ofString "abcdefghijklmnopqrstuvwxyz").cps.toList v = some c ∧ 97 ≤ c ∧ c ≤ 122 := by
  have e : (Str.ofString "abcdefghijklmnopqrstuvwxyz").cps.toList = [97, 98, 99, 100, 101, 102, 103, 104, 105, 106, 107, 108, 109, 110, 111, 112, 113, 114, 115, 116, 117, 118, 119, 120, 121, 122] := by decide +kernel
  rw [e]
  exact atI_all (fun c => 97 ≤ c ∧ c ≤ 122) (by decide) h0 h1
theorem letters_len : (Str.ofString "abcdefghijklmnopqrstuvwxyz").length = 26 := by decide +kernel
def zNames : List Str := (Str.ofString "abcdefghijklmnopq").cps.toList.map fun c => Str.ofString "z" ++ sign c
theorem zNames_nodup : zNames.Nodup := by decide +kernel
theorem zNames_len : zNames.length = 17 := by decide +kernel
theorem zNames_isName : ∀ x ∈ zNames, IsName x := by decide +kernel
theorem use_name {K : PySem.W.Frag} {p a : Addr} {c : Nat} {xs : List Str} {H : Hp} {Q : VK} {E : XK} (h : Src H p c) (hc : c + 10 < LIM) (hS : SqL K (hid p H) a (xs.map V.str)) (hl : xs.length ≤ 16)
    (g : ∀ (x : Str) (c' : Nat) (H' : Hp), Kp p H H' → Src H' p c' → c' ≤ c + 10 → x ∉ xs → IsName x → Q (.str x) H') : sp_name K ([.ref p, .ref a] ++ []) H Q E :=
  ⟨p, a, c, xs, rfl, h, hc, hS, hl, g⟩
/-- names, each once -/
def Names (xs : List Str) : Prop := xs.Nodup ∧ ∀ x ∈ xs, IsName x
def sp_names : Sp := fun vs H Q _ => ∃ (p : Addr) (c n : Nat), vs = [.ref p, .int n] ∧ Src H p c ∧ c + 10 * n + 10 < LIM ∧ n ≤ 16 ∧
  ∀ (xs : List Str) (a : Addr) (c' : Nat) (H' : Hp), Kp p H H' → Src H' p c' → c' ≤ c + 10 * n → H a = none → H' a = some (.lst (xs.map V.str)) → xs.length = n → Names xs → Q (.ref a) H'
theorem use_names {p : Addr} {c n : Nat} {H : Hp} {Q : VK} {E : XK} (h : Src H p c) (hc : c + 10 * n + 10 < LIM) (hn : n ≤ 16)
    (g : ∀ (xs : List Str) (a : Addr) (c' : Nat) (H' : Hp), Kp p H H' → Src H' p c' → c' ≤ c + 10 * n → H a = none → H' a = some (.lst (xs.map V.str)) → xs.length = n → Names xs → Q (.ref a) H') : sp_names ([.ref p, .int (n : Int)] ++ []) H Q E :=
  ⟨p, c, n, rfl, h, hc, hn, g⟩
/-- some of a list, by draws -/
def sp_subset (K : PySem.W.Frag) : Sp := fun vs H Q _ => ∃ (p a : Addr) (c : Nat) (xs : List Str), vs = [.ref p, .ref a] ∧ Src H p c ∧ c + xs.length < LIM ∧ SqL K (hid p H) a (xs.map V.str) ∧ xs.length ≤ 1000 ∧
  ∀ (ys : List Str) (b : Addr) (c' : Nat) (H' : Hp), Kp p H H' → Src H' p c' → c' ≤ c + xs.length → H b = none → H' b = some (.lst (ys.map V.str)) → ys.Sublist xs → Q (.ref b) H'
theorem use_subset {K : PySem.W.Frag} {p a : Addr} {c : Nat} {xs : List Str} {H : Hp} {Q : VK} {E : XK} (h : Src H p c) (hc : c + xs.length < LIM) (hS : SqL K (hid p H) a (xs.map V.str)) (hl : xs.length ≤ 1000)
    (g : ∀ (ys : List Str) (b : Addr) (c' : Nat) (H' : Hp), Kp p H H' → Src H' p c' → c' ≤ c + xs.length → H b = none → H' b = some (.lst (ys.map V.str)) → ys.Sublist xs → Q (.ref b) H') : sp_subset K ([.ref p, .ref a] ++ []) H Q E :=
  ⟨p, a, c, xs, rfl, h, hc, hS, hl, g⟩
theorem Kp.free {p q : Addr} {H H' : Hp} (e : Kp p H H') (n : q ≠ p) (h : H' q = none) : H q = none := by
  cases z : H q with
  | none => rfl
  | some o => rw [e q o n z] at h; cases h
theorem sq_hid {K : PySem.W.Frag} {H : Hp} {p a : Addr} {xs : List V} (n : a ≠ p) (h : H a = some (.lst xs)) : SqL K (hid p H) a xs := SqL.of (by rw [hid_ne n]; exact h)
end Mf

namespace Mf
open PySem PySem.Spec PyProof.Rows L2
/-! ### sets of texts: made by a comprehension, sorted. The road is that of HandS.Set and HandS.SetBool, for texts. -/
def txt (e : Int × Value) : Str := match e.2 with | .str x _ => x | _ => Str.empty
def TxtE (w : World) (e : Int × Value) : Prop := ∃ x t, e.2 = Value.str x t ∧ e.1 = hashStr w x
/-- the set at a holds the texts xs, each once -/
def TxtSet (w : World) (h : Heap) (a : Addr) (xs : List Str) : Prop :=
  ∃ o es ep t, h.get? a = some o ∧ o.ExactSet ∧ o.data = .set es ep t ∧ (∀ e ∈ es.toList, TxtE w e) ∧ (es.toList.map txt).Perm xs ∧ xs.Nodup ∧
    es.size < scanBound ∧ t.fits es.size = true ∧ Ris t.place.toList ∧ (w.params.followText "set-order" = true ∨ t.led = true)
section
variable {P : Program} {w : World} {h h' : Heap} {a : Addr} {xs : List Str}
theorem TxtSet.at (R : TxtSet w h a xs) (k : ∀ o, h.get? a = some o → h'.get? a = some o) : TxtSet w h' a xs := by
  obtain ⟨o, es, ep, t, ho, rest⟩ := R
  exact ⟨o, es, ep, t, k o ho, rest⟩
theorem txt_kind {e : Int × Value} (g : TxtE w e) (x : Str) : (PySem.strKind P w).is x e.2 = true ↔ txt e = x := by
  obtain ⟨y, t, e1, _⟩ := g
  unfold txt
  rw [e1]
  show Value.isStrOf x (.str y t) = true ↔ y = x
  simp [Value.isStrOf]
theorem txt_elems {l : List (Int × Value)} (g : ∀ e ∈ l, TxtE w e) : ElemsOf (PySem.strKind P w) l := fun e he => by
  obtain ⟨y, t, e1, e2⟩ := g e he
  refine ⟨⟨y, ?_, e2⟩, ?_⟩
  · rw [e1]; exact strKind_is P w y t
  · rw [e1]; rfl
theorem txt_mem {l : List (Int × Value)} (g : ∀ e ∈ l, TxtE w e) (x : Str) : x ∈ l.map txt ↔ ∃ e ∈ l, (PySem.strKind P w).is x e.2 = true := by
  constructor
  · intro hx
    obtain ⟨e, he, q⟩ := List.mem_map.mp hx
    exact ⟨e, he, (txt_kind (g e he) x).2 q⟩
  · rintro ⟨e, he, q⟩
    exact List.mem_map.mpr ⟨e, he, (txt_kind (g e he) x).1 q⟩
theorem txt_stored {o : Obj} {es es' : Array (Int × Value)} {ep : Nat} {t t' : SetTable} (ho : h.get? a = some o) (hd : o.data = .set es ep t) : (h.update a (Obj.putSet es' t')).get? a = some { o with data := .set es' (ep + 1) t' } := by
  have e := putSet_of es' t' hd
  have q := Heap.get?_update_self (Obj.putSet es' t') ho (by rw [e]; rfl)
  rwa [e] at q
end
/-- the members behind one more -/
def addT (xs : List Str) (x : Str) : List Str := if x ∈ xs then xs else x :: xs
section
variable {P : Program} {w : World} {A : Around} {E : Value → Shared → Prop} {s : Shared} {a : Addr} {xs : List Str}
theorem txt_settle {g : Bool → Sem Unit} (hg : ∀ (b : Bool) (s₁ : Shared) (Q' : Unit → Shared → Prop), Q' () s₁ → wpAny (model P w) A (g b) Q' E s₁)
    {o : Obj} {es : Array (Int × Value)} {ep : Nat} {t : SetTable} (ho : s.heap.get? a = some o) (hex : o.ExactSet) (hd : o.data = .set es ep t) {es1 : Array (Int × Value)} {t2 : SetTable} {ys : List Str}
    (g1 : ∀ e ∈ es1.toList, TxtE w e) (pm1 : (es1.toList.map txt).Perm ys) (nd1 : ys.Nodup) (hb1 : es1.size < scanBound) (hf2 : t2.fits es1.size = true) (hr : Ris t2.place.toList) (hl : w.params.followText "set-order" = true ∨ t2.led = true)
    {wasDummy : Bool} {R : Option Bool → Shared → Prop} (hR : ∀ h', Heap.SameBut a s.heap h' → TxtSet w h' a ys → R (some true) { s with heap := h' }) :
    wpAny (model P w) A (do
        storeSet a es1 t2
        if (!wasDummy && t2.tooFull) = true then do
            g (relayAll t2 es1 (SetTable.grown es1.size)).2.2
            storeSet a (relayAll t2 es1 (SetTable.grown es1.size)).1 (relayAll t2 es1 (SetTable.grown es1.size)).2.1
            pure (some true)
          else pure (some true)) R E s := by
  have ho1 := txt_stored (es' := es1) (t' := t2) ho hd
  have same1 := Heap.SameBut.update s.heap a (Obj.putSet es1 t2)
  refine wpAny_bind (wpAny_storeSet_of ho hd ?_ (fits_of_scanBound hb1))
  split
  · have pm := relayAll_perm t2 es1 (SetTable.grown es1.size)
    have hf3 := relayAll_fits t2 es1 (SetTable.grown es1.size)
    have hr3 := relayAll_ris t2 es1 (SetTable.grown es1.size)
    have hl3 := relayAll_led t2 es1 (SetTable.grown es1.size)
    generalize relayAll t2 es1 (SetTable.grown es1.size) = Z at pm hf3 hr3 hl3 ⊢
    obtain ⟨es2, t3, gave⟩ := Z
    dsimp only at pm hf3 hr3 hl3 ⊢
    have hsz : es2.size = es1.size := by
      have := pm.length_eq
      rwa [Array.length_toList, Array.length_toList] at this
    have hb2 : es2.size < scanBound := hsz ▸ hb1
    have ho2 := txt_stored (es' := es2) (t' := t3) ho1 rfl
    refine wpAny_bind (hg _ _ _ ?_)
    refine wpAny_bind (wpAny_storeSet_of ho1 rfl ?_ (fits_of_scanBound hb2))
    refine wpAny_pure (hR _ (same1.trans (Heap.SameBut.update _ a _)) ?_)
    refine ⟨_, es2, _, t3, ho2, hex, rfl, fun e he => g1 e (pm.mem_iff.mp he), (pm.map txt).trans pm1, nd1, hb2, hf3, hr3, hl.imp id fun z => ?_⟩
    rw [hl3]; exact z
  · exact wpAny_pure (hR _ same1 ⟨_, es1, _, t2, ho1, hex, rfl, g1, pm1, nd1, hb1, hf2, hr, hl⟩)
theorem txt_add_hashed {x : Str} {tk : Tok} {Q : Bool → Shared → Prop} (R : TxtSet w s.heap a xs) (room : xs.length + 1 < scanBound)
    (hQ : ∀ b h', Heap.SameBut a s.heap h' → TxtSet w h' a (addT xs x) → Q b { s with heap := h' }) :
    wpAny (model P w) A (setAddHashed a (.str x tk) ((PySem.strKind P w).hash x)) Q E s := by
  obtain ⟨o, es, ep, t, ho, hex, hd, g, pm0, nd, hb, hf, hr, hl⟩ := R
  have hkey : (PySem.strKind P w).is x (.str x tk) = true := strKind_is P w x tk
  have hsc : (Value.str x tk).scannable = true := rfl
  have hel : ElemsOf (PySem.strKind P w) es.toList := txt_elems g
  have hsz0 : es.size = xs.length := by
    have := pm0.length_eq
    rwa [List.length_map, Array.length_toList] at this
  unfold setAddHashed setAddHashedIn
  refine wpAny_holding (wpAny_bind (wpAny_setState_of ho hd hf ?_))
  dsimp only
  rw [byScan_of hsc hb hel]
  simp only [↓reduceIte]
  unfold setAddByScan
  refine wpAny_bind (wpAny_bind (wpAny_rule (wpAny_bind (wpAny_setScan_of hkey ho hd hf hel ?_))))
  cases hfi : List.findIdx? (fun e => (PySem.strKind P w).is x e.2) es.toList with
  | some j =>
    dsimp only
    obtain ⟨hj, pj, _⟩ := List.findIdx?_eq_some_iff_getElem.mp hfi
    have hx : x ∈ xs := pm0.mem_iff.mp ((txt_mem (P := P) g x).2 ⟨es.toList[j], List.getElem_mem hj, pj⟩)
    have e : addT xs x = xs := if_pos hx
    refine wpAny_pure (wpAny_pure ?_)
    exact hQ _ s.heap (Heap.SameBut.refl a s.heap) (by rw [e]; exact ⟨o, es, ep, t, ho, hex, hd, g, pm0, nd, hb, hf, hr, hl⟩)
  | none =>
    dsimp only
    have hx : x ∉ xs := fun hm => by
      obtain ⟨e, he, q⟩ := (txt_mem (P := P) g x).1 (pm0.mem_iff.mpr hm)
      have c := List.findIdx?_eq_none_iff.mp hfi e he
      rw [q] at c; cases c
    have ea : addT xs x = x :: xs := if_neg hx
    rw [ea] at hQ
    have hgw : ∀ (b : Bool) {s₁ : Shared} {Q' : Unit → Shared → Prop}, Q' () s₁ → wpAny (model P w) A (match b with | true => rule "set.scan.the-table-gave-way" | false => pure ()) Q' E s₁ :=
      fun b s₁ Q' q => by cases b <;> first | exact wpAny_pure q | exact wpAny_rule q
    have pm := layNew_perm t es ((PySem.strKind P w).hash x) (.str x tk)
    have hf1 := layNew_fits t es ((PySem.strKind P w).hash x) (.str x tk)
    have hr1 := layNew_ris t es ((PySem.strKind P w).hash x) (.str x tk) hr
    have hl1 := layNew_led t es ((PySem.strKind P w).hash x) (.str x tk)
    generalize layNew t es ((PySem.strKind P w).hash x) (.str x tk) = Z at pm hf1 hr1 hl1 ⊢
    obtain ⟨es1, t1, wasDummy, gave⟩ := Z
    dsimp only at pm hf1 hr1 hl1 ⊢
    rw [Array.toList_push] at pm
    have pc : es1.toList.Perm (((PySem.strKind P w).hash x, Value.str x tk) :: es.toList) := pm.trans (List.perm_append_singleton _ _)
    have pk : (es1.toList.map txt).Perm (x :: xs) := (pc.map txt).trans (pm0.cons x)
    have g1 : ∀ e ∈ es1.toList, TxtE w e := fun e he => by
      rcases List.mem_cons.mp (pc.mem_iff.mp he) with z | z
      · subst z; exact ⟨x, tk, rfl, rfl⟩
      · exact g e z
    have nd1 : (x :: xs).Nodup := List.nodup_cons.mpr ⟨hx, nd⟩
    have hsz : es1.size = xs.length + 1 := by
      have := pk.length_eq
      rwa [List.length_map, Array.length_toList] at this
    have hb1 : es1.size < scanBound := hsz ▸ room
    have hled : w.params.followText "set-order" = true ∨ t1.led = true := hl.imp id fun z => by rw [hl1]; exact z
    refine wpAny_bind (hgw _ ?_)
    split
    · refine wpAny_bind ?_
      rw [hashByValue_scannable 8 hsc]
      refine wpAny_pure ?_
      refine txt_settle ?_ ho hex hd g1 pk nd1 hb1 ?_ ?_ ?_ ?_
      · intro b s₁ Q' q; cases b <;> first | exact wpAny_pure q | exact wpAny_rule q
      · first | (split <;> first | exact hf1 | exact SetTable.fits_plain_off hf1) | exact hf1
      · first | (split <;> exact hr1) | exact hr1
      · first | (split <;> exact hled) | exact hled
      · intro h' sb r; dsimp only; exact wpAny_pure (hQ _ h' sb r)
    · refine wpAny_bind (wpAny_pure ?_)
      simp only [↓reduceIte]
      refine txt_settle ?_ ho hex hd g1 pk nd1 hb1 hf1 hr1 hled ?_
      · intro b s₁ Q' q; cases b <;> first | exact wpAny_pure q | exact wpAny_rule q
      · intro h' sb r; dsimp only; exact wpAny_pure (hQ _ h' sb r)
theorem txt_typeIs (R : TxtSet w s.heap a xs) : s.TypeIs (.ref a) "set" := by
  obtain ⟨o, es, ep, t, ho, hex, _⟩ := R
  exact ⟨o, ho, hex.1⟩
theorem txt_add {x : Str} {tk : Tok} {Q : Value → Shared → Prop} (R : TxtSet w s.heap a xs) (room : xs.length + 1 < scanBound)
    (hQ : ∀ h', Heap.SameBut a s.heap h' → TxtSet w h' a (addT xs x) → Q .none { s with heap := h', toks := s.toks + 1 }) : wpAny (model P w) A (call (.builtin "set.add") [.ref a, .str x tk]) Q E s := by
  refine wpAny_call_entry F.slot_set_add (txt_typeIs R) F.entry_set_add ?_ (F.args_set_add_2 _ _)
  unfold Builtin.«set.add» Builtin.Frozenset.oneOther
  simp only [List.isEmpty_nil, bind_assoc]
  unfold Builtin.Frozenset.addrOf setAdd
  refine wpAny_bind (wpAny_pure ?_)
  try dsimp only
  refine wpAny_bind (wpAny_pure ?_)
  try dsimp only
  refine wpAny_bind (wpAny_holding (wpAny_bind ((PySem.strKind P w).pyHash (strKind_is P w x tk) ?_)))
  refine txt_add_hashed (s := { s with toks := s.toks + 1 }) R room fun b h' sb r => ?_
  show wpAny _ _ (ret Value.none) _ _ _
  exact wpAny_pure ⟨_, rfl, hQ h' sb r⟩
theorem txt_fresh {h : Heap} (w : World) : TxtSet w (h.push { cls := .type "set", dict := none, data := .set #[] 0 (.fresh 0 0 (!w.params.followText "set-order")) }) h.objs.size [] := by
  refine ⟨_, #[], 0, _, Heap.get?_push_size _ rfl, ⟨rfl, rfl, rfl⟩, rfl, (by simp), (by simp), List.nodup_nil, (by decide), (by rfl), List.Pairwise.nil, ?_⟩
  show _ ∨ (!w.params.followText "set-order") = true
  cases w.params.followText "set-order"
  · exact .inr rfl
  · exact .inl rfl
/-- sorted(s): the members in order -/
theorem txt_sorted {Q : Value → Shared → Prop} (R : TxtSet w s.heap a xs) (hh : A.handled = none) (h64 : xs.length < 64)
    (hQ : ∀ s' p (out : Array Value) (c : Nat) (ys : List Str), (∀ b o, s.heap.get? b = some o → s'.heap.get? b = some o) → s'.gens = s.gens → s'.os = s.os → s.heap.objs.size ≤ p →
      s'.heap.get? p = some (seqObj "list" out c) → StrsAre out.toList ys → ys.Perm xs → sortedS ys = true → Q (.ref p) s') : wpAny (model P w) A (call (.builtin "sorted") [.ref a]) Q E s := by
  obtain ⟨o, es, ep, t, ho, hex, hd, g, pm0, nd, hb, hf, hr, hl⟩ := R
  refine Calls.call_function_entry kind_sorted plain_sorted entry_sorted (args_sorted1 _) ?_
  unfold Builtin.«sorted»
  refine wpAny_bind (m := checkCount "sorted" 1 1 _) (wpAny_pure ?_)
  refine wpAny_bind (collect_set (A := A.in1) hh ⟨o, ho, hex.1, hd⟩ hf hb hr hl fun s1 vs k1 hz g1 o1 pm => ?_)
  have hvl : vs.length = xs.length := by
    rw [pm.length_eq, List.length_map, ← pm0.length_eq, List.length_map]
  have hall : ∀ v ∈ vs, ∃ x t, v = Value.str x t := fun v hv => by
    obtain ⟨e, he, q⟩ := List.mem_map.mp (pm.mem_iff.mp hv)
    obtain ⟨x, t, e1, _⟩ := g e he
    exact ⟨x, t, by rw [← q]; exact e1⟩
  have hS : StrsAre vs (vs.map strOf) := strsAre_map vs hall
  have pk : (vs.map strOf).Perm xs := by
    refine (pm.map strOf).trans ?_
    rw [List.map_map]
    have e : es.toList.map (strOf ∘ fun x => x.2) = es.toList.map txt := List.map_congr_left fun e he => by
      obtain ⟨x, t, e1, _⟩ := g e he
      show strOf e.2 = txt e
      unfold txt
      rw [e1] <;> rfl
    rw [e]
    exact pm0
  refine wpAny_bind (wpAny_newList ?_ (by rw [hvl, sizeLine_eq]; omega))
  have hoL : (s1.heap.push (seqObj "list" vs.toArray 0)).get? s1.heap.objs.size = some (seqObj "list" vs.toArray 0) := Heap.get?_push_size _ rfl
  refine wpAny_bind (wpAny_holding (wpAny_call_entry slot_list_sort ⟨_, hoL, rfl⟩ entry_list_sort
    (list_sort_treeK strKind_oneLt hoL hS.keysOf (fun v₁ v₂ rest e => keyKind_strs (by rw [← e]; exact hS)) (by rw [hvl]; exact h64) fun st' hp hs => ⟨_, rfl, ?_⟩) (args_list_sort _)))
  obtain ⟨ys, b1, b2, b3⟩ := sorted_out_str hS hp hs
  obtain ⟨c, hc⟩ := sortedHeap_at (vs := vs) (out := (arrOf st').map (·.2)) hoL
  refine wpAny_pure ⟨_, rfl, hQ _ s1.heap.objs.size _ c ys (fun b u e => ?_) g1 o1 hz hc b1 (b2.trans pk) b3⟩
  have q := k1 b u e
  have hlt := Heap.lt_size q
  show (sortedHeap (s1.heap.push (seqObj "list" vs.toArray 0)) s1.heap.objs.size vs ((arrOf st').map (·.2))).get? b = some u
  rw [sortedHeap_old (Nat.ne_of_lt hlt) (by rw [size_push']; exact Nat.lt_succ_of_lt hlt)]
  exact Heap.get?_push_of_some _ q
end
/-! ### as tracked things -/
def TxtO (w : World) (a : Addr) (xs : List Str) : HO := .ext fun h => TxtSet w h a xs
theorem txtO_ok {w : World} {P : Program} {H : Hp} {h : Heap} {a : Addr} {xs : List Str} (R : TxtSet w h a xs) : ObjOk P w H h a (TxtO w a xs) :=
  ⟨R, (let ⟨o, _, _, _, ho, _⟩ := R; ⟨o, ho⟩), fun _ _ p k => TxtSet.at p k⟩
section
variable {X : Cx} {pins : List (Addr × Obj)} {σ : L2.St} {H : Hp} {s : Shared}
theorem txtO_get {a : Addr} {xs : List Str} (I : Inv X pins σ H s) (ha : H a = some (TxtO X.w a xs)) : TxtSet X.w s.heap a xs := (I.hok a _ ha).1
theorem txtO_add {E : Value → Shared → Prop} {D : Addr} {xs : List Str} {x : Str} {t : Tok} {Q : Value → Shared → Prop} (I : Inv X pins σ H s) (hD : H D = some (TxtO X.w D xs)) (room : xs.length + 1 < scanBound)
    (h : ∀ s', Inv X pins σ (upd H D (TxtO X.w D (addT xs x))) s' → Q .none s') : wpAny (model X.prog X.w) X.A (call (.builtin "set.add") [.ref D, .str x t]) Q E s := by
  refine txt_add (txtO_get I hD) room fun h' sb new => h _ ?_
  have he : ∃ u, h'.get? D = some u := let ⟨o, _, _, _, ho, _⟩ := new; ⟨o, ho⟩
  exact I.write (e := D) (t' := s.toks + 1) (by rw [hD]; trivial) (.inl rfl) (fun b u hb hu => (sb.2 b hb).trans hu) he (txtO_ok new)
/-- sorted(set of texts) -/
def rSortT (w : World) : List V → Hp → VK → Prop := fun vs H Q => ∃ (a : Addr) (xs : List Str), vs = [V.ref a] ∧ H a = some (TxtO w a xs) ∧ xs.length < 64 ∧
  ∀ (ys : List Str) (p : Addr), ys.Perm xs → sortedS ys = true → H p = none → Q (.ref p) (upd H p (.lst (ys.map V.str)))
theorem c_sortT (w : World) (hc : X.calm = true) (hw : X.w = w := by rfl) : CallR X (.builtin "sorted") (rSortT w) := by
  subst hw
  intro pins s σ H vs us Q I r ⟨a, xs, e, ha, h64, q⟩
  subst e
  rw [Vals.ref1 r]
  refine txt_sorted (txtO_get I ha) (I.ok.hd hc) h64 fun s' p out c ys k hg ho hp hob hS pm so => ?_
  have nP : H p = none := I.hok.fresh hp
  have hlen : (ys.map V.str).length ≤ sizeLine := by rw [List.length_map, pm.length_eq]; exact small64 h64
  have I1 : Inv X pins σ (upd H p (.lst (ys.map V.str))) s' :=
    I.call' (ch := []) ho (Un.laid k hp nP) (I.hok.laid k hp ⟨hlen, out.toList, c, vals_of_strs hS, hob⟩) (by rw [hg]; exact I.bare) (fun _ z => nomatch z)
  exact ⟨.ref p, _, I1, rfl, q ys p pm so nP⟩
end

/-! ### {elt for target in iter if ..}, the elements texts -/
/-- what is walked for each item: D the new set -/
def ScB (w : World) (J : It) (g : TG) (tt : TT) (te : TE) (vs : List Nat) (σ : L2.St) (Q : VK) (H1 : Hp) : Prop :=
  ∀ D, H1 D = none → ∃ W : Nat → Nat → Hp → Prop, (∃ m, W 0 m (upd H1 D (TxtO w D []))) ∧ ∀ i m H, W i m H →
    (J.stop i H ∧ Q (.ref D) H) ∨ (J.go i H ∧ ∃ Nx : Hp → Prop, (∀ H', Nx H' → ∃ m', m' < m ∧ W (i + 1) m' H') ∧ ∀ x H', J.yld i H x H' → g x (wipe σ vs) H' fun σ2 H2 => wipe σ2 vs = wipe σ vs ∧ tt σ2 H2 fun b H3 =>
      if b = true then te σ2 H3 fun y H4 => ∃ (z : Str) (xs : List Str), y = .str z ∧ H4 D = some (TxtO w D xs) ∧ xs.length + 1 < scanBound ∧ Nx (upd H4 D (TxtO w D (addT xs z))) else Nx H3)
def tScT (w : World) (wi : TI) (g : TG) (tt : TT) (te : TE) (vs : List Nat) : TE := fun σ H Q => wi σ H fun J H1 => ScB w J g tt te vs σ Q H1
section
variable {X : Cx}
theorem e_scT (w : World) {elt tg iter : Expr} {ifs : List Expr} {scope : Scope} {own : List (PySem.Str × Nat)} {pos : Pos} {wi : TI} {g : TG} {tt : TT} {te : TE} (hc : X.calm = true) (hN : X.N.Nodup) (hi : PI X tg iter wi) (ok : BlkOk X.N X.env.scope scope own)
    (hg : ∀ (s : Shared) (H : Hp) (C : Addr) (cl : List (PySem.Str × Addr)) (fp : List Addr), PG (X.blk s H scope (compEnvC scope cl C X.env) fp) tg g) (ht : ∀ (s : Shared) (H : Hp) (C : Addr) (cl : List (PySem.Str × Addr)) (fp : List Addr), PTs (X.blk s H scope (compEnvC scope cl C X.env) fp) ifs tt)
    (he : ∀ (s : Shared) (H : Hp) (C : Addr) (cl : List (PySem.Str × Addr)) (fp : List Addr), PE (X.blk s H scope (compEnvC scope cl C X.env) fp) elt te) (hs : ∀ x, foldedSetIterable iter X.env x = pure x := by intro _; rfl) (hw : X.w = w := by rfl) :
    PE X (.SetComp elt [⟨tg, iter, ifs, 0⟩] scope pos) (tScT w wi g tt te (own.map (·.2))) := by
  subst hw
  refine ⟨fun pins s σ H Q I h => ?_⟩
  rw [PpSet.eval_SetComp]
  have hfree : ∀ y ∈ scope.names, y.2 = .free → ∃ c, X.env.cells.lookup y.1 = some c := fun y hy e => I.ok.has _ (ok.free y hy e)
  refine wpAny_comprehension_free (use := none) rfl hs (closure_ok hfree) ok.kind (fun y hy e => by rw [ok.uniq y hy, e]) (thn (hi.run pins s σ H _ I h) fun xv s1 hx => thn hx fun itv s2 h2 => ?_)
  obtain ⟨it, fp, tn, J, H2, e, I2, T, st2, f2, q⟩ := h2
  subst e
  refine PpSet.newSet_ok (newEnv_comp ?_)
  generalize hD : s2.heap.objs.size = D
  have hDn : H2 D = none := I2.hok.fresh (Nat.le_of_eq hD)
  obtain ⟨W, ⟨m0, w0⟩, turn⟩ := q D hDn
  generalize hs3 : ({ s2 with heap := s2.heap.push { cls := .type "set", dict := none, data := .set #[] 0 (.fresh 0 0 (!X.w.params.followText "set-order")) } } : Shared) = s3
  have h3 : s3.heap = s2.heap.push { cls := .type "set", dict := none, data := .set #[] 0 (.fresh 0 0 (!X.w.params.followText "set-order")) } := by rw [← hs3]
  generalize hH3 : upd H2 D (TxtO X.w D []) = H3 at w0
  have I3 : Inv X pins σ H3 s3 := by
    rw [← hs3, ← hH3]
    refine I2.laid (t' := s2.toks) (fun b o e => Heap.get?_push_of_some _ e) (Nat.le_of_eq hD) ?_
    rw [← hD]
    exact txtO_ok (txt_fresh X.w)
  have sz : ∀ b ∈ fp, b < s2.heap.objs.size := fun b hb => let ⟨o, e, _⟩ := T.obj _ _ st2 b hb; Heap.lt_size e
  have f3 : ∀ b ∈ fp, FpOk X pins H3 b ∧ b < s3.heap.objs.size := fun b hb => by
    have hlt := sz b hb
    refine ⟨⟨?_, (f2 b hb).2⟩, by rw [h3, Heap.size_push]; exact Nat.lt_succ_of_lt hlt⟩
    rw [← hH3, upd_ne (by rw [← hD]; exact Nat.ne_of_lt hlt)]
    exact (f2 b hb).1
  have nfp : ∀ b ∈ fp, H3 b = none := fun b hb => (f3 b hb).1.1
  have st3 : tn 0 s3.heap := T.keep _ _ _ st2 fun b _ o e => by rw [h3]; exact Heap.get?_push_of_some _ e
  have I4 := block_start I3 ok hN f3
  have pg := hg s3 H3 s3.heap.objs.size (cellsFrom (s3.heap.objs.size + 1) scope.names (cloFrom X.env.cells scope.names [])) fp
  have pt := ht s3 H3 s3.heap.objs.size (cellsFrom (s3.heap.objs.size + 1) scope.names (cloFrom X.env.cells scope.names [])) fp
  have pe := he s3 H3 s3.heap.objs.size (cellsFrom (s3.heap.objs.size + 1) scope.names (cloFrom X.env.cells scope.names [])) fp
  show codeAny _ _ (.compStart (.SetComp elt [⟨tg, iter, ifs, 0⟩] scope pos) 0 (.ref it) (.ref D) (compEnvC scope (cellsFrom (s3.heap.objs.size + 1) scope.names (cloFrom X.env.cells scope.names [])) s3.heap.objs.size X.env)) (compPost (model X.prog X.w) X.A X.xe none _ (.ref D) s3.heap.objs.size) { s3 with heap := pushCells (s3.heap.push { cls := .type "dict", data := .dict #[] }) scope.names }
  generalize hce : compEnvC scope (cellsFrom (s3.heap.objs.size + 1) scope.names (cloFrom X.env.cells scope.names [])) s3.heap.objs.size X.env = ce at I4 pg pt pe ⊢
  have cL : ce.locals = s3.heap.objs.size := by subst hce; rfl
  generalize hs4 : ({ s3 with heap := pushCells (s3.heap.push { cls := .type "dict", data := .dict #[] }) scope.names } : Shared) = s4 at I4 ⊢
  have st4 : tn 0 s4.heap := T.keep _ _ _ st3 fun b _ o e => by rw [← hs4]; exact pushCells_keeps _ _ _ _ (Heap.get?_push_of_some _ e)
  have stat : ∀ {σ' : L2.St} {H' : Hp} {s' : Shared}, Inv (X.blk s3 H3 scope ce fp) [] σ' H' s' → (∀ b ∈ fp, H' b = none) → ∀ b ∈ fp, FpOk (X.blk s3 H3 scope ce fp) [] H' b := fun {σ' H' s'} I' hn b hb =>
    ⟨hn b hb, (I'.ok.exf b hb).1, I'.ok.exfs b hb, .inl hb, fun x c e => (I'.ok.exf b hb).2 x c e, fun p hp => absurd (show p ∈ ([] : List (Addr × Obj)) ++ [] from hp) (by simp)⟩
  have loop : codeAny (model X.prog X.w) X.A (.compLoop (.SetComp elt [⟨tg, iter, ifs, 0⟩] scope pos) 0 (.ref it) (.ref D) ce) (compPost (model X.prog X.w) X.A X.xe none (EP X pins σ Q) (.ref D) s3.heap.objs.size) s4 := by
    refine PpSet.compLoopS_any (fun n s' => ∃ i H', Inv (X.blk s3 H3 scope ce fp) [] (wipe σ (own.map (·.2))) H' s' ∧ tn i s'.heap ∧ (∀ b ∈ fp, H' b = none) ∧ W i n H') ?_ m0 ⟨0, H3, I4, st4, nfp, w0⟩
    rintro n s5 ⟨i, H5, I5, st5, n5, w5⟩
    rcases turn i n H5 w5 with ⟨stop, qq⟩ | ⟨go, Nx, hNx, step⟩
    · refine thnF (T.done (X.blk s3 H3 scope ce fp) rfl rfl rfl hc i [] s5 _ H5 (fun _ _ => False) I5 (stat I5 n5) st5 stop) fun r s6 ⟨hr, I6⟩ => ?_
      subst hr
      have I7 : Inv X pins σ H5 s6 := I3.call' (ch := fp) I6.os I6.base I6.hok I6.bare fun b hb => ⟨(f3 b hb).1.2.2.2.1, (f3 b hb).1.2.1, (f3 b hb).1.2.2.2.2.1, (f3 b hb).1.2.2.2.2.2⟩
      have nC : H5 s3.heap.objs.size = none := cL ▸ I6.free
      obtain ⟨m, hn, _⟩ := I6.loc
      have hn : s6.heap.Ns ce.locals m := hn
      rw [cL] at hn
      refine ⟨m, hn, fun h'' sb => ?_⟩
      obtain ⟨f0, f1, f2, f3, f4, f5⟩ := I3.fpOk (Nat.le_refl _) nC
      exact ⟨.ref D, H5, I7.turned (t' := s6.toks) (fun b o hb e => (sb.2 b hb).trans e) f0 f1 f3 f4 f5, rfl, qq⟩
    · refine thnF (T.item (X.blk s3 H3 scope ce fp) rfl rfl rfl hc i [] s5 _ H5 (fun _ _ => False) I5 (stat I5 n5) st5 go) fun r s6 ⟨u, hr, h6⟩ => ?_
      subst hr
      refine thnF h6 fun _ s7 ⟨x, H7, I7, r7, y7, st7, n7⟩ => ?_
      refine thnF (pg.run _ s7 _ H7 x u _ (I7.pinned (stat I7 n7) (T.obj _ _ st7)) r7 (step x H7 y7)) fun _ s8 ⟨σ8, H8, I8, hw8, q8⟩ => ?_
      refine thnF (pt.run _ s8 σ8 H8 _ I8 q8) fun b s9 ⟨H9, I9, q9⟩ => ?_
      have fin : ∀ {s' : Shared} {H' : Hp}, Inv (X.blk s3 H3 scope ce fp) ([] ++ pinsAt fp s7.heap) σ8 H' s' → Nx H' → ∃ m, m < n ∧ ∃ i H', Inv (X.blk s3 H3 scope ce fp) [] (wipe σ (own.map (·.2))) H' s' ∧ tn i s'.heap ∧ (∀ b ∈ fp, H' b = none) ∧ W i m H' := fun {s' H'} I' nx => by
        obtain ⟨m', hm, w'⟩ := hNx H' nx
        have pin' : ∀ b ∈ fp, ∀ o, s7.heap.get? b = some o → s'.heap.get? b = some o ∧ H' b = none := fun b hb o e =>
          let z := I'.pin (b, o) (List.mem_append_right _ (List.mem_append_right _ (mem_pinsAt hb e)))
          ⟨z.1, z.2.1⟩
        refine ⟨m', hm, i + 1, H', (I'.unpinned (pins := [])).weak (by rw [← hw8, wipe_length]) (fun j v e => ?_), T.keep _ _ _ st7 fun b hb o e => (pin' b hb o e).1, fun b hb => ?_, w'⟩
        · rw [← hw8] at e
          exact (wipe_some e).1
        · obtain ⟨o, e, _⟩ := T.obj _ _ st7 b hb
          exact (pin' b hb o e).2
      cases b with
      | false =>
        simp only [Bool.false_eq_true, if_false] at q9 ⊢
        exact fin I9 q9
      | true =>
        simp only [if_true] at q9 ⊢
        refine thnF (pe.run _ s9 σ8 H9 _ I9 q9) fun z s10 ⟨yv, H10, I10, r10, zt, xs0, ey, hD10, hz10, nx⟩ => ?_
        subst ey
        obtain ⟨tz, rfl⟩ := r10
        exact txtO_add (X := X.blk s3 H3 scope ce fp) I10 hD10 hz10 fun s11 I11 => fin I11 nx
  exact PpSet.codeAny_compStart_set loop (T.self X.A 0 _ _ _ st4 loop)
end
section
variable {K : PySem.W.Frag} {w : World} {σ : L2.St} {H : Hp} {Q : VK} {g : TG} {tt : TT} {te : TE} {vs : List Nat} {wi : TI} {J : It} {n : Nat} {G : Hp → Prop} {Y : Nat → Hp → V → Hp → Prop}
theorem w_sc (h : wi σ H fun J H1 => ScB w J g tt te vs σ Q H1) : tScT w wi g tt te vs σ H Q := h
def addAll (xs : List Str) : List Str := xs.foldl addT []
theorem addT_nodup {xs : List Str} {x : Str} (h : xs.Nodup) : (addT xs x).Nodup := by
  unfold addT; split
  · exact h
  · exact List.nodup_cons.mpr ⟨by assumption, h⟩
theorem mem_addT {xs : List Str} {x y : Str} : y ∈ addT xs x ↔ y ∈ xs ∨ y = x := by
  unfold addT; split
  · constructor
    · exact .inl
    · rintro (h | rfl)
      · exact h
      · assumption
  · rw [List.mem_cons]; exact Or.comm
theorem foldl_addT : ∀ (xs acc : List Str), acc.Nodup → (xs.foldl addT acc).Nodup ∧ ∀ y, y ∈ xs.foldl addT acc ↔ y ∈ acc ∨ y ∈ xs
  | [], acc, h => ⟨h, by simp⟩
  | x :: r, acc, h => by
    obtain ⟨h1, h2⟩ := foldl_addT r (addT acc x) (addT_nodup h)
    refine ⟨h1, fun y => ?_⟩
    show y ∈ r.foldl addT (addT acc x) ↔ _
    rw [h2 y, mem_addT, List.mem_cons]
    constructor
    · rintro ((h | h) | h)
      · exact .inl h
      · exact .inr (.inl h)
      · exact .inr (.inr h)
    · rintro (h | h | h)
      · exact .inl (.inl h)
      · exact .inl (.inr h)
      · exact .inr h
theorem addT_len (xs : List Str) (x : Str) : (addT xs x).length ≤ xs.length + 1 := by
  unfold addT; split
  · omega
  · rw [List.length_cons]; exact Nat.le_refl _
theorem foldl_len : ∀ (xs acc : List Str), (xs.foldl addT acc).length ≤ acc.length + xs.length
  | [], acc => by simp
  | x :: r, acc => by
    have h1 := foldl_len r (addT acc x)
    have h2 := addT_len acc x
    simp only [List.foldl_cons, List.length_cons]
    omega
/-- a set comprehension over a list or tuple of texts, the element a text, nothing else made -/
theorem scb_pure {α : Type} (ea : α → V) {xs : List α} {G : Hp → Prop} (wk : Walk J (xs.map ea).length G (YAt (xs.map ea))) (hG : ∀ H', Same H H' → G H') (hl : xs.length + 1 < scanBound) (f : α → Str)
    (hs : ∀ x H', x ∈ xs → Same H H' → ∀ R : Option V → Hp → Prop, R (some (.str (f x))) H' → Turn1 g tt te vs σ (ea x) H' R)
    (hd : ∀ D, H D = none → Q (.ref D) (upd H D (TxtO w D (addAll (xs.map f))))) : ScB w J g tt te vs σ Q H := by
  intro D nD
  refine ⟨fun i m H' => m = xs.length - i ∧ i ≤ xs.length ∧ H' = upd H D (TxtO w D (addAll ((xs.take i).map f))), ⟨xs.length, by simp, Nat.zero_le _, rfl⟩, ?_⟩
  rintro i m H' ⟨rfl, hi, rfl⟩
  have q := hG _ (Same.new (o := TxtO w D (addAll ((xs.take i).map f))) nD)
  have eln : (xs.map ea).length = xs.length := List.length_map _
  by_cases e : i = xs.length
  · subst e
    refine .inl ⟨?_, ?_⟩
    · have := wk.stops _ q
      rwa [eln] at this
    · rw [List.take_length]; exact hd D nD
  · have hlt : i < xs.length := by omega
    refine .inr ⟨wk.goes i _ (by rw [eln]; exact hlt) q, fun H'' => H'' = upd H D (TxtO w D (addAll ((xs.take (i + 1)).map f))), fun H'' e => ⟨xs.length - (i + 1), by omega, rfl, by omega, e⟩, fun x H2 y => ?_⟩
    obtain ⟨rfl, hx⟩ := wk.yields i _ x H2 (by rw [eln]; exact hlt) q y
    rw [List.getElem?_map, List.getElem?_eq_getElem hlt] at hx
    cases hx
    have et : xs.take (i + 1) = xs.take i ++ [xs[i]] := by rw [List.take_succ, List.getElem?_eq_getElem hlt] <;> rfl
    have t := hs xs[i] _ (List.getElem_mem hlt) (Same.new (o := TxtO w D (addAll ((xs.take i).map f))) nD) (fun r H4 => match r with
      | some y => ∃ (z : Str) (xs0 : List Str), y = V.str z ∧ H4 D = some (TxtO w D xs0) ∧ xs0.length + 1 < scanBound ∧ upd H4 D (TxtO w D (addT xs0 z)) = upd H D (TxtO w D (addAll ((xs.take (i + 1)).map f)))
      | none => H4 = upd H D (TxtO w D (addAll ((xs.take (i + 1)).map f)))) ⟨f xs[i], _, rfl, upd_same, ?_, ?_⟩
    · exact t
    · have := foldl_len ((xs.take i).map f) []
      rw [List.length_map, List.length_take] at this
      simp only [List.length_nil] at this
      unfold addAll
      omega
    · rw [upd_upd, et, List.map_append]
      unfold addAll
      rw [List.foldl_append]
      rfl
end
end Mf

namespace Mf
open PySem PySem.Spec PyProof.Rows L2
section
variable {M : Model} {A : Around} {E : Value → Shared → Prop} {s : Shared} {K : PySem.W.Frag} {x C : Addr} {ox : Obj} {od : Option Obj}
theorem ifBound_objNe {args : List Value} {Q : Option Value → Shared → Prop} (X : K.In s.heap) (I : PySem.W.InstAt s.heap x ox C od) (hs : PySem.W.findIn K (.ref C) "__ne__" = some (some (.builtin "object.__ne__")))
    (h : wpAny M A (call (.builtin "object.__ne__") (.ref x :: args)) (fun v => Q (some v)) E s) : wpAny M A (callSpecialIfBound? (.ref x) "__ne__" args) Q E s := by
  have go : wpAny M A (call (.builtin "object.__ne__") ([.ref x] ++ args) >>= fun v => pure (some v)) Q E s := wpAny_bind (wpAny_mono h (fun v s' z => wpAny_pure z) fun _ _ z => z)
  simp only [callSpecialIfBound?, bindSpecialIfBound?]
  refine wpAny_holding (wpAny_bind (wpAny_bind (wpAny_bind (I.type.here ((PySem.W.looks_findIn X hs).here (wpAny_bind (wpAny_askSetting (wpAny_ite ?_))))))))
  split
  · exact wpAny_bind (wpAny_of_eq (PySem.F.cmp_object.ne.bind _) (wpAny_pure (by exact go)))
  · exact wpAny_tryCatch (wpAny_bind (wpAny_of_eq (PySem.F.cmp_object.ne.bind _) (wpAny_pure (by exact go))))
end
/-! ### operators by the defs of an own class: in, ==, !=, <=, <, |, &, -, +, len, [] -/
section
variable {X : Cx} {CX : CXT} {pins : List (Addr × Obj)} {σ : L2.St} {H : Hp} {s : Shared} {C f : Addr} {fd : FuncData} {k : Nat} {ps : List Str} {sp : Sp} {E : XK}
theorem inst_of {a dx : Addr} {fs : List (Str × V)} (I : Inv X pins σ H s) (e : H a = some (.ins C dx fs)) : ∃ od, PySem.W.InstAt s.heap a (PySem.W.instObj C dx) C (some od) := by
  obtain ⟨mA, O, _⟩ := ins_get I.hok e
  obtain ⟨od, J, _⟩ := O.look
  exact ⟨od, J⟩
/-- a def called one frame of C deeper -/
theorem run_in1 {Q : VK} {us : List Value} {vs : List V} (F : FnOk X.prog X.w X.K X.mg X.base CX k f fd ps sp) (hr : Room (k + 1) X.A) (hb : Binds X.K fd ps []) (hx : Passes CX X E) (I : Inv X pins σ H s) (r : Vals vs us) (h : sp vs H Q E) :
    wpAny (model X.prog X.w) X.A.in1 (call (.ref f) us) (EP X pins σ Q) X.xe s := by
  have hl : us.length = ps.length := by rw [← r.length]; exact F.len _ _ _ _ h
  have b := hb s us I.kIn (by rw [List.append_nil]; exact hl)
  rw [List.append_nil] at b
  refine wpAny_call (codeAny_mono (F.run X.A.in1 X.stack s H ⟨us, []⟩ us vs Q E hr.in1 I.env0.in1 b r h) fun r s' hq => ?_)
  cases r with
  | error e => exact hx pins σ H s e s' I hq
  | ok fl =>
    cases fl with
    | ret u => exact I.after hq
    | next => exact False.elim hq
    | brk => exact False.elim hq
    | cont => exact False.elim hq
theorem run_0 {Q : VK} {us : List Value} {vs : List V} (F : FnOk X.prog X.w X.K X.mg X.base CX k f fd ps sp) (hr : Room k X.A) (hb : Binds X.K fd ps []) (hx : Passes CX X E) (I : Inv X pins σ H s) (r : Vals vs us) (h : sp vs H Q E) :
    wpAny (model X.prog X.w) X.A (call (.ref f) us) (EP X pins σ Q) X.xe s := run_fn F hr hb .nil hx I r (by rw [List.append_nil]; exact h)
/-- what comes back is a truth value -/
abbrev Truth (Q : VK) : VK := fun v H' => ∃ b, v = .bl b ∧ Q (.bl b) H'
/-- x op y by a def of x's class -/
def rCmpO (K : PySem.W.Frag) (C : Addr) (sp : Sp) (E : XK) : R2 := fun x y H Q => ∃ a dx fs t, x = .ref a ∧ H a = some (.ins C dx fs) ∧ TyX K H y t ∧ PySem.W.notFirst K C t = true ∧ sp [x, y] H Q E
theorem o_cmpO (K : PySem.W.Frag) {op : CmpOp} (hop : ∀ a b, compareOp op a b = richCompare op a b) (hm : Meth X.K C (cmpInfo op).2.1 f) (F : FnOk X.prog X.w X.K X.mg X.base CX k f fd ps sp) (hr : Room k X.A) (hb : Binds X.K fd ps []) (hx : Passes CX X E) (hK : X.K = K := by rfl) :
    OpR X (compareOp op) (rCmpO K C sp E) := by
  subst hK
  intro pins s σ H x y v u Q I rx ry ⟨a, dx, fs, t, ex, ha, ht, hn, q⟩
  subst ex
  cases (show v = Value.ref a from rx)
  obtain ⟨od, J⟩ := inst_of I ha
  obtain ⟨Pp, kx, hp, _⟩ := kit_of I ry ht
  obtain ⟨m, hF⟩ := I.fr
  rw [hop]
  refine PySem.W.cmp_K (op := op) (tb := t) hr.units0 hF I.ok.mod.kin J (kx.ty _ _ I.kIn hp) hn hm.at_ hm.fn ?_
  refine wpAny_mono (run_0 (us := [.ref a, u]) (vs := [.ref a, y]) F hr hb hx I (.cons rfl (.cons ry .nil)) q) (fun w s' ⟨z, H', I', rz, qz⟩ => SlX.cmpback rz ⟨z, H', I', rz, qz⟩) fun _ _ x => x
/-- x in y, y an instance with a def __contains__ -/
def rInO (C : Addr) (sp : Sp) (E : XK) (neg : Bool) : R2 := fun x y H Q => ∃ a dx fs, y = .ref a ∧ H a = some (.ins C dx fs) ∧ sp [y, x] H (fun v H' => ∃ b, v = .bl b ∧ Q (.bl (if neg then !b else b)) H') E
theorem o_inO (hm : Meth X.K C "__contains__" f) (F : FnOk X.prog X.w X.K X.mg X.base CX k f fd ps sp) (hr : Room k X.A) (hb : Binds X.K fd ps []) (hx : Passes CX X E) : OpR X (compareOp .In) (rInO C sp E false) := by
  intro pins s σ H x y v u Q I rx ry ⟨a, dx, fs, ey, ha, q⟩
  subst ey
  cases (show u = Value.ref a from ry)
  obtain ⟨od, J⟩ := inst_of I ha
  obtain ⟨m, hF⟩ := I.fr
  refine PySem.W.in_K hF I.ok.mod.kin J hm.at_ hm.fn (wpAny_mono (run_0 (us := [.ref a, v]) (vs := [.ref a, x]) F hr hb hx I (.cons rfl (.cons rx .nil)) q) (fun w s' ⟨z, H', I', rz, b, ez, qz⟩ => ?_) fun _ _ x => x)
  subst ez
  cases (show w = Value.bool b from rz)
  exact wpAny_truthy_bool ⟨.bl b, H', I', rfl, qz⟩
theorem o_niO (hm : Meth X.K C "__contains__" f) (F : FnOk X.prog X.w X.K X.mg X.base CX k f fd ps sp) (hr : Room k X.A) (hb : Binds X.K fd ps []) (hx : Passes CX X E) : OpR X (compareOp .NotIn) (rInO C sp E true) := by
  intro pins s σ H x y v u Q I rx ry ⟨a, dx, fs, ey, ha, q⟩
  subst ey
  cases (show u = Value.ref a from ry)
  obtain ⟨od, J⟩ := inst_of I ha
  obtain ⟨m, hF⟩ := I.fr
  refine PySem.W.notIn_K hF I.ok.mod.kin J hm.at_ hm.fn (wpAny_mono (run_0 (us := [.ref a, v]) (vs := [.ref a, x]) F hr hb hx I (.cons rfl (.cons rx .nil)) q) (fun w s' ⟨z, H', I', rz, b, ez, qz⟩ => ?_) fun _ _ x => x)
  subst ez
  cases (show w = Value.bool b from rz)
  exact wpAny_truthy_bool ⟨.bl (!b), H', I', rfl, qz⟩
/-- x | y and its like, both of the one class -/
def rBinO (C : Addr) (sp : Sp) (E : XK) : R2 := fun x y H Q => ∃ a dx fs b dy gs, x = .ref a ∧ y = .ref b ∧ H a = some (.ins C dx fs) ∧ H b = some (.ins C dy gs) ∧ sp [x, y] H Q E
theorem o_binO {op : Operator} (hc : PySem.W.selfFirst X.K C = true) (hm : Meth X.K C (PySem.dunder op.info.2) f) (F : FnOk X.prog X.w X.K X.mg X.base CX k f fd ps sp) (hr : Room k X.A) (hb : Binds X.K fd ps []) (hx : Passes CX X E) : OpR X (binaryOp op) (rBinO C sp E) := by
  intro pins s σ H x y v u Q I rx ry ⟨a, dx, fs, b, dy, gs, ex, ey, ha, hb', q⟩
  subst ex; subst ey
  cases (show v = Value.ref a from rx)
  cases (show u = Value.ref b from ry)
  obtain ⟨od, J⟩ := inst_of I ha
  obtain ⟨od', J'⟩ := inst_of I hb'
  obtain ⟨m, hF⟩ := I.fr
  refine PySem.W.binop_K hF I.ok.mod.kin J J'.type hc hm.at_ hm.fn ?_
  refine wpAny_mono (run_0 (us := [.ref a, .ref b]) (vs := [.ref a, .ref b]) F hr hb hx I (.cons rfl (.cons rfl .nil)) q) (fun w s' ⟨z, H', I', rz, qz⟩ => SlX.cmpback rz ⟨z, H', I', rz, qz⟩) fun _ _ x => x
/-- len(x) by a def __len__ -/
def rLenO (C : Addr) (sp : Sp) (E : XK) : List V → Hp → VK → Prop := fun xs H Q => ∃ a dx fs, xs = [.ref a] ∧ H a = some (.ins C dx fs) ∧ sp [.ref a] H (fun v H' => ∃ n : Nat, v = .int n ∧ n ≤ sizeLine ∧ Q (.int n) H') E
theorem c_lenO (hm : Meth X.K C "__len__" f) (F : FnOk X.prog X.w X.K X.mg X.base CX k f fd ps sp) (hr : Room (k + 1) X.A) (hb : Binds X.K fd ps []) (hx : Passes CX X E) : CallR X (.builtin "len") (rLenO C sp E) := by
  intro pins s σ H xs us Q I r ⟨a, dx, fs, ex, ha, q⟩
  subst ex
  rw [Vals.ref1 r]
  obtain ⟨od, J⟩ := inst_of I ha
  obtain ⟨m, hF⟩ := I.fr
  refine PySem.W.len_K hF I.ok.mod.kin J hm.at_ hm.fn (wpAny_mono (run_in1 (us := [.ref a]) (vs := [.ref a]) F hr hb hx I (.cons rfl .nil) q) (fun w s' ⟨z, H', I', rz, n, ez, hn, qz⟩ => ?_) fun _ _ x => x)
  subst ez
  obtain ⟨t, rfl⟩ := rz
  rw [sizeLine_eq] at hn
  exact ⟨⟨by omega, by omega⟩, .int n, H', I'.tok _, ⟨_, rfl⟩, qz⟩
/-- x[i] by a def __getitem__ -/
def rGetO (C : Addr) (sp : Sp) (E : XK) : R2 := fun x y H Q => ∃ a dx fs, x = .ref a ∧ H a = some (.ins C dx fs) ∧ sp [x, y] H Q E
/-- x != y where the class has a def __eq__ alone -/
def rNeO (K : PySem.W.Frag) (C : Addr) (sp : Sp) (E : XK) : R2 := fun x y H Q => ∃ a dx fs t, x = .ref a ∧ H a = some (.ins C dx fs) ∧ TyX K H y t ∧ PySem.W.notFirst K C t = true ∧ sp [x, y] H (fun v H' => ∃ b, v = .bl b ∧ Q (.bl (!b)) H') E
theorem o_neO (K : PySem.W.Frag) (hne : PySem.W.findIn X.K (.ref C) "__ne__" = some (some (.builtin "object.__ne__"))) (hob : PySem.W.mroIn X.K C (.type "object") = some true) (hm : Meth X.K C "__eq__" f)
    (F : FnOk X.prog X.w X.K X.mg X.base CX k f fd ps sp) (hr : Room (k + 1) X.A) (hb : Binds X.K fd ps []) (hx : Passes CX X E) (hK : X.K = K := by rfl) : OpR X (compareOp .NotEq) (rNeO K C sp E) := by
  subst hK
  intro pins s σ H x y v u Q I rx ry ⟨a, dx, fs, t, ex, ha, ht, hn, q⟩
  subst ex
  cases (show v = Value.ref a from rx)
  obtain ⟨od, J⟩ := inst_of I ha
  obtain ⟨Pp, kx, hp, _⟩ := kit_of I ry ht
  have hu : X.A.units + 1 < cLine := hu_of hr
  have one : wpAny (model X.prog X.w) X.A (tryCompare (.ref a) "__ne__" u) (fun r s' => ∃ b H', r = some (.bool (!b)) ∧ Inv X pins σ H' s' ∧ Q (.bl (!b)) H') X.xe s := by
    have body : wpAny (model X.prog X.w) X.A.in1 (Builtin.«object.__ne__» ⟨[.ref a, u], []⟩) (fun r s' => ∃ b H', r = .done (.ret (.bool (!b))) ∧ Inv X pins σ H' s' ∧ Q (.bl (!b)) H') X.xe s := by
      unfold Builtin.«object.__ne__»
      refine wpAny_bind (wpAny_pure ?_)
      dsimp only
      refine wpAny_bind (wpAny_cRoomFor (show X.A.in1.units < cLine from hu) ?_)
      refine wpAny_bind (PySem.W.ifBound_K I.kIn J hm.at_ hm.fn (wpAny_mono (run_in1 (us := [.ref a, u]) (vs := [.ref a, y]) F hr hb hx I (.cons rfl (.cons ry .nil)) q) (fun w s' ⟨z, H', I', rz, b, ez, qz⟩ => ?_) fun _ _ x => x))
      subst ez
      cases (show w = Value.bool b from rz)
      dsimp only
      exact wpAny_bind (wpAny_truthy_bool (wpAny_pure ⟨b, H', rfl, I', qz⟩))
    unfold tryCompare
    refine wpAny_bind (ifBound_objNe I.kIn J hne (wpAny_call (codeAny_call_builtin PySem.F.cmp_object.ne.plain PySem.F.cmpEntry_ne (PySem.W.check_slot PySem.F.cmpKind_ne PySem.F.cmpSplit_ne (J.type.andThen (PySem.W.looks_mroIn I.kIn hob)) (PySem.F.cmpArgs_ne _ _)
      (wpAny_mono body (fun r s' ⟨b, H', er, I', qz⟩ => ?_) fun _ _ x => x)))))
    subst er
    exact wpAny_pure ⟨b, H', rfl, I', qz⟩
  show wpAny _ _ (richCompare .NotEq (.ref a) u) _ _ _
  unfold richCompare
  simp only [oneThing_ref]
  refine wpAny_holding (wpAny_bind (wpAny_cRoomFor (Nat.lt_of_succ_lt hu) ?_))
  refine wpAny_bind (J.type.here (wpAny_bind ((kx.ty _ _ I.kIn hp).here ?_)))
  split
  · rename_i ne
    have e : PySem.W.subIn X.K t (.ref C) = some false := by
      rcases Bool.or_eq_true_iff.mp hn with e | e
      · rw [beq_iff_eq.mp e] at ne; simp at ne
      · exact beq_iff_eq.mp e
    refine wpAny_bind ((PySem.W.looks_subIn I.kIn e).here ?_)
    simp only [Bool.false_eq_true, if_false]
    refine wpAny_bind (wpAny_mono one (fun r s' ⟨b, H', er, I', qz⟩ => ?_) fun _ _ e => e)
    subst er
    exact wpAny_pure ⟨.bl (!b), H', I', rfl, qz⟩
  · refine wpAny_bind (wpAny_pure ?_)
    simp only [Bool.false_eq_true, if_false]
    refine wpAny_bind (wpAny_mono one (fun r s' ⟨b, H', er, I', qz⟩ => ?_) fun _ _ e => e)
    subst er
    exact wpAny_pure ⟨.bl (!b), H', I', rfl, qz⟩
end
end Mf

namespace Mf
open PySem L2
/-! ### texts in order -/
def sle (a b : Str) : Bool := decide (a.cps.toList ≤ b.cps.toList)
theorem sle_trans (a b c : Str) (h1 : sle a b = true) (h2 : sle b c = true) : sle a c = true := by
  unfold sle at *
  rw [decide_eq_true_eq] at *
  exact List.le_trans h1 h2
theorem sle_total (a b : Str) : (sle a b || sle b a) = true := by
  unfold sle
  rw [Bool.or_eq_true, decide_eq_true_eq, decide_eq_true_eq]
  exact List.le_total _ _
theorem sle_anti {a b : Str} (h1 : sle a b = true) (h2 : sle b a = true) : a = b := by
  unfold sle at *
  rw [decide_eq_true_eq] at *
  exact str_ext (List.le_antisymm h1 h2)
theorem rising_pw : ∀ (p : Str) (l : List Str), PyProof.Rows.risingS p l = true → (p :: l).Pairwise (fun a b => sle a b = true)
  | p, [], _ => by simp
  | p, x :: r, h => by
    have h' : (!PySem.Spec.ltCps x.cps.toList p.cps.toList && PyProof.Rows.risingS x r) = true := h
    rw [Bool.and_eq_true] at h'
    have ih := rising_pw x r h'.2
    have h1 : sle p x = true := by
      have := h'.1
      rw [PyProof.Rows.ltCps_eq] at this
      unfold sle
      rw [decide_eq_true_eq]
      simpa using this
    refine List.pairwise_cons.mpr ⟨fun y hy => ?_, ih⟩
    rcases List.mem_cons.mp hy with rfl | hy
    · exact h1
    · exact sle_trans _ _ _ h1 ((List.pairwise_cons.mp ih).1 y hy)
theorem sortedS_pw : ∀ l : List Str, PyProof.Rows.sortedS l = true → l.Pairwise (fun a b => sle a b = true)
  | [], _ => List.Pairwise.nil
  | x :: r, h => rising_pw x r h
def srt (xs : List Str) : List Str := xs.mergeSort sle
theorem srt_perm (xs : List Str) : (srt xs).Perm xs := List.mergeSort_perm _ _
theorem srt_pw (xs : List Str) : (srt xs).Pairwise (fun a b => sle a b = true) := List.pairwise_mergeSort sle_trans sle_total xs
theorem srt_uniq {xs ys : List Str} (h : ys.Perm xs) (hs : ys.Pairwise (fun a b => sle a b = true)) : ys = srt xs :=
  List.Perm.eq_of_pairwise (fun _ _ _ _ h1 h2 => sle_anti h1 h2) hs (srt_pw xs) (h.trans (srt_perm xs).symm)
theorem sorted_is {xs ys : List Str} (h : ys.Perm xs) (hs : PyProof.Rows.sortedS ys = true) : ys = srt xs := srt_uniq h (sortedS_pw ys hs)
theorem srt_congr {xs ys : List Str} (h : xs.Perm ys) : srt xs = srt ys := srt_uniq ((srt_perm xs).trans h) (srt_pw xs)
theorem srt_len (xs : List Str) : (srt xs).length = xs.length := (srt_perm xs).length_eq
/-! ### sets of names: in order, each once -/
def nset (xs : List Str) : List Str := srt (addAll xs)
theorem addAll_nodup (xs : List Str) : (addAll xs).Nodup := (foldl_addT xs [] List.nodup_nil).1
theorem mem_addAll {xs : List Str} {z : Str} : z ∈ addAll xs ↔ z ∈ xs := by
  rw [show addAll xs = xs.foldl addT [] from rfl, (foldl_addT xs [] List.nodup_nil).2 z]; simp
theorem addAll_len (xs : List Str) : (addAll xs).length ≤ xs.length := by
  have := foldl_len xs []
  unfold addAll
  simpa using this
theorem nset_nodup (xs : List Str) : (nset xs).Nodup := (srt_perm _).nodup_iff.mpr (addAll_nodup xs)
theorem mem_nset {xs : List Str} {z : Str} : z ∈ nset xs ↔ z ∈ xs := by
  unfold nset; rw [(srt_perm _).mem_iff, mem_addAll]
theorem nset_len (xs : List Str) : (nset xs).length ≤ xs.length := by unfold nset; rw [srt_len]; exact addAll_len xs
theorem perm_of_mem {xs ys : List Str} (h1 : xs.Nodup) (h2 : ys.Nodup) (h : ∀ z, z ∈ xs ↔ z ∈ ys) : xs.Perm ys := (List.perm_ext_iff_of_nodup h1 h2).mpr h
theorem nset_congr {xs ys : List Str} (h : ∀ z, z ∈ xs ↔ z ∈ ys) : nset xs = nset ys :=
  srt_congr (perm_of_mem (addAll_nodup xs) (addAll_nodup ys) fun z => by rw [mem_addAll, mem_addAll]; exact h z)
theorem srt_nset {xs : List Str} (h : xs.Nodup) : srt xs = nset xs := srt_congr (perm_of_mem h (addAll_nodup xs) fun z => mem_addAll.symm)
theorem nset_nset (xs : List Str) : nset (nset xs) = nset xs := nset_congr fun z => mem_nset
theorem nset_len_nodup {xs : List Str} (h : xs.Nodup) : (nset xs).length = xs.length := by rw [← srt_nset h, srt_len]
theorem nset_inj {xs ys : List Str} (h : nset xs = nset ys) (z : Str) : z ∈ xs ↔ z ∈ ys := by
  rw [← mem_nset (xs := xs), h, mem_nset]
theorem nset_nil : nset [] = [] := by unfold nset srt addAll; simp
theorem nset_filter (p : Str → Bool) (xs : List Str) : nset ((nset xs).filter p) = nset (xs.filter p) := nset_congr fun z => by
  rw [List.mem_filter, List.mem_filter, mem_nset]
/-! ### classes and methods as they stand, and what methods do -/
structure ClsF (K : PySem.W.Frag) (mg : Str → Option Value) (x : Str) (C : Addr) : Prop where
  g : mg x = some (.ref C)
  ic : C8.InsC K C
  sf : PySem.W.selfFirst K C = true
  ne : PySem.W.findIn K (.ref C) "__ne__" = some (some (.builtin "object.__ne__"))
def MethAt (K : PySem.W.Frag) (C : Addr) (m q : Str) (st : Stmt) (ps : List Str) : Prop := ∃ f fd, Fun K m q st f fd ∧ Meth K C m f ∧ Binds K fd ps []
def MDoes (P : Program) (w : World) (K : PySem.W.Frag) (mg : Str → Option Value) (base : Heap) (CX : CXT) (lv : Nat) (C : Addr) (m : Str) (ps : List Str) (sp : Sp) : Prop :=
  ∃ f fd, FnOk P w K mg base CX lv f fd ps sp ∧ Meth K C m f ∧ Binds K fd ps []
theorem filterMap_if {α : Type} (p : α → Prop) [DecidablePred p] : ∀ xs : List α, (xs.filterMap fun z => if p z then some z else none) = xs.filter fun z => decide (p z)
  | [] => rfl
  | q :: r => by
    have ih := filterMap_if p r
    rw [List.filterMap_cons, List.filter_cons]
    by_cases h : p q
    · simp only [h, if_true, decide_true]; rw [ih]
    · simp only [h, if_false, decide_false]; rw [ih]; rfl
/-! ### texts as data -/
def Oks (xs : List Str) : Prop := ∀ x ∈ xs, PyData.strOk x = true
theorem Oks.nset {xs : List Str} (h : Oks xs) : Oks (nset xs) := fun x hx => h x (mem_nset.mp hx)
theorem Oks.filter {xs : List Str} (h : Oks xs) (p : Str → Bool) : Oks (xs.filter p) := fun x hx => h x (List.mem_filter.mp hx).1
theorem Oks.append {xs ys : List Str} (h : Oks xs) (h' : Oks ys) : Oks (xs ++ ys) := fun x hx => (List.mem_append.mp hx).elim (h x) (h' x)
theorem IsName.ok {x : Str} (h : IsName x) : PyData.strOk x = true := by
  unfold PyData.strOk
  rw [Array.all_eq_true']
  intro c hc
  have := h.2.2 c (Array.mem_toList_iff.mpr hc)
  simp
  omega
theorem Names.oks {xs : List Str} (h : Names xs) : Oks xs := fun x hx => (h.2 x hx).ok
theorem dpAll_strs (K : PySem.W.Frag) (H : Hp) : ∀ xs : List Str, DpAll K H (xs.map V.str) (xs.map PyData.str)
  | [] => .nil
  | x :: r => .cons (.str x) (dpAll_strs K H r)
theorem dp_strsT {K : PySem.W.Frag} {H : Hp} {a : Addr} {xs : List Str} (h : SqT K H a (xs.map V.str)) : Dp K H (.ref a) (.tuple (xs.map PyData.str)) := .tup h (dpAll_strs K H xs)
theorem dp_strsL {K : PySem.W.Frag} {H : Hp} {a : Addr} {xs : List Str} (h : SqL K H a (xs.map V.str)) : Dp K H (.ref a) (.list (xs.map PyData.str)) := .lst h (dpAll_strs K H xs)
theorem lay_strs : ∀ {xs : List Str}, Oks xs → PyData.canLayAll0 (xs.map PyData.str) = true
  | [], _ => by simp [PyData.canLayAll0]
  | x :: r, h => by
    have h1 := h x List.mem_cons_self
    have h2 := lay_strs (xs := r) fun y hy => h y (List.mem_cons_of_mem _ hy)
    simp only [List.map_cons, PyData.canLayAll0, PyData.canLay0, h1, h2, Bool.and_self]
theorem depth_strs : ∀ xs : List Str, PyData.depthAll (xs.map PyData.str) = 0
  | [] => by simp [PyData.depthAll]
  | x :: r => by simp only [List.map_cons, PyData.depthAll, PyData.depth, depth_strs r, Nat.max_self]
theorem shaped_strsT {xs : List Str} (h : Oks xs) : SeqAt.shaped (.tuple (xs.map PyData.str)) = true := by
  unfold SeqAt.shaped
  simp only [PyData.canLay0, PyData.depth, depth_strs, lay_strs h]
  rfl
theorem shaped_strsL {xs : List Str} (h : Oks xs) : SeqAt.shaped (.list (xs.map PyData.str)) = true := by
  unfold SeqAt.shaped
  simp only [PyData.canLay0, PyData.depth, depth_strs, lay_strs h]
  rfl
theorem eqvAll_strs : ∀ xs ys : List Str, PyData.eqvAll (xs.map PyData.str) (ys.map PyData.str) = decide (xs = ys)
  | [], [] => by simp [PyData.eqvAll]
  | [], y :: ys => by simp [PyData.eqvAll]
  | x :: xs, [] => by simp [PyData.eqvAll]
  | x :: xs, y :: ys => by
    simp only [List.map_cons, PyData.eqvAll, PyData.eqv, eqvAll_strs xs ys]
    by_cases h1 : x = y
    · by_cases h2 : xs = ys <;> simp [h1, h2]
    · simp [h1]
theorem eqv_strsT (xs ys : List Str) : PyData.eqv (.tuple (xs.map PyData.str)) (.tuple (ys.map PyData.str)) = decide (xs = ys) := by
  simp only [PyData.eqv]; exact eqvAll_strs xs ys
theorem eqv_strsL (xs ys : List Str) : PyData.eqv (.list (xs.map PyData.str)) (.list (ys.map PyData.str)) = decide (xs = ys) := by
  simp only [PyData.eqv]; exact eqvAll_strs xs ys
section
variable {K : PySem.W.Frag} {H : Hp} {Q : VK} {a b : Addr} {xs ys : List Str}
theorem w_eqT (ha : SqT K H a (xs.map V.str)) (hb : SqT K H b (ys.map V.str)) (h1 : Oks xs) (h2 : Oks ys) (g : Q (.bl (decide (xs = ys))) H) : rEqD K (.ref a) (.ref b) H Q :=
  ⟨_, _, dp_strsT ha, dp_strsT hb, shaped_strsT h1, shaped_strsT h2, by rw [eqv_strsT]; exact g⟩
theorem w_eqL (ha : SqL K H a (xs.map V.str)) (hb : SqL K H b (ys.map V.str)) (h1 : Oks xs) (h2 : Oks ys) (g : Q (.bl (decide (xs = ys))) H) : rEqD K (.ref a) (.ref b) H Q :=
  ⟨_, _, dp_strsL ha, dp_strsL hb, shaped_strsL h1, shaped_strsL h2, by rw [eqv_strsL]; exact g⟩
theorem w_neL (ha : SqL K H a (xs.map V.str)) (hb : SqL K H b (ys.map V.str)) (h1 : Oks xs) (h2 : Oks ys) (g : Q (.bl (!decide (xs = ys))) H) : rNeD K (.ref a) (.ref b) H Q :=
  ⟨_, _, dp_strsL ha, dp_strsL hb, shaped_strsL h1, shaped_strsL h2, by rw [eqv_strsL]; exact g⟩
theorem w_neT (ha : SqT K H a (xs.map V.str)) (hb : SqT K H b (ys.map V.str)) (h1 : Oks xs) (h2 : Oks ys) (g : Q (.bl (!decide (xs = ys))) H) : rNeD K (.ref a) (.ref b) H Q :=
  ⟨_, _, dp_strsT ha, dp_strsT hb, shaped_strsT h1, shaped_strsT h2, by rw [eqv_strsT]; exact g⟩
end
/-! ### NameSet -/
def fldM (t : Addr) : List (Str × V) := [("members", .ref t)]
/-- at a: a NameSet of the names xs -/
def NsAt (K : PySem.W.Frag) (C : Addr) (H : Hp) (a : Addr) (xs : List Str) : Prop := ∃ dx t, H a = some (.ins C dx (fldM t)) ∧ SqT K H t (xs.map V.str) ∧ Oks xs
theorem Same.sqt {K : PySem.W.Frag} {H H' : Hp} {a : Addr} {xs : List V} (e : Same H H') (h : SqT K H a xs) : SqT K H' a xs := by
  rcases h with (h | ⟨o, h⟩) | h
  · exact .inl (.inl (e _ _ h))
  · exact .inl (.inr ⟨o, e _ _ h⟩)
  · exact .inr h
theorem NsAt.same {K : PySem.W.Frag} {C : Addr} {H H' : Hp} {a : Addr} {xs : List Str} (h : NsAt K C H a xs) (e : Same H H') : NsAt K C H' a xs := by
  obtain ⟨dx, t, h1, h2, h3⟩ := h
  exact ⟨dx, t, e _ _ h1, Same.sqt e h2, h3⟩
def sp_nsContains (K : PySem.W.Frag) (C : Addr) : Sp := fun vs H Q _ => ∃ (a : Addr) (xs : List Str) (z : Str), vs = [.ref a, .str z] ∧ NsAt K C H a xs ∧ Q (.bl (decide (z ∈ xs))) H
def sp_nsLen (K : PySem.W.Frag) (C : Addr) : Sp := fun vs H Q _ => ∃ (a : Addr) (xs : List Str), vs = [.ref a] ∧ NsAt K C H a xs ∧ Q (.int xs.length) H
/-- two sets -/
def sp_nsCmp (K : PySem.W.Frag) (C : Addr) (f : List Str → List Str → Bool) : Sp := fun vs H Q _ => ∃ (a b : Addr) (xs ys : List Str), vs = [.ref a, .ref b] ∧ NsAt K C H a xs ∧ NsAt K C H b ys ∧ xs.length ≤ 1000 ∧ ∀ H', Same H H' → Q (.bl (f xs ys)) H'
/-- a set and anything that is of another type -/
def sp_nsEq (K : PySem.W.Frag) (C : Addr) : Sp := fun vs H Q _ => ∃ (a : Addr) (y : V) (xs : List Str), vs = [.ref a, y] ∧ NsAt K C H a xs ∧
  ((∃ b ys, y = .ref b ∧ NsAt K C H b ys ∧ Q (.bl (decide (xs = ys))) H) ∨ (∃ t, TyX K H y t ∧ PySem.W.kitOne K t (.ref C) = some false ∧ Q (.bl false) H))
def sp_nsBin (K : PySem.W.Frag) (C : Addr) (f : List Str → List Str → List Str) : Sp := fun vs H Q _ => ∃ (a b : Addr) (xs ys : List Str), vs = [.ref a, .ref b] ∧ NsAt K C H a xs ∧ NsAt K C H b ys ∧ xs.length + ys.length < 64 ∧
  ∀ c H', Same H H' → H c = none → NsAt K C H' c (nset (f xs ys)) → Q (.ref c) H'
/-- __init__: a list or tuple of texts, or a set of names -/
def Coll (K : PySem.W.Frag) (C : Addr) (H : Hp) (v : V) (xs : List Str) : Prop := ∃ b, v = .ref b ∧ (SqL K H b (xs.map V.str) ∨ SqT K H b (xs.map V.str) ∨ (NsAt K C H b xs ∧ nset xs = xs))
def sp_nsInit (K : PySem.W.Frag) (C : Addr) : Sp := fun vs H Q _ => ∃ (x dx : Addr) (v : V) (xs : List Str), vs = [.ref x, v] ∧ H x = some (.ins C dx []) ∧ Coll K C H v xs ∧ Oks xs ∧ xs.length < 64 ∧
  ∀ H' t, (∀ b o, b ≠ x → H b = some o → H' b = some o) → H' x = some (.ins C dx (fldM t)) → SqT K H' t ((nset xs).map V.str) → Q .non H'
/-! ### making instances -/
def MkDoes (P : Program) (w : World) (K : PySem.W.Frag) (mg : Str → Option Value) (base : Heap) (CX : CXT) (lv : Nat) (x : Str) (C : Addr) (ps : List Str) (dvs : List V) (sp : Sp) : Prop :=
  ∃ f fd ds, Mk K C f ∧ FnOk P w K mg base CX lv f fd ps sp ∧ Binds K fd ps ds ∧ Vals dvs ds ∧ mg x = some (.ref C)
theorem tyx_l {K : PySem.W.Frag} {H : Hp} {a : Addr} {xs : List V} (h : SqL K H a xs) : TyX K H (.ref a) (.type "list") := by
  rcases h with (h | ⟨o, h⟩) | ⟨o, its, n, h, hc, _⟩
  · exact .base (.lst h)
  · exact .base (.frz h)
  · exact .kList h hc
theorem tyx_t {K : PySem.W.Frag} {H : Hp} {a : Addr} {xs : List V} (h : SqT K H a xs) : TyX K H (.ref a) (.type "tuple") := by
  rcases h with (h | ⟨o, h⟩) | ⟨o, its, n, h, hc, _⟩
  · exact .base (.tup h)
  · exact .fTuple h
  · exact .kTuple h hc
theorem tyx_i {K : PySem.W.Frag} {C : Addr} {H : Hp} {a dx : Addr} {fs : List (Str × V)} (c : C8.InsC K C) (h : H a = some (.ins C dx fs)) : TyX K H (.ref a) (.ref C) := .base (.ins h c.cl c.ha c.hn c.htk c.hm)
theorem look_hd {k : Str} {v : V} {r : List (Str × V)} : ((k, v) :: r).lookup k = some v := List.lookup_cons_self
section
variable {K : PySem.W.Frag} {σ : L2.St} {H : Hp} {Q : VK} {a C dx : Addr} {fs : List (Str × V)} {v : V} {f : Str}
theorem w_fldx {R : V → Prop} (h : H a = some (.ins C dx fs)) (hc : Cls K C) (hn : NoAttr K C f) (hl : fs.lookup f = some v) (g : R v) : ∃ a' C dx fs v, V.ref a = .ref a' ∧ H a' = some (.ins C dx fs) ∧ Cls K C ∧ NoAttr K C f ∧ fs.lookup f = some v ∧ R v :=
  ⟨a, C, dx, fs, v, rfl, h, hc, hn, hl, g⟩
theorem w_sfld {ta tv : TE} {nx bk ct : L2.St → Hp → Prop} {rt : VK} (g : tv σ H fun y H1 => ta σ H1 fun x H2 => ∃ a C dx fs, x = .ref a ∧ H2 a = some (.ins C dx fs) ∧ Cls K C ∧ NoAttr K C f ∧ fs.length < 1000 ∧ nx σ (upd H2 a (.ins C dx (putF f y fs)))) : sFld K ta tv f ⟨nx, rt, bk, ct⟩ σ H := g
theorem w_sfldx {y : V} {R : Hp → Prop} (h : H a = some (.ins C dx fs)) (hc : Cls K C) (hn : NoAttr K C f) (hl : fs.length < 1000) (g : R (upd H a (.ins C dx (putF f y fs)))) :
    ∃ a' C dx fs, V.ref a = .ref a' ∧ H a' = some (.ins C dx fs) ∧ Cls K C ∧ NoAttr K C f ∧ fs.length < 1000 ∧ R (upd H a' (.ins C dx (putF f y fs))) := ⟨a, C, dx, fs, rfl, h, hc, hn, hl, g⟩
/-- an instance is made, and its __init__ run -/
def MkB (C : Addr) (sp : Sp) (E : XK) (Q : VK) (vs : List V) (H1 : Hp) : Prop := ∀ x dx, H1 x = none → H1 dx = none → dx ≠ x → sp (.ref x :: vs) (upd (upd H1 dx (.own x)) x (.ins C dx [])) (fun v H2 => v = .non ∧ Q (.ref x) H2) E
theorem w_make {sp : Sp} {dvs : List V} {E : XK} {tA : TA} (g : tA σ H fun vs H1 => MkB C sp E Q (vs ++ dvs) H1) : tMake C sp dvs E tA σ H Q := g
end
theorem Coll.same {K : PySem.W.Frag} {C : Addr} {H H' : Hp} {v : V} {xs : List Str} (h : Coll K C H v xs) (e : Same H H') : Coll K C H' v xs := by
  obtain ⟨b, rfl, h | h | ⟨h, h'⟩⟩ := h
  · exact ⟨b, rfl, .inl (e.seq h)⟩
  · exact ⟨b, rfl, .inr (.inl (Same.sqt e h))⟩
  · exact ⟨b, rfl, .inr (.inr ⟨h.same e, h'⟩)⟩
theorem use_nsMake {K : PySem.W.Frag} {C : Addr} {H : Hp} {Q : VK} {E : XK} {v : V} {vs : List V} {xs : List Str} (hv : vs = [v]) (hC : Coll K C H v xs) (hO : Oks xs) (hl : xs.length < 64) (g : ∀ x H', Same H H' → H x = none → NsAt K C H' x (nset xs) → Q (.ref x) H') : MkB C (sp_nsInit K C) E Q vs H := by
  intro x dx nx nd ne
  subst hv
  have s0 : Same H (upd (upd H dx (.own x)) x (.ins C dx [])) := Same.mut (Same.new nd) nx
  refine ⟨x, dx, v, xs, rfl, upd_same, hC.same s0, hO, hl, fun H' t k hx hT => ⟨rfl, ?_⟩⟩
  exact g x H' (fun b o e => k b o (ne_of_none e nx) (s0 b o e)) nx ⟨dx, t, hx, hT, hO.nset⟩
def nsLe (xs ys : List Str) : Bool := xs.all fun z => decide (z ∈ ys)
def nsLt (xs ys : List Str) : Bool := decide (xs.length < ys.length) && nsLe xs ys
def nsOr (xs ys : List Str) : List Str := xs ++ ys
def nsAnd (xs ys : List Str) : List Str := xs.filter fun z => decide (z ∈ ys)
def nsSub (xs ys : List Str) : List Str := xs.filter fun z => decide (z ∉ ys)
theorem FunD.okN {P : Program} {w : World} {K : PySem.W.Frag} {mg : Str → Option Value} {base : Heap} {x qual : Str} {params : Arguments} {body : List Stmt} {scope : Scope} {dvs : List V} {kws : List (Str × V)} {f : Addr} {fd : FuncData} {N ps : List Str} {k : Nat} {sp : Sp}
    (F : FunD K x qual params body scope dvs kws f fd) (S : FnScope N ps scope) (len : ∀ vs H Q E, sp vs H Q E → vs.length = ps.length)
    (hbody : ∀ (cdv : Value) (A : Around) (outer : List Env) (s : Shared) (H : Hp) (vs : List V) (Q : VK) (E : XK), Room k (A.deeper (PyProof.Rows.envOfC qual scope s.heap.objs.size f cdv)) → sp vs H Q E →
      ∃ t, PSs (cxOf CX0 P w K mg base N qual scope f cdv A outer s H E).nox body t ∧ t { nx := fun _ H' => Q .non H', rt := Q } (start N vs) H) : FnOk P w K mg base CX0 (k + 1) f fd ps sp :=
  F.ok S len fun cdv A outer s H vs Q E hr h => let ⟨t, d, q⟩ := hbody cdv A outer s H vs Q E hr h; ⟨t, d.nox, q⟩
/-! ### the operators of sets, used -/
section
variable {K : PySem.W.Frag} {C : Addr} {H : Hp} {Q : VK} {E : XK} {a b : Addr} {xs ys : List Str}
theorem nf_self : PySem.W.notFirst K C (.ref C) = true := by unfold PySem.W.notFirst; simp
theorem u_nsCmp {f : List Str → List Str → Bool} (ic : C8.InsC K C) (h1 : NsAt K C H a xs) (h2 : NsAt K C H b ys) (hl : xs.length ≤ 1000) (g : ∀ H', Same H H' → Q (.bl (f xs ys)) H') : rCmpO K C (sp_nsCmp K C f) E (.ref a) (.ref b) H Q := by
  obtain ⟨dx, t, ha, _⟩ := id h1
  obtain ⟨dy, u, hb, _⟩ := id h2
  exact ⟨a, dx, _, _, rfl, ha, tyx_i ic hb, nf_self, a, b, xs, ys, rfl, h1, h2, hl, g⟩
theorem u_nsEq (ic : C8.InsC K C) (h1 : NsAt K C H a xs) (h2 : NsAt K C H b ys) (g : Q (.bl (decide (xs = ys))) H) : rCmpO K C (sp_nsEq K C) E (.ref a) (.ref b) H Q := by
  obtain ⟨dx, t, ha, _⟩ := id h1
  obtain ⟨dy, u, hb, _⟩ := id h2
  exact ⟨a, dx, _, _, rfl, ha, tyx_i ic hb, nf_self, a, .ref b, xs, rfl, h1, .inl ⟨b, ys, rfl, h2, g⟩⟩
theorem u_nsEqO {y : V} {t : Value} (h1 : NsAt K C H a xs) (ht : TyX K H y t) (hn : PySem.W.notFirst K C t = true) (hk : PySem.W.kitOne K t (.ref C) = some false) (g : Q (.bl false) H) : rCmpO K C (sp_nsEq K C) E (.ref a) y H Q := by
  obtain ⟨dx, t', ha, _⟩ := id h1
  exact ⟨a, dx, _, _, rfl, ha, ht, hn, a, y, xs, rfl, h1, .inr ⟨t, ht, hk, g⟩⟩
theorem u_nsNe (ic : C8.InsC K C) (h1 : NsAt K C H a xs) (h2 : NsAt K C H b ys) (g : Q (.bl (!decide (xs = ys))) H) : rNeO K C (sp_nsEq K C) E (.ref a) (.ref b) H Q := by
  obtain ⟨dx, t, ha, _⟩ := id h1
  obtain ⟨dy, u, hb, _⟩ := id h2
  exact ⟨a, dx, _, _, rfl, ha, tyx_i ic hb, nf_self, a, .ref b, xs, rfl, h1, .inl ⟨b, ys, rfl, h2, _, rfl, g⟩⟩
theorem u_nsBin {f : List Str → List Str → List Str} (h1 : NsAt K C H a xs) (h2 : NsAt K C H b ys) (hl : xs.length + ys.length < 64) (g : ∀ c H', Same H H' → H c = none → NsAt K C H' c (nset (f xs ys)) → Q (.ref c) H') : rBinO C (sp_nsBin K C f) E (.ref a) (.ref b) H Q := by
  obtain ⟨dx, t, ha, _⟩ := id h1
  obtain ⟨dy, u, hb, _⟩ := id h2
  exact ⟨a, dx, _, b, dy, _, rfl, rfl, ha, hb, a, b, xs, ys, rfl, h1, h2, hl, g⟩
theorem u_nsIn {z : Str} (h1 : NsAt K C H a xs) (g : Q (.bl (decide (z ∈ xs))) H) : rInO C (sp_nsContains K C) E false (.str z) (.ref a) H Q := by
  obtain ⟨dx, t, ha, _⟩ := id h1
  exact ⟨a, dx, _, rfl, ha, a, xs, z, rfl, h1, _, rfl, g⟩
theorem u_nsNi {z : Str} (h1 : NsAt K C H a xs) (g : Q (.bl (!decide (z ∈ xs))) H) : rInO C (sp_nsContains K C) E true (.str z) (.ref a) H Q := by
  obtain ⟨dx, t, ha, _⟩ := id h1
  exact ⟨a, dx, _, rfl, ha, a, xs, z, rfl, h1, _, rfl, g⟩
theorem u_nsLen (h1 : NsAt K C H a xs) (hl : xs.length ≤ 1000) (g : Q (.int xs.length) H) : rLenO C (sp_nsLen K C) E [.ref a] H Q := by
  obtain ⟨dx, t, ha, _⟩ := id h1
  exact ⟨a, dx, _, rfl, ha, a, xs, rfl, h1, xs.length, rfl, by rw [PySem.sizeLine_eq]; omega, g⟩
end
theorem nsLe_nset (xs ys : List Str) : nsLe (nset xs) (nset ys) = nsLe xs ys := by
  unfold nsLe
  rw [Bool.eq_iff_iff, List.all_eq_true, List.all_eq_true]
  constructor
  · intro h z hz
    have := h z (mem_nset.mpr hz)
    rw [decide_eq_true_eq, mem_nset] at this
    rw [decide_eq_true_eq]; exact this
  · intro h z hz
    have := h z (mem_nset.mp hz)
    rw [decide_eq_true_eq] at this ⊢
    rw [mem_nset]; exact this
theorem nset_and (xs ys : List Str) : nset (nsAnd (nset xs) (nset ys)) = nset (xs.filter fun z => decide (z ∈ ys)) := nset_congr fun z => by
  unfold nsAnd; simp only [List.mem_filter, mem_nset, decide_eq_true_eq]
theorem nset_sub (xs ys : List Str) : nset (nsSub (nset xs) (nset ys)) = nset (xs.filter fun z => decide (z ∉ ys)) := nset_congr fun z => by
  unfold nsSub; simp only [List.mem_filter, mem_nset, decide_eq_true_eq]
theorem nset_or (xs ys : List Str) : nset (nsOr (nset xs) (nset ys)) = nset (xs ++ ys) := nset_congr fun z => by
  unfold nsOr; simp only [List.mem_append, mem_nset]
theorem NsAt.mut {K : PySem.W.Frag} {C : Addr} {H : Hp} {a f : Addr} {xs : List Str} {us ws : List V} (h : NsAt K C H a xs) (hf : H f = some (.lst us)) : NsAt K C (upd H f (.lst ws)) a xs := by
  obtain ⟨dx, t, h1, h2, h3⟩ := h
  refine ⟨dx, t, by rw [upd_ne (ne_of h1 hf (by intro z; cases z))]; exact h1, ?_, h3⟩
  rcases h2 with (h | ⟨o, h⟩) | h
  · exact SqT.of (by rw [upd_ne (ne_of h hf (by intro z; cases z))]; exact h)
  · exact .inl (.inr ⟨o, by rw [upd_ne (ne_of h hf (by intro z; cases z))]; exact h⟩)
  · exact .inr h
theorem Coll.lst {K : PySem.W.Frag} {C : Addr} {H : Hp} {b : Addr} {xs : List Str} (h : H b = some (.lst (xs.map V.str))) : Coll K C H (.ref b) xs := ⟨b, rfl, .inl (SqL.of h)⟩
theorem Coll.tup {K : PySem.W.Frag} {C : Addr} {H : Hp} {b : Addr} {xs : List Str} (h : H b = some (.tup (xs.map V.str))) : Coll K C H (.ref b) xs := ⟨b, rfl, .inr (.inl (SqT.of h))⟩
theorem Coll.ns {K : PySem.W.Frag} {C : Addr} {H : Hp} {b : Addr} {xs : List Str} (h : NsAt K C H b (nset xs)) : Coll K C H (.ref b) (nset xs) := ⟨b, rfl, .inr (.inr ⟨h, nset_nset xs⟩)⟩
end Mf

namespace Mf
open PySem L2
/-! ### helpers of the laws about sets of names -/
def sp_sorted (K : PySem.W.Frag) : Sp := fun vs H Q _ => ∃ (a : Addr) (xs : List Str), vs = [.ref a] ∧ SqL K H a (xs.map V.str) ∧ xs.length < 64 ∧
  ∀ t H', Same H H' → H t = none → H' t = some (.tup ((srt xs).map V.str)) → Q (.ref t) H'
theorem use_sorted {K : PySem.W.Frag} {a : Addr} {xs : List Str} {H : Hp} {Q : VK} {E : XK} (h : SqL K H a (xs.map V.str)) (hl : xs.length < 64)
    (g : ∀ t H', Same H H' → H t = none → H' t = some (.tup ((srt xs).map V.str)) → Q (.ref t) H') : sp_sorted K ([.ref a] ++ []) H Q E := ⟨a, xs, rfl, h, hl, g⟩
/-- two lists of truth values -/
def sp_truths (K : PySem.W.Frag) : Sp := fun vs H Q _ => ∃ (a b : Addr) (bs cs : List Bool), vs = [.ref a, .ref b] ∧ SqL K H a (bs.map V.bl) ∧ SqL K H b (cs.map V.bl) ∧ bs.length ≤ 1000 ∧ ∀ H', Same H H' → Q (.bl (decide (bs = cs))) H'
theorem use_truths {K : PySem.W.Frag} {a b : Addr} {bs cs : List Bool} {H : Hp} {Q : VK} {E : XK} (h : SqL K H a (bs.map V.bl)) (h' : SqL K H b (cs.map V.bl)) (hl : bs.length ≤ 1000) (g : ∀ H', Same H H' → Q (.bl (decide (bs = cs))) H') :
    sp_truths K ([.ref a, .ref b] ++ []) H Q E := ⟨a, b, bs, cs, rfl, h, h', hl, g⟩
theorem dpAll_bls (K : PySem.W.Frag) (H : Hp) : ∀ xs : List Bool, DpAll K H (xs.map V.bl) (xs.map PyData.bool)
  | [] => .nil
  | x :: r => .cons (.bl x) (dpAll_bls K H r)
theorem lay_bls : ∀ xs : List Bool, PyData.canLayAll0 (xs.map PyData.bool) = true
  | [] => by simp [PyData.canLayAll0]
  | x :: r => by simp only [List.map_cons, PyData.canLayAll0, PyData.canLay0, lay_bls r, Bool.and_self]
theorem depth_bls : ∀ xs : List Bool, PyData.depthAll (xs.map PyData.bool) = 0
  | [] => by simp [PyData.depthAll]
  | x :: r => by simp only [List.map_cons, PyData.depthAll, PyData.depth, depth_bls r, Nat.max_self]
theorem shaped_bls (xs : List Bool) : SeqAt.shaped (.list (xs.map PyData.bool)) = true := by
  unfold SeqAt.shaped
  simp only [PyData.canLay0, PyData.depth, depth_bls, lay_bls]
  rfl
theorem eqvAll_bls : ∀ xs ys : List Bool, PyData.eqvAll (xs.map PyData.bool) (ys.map PyData.bool) = decide (xs = ys)
  | [], [] => by simp [PyData.eqvAll]
  | [], y :: ys => by simp [PyData.eqvAll]
  | x :: xs, [] => by simp [PyData.eqvAll]
  | x :: xs, y :: ys => by
    simp only [List.map_cons, PyData.eqvAll, PyData.eqv, eqvAll_bls xs ys]
    by_cases h1 : x = y
    · by_cases h2 : xs = ys <;> simp [h1, h2]
    · simp [h1]
theorem w_eqBl {K : PySem.W.Frag} {H : Hp} {Q : VK} {a b : Addr} {xs ys : List Bool} (ha : SqL K H a (xs.map V.bl)) (hb : SqL K H b (ys.map V.bl)) (g : Q (.bl (decide (xs = ys))) H) : rEqD K (.ref a) (.ref b) H Q :=
  ⟨_, _, .lst ha (dpAll_bls K H xs), .lst hb (dpAll_bls K H ys), shaped_bls xs, shaped_bls ys, by rw [show PyData.eqv (.list (xs.map PyData.bool)) (.list (ys.map PyData.bool)) = decide (xs = ys) by simp only [PyData.eqv]; exact eqvAll_bls xs ys]; exact g⟩
/-- the same names, in a drawn order, some twice -/
def sp_mixed (K : PySem.W.Frag) : Sp := fun vs H Q _ => ∃ (p a : Addr) (c : Nat) (xs : List Str), vs = [.ref p, .ref a] ∧ Src H p c ∧ c + 3 * xs.length < LIM ∧ SqL K (hid p H) a (xs.map V.str) ∧ xs.length ≤ 100 ∧
  ∀ (ys : List Str) (b : Addr) (c' : Nat) (H' : Hp), Kp p H H' → Src H' p c' → c' ≤ c + 3 * xs.length → H b = none → H' b = some (.lst (ys.map V.str)) → ys.length ≤ 2 * xs.length → (∀ z, z ∈ ys ↔ z ∈ xs) → Q (.ref b) H'
theorem use_mixed {K : PySem.W.Frag} {p a : Addr} {c : Nat} {xs : List Str} {H : Hp} {Q : VK} {E : XK} (h : Src H p c) (hc : c + 3 * xs.length < LIM) (hS : SqL K (hid p H) a (xs.map V.str)) (hl : xs.length ≤ 100)
    (g : ∀ (ys : List Str) (b : Addr) (c' : Nat) (H' : Hp), Kp p H H' → Src H' p c' → c' ≤ c + 3 * xs.length → H b = none → H' b = some (.lst (ys.map V.str)) → ys.length ≤ 2 * xs.length → (∀ z, z ∈ ys ↔ z ∈ xs) → Q (.ref b) H') :
    sp_mixed K ([.ref p, .ref a] ++ []) H Q E := ⟨p, a, c, xs, rfl, h, hc, hS, hl, g⟩
def sp_lawIs (K : PySem.W.Frag) (C : Addr) : Sp := fun vs H Q _ => ∃ (a b : Addr) (ys xs : List Str), vs = [.ref a, .ref b] ∧ NsAt K C H a ys ∧ SqL K H b (xs.map V.str) ∧ xs.length < 64 ∧ Oks xs ∧ ∀ H', Same H H' → Q (.bl (decide (ys = srt xs))) H'
theorem use_lawIs {K : PySem.W.Frag} {C a b : Addr} {ys xs : List Str} {H : Hp} {Q : VK} {E : XK} (h : NsAt K C H a ys) (h' : SqL K H b (xs.map V.str)) (hl : xs.length < 64) (ho : Oks xs) (g : ∀ H', Same H H' → Q (.bl (decide (ys = srt xs))) H') :
    sp_lawIs K C ([.ref a, .ref b] ++ []) H Q E := ⟨a, b, ys, xs, rfl, h, h', hl, ho, g⟩
/-- two sets and the law's own rows of them, both in the order of one stock -/
def sp_pair (K : PySem.W.Frag) (C : Addr) : Sp := fun vs H Q _ => ∃ (l r a b : Addr) (xs ys st : List Str), vs = [.ref l, .ref r, .ref a, .ref b] ∧ NsAt K C H l (nset xs) ∧ NsAt K C H r (nset ys) ∧ H a = some (.lst (xs.map V.str)) ∧ H b = some (.lst (ys.map V.str)) ∧
  xs.Sublist st ∧ ys.Sublist st ∧ st.Nodup ∧ st.length ≤ 16 ∧ Oks st ∧ ∀ H', Same H H' → Q (.bl true) H'
theorem use_pair {K : PySem.W.Frag} {C l r a b : Addr} {xs ys st : List Str} {H : Hp} {Q : VK} {E : XK} (h1 : NsAt K C H l (nset xs)) (h2 : NsAt K C H r (nset ys)) (h3 : H a = some (.lst (xs.map V.str))) (h4 : H b = some (.lst (ys.map V.str)))
    (h5 : xs.Sublist st) (h6 : ys.Sublist st) (h7 : st.Nodup) (h8 : st.length ≤ 16) (h9 : Oks st) (g : ∀ H', Same H H' → Q (.bl true) H') : sp_pair K C ([.ref l, .ref r, .ref a, .ref b] ++ []) H Q E :=
  ⟨l, r, a, b, xs, ys, st, rfl, h1, h2, h3, h4, h5, h6, h7, h8, h9, g⟩
/-- two parts of one row with the same members are the same -/
theorem sublist_ext {α : Type} [DecidableEq α] : ∀ {st xs ys : List α}, st.Nodup → xs.Sublist st → ys.Sublist st → (∀ z, z ∈ xs ↔ z ∈ ys) → xs = ys
  | [], xs, ys, _, h1, h2, _ => by rw [List.sublist_nil.mp h1, List.sublist_nil.mp h2]
  | s :: st, xs, ys, nd, h1, h2, h => by
    obtain ⟨ns, nd'⟩ := List.nodup_cons.mp nd
    have no : ∀ {zs : List α}, zs.Sublist st → s ∉ zs := fun hz hm => ns (hz.subset hm)
    cases h1 with
    | cons _ a1 =>
      cases h2 with
      | cons _ a2 => exact sublist_ext nd' a1 a2 h
      | cons_cons _ a2 => exact absurd ((h s).2 List.mem_cons_self) (no a1)
    | cons_cons _ a1 =>
      cases h2 with
      | cons _ a2 => exact absurd ((h s).1 List.mem_cons_self) (no a2)
      | cons_cons _ a2 =>
        rename_i xs' ys'
        have := sublist_ext nd' a1 a2 fun z => by
          have hz := h z
          rw [List.mem_cons, List.mem_cons] at hz
          constructor
          · intro m
            rcases hz.1 (.inr m) with e | e
            · exact absurd (e ▸ m) (no a1)
            · exact e
          · intro m
            rcases hz.2 (.inr m) with e | e
            · exact absurd (e ▸ m) (no a2)
            · exact e
        rw [this]
end Mf

namespace Mf
open PySem L2
/-! ### what the top has left, fact by fact -/
section
variable {K : PySem.W.Frag} {h : Heap} {mg : Str → Option Value}
theorem clsF_mk {x : Str} {C : Addr} (X : K.In h) (G : h.Ns mainGlobals mg) (aC : PySem.W.nsIn K mainGlobals x = some (some (.ref C))) (pg : PySem.W.plainGet K C Str.empty = true) (hd : PySem.W.hasDictIn K C = true) (po : PySem.W.plainOver K C = true)
    (sa : PySem.W.findIn K (.ref C) "__setattr__" = some (some (.builtin "object.__setattr__"))) (ha : PySem.W.findIn K (.ref C) "__class__" = some (some (.builtin "object.__class__")))
    (hn : PySem.W.specialIn K (.builtin "object.__class__") "__get__" = some (some (.builtin "getset_descriptor.__get__"))) (htk : PySem.W.takesIn K (.builtin "object.__class__") = some true)
    (hm : PySem.W.mroIn K C (.type "object") = some true) (sf : PySem.W.selfFirst K C = true) (ne : PySem.W.findIn K (.ref C) "__ne__" = some (some (.builtin "object.__ne__"))) : ClsF K mg x C :=
  ⟨PySem.W.mg_of X G aC, ⟨⟨pg, hd, po, sa⟩, ha, hn, htk, hm, by simp [PySem.W.kitOne]⟩, sf, ne⟩
theorem methAt_mk {C : Addr} {m q : Str} {st : Stmt} {ps : List Str} {f : Addr} {oc : Value} {od an : Option Addr} {osl : Array (Option Value)} {kV doc pm cdv ct : Value} (a : PySem.W.findIn K (.ref C) m = some (some (.ref f))) (i : PySem.W.isFn K (.ref f) = true)
    (l : K.lookup f = some ⟨oc, od, .func (PySem.W.fnOf m q (defArgs st) (defBody st) (defScope st) .none kV doc pm an cdv ct), osl⟩) (c : PySem.W.codeIn K cdv q = true) (k : PySem.W.keepIn K (.ref f) = true)
    (hb : ∀ (kV doc pm : Value) (an : Option Addr) (cdv ct : Value) (us : List Value), us.length = ps.length → bindArgs (PySem.W.fnOf m q (defArgs st) (defBody st) (defScope st) .none kV doc pm an cdv ct) ⟨us, []⟩ = pure (ps.zip us)) : MethAt K C m q st ps :=
  ⟨f, _, fun_mk l c k, ⟨a, i, k⟩, (fun_mk l c k).binds hb⟩
theorem law_binds {x q : Str} {st : Stmt} {f : Addr} {fd : FuncData} {p : Str} (F : Fun K x q st f fd)
    (hb : ∀ (kV doc pm : Value) (an : Option Addr) (cdv ct : Value) (u : Value), bindArgs (PySem.W.fnOf x q (defArgs st) (defBody st) (defScope st) .none kV doc pm an cdv ct) ⟨[u], []⟩ = pure [(p, u)]) : ∀ (s : Shared) (u : Value), BindsTo s fd ⟨[u], []⟩ [(p, u)] := fun s u => by
  obtain ⟨oc, od, kV, doc, pm, an, cdv, ct, osl, rfl, _, _⟩ := F.ex
  exact .of_eq (hb kV doc pm an cdv ct u)
/-- a built-in type is no kind of an own class -/
theorem kit_no {C : Addr} {t : String} (ci : PySem.W.isClsIn K C = true) (ty : PySem.W.typeIn K (.ref C) = some (.type "type")) (nf : PySem.W.notFirst K C (.type t) = true) : PySem.W.kitOne K (.type t) (.ref C) = some false := by
  have e : (Value.type t == Value.ref C) = false := by simp
  have sb : PySem.W.subIn K (.type t) (.ref C) = some false := by simpa [PySem.W.notFirst] using nf
  simp only [PySem.W.isClsIn] at ci
  simp [PySem.W.kitOne, PySem.W.kitCls, ci, ty, sb]
/-- a def with one default, a tuple of nothing -/
theorem funD_mk {x q : Str} {st : Stmt} {f T T0 : Addr} {oc tc : Value} {od an td : Option Addr} {osl tsl : Array (Option Value)} {kV doc pm cdv ct : Value} {n : Nat}
    (l : K.lookup f = some ⟨oc, od, .func (PySem.W.fnOf x q (defArgs st) (defBody st) (defScope st) (.ref T) kV doc pm an cdv ct), osl⟩) (c : PySem.W.codeIn K cdv q = true) (k : PySem.W.keepIn K (.ref f) = true)
    (lT : K.lookup T = some ⟨tc, td, .seq [Value.ref T0].toArray n, tsl⟩) :
    FunD K x q (defArgs st) (defBody st) (defScope st) [.ref T0] [] f (PySem.W.fnOf x q (defArgs st) (defBody st) (defScope st) (.ref T) kV doc pm an cdv ct) :=
  ⟨⟨oc, od, .ref T, kV, doc, pm, an, cdv, ct, osl, rfl, l, c, .inr ⟨by simp, T, _, [.ref T0], n, rfl, lT, rfl, .cons rfl .nil⟩, .inl rfl⟩, k⟩
theorem unitT {T0 : Addr} {d0 : Option Addr} {n0 : Nat} {sl0 : Array (Option Value)} (l0 : K.lookup T0 = some ⟨.type "tuple", d0, .seq #[] n0, sl0⟩) (H : Hp) : SqT K H T0 [] :=
  .inr ⟨_, #[], n0, l0, rfl, rfl, by decide, .nil⟩
end
theorem walkL {l : PySem.W.OpenLaw} {q : Program} {loose : List Str} {XP : (Str → Option Value) → Heap → Prop} {YP : World → Heap → Prop} {d : DefRec} {K : Params → PySem.W.Frag} {lv : Nat} {x : Str} (hn : l.most = some 63) (hdf : d.params.defaults = []) (hr : Room lv PySem.callerA)
    (hY : ∀ (w : World) (h : Heap), YP w h → (K w.params).In h)
    (F : ∀ (w : World) (mg : Str → Option Value) (fa : Addr) (h : Heap), (K w.params).In h → h.Ns mainGlobals mg → mg d.name = some (.ref fa) →
      ∃ fd : FuncData, (∀ (s : Shared) (u : Value), BindsTo s fd ⟨[u], []⟩ [(x, u)]) ∧ ∀ base : Heap, (K w.params).In base → base.Ns mainGlobals mg → FnOk l.prog w (K w.params) mg base CX0 lv fa fd [x] (sp_law (K w.params))) :
    PySem.W.WalkO q loose XP YP l.row.toRowW d [] (fun f vs => PySem.call f vs) :=
  L2.walk_of (n := 63) (k := lv) (x := x) (CX := fun _ => CX0) (sp := fun w => sp_law (K w.params)) hn (by decide) hdf hr hY F (fun _ _ a ns hl _ hS => ⟨a, ns, rfl, hS, hl, fun _ => rfl⟩) fun _ _ _ _ _ z => z
end Mf

open PySem L2 Mf
local macro_rules | `(tactic| walk_at "hp") => `(tactic| first | assumption | exact upd_same)
local macro_rules | `(tactic| walk_at "sq") => `(tactic| first | assumption | exact SqL.of (by walk_at "hp") | exact SqT.of (by walk_at "hp"))
local macro_rules | `(tactic| walk_at "sz") => `(tactic| first | assumption | (simp only [PySem.sizeLine_eq, List.length_cons, List.length_nil, List.length_map, List.length_append]; omega))
local macro_rules | `(tactic| walk_at "sd") => `(tactic| first | assumption | exact rfl | omega | decide | exact ⟨by omega, by omega⟩ | exact .inl ⟨by omega, by omega⟩ | exact .inr ⟨by omega, by omega⟩ | exact ⟨by decide, by decide, by decide⟩)
local macro_rules | `(tactic| walk_at "s1") => `(tactic| first
  | ((with_reducible refine w_var (v := ?v) ?h ?_); (case h => exact rfl))
  | with_reducible refine w_c ?_
  | with_reducible refine w_op ?_
  | with_reducible refine w_I0 ?_
  | with_reducible refine w_bl ?_
  | with_reducible refine w_test ?_
  | with_reducible refine w_cons ?_
  | with_reducible refine w_nil ?_
  | with_reducible refine w_seq ?_
  | with_reducible refine w_asg ?_
  | with_reducible refine w_gname ?_
  | with_reducible refine w_ifS ?_
  | with_reducible refine w_cb ?_
  | with_reducible refine w_ret ?_
  | with_reducible refine w_drop ?_
  | with_reducible refine w_next ?_
  | with_reducible refine w_retN ?_
  | ((with_reducible refine w_aug (v := ?v) ?h ?_); (case h => exact rfl))
  | with_reducible refine w_ipI ?_
  | with_reducible refine w_int1 ?_
  | with_reducible refine w_call ?_
  | with_reducible refine w_and ?_
  | with_reducible refine w_or ?_
  | with_reducible refine w_not ?_
  | with_reducible refine w_tb ?_
  | with_reducible refine w_un ?_
  | with_reducible refine w_U ?_
  | ((with_reducible refine w_I ?h ?_); (case h => walk_at "sd"))
  | ((with_reducible refine w_eq ?h ?_); (case h => exact rfl))
  | ((with_reducible refine w_ne ?h ?_); (case h => exact rfl))
  | with_reducible refine w_gcons ?_
  | with_reducible refine w_gnil ?_
  | ((with_reducible refine w_gtup (xs := ?xs) ?h ?hn ?_); (case h => walk_at "sq"); (case hn => exact rfl))
  | with_reducible refine w_gsub ?_
  | ((with_reducible refine w_setL (xs := ?xs) (n := ?n) ?h ?hn ?_); (case h => walk_at "hp"); (case hn => exact rfl))
  | ((with_reducible refine w_ixL (xs := ?xs) (v := ?v) ?h ?hn ?_); (case h => walk_at "sq"); (case hn => exact rfl))
  | ((with_reducible refine w_ixT (xs := ?xs) (v := ?v) ?h ?hn ?_); (case h => walk_at "sq"); (case hn => exact rfl))
  | with_reducible refine w_tup ?_
  | with_reducible refine w_lst ?_
  | with_reducible refine iteT ?_
  | with_reducible refine iteF ?_
  | with_reducible refine ite_nt ?_
  | with_reducible refine ite_nf ?_
  | with_reducible refine w_andV ?_
  | with_reducible refine w_orV ?_
  | with_reducible refine w_notV ?_
  | with_reducible refine w_ifE ?_
  | with_reducible refine w_chain ?_
  | with_reducible refine w_yes ?_
  | with_reducible refine w_par ?_
  | with_reducible refine w_two ?_
  | with_reducible refine w_bm ?_
  | with_reducible refine w_bm0 ?_
  | with_reducible refine w_m1 ?_
  | with_reducible refine w_cont ?_
  | with_reducible refine w_iQ ?_
  | ((with_reducible refine w_iQl (xs := ?xs) ?h ?_); (case h => walk_at "sq"))
  | ((with_reducible refine w_iQt (xs := ?xs) ?h ?_); (case h => walk_at "sq"))
  | with_reducible refine w_fld ?_
  | ((with_reducible refine w_fldx (C := ?C) (dx := ?dx) (fs := ?fs) (v := ?v) ?h ?hc ?hn ?hl ?_); (case h => walk_at "hp"); (case hc => assumption); (case hn => assumption); (case hl => first | assumption | exact look_hd))
  | with_reducible refine w_sfld ?_
  | ((with_reducible refine w_sfldx (C := ?C) (dx := ?dx) (fs := ?fs) ?h ?hc ?hn ?hl ?_); (case h => walk_at "hp"); (case hc => assumption); (case hn => assumption); (case hl => decide))
  | with_reducible refine w_make ?_
  | with_reducible refine w_sc ?_
  | with_reducible refine w_lc ?_
  | with_reducible refine w_for ?_
  | with_reducible refine w_turn ?_
  | ((with_reducible refine w_wipe ?h ?_); (case h => exact rfl))
  | with_reducible refine w_iR1 ?_
  | ((with_reducible refine w_iR1x ?h ?k ?_); (case h => omega); (case k => omega))
  | with_reducible refine w_iR2 ?_
  | with_reducible refine w_iS ?_
  | with_reducible refine w_iE ?_
  | ((with_reducible refine w_iEx (xs := ?xs) ?h ?_); (case h => walk_at "sq"))
  | with_reducible refine w_iSx ?_
  | with_reducible refine w_strS ?_
  | ((with_reducible refine w_lenL (ys := ?ys) ?h ?_); (case h => walk_at "sq"))
  | ((with_reducible refine w_lenT (ys := ?ys) ?h ?_); (case h => walk_at "sq"))
  | ((with_reducible refine w_lenS ?h ?_); (case h => walk_at "sz"))
  | ((with_reducible refine w_lenD (kvs := ?kvs) ?h ?_); (case h => walk_at "hp"))
  | ((with_reducible refine w_addS ?h ?_); (case h => walk_at "sz"))
  | with_reducible refine w_inC ?_
  | with_reducible refine w_niC ?_
  | with_reducible refine w_isN ?_
  | with_reducible refine w_notN ?_
  | with_reducible refine w_max2 ?_
  | with_reducible refine w_sl ?_
  | with_reducible refine w_noP ?_
  | with_reducible refine w_part ?_
  | with_reducible refine w_exI ?_
  | with_reducible refine w_exS ?_
  | ((with_reducible refine w_slS ?h ?_); (case h => walk_at "sz"))
  | ((with_reducible refine w_tyL (xs := ?xs) ?h ?_); (case h => walk_at "sq"))
  | ((with_reducible refine w_size ?h ?_); (case h => walk_at "sz"))
  | ((with_reducible refine w_clear (xs := ?xs) ?h ?_); (case h => walk_at "hp"))
  | with_reducible refine w_star ?_
  | ((with_reducible refine w_stT (xs := ?xs) ?h ?_); (case h => walk_at "sq"))
  | with_reducible refine w_iL ?_
  | with_reducible refine w_iT ?_
  | ((with_reducible refine w_iLx (xs := ?xs) ?h ?_); (case h => walk_at "sq"))
  | ((with_reducible refine w_iTx (xs := ?xs) ?h ?_); (case h => walk_at "sq"))
  | with_reducible refine w_brk ?_)
local macro_rules | `(tactic| walk_at "rd") => `(tactic| repeat walk_at "s1")
namespace Mf
open PySem L2
def top (i : Nat) : Stmt := PySem.Challenge.pw_midfall_k01_name_sets.main.body.getD i (.Pass ⟨0, 0, 0, 0⟩)
abbrev s_source : Stmt := top 3
abbrev s_draw : Stmt := top 4
abbrev s_NameSet___init__ : Stmt := inClass (top 1) 0
abbrev s_NameSet___contains__ : Stmt := inClass (top 1) 1
abbrev s_NameSet___len__ : Stmt := inClass (top 1) 2
abbrev s_NameSet___eq__ : Stmt := inClass (top 1) 3
abbrev s_NameSet___le__ : Stmt := inClass (top 1) 4
abbrev s_NameSet___lt__ : Stmt := inClass (top 1) 5
abbrev s_NameSet___or__ : Stmt := inClass (top 1) 6
abbrev s_NameSet___and__ : Stmt := inClass (top 1) 7
abbrev s_NameSet___sub__ : Stmt := inClass (top 1) 8
abbrev s_sorted : Stmt := top 8
abbrev s_truths : Stmt := top 9
abbrev s_mixed : Stmt := top 10
abbrev s_is : Stmt := top 11
abbrev s_pair : Stmt := top 12
abbrev s_name : Stmt := top 5
abbrev s_names : Stmt := top 6
abbrev s_subset : Stmt := top 7
abbrev s_law : Stmt := top 13
section
variable {P : Program} {w : World} {K : PySem.W.Frag} {mg : Str → Option Value} {base : Heap}
abbrev n_source : List Str := ["_law_script", "_law_great", "_law_seed", "_law_k", "_law_cell"]
theorem sc_source : FnScope n_source ["_law_script"] (defScope s_source) := ⟨rfl, rfl, rfl, by decide +kernel, rfl, by decide +kernel, by decide +kernel⟩
theorem ok_source (A0 : DefAt K mg "_law_source" s_source ["_law_script"]) (b_enumerate : mg "enumerate" = none) (b_int : mg "int" = none) : Does P w K mg base CX0 1 "_law_source" ["_law_script"] (sp_source K) := by
  obtain ⟨f, fd, F, gm, bd⟩ := A0
  refine ⟨f, fd, ?_, gm, F.kp, bd⟩
  refine F.ok sc_source (fun vs H Q E h => ?_) (fun cdv A outer s H vs Q E hr h => ?_)
  · obtain ⟨a, ns, rfl, _⟩ := h
    rfl
  · obtain ⟨a, ns, rfl, hS, hlen, k⟩ := h
    have hu := hu_of hr
    refine ⟨_, (pss_cons (ps_set (i := 1) sc_source.nd rfl (Or.inl rfl) pe_int)
  (pss_cons (ps_set (i := 2) sc_source.nd rfl (Or.inl rfl) pe_int)
  (pss_cons (ps_for PassesOwn.never rfl (k_iE K (by rfl) b_enumerate (pa_cons (pv 0) pa_nil)) (k_gT K (by rfl) (pgs_cons (pg_name (i := 3) sc_source.nd rfl (Or.inl rfl)) (pgs_cons (pg_name (i := 4) sc_source.nd rfl (Or.inl rfl)) pgs_nil)))
  (C8.pss_cut (ps_if (PW.pt (pw_and (pt_cmpR op_eq (pv 1) pe_int (nomark _)) (pw_and1 (pt_cmpR op_ge (pv 4) (pe_op op_pow pe_int pe_int) (nomark _))))) (pss_one (ps_set (i := 1) sc_source.nd rfl (Or.inl rfl) (pv 4))) pss_nil)
  (pss_one (ps_set (i := 2) sc_source.nd rfl (Or.inl rfl) (pe_op op_mod (pe_callTy c_int1 (by rfl) b_int (by decide +kernel) (pa_cons (pe_op op_add (pe_op op_mul (pe_op op_add (pv 2) (pe_op op_mod (pe_callTy c_int1 (by rfl) b_int (by decide +kernel) (pa_cons (pv 4) pa_nil)) pe_int)) pe_int) (pv 3)) pa_nil)) pe_int)))))
  (pss_one (ps_ret (pe_lst (pa_cons (pv 1) (pa_cons (pv 2) (pa_cons pe_int pa_nil))))))))), ?_⟩
    walk_at "rd"
    refine forb (walk_enum (xs := ns.map V.int)) (fun i σ H2 => ∃ (g sd : Int) (v3 v4 : Option V), σ = [some (.ref a), some (.int g), some (.int sd), v3, v4] ∧ Same H H2 ∧ 0 ≤ sd ∧ sd < 2147483647)
      ⟨0, 104729, _, _, rfl, Same.refl _, by decide, by decide⟩ (fun i σ H2 _ ⟨_, _, _, _, _, s2, _⟩ => s2.seq hS) ?_ ?_
    · rintro i x σ H2 H3 hi ⟨g, sd, v3, v4, rfl, s2, h0, h1⟩ ⟨T, y, z, rfl, nT, rfl, e1, e2⟩
      cases e1
      have e2' : (ns.map V.int)[i]? = some z := e2
      rw [List.getElem?_map] at e2'
      cases e3 : ns[i]? with
      | none => rw [e3] at e2'; cases e2'
      | some n =>
        rw [e3] at e2'; cases e2'
        have s3 : Same H (upd H2 T (.tup [.int (i : Nat), .int n])) := fun b o e => by
          rw [upd_ne (ne_of_none (s2 b o e) nT)]; exact s2 b o e
        walk_at "rd"
        refine w_cut (fun σ' H' => ∃ g', σ' = [some (.ref a), some (.int g'), some (.int sd), some (.int i), some (.int n)] ∧ H' = (upd H2 T (.tup [.int (i : Nat), .int n]))) ?_ ?_
        · walk_at "rd"
          refine w_if (fun h => ?_) (fun h => ?_)
          · walk_at "rd"
            refine w_if (fun h => ?_) (fun h => ?_)
            · walk_at "rd"
              exact ⟨_, rfl, rfl⟩
            · walk_at "rd"
              exact ⟨_, rfl, rfl⟩
          · walk_at "rd"
            exact ⟨_, rfl, rfl⟩
        · rintro σ' H' ⟨g', rfl, rfl⟩
          walk_at "rd"
          exact ⟨_, _, _, _, rfl, s3, Int.emod_nonneg _ (by decide), Int.emod_lt_of_pos _ (by decide)⟩
    · rintro σ H2 ⟨g, sd, v3, v4, rfl, s2, h0, h1⟩
      walk_at "rd"
      intro p np
      exact k p _ (s2.trans (Same.new np)) (s2.free np) ⟨g, sd, upd_same, h0, h1⟩
abbrev n_draw : List Str := ["_law_source_here", "_law_many", "_law_value", "_law_stirred"]
theorem sc_draw : FnScope n_draw ["_law_source_here", "_law_many"] (defScope s_draw) := ⟨rfl, rfl, rfl, by decide +kernel, rfl, by decide +kernel, by decide +kernel⟩
theorem ok_draw (A0 : DefAt K mg "_law_draw" s_draw ["_law_source_here", "_law_many"]) (b_int : mg "int" = none) : Does P w K mg base CX0 1 "_law_draw" ["_law_source_here", "_law_many"] sp_draw := by
  obtain ⟨f, fd, F, gm, bd⟩ := A0
  refine ⟨f, fd, ?_, gm, F.kp, bd⟩
  refine F.ok sc_draw (fun vs H Q E h => ?_) (fun cdv A outer s H vs Q E hr h => ?_)
  · obtain ⟨p, c, m, rfl, _⟩ := h
    rfl
  · obtain ⟨p, c, m, rfl, ⟨g, sd, hp, h0, h1⟩, hc, hm, hM, k⟩ := h
    have hu := hu_of hr
    refine ⟨_, (pss_cons (ps_if (pt_cmpR op_gt (pe_ix (k_ixL K) (pv 0) pe_int (fun _ _ => rfl)) pe_int (nomark _)) (pss_cons (ps_set (i := 2) sc_draw.nd rfl (Or.inl rfl) (pe_op op_mod (pe_callTy c_int1 (by rfl) b_int (by decide +kernel) (pa_cons (pe_ix (k_ixL K) (pv 0) pe_int (fun _ _ => rfl)) pa_nil)) (pv 1)))
  (pss_cons (ps_asg (pe_op op_fdivW (pe_ix (k_ixL K) (pv 0) pe_int (fun _ _ => rfl)) (pv 1)) (pg_sub (pv 0) pe_int set_list))
  (pss_one (ps_ret (pv 2))))) pss_nil)
  (pss_cons (ps_asg (pe_op op_add (pe_ix (k_ixL K) (pv 0) pe_int (fun _ _ => rfl)) pe_int) (pg_sub (pv 0) pe_int set_list))
  (pss_cons (ps_set (i := 3) sc_draw.nd rfl (Or.inl rfl) (pe_op op_mod (pe_callTy c_int1 (by rfl) b_int (by decide +kernel) (pa_cons (pe_op op_pow (pe_op op_add (pe_ix (k_ixL K) (pv 0) pe_int (fun _ _ => rfl)) (pe_op op_mul pe_int (pe_ix (k_ixL K) (pv 0) pe_int (fun _ _ => rfl)))) pe_int) pa_nil)) pe_int))
  (pss_one (ps_ret (pe_op op_mod (pe_callTy c_int1 (by rfl) b_int (by decide +kernel) (pa_cons (pe_op op_mod (pe_callTy c_int1 (by rfl) b_int (by decide +kernel) (pa_cons (pe_op op_mul (pe_op op_add (pv 3) (pe_ix (k_ixL K) (pv 0) pe_int (fun _ _ => rfl))) pe_int) pa_nil)) pe_int) pa_nil)) (pv 1))))))), ?_⟩
    have hD : ∀ z : Int, CDivW z m := fun z => wide_div hm (b := 1000) (by omega) (by decide) (by decide)
    have hc' : c < 1000000000 := hc
    have hP : CPow (sd + 7919 * ((c : Int) + 1)) 5 := ⟨by decide, by decide, by omega⟩
    walk_at "rd"
    refine w_if (fun hg => ?_) (fun hg => ?_)
    · walk_at "rd"
      refine w_I (hD _) ?_
      walk_at "rd"
      exact k _ c _ (Int.emod_nonneg _ (by omega)) (Int.emod_lt_of_pos _ hm) (by omega) ⟨g / m, sd, upd_same, h0, h1⟩
    · walk_at "rd"
      exact k _ (c + 1) _ (Int.emod_nonneg _ (by omega)) (Int.emod_lt_of_pos _ hm) (by omega) ⟨g, sd, upd_same, h0, h1⟩
abbrev n_NameSet___init__ : List Str := ["self", "names", "name"]
theorem sc_NameSet___init__ : FnScope n_NameSet___init__ ["self", "names"] (defScope s_NameSet___init__) := ⟨rfl, rfl, rfl, by decide +kernel, rfl, by decide +kernel, by decide +kernel⟩
theorem ok_NameSet___init__ {C_NameSet : Addr} {dvs : List V} {f : Addr} {fd : FuncData} (F : FunD K "__init__" "NameSet.__init__" (defArgs s_NameSet___init__) (defBody s_NameSet___init__) (defScope s_NameSet___init__) dvs [] f fd) (T_NameSet : ClsF K mg "NameSet" C_NameSet) (b_isinstance : mg "isinstance" = none) (b_sorted : mg "sorted" = none) (b_str : mg "str" = none) (b_tuple : mg "tuple" = none) (nM : NoAttr K C_NameSet "members") (kl : PySem.W.kitOne K (.type "list") (.ref C_NameSet) = some false) (kt : PySem.W.kitOne K (.type "tuple") (.ref C_NameSet) = some false) : FnOk P w K mg base CX0 1 f fd ["self", "names"] (sp_nsInit K C_NameSet) := by
  skip
  have cl_NameSet := T_NameSet.ic.cl
  have g_NameSet := T_NameSet.g
  refine FunD.okN F sc_NameSet___init__ (fun vs H Q E h => ?_) (fun cdv A outer s H vs Q E hr h => ?_)
  · obtain ⟨x, dx, v, xs, rfl, _⟩ := h
    rfl
  · obtain ⟨x, dx, v, xs, rfl, hx, ⟨b, rfl, hC⟩, hO, hl, k⟩ := h
    have hu := hu_of hr
    refine ⟨_, (pss_one (ps_if (pt_val (pe_callB (k_isi K) (by rfl) b_isinstance (by decide +kernel) (pa_cons (pv 1) (pa_cons (pe_glob (v := .ref C_NameSet) rfl g_NameSet rfl) pa_nil)))) (pss_one (k_sfld K (pv 0) (k_fld K (pv 1) rfl) rfl)) (pss_one (k_sfld K (pv 0) (pe_callTy (k_tupL K) (by rfl) b_tuple (by decide +kernel) (pa_cons (pe_callB (c_sortT w rfl) (by rfl) b_sorted (by decide +kernel) (pa_cons (e_scT w (own := [("name", 2)]) (tt := tYes) rfl sc_NameSet___init__.nd (k_iQ K (pv 1)) (blkOk_by (own := [("name", 2)]) (N := n_NameSet___init__) (sc := defScope s_NameSet___init__) (by decide +kernel)) (fun _ _ _ _ _ => (pg_name (i := 2) sc_NameSet___init__.nd rfl (Or.inl rfl))) (fun _ _ _ _ _ => pts_nil) (fun _ _ _ _ _ => (pe_callTy c_strS (by rfl) b_str (by decide +kernel) (pa_cons (pv 2) pa_nil)))) pa_nil)) pa_nil)) rfl)))), ?_⟩
    have hcv : ClsV (.ref C_NameSet) (.ref C_NameSet) := .own _
    have put : ∀ t : Addr, putF "members" (V.ref t) [] = fldM t := fun t => rfl
    have scan : xs.length + 1 < scanBound := by show _ < 4096; omega
    have fin : ∀ D : Addr, H D = none → tCB (rTupL K) (tCons (tCB (rSortT w) (tCons (tC (.ref D)) tNil)) tNil) (L2.start n_NameSet___init__ [V.ref x, V.ref b]) (upd H D (TxtO w D (addAll xs)))
        fun y H1 => tVar 0 (L2.start n_NameSet___init__ [V.ref x, V.ref b]) H1 fun x' H2 => ∃ a C dx fs, x' = .ref a ∧ H2 a = some (.ins C dx fs) ∧ Cls K C ∧ NoAttr K C "members" ∧ fs.length < 1000 ∧ Q .non (upd H2 a (.ins C dx (putF "members" y fs))) := fun D nD => by
      walk_at "rd"
      have al := addAll_len xs
      refine ⟨D, addAll xs, rfl, upd_same, by omega, fun ys p pm so np => ?_⟩
      walk_at "rd"
      refine w_tupL (SqL.of upd_same) fun q nq => ?_
      walk_at "rd"
      have e : ys = nset xs := sorted_is pm so
      subst e
      have nxD : x ≠ D := ne_of_none hx nD
      have nxp : x ≠ p := ne_of_none (show upd H D _ x = some _ by rw [upd_ne nxD]; exact hx) np
      have nxq : x ≠ q := ne_of_none (show upd (upd H D _) p _ x = some _ by rw [upd_ne nxp, upd_ne nxD]; exact hx) nq
      refine w_sfldx (show upd (upd (upd H D _) p _) q _ x = some _ by rw [upd_ne nxq, upd_ne nxp, upd_ne nxD]; exact hx) cl_NameSet nM (by decide) ?_
      refine k _ q (fun c o nc ho => ?_) (by rw [upd_same, put]) (SqT.of (by rw [upd_ne nxq.symm, upd_same]))
      rw [upd_ne nc]
      exact Same.new nq c o (Same.new np c o (Same.new nD c o ho))
    walk_at "rd"
    rcases hC with hC | hC | ⟨⟨dy, t, hb, ht, _⟩, hn⟩
    · refine w_isi hcv (tyx_l hC) kl ?_
      walk_at "rd"
      refine scb_pure V.str walk_list (fun H' e => e.seq hC) scan (fun z => z) ?_ ?_
      · intro z H' hz sz R hR
        walk_at "rd"
        exact hR
      · intro D nD
        rw [List.map_id']
        exact fin D nD
    · refine w_isi hcv (tyx_t hC) kt ?_
      walk_at "rd"
      refine scb_pure V.str walk_tup (fun H' e => Same.sqt e hC) scan (fun z => z) ?_ ?_
      · intro z H' hz sz R hR
        walk_at "rd"
        exact hR
      · intro D nD
        rw [List.map_id']
        exact fin D nD
    · refine w_isi hcv (tyx_i T_NameSet.ic hb) T_NameSet.ic.me ?_
      walk_at "rd"
      refine k _ t (fun c o nc ho => ?_) (by rw [upd_same, put]) ?_
      · rw [upd_ne nc]; exact ho
      · rw [hn]
        rcases ht with (ht | ⟨o, ht⟩) | ht
        · exact SqT.of (by rw [upd_ne (ne_of ht hx (by intro z; cases z))]; exact ht)
        · exact .inl (.inr ⟨o, by rw [upd_ne (ne_of ht hx (by intro z; cases z))]; exact ht⟩)
        · exact .inr ht
abbrev n_NameSet___contains__ : List Str := ["self", "name"]
theorem sc_NameSet___contains__ : FnScope n_NameSet___contains__ ["self", "name"] (defScope s_NameSet___contains__) := ⟨rfl, rfl, rfl, by decide +kernel, rfl, by decide +kernel, by decide +kernel⟩
theorem ok_NameSet___contains__ {C_NameSet : Addr} (A0 : MethAt K C_NameSet "__contains__" "NameSet.__contains__" s_NameSet___contains__ ["self", "name"]) (T_NameSet : ClsF K mg "NameSet" C_NameSet) (nM : NoAttr K C_NameSet "members") : MDoes P w K mg base CX0 1 C_NameSet "__contains__" ["self", "name"] (sp_nsContains K C_NameSet) := by
  obtain ⟨f, fd, F, me, bd⟩ := A0
  have cl_NameSet := T_NameSet.ic.cl
  have g_NameSet := T_NameSet.g
  refine ⟨f, fd, ?_, me, bd⟩
  refine F.ok sc_NameSet___contains__ (fun vs H Q E h => ?_) (fun cdv A outer s H vs Q E hr h => ?_)
  · obtain ⟨a, xs, z, rfl, _⟩ := h
    rfl
  · obtain ⟨a, xs, z, rfl, ⟨dx, t, ha, ht, ho⟩, k⟩ := h
    have hu := hu_of hr
    refine ⟨_, (pss_one (ps_ret (pe_cmpR (k_in K) (pv 1) (k_fld K (pv 0) rfl) (by rfl)))), ?_⟩
    walk_at "rd"
    refine w_inT ht rfl (flat_strsM xs) ?_
    rw [inV_strs]
    exact k
abbrev n_NameSet___len__ : List Str := ["self"]
theorem sc_NameSet___len__ : FnScope n_NameSet___len__ ["self"] (defScope s_NameSet___len__) := ⟨rfl, rfl, rfl, by decide +kernel, rfl, by decide +kernel, by decide +kernel⟩
theorem ok_NameSet___len__ {C_NameSet : Addr} (A0 : MethAt K C_NameSet "__len__" "NameSet.__len__" s_NameSet___len__ ["self"]) (T_NameSet : ClsF K mg "NameSet" C_NameSet) (b_len : mg "len" = none) (nM : NoAttr K C_NameSet "members") : MDoes P w K mg base CX0 1 C_NameSet "__len__" ["self"] (sp_nsLen K C_NameSet) := by
  obtain ⟨f, fd, F, me, bd⟩ := A0
  have cl_NameSet := T_NameSet.ic.cl
  have g_NameSet := T_NameSet.g
  refine ⟨f, fd, ?_, me, bd⟩
  refine F.ok sc_NameSet___len__ (fun vs H Q E h => ?_) (fun cdv A outer s H vs Q E hr h => ?_)
  · obtain ⟨a, xs, rfl, _⟩ := h
    rfl
  · obtain ⟨a, xs, rfl, ⟨dx, t, ha, ht, ho⟩, k⟩ := h
    have hu := hu_of hr
    refine ⟨_, (pss_one (ps_ret (pe_callB (k_len K) (by rfl) b_len (by decide +kernel) (pa_cons (k_fld K (pv 0) rfl) pa_nil)))), ?_⟩
    walk_at "rd"
    rw [List.length_map]
    exact k
abbrev n_NameSet___eq__ : List Str := ["self", "other"]
theorem sc_NameSet___eq__ : FnScope n_NameSet___eq__ ["self", "other"] (defScope s_NameSet___eq__) := ⟨rfl, rfl, rfl, by decide +kernel, rfl, by decide +kernel, by decide +kernel⟩
theorem ok_NameSet___eq__ {C_NameSet : Addr} (A0 : MethAt K C_NameSet "__eq__" "NameSet.__eq__" s_NameSet___eq__ ["self", "other"]) (T_NameSet : ClsF K mg "NameSet" C_NameSet) (b_isinstance : mg "isinstance" = none) (nM : NoAttr K C_NameSet "members") : MDoes P w K mg base CX0 1 C_NameSet "__eq__" ["self", "other"] (sp_nsEq K C_NameSet) := by
  obtain ⟨f, fd, F, me, bd⟩ := A0
  have cl_NameSet := T_NameSet.ic.cl
  have g_NameSet := T_NameSet.g
  refine ⟨f, fd, ?_, me, bd⟩
  refine F.ok sc_NameSet___eq__ (fun vs H Q E h => ?_) (fun cdv A outer s H vs Q E hr h => ?_)
  · obtain ⟨a, y, xs, rfl, _⟩ := h
    rfl
  · obtain ⟨a, y, xs, rfl, ⟨dx, t, ha, ht, ho⟩, hy⟩ := h
    have hu := hu_of hr
    refine ⟨_, (pss_one (ps_ret (pe_and (pe_callB (k_isi K) (by rfl) b_isinstance (by decide +kernel) (pa_cons (pv 1) (pa_cons (pe_glob (v := .ref C_NameSet) rfl g_NameSet rfl) pa_nil))) (pe_one (pe_cmpR (k_eqD K hr.units) (k_fld K (pv 0) rfl) (k_fld K (pv 1) rfl) (nomark _)))))), ?_⟩
    have hcv : ClsV (.ref C_NameSet) (.ref C_NameSet) := .own _
    walk_at "rd"
    rcases hy with ⟨b, ys, rfl, ⟨dy, u, hb, hu', ho'⟩, k⟩ | ⟨ty, hty, hk, k⟩
    · refine w_isi hcv (tyx_i T_NameSet.ic hb) T_NameSet.ic.me ?_
      walk_at "rd"
      exact w_eqT ht hu' ho ho' k
    · refine w_isi hcv hty hk ?_
      walk_at "rd"
      exact k
abbrev n_NameSet___le__ : List Str := ["self", "other", "name"]
theorem sc_NameSet___le__ : FnScope n_NameSet___le__ ["self", "other"] (defScope s_NameSet___le__) := ⟨rfl, rfl, rfl, by decide +kernel, rfl, by decide +kernel, by decide +kernel⟩
theorem ok_NameSet___le__ {C_NameSet : Addr} (A0 : MethAt K C_NameSet "__le__" "NameSet.__le__" s_NameSet___le__ ["self", "other"]) (T_NameSet : ClsF K mg "NameSet" C_NameSet) (b_all : mg "all" = none) (nM : NoAttr K C_NameSet "members") : MDoes P w K mg base CX0 1 C_NameSet "__le__" ["self", "other"] (sp_nsCmp K C_NameSet nsLe) := by
  obtain ⟨f, fd, F, me, bd⟩ := A0
  have cl_NameSet := T_NameSet.ic.cl
  have g_NameSet := T_NameSet.g
  refine ⟨f, fd, ?_, me, bd⟩
  refine F.ok sc_NameSet___le__ (fun vs H Q E h => ?_) (fun cdv A outer s H vs Q E hr h => ?_)
  · obtain ⟨a, b, xs, ys, rfl, _⟩ := h
    rfl
  · obtain ⟨a, b, xs, ys, rfl, ⟨dx, t, ha, ht, ho⟩, ⟨dy, u, hb, hu', ho'⟩, hl, k⟩ := h
    have hu := hu_of hr
    refine ⟨_, (pss_one (ps_ret (pe_callB (k_all K rfl) (by rfl) b_all (by decide +kernel) (pa_cons (pe_lc (own := [("name", 2)]) (tt := tYes) rfl sc_NameSet___le__.nd (k_iT K (k_fld K (pv 0) rfl)) (blkOk_by (own := [("name", 2)]) (N := n_NameSet___le__) (sc := defScope s_NameSet___le__) (by decide +kernel)) (fun _ _ _ _ _ => (pg_name (i := 2) sc_NameSet___le__.nd rfl (Or.inl rfl))) (fun _ _ _ _ _ => pts_nil) (fun _ _ _ _ _ => (pe_cmpR (k_in K) (pv 2) (k_fld K (pv 1) rfl) (by rfl)))) pa_nil)))), ?_⟩
    walk_at "rd"
    refine lcb_pure V.str V.bl (walk_tup (xs := xs.map V.str)) (fun H' e => Same.sqt e ht) (by rw [PySem.sizeLine_eq]; omega) (fun z => some (decide (z ∈ ys))) ?_ ?_
    · intro z H' hz sz R hR
      have hb' := sz _ _ hb
      walk_at "rd"
      refine w_inT (Same.sqt sz hu') rfl (flat_strsM ys) ?_
      rw [inV_strs]
      exact hR
    · intro D nD
      walk_at "rd"
      refine w_all (bs := xs.filterMap fun z => some (decide (z ∈ ys))) (SqL.of upd_same) ?_
      have e : (xs.filterMap fun z => some (decide (z ∈ ys))).all id = nsLe xs ys := by
        rw [List.filterMap_eq_map']
        unfold nsLe
        rw [List.all_map]
        rfl
      rw [e]
      exact k _ (Same.new nD)
abbrev n_NameSet___lt__ : List Str := ["self", "other", "name"]
theorem sc_NameSet___lt__ : FnScope n_NameSet___lt__ ["self", "other"] (defScope s_NameSet___lt__) := ⟨rfl, rfl, rfl, by decide +kernel, rfl, by decide +kernel, by decide +kernel⟩
theorem ok_NameSet___lt__ {C_NameSet : Addr} (A0 : MethAt K C_NameSet "__lt__" "NameSet.__lt__" s_NameSet___lt__ ["self", "other"]) (T_NameSet : ClsF K mg "NameSet" C_NameSet) (b_all : mg "all" = none) (b_len : mg "len" = none) (nM : NoAttr K C_NameSet "members") : MDoes P w K mg base CX0 1 C_NameSet "__lt__" ["self", "other"] (sp_nsCmp K C_NameSet nsLt) := by
  obtain ⟨f, fd, F, me, bd⟩ := A0
  have cl_NameSet := T_NameSet.ic.cl
  have g_NameSet := T_NameSet.g
  refine ⟨f, fd, ?_, me, bd⟩
  refine F.ok sc_NameSet___lt__ (fun vs H Q E h => ?_) (fun cdv A outer s H vs Q E hr h => ?_)
  · obtain ⟨a, b, xs, ys, rfl, _⟩ := h
    rfl
  · obtain ⟨a, b, xs, ys, rfl, ⟨dx, t, ha, ht, ho⟩, ⟨dy, u, hb, hu', ho'⟩, hl, k⟩ := h
    have hu := hu_of hr
    refine ⟨_, (pss_one (ps_ret (pe_and (pe_cmpR op_lt (pe_callB (k_len K) (by rfl) b_len (by decide +kernel) (pa_cons (k_fld K (pv 0) rfl) pa_nil)) (pe_callB (k_len K) (by rfl) b_len (by decide +kernel) (pa_cons (k_fld K (pv 1) rfl) pa_nil)) (nomark _)) (pe_one (pe_callB (k_all K rfl) (by rfl) b_all (by decide +kernel) (pa_cons (pe_lc (own := [("name", 2)]) (tt := tYes) rfl sc_NameSet___lt__.nd (k_iT K (k_fld K (pv 0) rfl)) (blkOk_by (own := [("name", 2)]) (N := n_NameSet___lt__) (sc := defScope s_NameSet___lt__) (by decide +kernel)) (fun _ _ _ _ _ => (pg_name (i := 2) sc_NameSet___lt__.nd rfl (Or.inl rfl))) (fun _ _ _ _ _ => pts_nil) (fun _ _ _ _ _ => (pe_cmpR (k_in K) (pv 2) (k_fld K (pv 1) rfl) (by rfl)))) pa_nil)))))), ?_⟩
    walk_at "rd"
    rw [List.length_map, List.length_map]
    refine w_if (fun hlt => ?_) (fun hlt => ?_)
    · have hlt' : xs.length < ys.length := by omega
      walk_at "rd"
      refine lcb_pure V.str V.bl (walk_tup (xs := xs.map V.str)) (fun H' e => Same.sqt e ht) (by rw [PySem.sizeLine_eq]; omega) (fun z => some (decide (z ∈ ys))) ?_ ?_
      · intro z H' hz sz R hR
        have hb' := sz _ _ hb
        walk_at "rd"
        refine w_inT (Same.sqt sz hu') rfl (flat_strsM ys) ?_
        rw [inV_strs]
        exact hR
      · intro D nD
        walk_at "rd"
        refine w_all (bs := xs.filterMap fun z => some (decide (z ∈ ys))) (SqL.of upd_same) ?_
        have e : (xs.filterMap fun z => some (decide (z ∈ ys))).all id = nsLe xs ys := by
          rw [List.filterMap_eq_map']
          unfold nsLe
          rw [List.all_map]
          rfl
        rw [e]
        have k2 := k _ (Same.new (o := .lst ((xs.filterMap fun z => some (decide (z ∈ ys))).map V.bl)) nD)
        unfold nsLt at k2
        rw [decide_eq_true hlt', Bool.true_and] at k2
        exact k2
    · walk_at "rd"
      have hlt' : ¬ xs.length < ys.length := by omega
      have k2 := k _ (Same.refl H)
      unfold nsLt at k2
      rw [decide_eq_false hlt', Bool.false_and] at k2
      exact k2
abbrev n_NameSet___or__ : List Str := ["self", "other"]
theorem sc_NameSet___or__ : FnScope n_NameSet___or__ ["self", "other"] (defScope s_NameSet___or__) := ⟨rfl, rfl, rfl, by decide +kernel, rfl, by decide +kernel, by decide +kernel⟩
theorem ok_NameSet___or__ {C_NameSet : Addr} (A0 : MethAt K C_NameSet "__or__" "NameSet.__or__" s_NameSet___or__ ["self", "other"]) (T_NameSet : ClsF K mg "NameSet" C_NameSet) (D_NameSet : MkDoes P w K mg base CX0 1 "NameSet" C_NameSet ["self", "names"] [] (sp_nsInit K C_NameSet)) (nM : NoAttr K C_NameSet "members") : MDoes P w K mg base CX0 3 C_NameSet "__or__" ["self", "other"] (sp_nsBin K C_NameSet nsOr) := by
  obtain ⟨f, fd, F, me, bd⟩ := A0
  have cl_NameSet := T_NameSet.ic.cl
  have g_NameSet := T_NameSet.g
  obtain ⟨f_NameSet, fd_NameSet, ds_NameSet, M_NameSet, G_NameSet, bd_NameSet, vd_NameSet, g_NameSet⟩ := D_NameSet
  cases vd_NameSet
  refine ⟨f, fd, ?_, me, bd⟩
  refine F.ok sc_NameSet___or__ (fun vs H Q E h => ?_) (fun cdv A outer s H vs Q E hr h => ?_)
  · obtain ⟨a, b, xs, ys, rfl, _⟩ := h
    rfl
  · obtain ⟨a, b, xs, ys, rfl, ⟨dx, t, ha, ht, ho⟩, ⟨dy, u, hb, hu', ho'⟩, hl, k⟩ := h
    have hu := hu_of hr
    refine ⟨_, (pss_one (ps_ret (pe_make M_NameSet G_NameSet (hr.mono (by decide)) rfl g_NameSet bd_NameSet .nil pass0 (pa_cons (pe_lst (k_star K (k_fld K (pv 0) rfl) (k_star K (k_fld K (pv 1) rfl) pa_nil))) pa_nil)))), ?_⟩
    walk_at "rd"
    rw [List.append_nil, ← List.map_append]
    intro l nl
    walk_at "rd"
    refine use_nsMake rfl ⟨l, rfl, .inl (SqL.of upd_same)⟩ (ho.append ho') (by rw [List.length_append]; exact hl) fun x H' sH nx hN => ?_
    exact k x H' ((Same.new nl).trans sH) ((Same.new nl).free nx) hN
abbrev n_NameSet___and__ : List Str := ["self", "other", "name"]
theorem sc_NameSet___and__ : FnScope n_NameSet___and__ ["self", "other"] (defScope s_NameSet___and__) := ⟨rfl, rfl, rfl, by decide +kernel, rfl, by decide +kernel, by decide +kernel⟩
theorem ok_NameSet___and__ {C_NameSet : Addr} (A0 : MethAt K C_NameSet "__and__" "NameSet.__and__" s_NameSet___and__ ["self", "other"]) (T_NameSet : ClsF K mg "NameSet" C_NameSet) (D_NameSet : MkDoes P w K mg base CX0 1 "NameSet" C_NameSet ["self", "names"] [] (sp_nsInit K C_NameSet)) (nM : NoAttr K C_NameSet "members") : MDoes P w K mg base CX0 3 C_NameSet "__and__" ["self", "other"] (sp_nsBin K C_NameSet nsAnd) := by
  obtain ⟨f, fd, F, me, bd⟩ := A0
  have cl_NameSet := T_NameSet.ic.cl
  have g_NameSet := T_NameSet.g
  obtain ⟨f_NameSet, fd_NameSet, ds_NameSet, M_NameSet, G_NameSet, bd_NameSet, vd_NameSet, g_NameSet⟩ := D_NameSet
  cases vd_NameSet
  refine ⟨f, fd, ?_, me, bd⟩
  refine F.ok sc_NameSet___and__ (fun vs H Q E h => ?_) (fun cdv A outer s H vs Q E hr h => ?_)
  · obtain ⟨a, b, xs, ys, rfl, _⟩ := h
    rfl
  · obtain ⟨a, b, xs, ys, rfl, ⟨dx, t, ha, ht, ho⟩, ⟨dy, u, hb, hu', ho'⟩, hl, k⟩ := h
    have hu := hu_of hr
    refine ⟨_, (pss_one (ps_ret (pe_make M_NameSet G_NameSet (hr.mono (by decide)) rfl g_NameSet bd_NameSet .nil pass0 (pa_cons (pe_lc (own := [("name", 2)]) rfl sc_NameSet___and__.nd (k_iT K (k_fld K (pv 0) rfl)) (blkOk_by (own := [("name", 2)]) (N := n_NameSet___and__) (sc := defScope s_NameSet___and__) (by decide +kernel)) (fun _ _ _ _ _ => (pg_name (i := 2) sc_NameSet___and__.nd rfl (Or.inl rfl))) (fun _ _ _ _ _ => pts_one (pt_cmpR (k_in K) (pv 2) (k_fld K (pv 1) rfl) (by rfl))) (fun _ _ _ _ _ => (pv 2))) pa_nil)))), ?_⟩
    walk_at "rd"
    refine lcb_pure V.str V.str (walk_tup (xs := xs.map V.str)) (fun H' e => Same.sqt e ht) (by rw [PySem.sizeLine_eq]; omega) (fun z => if z ∈ ys then some z else none) ?_ ?_
    · intro z H' hz sz R hR
      have hb' := sz _ _ hb
      walk_at "rd"
      refine w_inT (Same.sqt sz hu') rfl (flat_strsM ys) ?_
      rw [inV_strs]
      walk_at "rd"
      refine w_if (fun hz => ?_) (fun hz => ?_)
      · walk_at "rd"
        rw [if_pos hz] at hR
        exact hR
      · rw [if_neg hz] at hR
        exact hR
    · intro l nl
      have e : (xs.filterMap fun z => if z ∈ ys then some z else none) = nsAnd xs ys := by
        unfold nsAnd
        exact filterMap_if _ xs
      rw [e]
      walk_at "rd"
      have hlf : (nsAnd xs ys).length < 64 := Nat.lt_of_le_of_lt (List.length_filter_le _ _) (by omega)
      refine use_nsMake rfl ⟨l, rfl, .inl (SqL.of upd_same)⟩ (ho.filter _) hlf fun x H' sH nx hN => ?_
      exact k x H' ((Same.new nl).trans sH) ((Same.new nl).free nx) hN
abbrev n_NameSet___sub__ : List Str := ["self", "other", "name"]
theorem sc_NameSet___sub__ : FnScope n_NameSet___sub__ ["self", "other"] (defScope s_NameSet___sub__) := ⟨rfl, rfl, rfl, by decide +kernel, rfl, by decide +kernel, by decide +kernel⟩
theorem ok_NameSet___sub__ {C_NameSet : Addr} (A0 : MethAt K C_NameSet "__sub__" "NameSet.__sub__" s_NameSet___sub__ ["self", "other"]) (T_NameSet : ClsF K mg "NameSet" C_NameSet) (D_NameSet : MkDoes P w K mg base CX0 1 "NameSet" C_NameSet ["self", "names"] [] (sp_nsInit K C_NameSet)) (nM : NoAttr K C_NameSet "members") : MDoes P w K mg base CX0 3 C_NameSet "__sub__" ["self", "other"] (sp_nsBin K C_NameSet nsSub) := by
  obtain ⟨f, fd, F, me, bd⟩ := A0
  have cl_NameSet := T_NameSet.ic.cl
  have g_NameSet := T_NameSet.g
  obtain ⟨f_NameSet, fd_NameSet, ds_NameSet, M_NameSet, G_NameSet, bd_NameSet, vd_NameSet, g_NameSet⟩ := D_NameSet
  cases vd_NameSet
  refine ⟨f, fd, ?_, me, bd⟩
  refine F.ok sc_NameSet___sub__ (fun vs H Q E h => ?_) (fun cdv A outer s H vs Q E hr h => ?_)
  · obtain ⟨a, b, xs, ys, rfl, _⟩ := h
    rfl
  · obtain ⟨a, b, xs, ys, rfl, ⟨dx, t, ha, ht, ho⟩, ⟨dy, u, hb, hu', ho'⟩, hl, k⟩ := h
    have hu := hu_of hr
    refine ⟨_, (pss_one (ps_ret (pe_make M_NameSet G_NameSet (hr.mono (by decide)) rfl g_NameSet bd_NameSet .nil pass0 (pa_cons (pe_lc (own := [("name", 2)]) rfl sc_NameSet___sub__.nd (k_iT K (k_fld K (pv 0) rfl)) (blkOk_by (own := [("name", 2)]) (N := n_NameSet___sub__) (sc := defScope s_NameSet___sub__) (by decide +kernel)) (fun _ _ _ _ _ => (pg_name (i := 2) sc_NameSet___sub__.nd rfl (Or.inl rfl))) (fun _ _ _ _ _ => pts_one (pt_cmpR (k_ni K) (pv 2) (k_fld K (pv 1) rfl) (by rfl))) (fun _ _ _ _ _ => (pv 2))) pa_nil)))), ?_⟩
    walk_at "rd"
    refine lcb_pure V.str V.str (walk_tup (xs := xs.map V.str)) (fun H' e => Same.sqt e ht) (by rw [PySem.sizeLine_eq]; omega) (fun z => if z ∉ ys then some z else none) ?_ ?_
    · intro z H' hz sz R hR
      have hb' := sz _ _ hb
      walk_at "rd"
      refine w_niT (Same.sqt sz hu') rfl (flat_strsM ys) ?_
      rw [inV_strs]
      walk_at "rd"
      refine w_ifn (fun hz => ?_) (fun hz => ?_)
      · walk_at "rd"
        rw [if_pos hz] at hR
        exact hR
      · rw [if_neg (fun h => h hz)] at hR
        exact hR
    · intro l nl
      have e : (xs.filterMap fun z => if z ∉ ys then some z else none) = nsSub xs ys := by
        unfold nsSub
        exact filterMap_if _ xs
      rw [e]
      walk_at "rd"
      have hlf : (nsSub xs ys).length < 64 := Nat.lt_of_le_of_lt (List.length_filter_le _ _) (by omega)
      refine use_nsMake rfl ⟨l, rfl, .inl (SqL.of upd_same)⟩ (ho.filter _) hlf fun x H' sH nx hN => ?_
      exact k x H' ((Same.new nl).trans sH) ((Same.new nl).free nx) hN
abbrev n_sorted : List Str := ["_law_names_here", "_law_name_here"]
theorem sc_sorted : FnScope n_sorted ["_law_names_here"] (defScope s_sorted) := ⟨rfl, rfl, rfl, by decide +kernel, rfl, by decide +kernel, by decide +kernel⟩
theorem ok_sorted (A0 : DefAt K mg "_law_sorted" s_sorted ["_law_names_here"]) (b_sorted : mg "sorted" = none) (b_str : mg "str" = none) (b_tuple : mg "tuple" = none) : Does P w K mg base CX0 1 "_law_sorted" ["_law_names_here"] (sp_sorted K) := by
  obtain ⟨f, fd, F, gm, bd⟩ := A0
  refine ⟨f, fd, ?_, gm, F.kp, bd⟩
  refine F.ok sc_sorted (fun vs H Q E h => ?_) (fun cdv A outer s H vs Q E hr h => ?_)
  · obtain ⟨a, xs, rfl, _⟩ := h
    rfl
  · obtain ⟨a, xs, rfl, hS, hl, k⟩ := h
    have hu := hu_of hr
    refine ⟨_, (pss_one (ps_ret (pe_callTy (k_tupL K) (by rfl) b_tuple (by decide +kernel) (pa_cons (pe_callB (k_sortS K) (by rfl) b_sorted (by decide +kernel) (pa_cons (pe_lc (own := [("_law_name_here", 1)]) (tt := tYes) rfl sc_sorted.nd (k_iL K (pv 0)) (blkOk_by (own := [("_law_name_here", 1)]) (N := n_sorted) (sc := defScope s_sorted) (by decide +kernel)) (fun _ _ _ _ _ => (pg_name (i := 1) sc_sorted.nd rfl (Or.inl rfl))) (fun _ _ _ _ _ => pts_nil) (fun _ _ _ _ _ => (pe_callTy c_strS (by rfl) b_str (by decide +kernel) (pa_cons (pv 1) pa_nil)))) pa_nil)) pa_nil)))), ?_⟩
    walk_at "rd"
    refine lcb_pure V.str V.str (walk_list (xs := xs.map V.str)) (fun H' e => e.seq hS) (by rw [PySem.sizeLine_eq]; omega) (fun z => some z) ?_ ?_
    · intro z H' hz sz R hR
      walk_at "rd"
      exact hR
    · intro D nD
      rw [List.filterMap_some]
      walk_at "rd"
      refine w_sort (SqL.of upd_same) hl fun ys p pm so np => ?_
      have e : ys = srt xs := sorted_is pm so
      subst e
      walk_at "rd"
      refine w_tupL (SqL.of upd_same) fun t nt => ?_
      exact k t _ (((Same.new nD).trans (Same.new np)).trans (Same.new nt)) ((Same.new nD).free ((Same.new np).free nt)) upd_same
abbrev n_truths : List Str := ["_law_found", "_law_due", "_law_truth"]
theorem sc_truths : FnScope n_truths ["_law_found", "_law_due"] (defScope s_truths) := ⟨rfl, rfl, rfl, by decide +kernel, rfl, by decide +kernel, by decide +kernel⟩
theorem ok_truths (A0 : DefAt K mg "_law_truths" s_truths ["_law_found", "_law_due"]) (b_all : mg "all" = none) (b_bool : mg "bool" = none) (b_isinstance : mg "isinstance" = none) : Does P w K mg base CX0 1 "_law_truths" ["_law_found", "_law_due"] (sp_truths K) := by
  obtain ⟨f, fd, F, gm, bd⟩ := A0
  refine ⟨f, fd, ?_, gm, F.kp, bd⟩
  refine F.ok sc_truths (fun vs H Q E h => ?_) (fun cdv A outer s H vs Q E hr h => ?_)
  · obtain ⟨a, b, bs, cs, rfl, _⟩ := h
    rfl
  · obtain ⟨a, b, bs, cs, rfl, hA, hB, hl, k⟩ := h
    have hu := hu_of hr
    refine ⟨_, (pss_one (ps_ret (pe_and (pe_callB (k_all K rfl) (by rfl) b_all (by decide +kernel) (pa_cons (pe_lc (own := [("_law_truth", 2)]) (tt := tYes) rfl sc_truths.nd (k_iL K (pv 0)) (blkOk_by (own := [("_law_truth", 2)]) (N := n_truths) (sc := defScope s_truths) (by decide +kernel)) (fun _ _ _ _ _ => (pg_name (i := 2) sc_truths.nd rfl (Or.inl rfl))) (fun _ _ _ _ _ => pts_nil) (fun _ _ _ _ _ => (pe_callB (k_isi K) (by rfl) b_isinstance (by decide +kernel) (pa_cons (pv 2) (pa_cons (pe_bltn (v := .ty "bool") (by rfl) b_bool (by decide +kernel) rfl) pa_nil))))) pa_nil)) (pe_one (pe_cmpR (k_eqD K hr.units) (pv 0) (pv 1) (nomark _)))))), ?_⟩
    walk_at "rd"
    refine lcb_pure V.bl V.bl (walk_list (xs := bs.map V.bl)) (fun H' e => e.seq hA) (by rw [PySem.sizeLine_eq]; omega) (fun z => some true) ?_ ?_
    · intro z H' hz sz R hR
      walk_at "rd"
      refine w_isi (.ty "bool") (.base (.bl z)) (kit_ty (r := true) (by decide +kernel)) ?_
      exact hR
    · intro D nD
      walk_at "rd"
      refine w_all (SqL.of upd_same) ?_
      have e : (bs.filterMap fun z => some true).all id = true := by
        rw [List.filterMap_eq_map', List.all_map, List.all_eq_true]
        intro x _
        rfl
      rw [e]
      walk_at "rd"
      exact w_eqBl ((Same.new nD).seq hA) ((Same.new nD).seq hB) (k _ (Same.new nD))
abbrev n_mixed : List Str := ["_law_source_here", "_law_row", "_law_mixed_here", "_law_name_here", "_law_turn"]
theorem sc_mixed : FnScope n_mixed ["_law_source_here", "_law_row"] (defScope s_mixed) := ⟨rfl, rfl, rfl, by decide +kernel, rfl, by decide +kernel, by decide +kernel⟩
theorem ok_mixed (A0 : DefAt K mg "_law_mixed" s_mixed ["_law_source_here", "_law_row"]) (b_len : mg "len" = none) (b_range : mg "range" = none) (D_draw : Does P w K mg base CX0 1 "_law_draw" ["_law_source_here", "_law_many"] sp_draw) : Does P w K mg base CX0 2 "_law_mixed" ["_law_source_here", "_law_row"] (sp_mixed K) := by
  obtain ⟨f, fd, F, gm, bd⟩ := A0
  obtain ⟨f_draw, fd_draw, G_draw, g_draw, kp_draw, bd_draw⟩ := D_draw
  refine ⟨f, fd, ?_, gm, F.kp, bd⟩
  refine F.ok sc_mixed (fun vs H Q E h => ?_) (fun cdv A outer s H vs Q E hr h => ?_)
  · obtain ⟨p, a, c, xs, rfl, _⟩ := h
    rfl
  · obtain ⟨p, a, c, xs, rfl, hs, hc, hS, hl, k⟩ := h
    have hu := hu_of hr
    refine ⟨_, (pss_cons (ps_set (i := 2) sc_mixed.nd rfl (Or.inl rfl) (pe_lst pa_nil))
  (pss_cons (ps_for PassesOwn.never rfl (k_iL K (pv 1)) (pg_name (i := 3) sc_mixed.nd rfl (Or.inl rfl))
  (pss_one (ps_for PassesOwn.never rfl (pi_range1 (by rfl) b_range (pa_cons (pe_op op_add pe_int (pe_call G_draw (hr.mono (by decide)) rfl g_draw kp_draw bd_draw .nil pass0 (pa_cons (pv 0) (pa_cons pe_int pa_nil)))) pa_nil)) (pg_name (i := 4) sc_mixed.nd rfl (Or.inl rfl))
  (pss_one (ps_expr (k_bm K PySem.F.plainAttrs_list PySem.F.slot_list_insert PySem.F.type_list_insert m_insert (pv 2) (pa_cons (pe_call G_draw (hr.mono (by decide)) rfl g_draw kp_draw bd_draw .nil pass0 (pa_cons (pv 0) (pa_cons (pe_op op_add (pe_callB (k_len K) (by rfl) b_len (by decide +kernel) (pa_cons (pv 2) pa_nil)) pe_int) pa_nil))) (pa_cons (pv 3) pa_nil))))))))
  (pss_one (ps_ret (pv 2))))), ?_⟩
    have hC : c + 3 * xs.length < 1000000000 := hc
    walk_at "rd"
    intro l nl
    walk_at "rd"
    have nlp : l ≠ p := hs.ne nl
    refine w_iLx (hid_same.seq ((Kp.new nl).hid.seq hS)) ?_
    refine forb (walk_list (xs := xs.map V.str)) (fun i σ H' => ∃ (ys : List Str) (c' : Nat) (v3 v4 : Option V), σ = [some (.ref p), some (.ref a), some (.ref l), v3, v4] ∧ Kp p H H' ∧ Src H' p c' ∧ c' ≤ c + 3 * i ∧ H' l = some (.lst (ys.map V.str)) ∧ ys.length ≤ 2 * i ∧ ∀ z, z ∈ ys ↔ z ∈ xs.take i)
      ⟨[], c, _, _, rfl, Kp.new nl, hs.new nl, by omega, upd_same, by simp, by simp⟩ (fun i σ H' _ ⟨_, _, _, _, _, k1, _⟩ => hid_same.seq (k1.hid.seq hS)) ?_ ?_
    · rintro i x σ H1 H2 hi ⟨ys, c1, v3, v4, rfl, k1, s1, hc1, hl1, hy, hm⟩ ⟨rfl, hx⟩
      rw [List.length_map] at hi
      rw [List.getElem?_map, List.getElem?_eq_getElem hi] at hx
      cases hx
      have et : xs.take (i + 1) = xs.take i ++ [xs[i]] := by rw [List.take_succ, List.getElem?_eq_getElem hi] <;> rfl
      walk_at "rd"
      refine use_draw s1 (by show _ < 1000000000; omega) (by decide) (by decide) (fun u c2 H4 u0 u1 hc3 s3 b2 => ?_)
      walk_at "rd"
      refine forb walk_range (fun j σ H' => ∃ (zs : List Str) (c' : Nat) (v4 : Option V), σ = [some (.ref p), some (.ref a), some (.ref l), some (.str xs[i]), v4] ∧ Kp p H H' ∧ Src H' p c' ∧ c' ≤ c2 + j ∧ H' l = some (.lst (zs.map V.str)) ∧ zs.length = ys.length + j ∧ ∀ z, z ∈ zs ↔ z ∈ ys ∨ (0 < j ∧ z = xs[i]))
        ⟨ys, c2, _, rfl, k1.trans b2.kp, s3, by omega, by rw [b2 l nlp]; exact hl1, by omega, fun z => by simp⟩ (fun _ _ _ _ _ => trivial) ?_ ?_
      · rintro j x2 σ2 H5 H6 hj ⟨zs, c3, v5, rfl, k5, s5, hc5, hl5, hz5, hm5⟩ ⟨rfl, rfl⟩
        have hj2 : j < 2 := by omega
        walk_at "rd"
        rw [List.length_map]
        refine use_draw s5 (by show _ < 1000000000; omega) (by omega) (by omega) (fun q c4 H7 q0 q1 hc7 s7 b7 => ?_)
        walk_at "rd"
        refine w_insert (by rw [b7 l nlp]; exact hl5) (by rw [PySem.sizeLine_eq, List.length_map]; omega) q0 (by omega) ?_
        refine ⟨zs.take q.toNat ++ [xs[i]] ++ zs.drop q.toNat, c4, _, rfl, (k5.trans b7.kp).mut nl, s7.mut nlp.symm, by omega, by rw [upd_same]; simp [List.map_take, List.map_drop], ?_, fun z => ?_⟩
        · simp only [List.length_append, List.length_take, List.length_drop, List.length_singleton]; omega
        · have hz : z ∈ zs.take q.toNat ∨ z ∈ zs.drop q.toNat ↔ z ∈ zs := by rw [← List.mem_append, List.take_append_drop]
          simp only [List.mem_append, List.mem_singleton]
          have := hm5 z
          constructor
          · rintro ((h | h) | h)
            · exact (this.1 (hz.1 (.inl h))).imp id fun e => ⟨by omega, e.2⟩
            · exact .inr ⟨by omega, h⟩
            · exact (this.1 (hz.1 (.inr h))).imp id fun e => ⟨by omega, e.2⟩
          · rintro (h | ⟨_, h⟩)
            · rcases hz.2 (this.2 (.inl h)) with e | e
              · exact .inl (.inl e)
              · exact .inr e
            · exact .inl (.inr h)
      · rintro σ2 H5 ⟨zs, c3, v5, rfl, k5, s5, hc5, hl5, hz5, hm5⟩
        refine ⟨zs, c3, _, _, rfl, k5, s5, by omega, hl5, by omega, fun z => ?_⟩
        rw [hm5 z, et, List.mem_append, List.mem_singleton, hm z]
        constructor
        · rintro (h | ⟨_, h⟩)
          · exact .inl h
          · exact .inr h
        · rintro (h | h)
          · exact .inl h
          · exact .inr ⟨by omega, h⟩
    · rintro σ H1 ⟨ys, c1, v3, v4, rfl, k1, s1, hc1, hl1, hy, hm⟩
      rw [List.length_map] at hc1 hy hm
      rw [List.take_length] at hm
      walk_at "rd"
      exact k ys l c1 H1 k1 s1 hc1 nl hl1 hy hm
abbrev n_is : List Str := ["_law_found", "_law_due"]
theorem sc_is : FnScope n_is ["_law_found", "_law_due"] (defScope s_is) := ⟨rfl, rfl, rfl, by decide +kernel, rfl, by decide +kernel, by decide +kernel⟩
theorem ok_is {C_NameSet : Addr} (A0 : DefAt K mg "_law_is" s_is ["_law_found", "_law_due"]) (T_NameSet : ClsF K mg "NameSet" C_NameSet) (b_isinstance : mg "isinstance" = none) (b_tuple : mg "tuple" = none) (D_sorted : Does P w K mg base CX0 1 "_law_sorted" ["_law_names_here"] (sp_sorted K)) (nM : NoAttr K C_NameSet "members") : Does P w K mg base CX0 2 "_law_is" ["_law_found", "_law_due"] (sp_lawIs K C_NameSet) := by
  obtain ⟨f, fd, F, gm, bd⟩ := A0
  have cl_NameSet := T_NameSet.ic.cl
  have g_NameSet := T_NameSet.g
  obtain ⟨f_sorted, fd_sorted, G_sorted, g_sorted, kp_sorted, bd_sorted⟩ := D_sorted
  refine ⟨f, fd, ?_, gm, F.kp, bd⟩
  refine F.ok sc_is (fun vs H Q E h => ?_) (fun cdv A outer s H vs Q E hr h => ?_)
  · obtain ⟨a, b, ys, xs, rfl, _⟩ := h
    rfl
  · obtain ⟨a, b, ys, xs, rfl, ⟨dx, t, ha, ht, ho⟩, hS, hl, ho', k⟩ := h
    have hu := hu_of hr
    refine ⟨_, (pss_one (ps_ret (pe_and (pe_callB (k_isi K) (by rfl) b_isinstance (by decide +kernel) (pa_cons (pv 0) (pa_cons (pe_glob (v := .ref C_NameSet) rfl g_NameSet rfl) pa_nil))) (pe_and (pe_callB (k_isi K) (by rfl) b_isinstance (by decide +kernel) (pa_cons (k_fld K (pv 0) rfl) (pa_cons (pe_bltn (v := .ty "tuple") (by rfl) b_tuple (by decide +kernel) rfl) pa_nil))) (pe_one (pe_cmpR (k_eqD K hr.units) (k_fld K (pv 0) rfl) (pe_call G_sorted (hr.mono (by decide)) rfl g_sorted kp_sorted bd_sorted .nil pass0 (pa_cons (pv 1) pa_nil)) (nomark _))))))), ?_⟩
    walk_at "rd"
    refine w_isi (.own _) (tyx_i T_NameSet.ic ha) T_NameSet.ic.me ?_
    walk_at "rd"
    refine w_isi (.ty "tuple") (tyx_t ht) (kit_ty (r := true) (by decide +kernel)) ?_
    walk_at "rd"
    refine use_sorted hS hl fun u H' sH nu hu2 => ?_
    have hos : Oks (srt xs) := fun z hz => ho' z ((srt_perm xs).mem_iff.mp hz)
    exact w_eqT (Same.sqt sH ht) (SqT.of hu2) ho hos (k H' sH)
abbrev n_pair : List Str := ["_law_left", "_law_right", "_law_one", "_law_other", "_law_within", "_law_name_here"]
theorem sc_pair : FnScope n_pair ["_law_left", "_law_right", "_law_one", "_law_other"] (defScope s_pair) := ⟨rfl, rfl, rfl, by decide +kernel, rfl, by decide +kernel, by decide +kernel⟩
theorem ok_pair {C_NameSet : Addr} (A0 : DefAt K mg "_law_pair" s_pair ["_law_left", "_law_right", "_law_one", "_law_other"]) (T_NameSet : ClsF K mg "NameSet" C_NameSet) (b_all : mg "all" = none) (b_len : mg "len" = none) (D_truths : Does P w K mg base CX0 1 "_law_truths" ["_law_found", "_law_due"] (sp_truths K)) (D_sorted : Does P w K mg base CX0 1 "_law_sorted" ["_law_names_here"] (sp_sorted K)) (D_is : Does P w K mg base CX0 2 "_law_is" ["_law_found", "_law_due"] (sp_lawIs K C_NameSet)) (D_NameSet_le : MDoes P w K mg base CX0 1 C_NameSet "__le__" ["self", "other"] (sp_nsCmp K C_NameSet nsLe)) (D_NameSet_lt : MDoes P w K mg base CX0 1 C_NameSet "__lt__" ["self", "other"] (sp_nsCmp K C_NameSet nsLt)) (D_NameSet_eq : MDoes P w K mg base CX0 1 C_NameSet "__eq__" ["self", "other"] (sp_nsEq K C_NameSet)) (D_NameSet_and : MDoes P w K mg base CX0 3 C_NameSet "__and__" ["self", "other"] (sp_nsBin K C_NameSet nsAnd)) (D_NameSet_sub : MDoes P w K mg base CX0 3 C_NameSet "__sub__" ["self", "other"] (sp_nsBin K C_NameSet nsSub)) (D_NameSet_or : MDoes P w K mg base CX0 3 C_NameSet "__or__" ["self", "other"] (sp_nsBin K C_NameSet nsOr)) : Does P w K mg base CX0 5 "_law_pair" ["_law_left", "_law_right", "_law_one", "_law_other"] (sp_pair K C_NameSet) := by
  obtain ⟨f, fd, F, gm, bd⟩ := A0
  have cl_NameSet := T_NameSet.ic.cl
  have g_NameSet := T_NameSet.g
  obtain ⟨f_truths, fd_truths, G_truths, g_truths, kp_truths, bd_truths⟩ := D_truths
  obtain ⟨f_sorted, fd_sorted, G_sorted, g_sorted, kp_sorted, bd_sorted⟩ := D_sorted
  obtain ⟨f_is, fd_is, G_is, g_is, kp_is, bd_is⟩ := D_is
  obtain ⟨f_NameSet_le, fd_NameSet_le, G_NameSet_le, m_NameSet_le, bd_NameSet_le⟩ := D_NameSet_le
  obtain ⟨f_NameSet_lt, fd_NameSet_lt, G_NameSet_lt, m_NameSet_lt, bd_NameSet_lt⟩ := D_NameSet_lt
  obtain ⟨f_NameSet_eq, fd_NameSet_eq, G_NameSet_eq, m_NameSet_eq, bd_NameSet_eq⟩ := D_NameSet_eq
  obtain ⟨f_NameSet_and, fd_NameSet_and, G_NameSet_and, m_NameSet_and, bd_NameSet_and⟩ := D_NameSet_and
  obtain ⟨f_NameSet_sub, fd_NameSet_sub, G_NameSet_sub, m_NameSet_sub, bd_NameSet_sub⟩ := D_NameSet_sub
  obtain ⟨f_NameSet_or, fd_NameSet_or, G_NameSet_or, m_NameSet_or, bd_NameSet_or⟩ := D_NameSet_or
  refine ⟨f, fd, ?_, gm, F.kp, bd⟩
  refine F.ok sc_pair (fun vs H Q E h => ?_) (fun cdv A outer s H vs Q E hr h => ?_)
  · obtain ⟨l, r, a, b, xs, ys, st, rfl, _⟩ := h
    rfl
  · obtain ⟨l, r, a, b, xs, ys, st, rfl, hL, hR, hA, hB, hx, hy, nd, hst, hO, k⟩ := h
    have hu := hu_of hr
    refine ⟨_, (pss_cons (ps_set (i := 4) sc_pair.nd rfl (Or.inl rfl) (pe_callB (k_all K rfl) (by rfl) b_all (by decide +kernel) (pa_cons (pe_lc (own := [("_law_name_here", 5)]) (tt := tYes) rfl sc_pair.nd (k_iL K (pv 2)) (blkOk_by (own := [("_law_name_here", 5)]) (N := n_pair) (sc := defScope s_pair) (by decide +kernel)) (fun _ _ _ _ _ => (pg_name (i := 5) sc_pair.nd rfl (Or.inl rfl))) (fun _ _ _ _ _ => pts_nil) (fun _ _ _ _ _ => (pe_cmpR (k_in K) (pv 5) (pv 3) (by rfl)))) pa_nil)))
  (pss_cons (ps_if (pt_not (pt_val (pe_call G_truths (hr.mono (by decide)) rfl g_truths kp_truths bd_truths .nil pass0 (pa_cons (pe_lst (pa_cons (pe_cmpR (o_cmpO K (fun _ _ => rfl) m_NameSet_le G_NameSet_le (hr.mono (by decide)) bd_NameSet_le pass0) (pv 0) (pv 1) (nomark _)) (pa_cons (pe_cmpR (o_cmpO K (fun _ _ => rfl) m_NameSet_lt G_NameSet_lt (hr.mono (by decide)) bd_NameSet_lt pass0) (pv 0) (pv 1) (nomark _)) pa_nil))) (pa_cons (pe_lst (pa_cons (pv 4) (pa_cons (pe_and (pv 4) (pe_one (pe_cmpR op_lt (pe_callB (k_len K) (by rfl) b_len (by decide +kernel) (pa_cons (pv 2) pa_nil)) (pe_callB (k_len K) (by rfl) b_len (by decide +kernel) (pa_cons (pv 3) pa_nil)) (nomark _)))) pa_nil))) pa_nil))))) (pss_one (ps_ret pe_bl)) pss_nil)
  (pss_cons (ps_if (pt_not (pt_val (pe_call G_truths (hr.mono (by decide)) rfl g_truths kp_truths bd_truths .nil pass0 (pa_cons (pe_lst (pa_cons (pe_cmpR (o_cmpO K (fun _ _ => rfl) m_NameSet_eq G_NameSet_eq (hr.mono (by decide)) bd_NameSet_eq pass0) (pv 0) (pv 1) (nomark _)) (pa_cons (pe_cmpR (o_neO K T_NameSet.ne T_NameSet.ic.hm m_NameSet_eq G_NameSet_eq (hr.mono (by decide)) bd_NameSet_eq pass0) (pv 0) (pv 1) (nomark _)) pa_nil))) (pa_cons (pe_lst (pa_cons (pe_cmpR (k_eqD K hr.units) (pe_call G_sorted (hr.mono (by decide)) rfl g_sorted kp_sorted bd_sorted .nil pass0 (pa_cons (pv 2) pa_nil)) (pe_call G_sorted (hr.mono (by decide)) rfl g_sorted kp_sorted bd_sorted .nil pass0 (pa_cons (pv 3) pa_nil)) (nomark _)) (pa_cons (pe_cmpR (k_neD K hr.units) (pv 2) (pv 3) (nomark _)) pa_nil))) pa_nil))))) (pss_one (ps_ret pe_bl)) pss_nil)
  (pss_cons (ps_if (pt_not (pt_val (pe_call G_is (hr.mono (by decide)) rfl g_is kp_is bd_is .nil pass0 (pa_cons (pe_op (o_binO T_NameSet.sf m_NameSet_and G_NameSet_and (hr.mono (by decide)) bd_NameSet_and pass0) (pv 0) (pv 1)) (pa_cons (pe_lc (own := [("_law_name_here", 5)]) rfl sc_pair.nd (k_iL K (pv 2)) (blkOk_by (own := [("_law_name_here", 5)]) (N := n_pair) (sc := defScope s_pair) (by decide +kernel)) (fun _ _ _ _ _ => (pg_name (i := 5) sc_pair.nd rfl (Or.inl rfl))) (fun _ _ _ _ _ => pts_one (pt_cmpR (k_in K) (pv 5) (pv 3) (by rfl))) (fun _ _ _ _ _ => (pv 5))) pa_nil))))) (pss_one (ps_ret pe_bl)) pss_nil)
  (pss_cons (ps_if (pt_not (pt_val (pe_call G_is (hr.mono (by decide)) rfl g_is kp_is bd_is .nil pass0 (pa_cons (pe_op (o_binO T_NameSet.sf m_NameSet_sub G_NameSet_sub (hr.mono (by decide)) bd_NameSet_sub pass0) (pv 0) (pv 1)) (pa_cons (pe_lc (own := [("_law_name_here", 5)]) rfl sc_pair.nd (k_iL K (pv 2)) (blkOk_by (own := [("_law_name_here", 5)]) (N := n_pair) (sc := defScope s_pair) (by decide +kernel)) (fun _ _ _ _ _ => (pg_name (i := 5) sc_pair.nd rfl (Or.inl rfl))) (fun _ _ _ _ _ => pts_one (pt_cmpR (k_ni K) (pv 5) (pv 3) (by rfl))) (fun _ _ _ _ _ => (pv 5))) pa_nil))))) (pss_one (ps_ret pe_bl)) pss_nil)
  (pss_one (ps_ret (pe_call G_is (hr.mono (by decide)) rfl g_is kp_is bd_is .nil pass0 (pa_cons (pe_op (o_binO T_NameSet.sf m_NameSet_or G_NameSet_or (hr.mono (by decide)) bd_NameSet_or pass0) (pv 0) (pv 1)) (pa_cons (pe_op op_cat (pv 2) (pe_lc (own := [("_law_name_here", 5)]) rfl sc_pair.nd (k_iL K (pv 3)) (blkOk_by (own := [("_law_name_here", 5)]) (N := n_pair) (sc := defScope s_pair) (by decide +kernel)) (fun _ _ _ _ _ => (pg_name (i := 5) sc_pair.nd rfl (Or.inl rfl))) (fun _ _ _ _ _ => pts_one (pt_cmpR (k_ni K) (pv 5) (pv 2) (by rfl))) (fun _ _ _ _ _ => (pv 5)))) pa_nil)))))))))), ?_⟩
    have ic := T_NameSet.ic
    have lx : xs.length ≤ 16 := Nat.le_trans hx.length_le hst
    have ly : ys.length ≤ 16 := Nat.le_trans hy.length_le hst
    have ndx : xs.Nodup := nd.sublist hx
    have ndy : ys.Nodup := nd.sublist hy
    have ox : Oks xs := fun z hz => hO z (hx.subset hz)
    have oy : Oks ys := fun z hz => hO z (hy.subset hz)
    have nlx := nset_len xs
    have nly := nset_len ys
    walk_at "rd"
    refine lcb_pure V.str V.bl (walk_list (xs := xs.map V.str)) (fun H' e => e.seq (SqL.of hA)) (by rw [PySem.sizeLine_eq]; omega) (fun z => some (decide (z ∈ ys))) ?_ ?_
    · intro z H' hz sz R hR
      walk_at "rd"
      refine w_inL (sz.seq (SqL.of hB)) rfl (flat_strsM ys) ?_
      rw [inV_strs]
      exact hR
    intro D nD
    walk_at "rd"
    refine w_all (SqL.of upd_same) ?_
    have e1 : (xs.filterMap fun z => some (decide (z ∈ ys))).all id = nsLe xs ys := by
      rw [List.filterMap_eq_map']
      unfold nsLe
      rw [List.all_map]
      rfl
    rw [e1]
    have s1 := Same.new (o := .lst ((xs.filterMap fun z => some (decide (z ∈ ys))).map V.bl)) nD
    generalize upd H D (.lst ((xs.filterMap fun z => some (decide (z ∈ ys))).map V.bl)) = H1 at s1
    walk_at "rd"
    -- [left <= right, left < right]
    refine u_nsCmp ic (hL.same s1) (hR.same s1) (by omega) fun H2 s2 => ?_
    have t2 := s1.trans s2
    walk_at "rd"
    refine u_nsCmp ic (hL.same t2) (hR.same t2) (by omega) fun H3 s3 => ?_
    have t3 := t2.trans s3
    walk_at "rd"
    intro p1 np1
    have t4 := t3.trans (Same.new (o := .lst [V.bl (nsLe (nset xs) (nset ys)), V.bl (nsLt (nset xs) (nset ys))]) np1)
    walk_at "rd"
    have cA : ∀ {H' : Hp}, Same H H' → SqL K H' a (xs.map V.str) := fun e => SqL.of (e _ _ hA)
    have cB : ∀ {H' : Hp}, Same H H' → SqL K H' b (ys.map V.str) := fun e => SqL.of (e _ _ hB)
    have step1 : ∀ (R : V → Hp → Prop) (H' : Hp), Same H H' → R (.bl (nsLe xs ys && decide (xs.length < ys.length))) H' → (if nsLe xs ys = true then tOp (rI0 fun i j => V.bl (decide (i < j))) (tCB (rLenQ K) (tCons (tVar 2) tNil)) (tCB (rLenQ K) (tCons (tVar 3) tNil)) [some (.ref l), some (.ref r), some (.ref a), some (.ref b), some (.bl (nsLe xs ys)), none] H' R else R (.bl false) H') := fun R H' sH hR' => by
      refine w_ifb (fun e => ?_) (fun e => ?_)
      · rw [e, Bool.true_and] at hR'
        walk_at "rd"
        refine w_lenL (cA sH) ?_
        walk_at "rd"
        refine w_lenL (cB sH) ?_
        walk_at "rd"
        rw [List.length_map, List.length_map]
        have e2 : decide ((xs.length : Int) < (ys.length : Int)) = decide (xs.length < ys.length) := by
          by_cases h : xs.length < ys.length
          · rw [decide_eq_true h, decide_eq_true (by omega)]
          · rw [decide_eq_false h, decide_eq_false (by omega)]
        rw [e2]
        exact hR'
      · rw [e, Bool.false_and] at hR'
        exact hR'
    refine step1 _ _ t4 ?_
    walk_at "rd"
    intro p2 np2
    have t5 := t4.trans (Same.new (o := .lst [V.bl (nsLe xs ys), V.bl (nsLe xs ys && decide (xs.length < ys.length))]) np2)
    walk_at "rd"
    refine use_truths (bs := [_, _]) (cs := [_, _]) ((Same.new np2).seq (SqL.of upd_same)) (SqL.of upd_same) (by show 2 ≤ 1000; decide) fun H6 s6 => ?_
    have t6 := t5.trans s6
    have d1 : ([nsLe (nset xs) (nset ys), nsLt (nset xs) (nset ys)] : List Bool) = [nsLe xs ys, nsLe xs ys && decide (xs.length < ys.length)] := by
      unfold nsLt
      rw [nsLe_nset, nset_len_nodup ndx, nset_len_nodup ndy, Bool.and_comm]
    rw [decide_eq_true d1]
    clear d1 step1
    walk_at "rd"
    -- [left == right, left != right], [sorted == sorted, one != other]
    refine u_nsEq ic (hL.same t6) (hR.same t6) ?_
    walk_at "rd"
    refine u_nsNe ic (hL.same t6) (hR.same t6) ?_
    walk_at "rd"
    intro p3 np3
    have t7 := t6.trans (Same.new (o := .lst [V.bl (decide (nset xs = nset ys)), V.bl (!decide (nset xs = nset ys))]) np3)
    walk_at "rd"
    refine use_sorted (cA t7) (by omega) fun u1 H8 s8 nu1 hu1 => ?_
    have t8 := t7.trans s8
    walk_at "rd"
    refine use_sorted (cB t8) (by omega) fun u2 H9 s9 nu2 hu2 => ?_
    have t9 := t8.trans s9
    have osx : Oks (srt xs) := fun z hz => ox z ((srt_perm xs).mem_iff.mp hz)
    have osy : Oks (srt ys) := fun z hz => oy z ((srt_perm ys).mem_iff.mp hz)
    refine w_eqT (SqT.of (s9 _ _ hu1)) (SqT.of hu2) osx osy ?_
    walk_at "rd"
    refine w_neL (cA t9) (cB t9) ox oy ?_
    walk_at "rd"
    intro p4 np4
    have t10 := t9.trans (Same.new (o := .lst [V.bl (decide (srt xs = srt ys)), V.bl (!decide (xs = ys))]) np4)
    walk_at "rd"
    refine use_truths (bs := [_, _]) (cs := [_, _]) ((Same.new np4).seq (s9.seq (s8.seq (SqL.of upd_same)))) (SqL.of upd_same) (by show 2 ≤ 1000; decide) fun H11 s11 => ?_
    have t11 := t10.trans s11
    have iff1 : (nset xs = nset ys) ↔ (xs = ys) := ⟨fun e => sublist_ext nd hx hy fun z => nset_inj e z, fun e => by rw [e]⟩
    have d2 : ([decide (nset xs = nset ys), !decide (nset xs = nset ys)] : List Bool) = [decide (srt xs = srt ys), !decide (xs = ys)] := by
      rw [srt_nset ndx, srt_nset ndy]
      by_cases h : xs = ys
      · rw [decide_eq_true h, decide_eq_true (iff1.2 h)]
      · rw [decide_eq_false h, decide_eq_false fun e => h (iff1.1 e)]
    rw [decide_eq_true d2]
    clear d2
    walk_at "rd"
    -- left & right
    refine u_nsBin (hL.same t11) (hR.same t11) (by omega) fun c1 H12 s12 nc1 hc1 => ?_
    have t12 := t11.trans s12
    walk_at "rd"
    refine w_iLx (cA t12) ?_
    refine lcb_pure V.str V.str (walk_list (xs := xs.map V.str)) (fun H' e => cA (t12.trans e)) (by rw [PySem.sizeLine_eq]; omega) (fun z => if z ∈ ys then some z else none) ?_ ?_
    · intro z H' hz sz R hR'
      walk_at "rd"
      refine w_inL (cB (t12.trans sz)) rfl (flat_strsM ys) ?_
      rw [inV_strs]
      walk_at "rd"
      refine w_if (fun hz => ?_) (fun hz => ?_)
      · walk_at "rd"
        rw [if_pos hz] at hR'
        exact hR'
      · rw [if_neg hz] at hR'
        exact hR'
    intro D1 nD1
    rw [filterMap_if]
    walk_at "rd"
    refine use_lawIs (hc1.same (Same.new nD1)) (SqL.of upd_same) (Nat.lt_of_le_of_lt (List.length_filter_le _ _) (by omega)) (ox.filter _) fun H13 s13 => ?_
    have t13 := (t12.trans (Same.new nD1)).trans s13
    rw [decide_eq_true (show nset (nsAnd (nset xs) (nset ys)) = srt (xs.filter fun z => decide (z ∈ ys)) by rw [nset_and, srt_nset (ndx.filter _)])]
    walk_at "rd"
    -- left - right
    refine u_nsBin (hL.same t13) (hR.same t13) (by omega) fun c2 H14 s14 nc2 hc2 => ?_
    have t14 := t13.trans s14
    walk_at "rd"
    refine w_iLx (cA t14) ?_
    refine lcb_pure V.str V.str (walk_list (xs := xs.map V.str)) (fun H' e => cA (t14.trans e)) (by rw [PySem.sizeLine_eq]; omega) (fun z => if z ∉ ys then some z else none) ?_ ?_
    · intro z H' hz sz R hR'
      walk_at "rd"
      refine w_niL (cB (t14.trans sz)) rfl (flat_strsM ys) ?_
      rw [inV_strs]
      walk_at "rd"
      refine w_ifn (fun hz => ?_) (fun hz => ?_)
      · walk_at "rd"
        rw [if_pos hz] at hR'
        exact hR'
      · rw [if_neg (fun h => h hz)] at hR'
        exact hR'
    intro D2 nD2
    rw [filterMap_if]
    walk_at "rd"
    refine use_lawIs (hc2.same (Same.new nD2)) (SqL.of upd_same) (Nat.lt_of_le_of_lt (List.length_filter_le _ _) (by omega)) (ox.filter _) fun H15 s15 => ?_
    have t15 := (t14.trans (Same.new nD2)).trans s15
    rw [decide_eq_true (show nset (nsSub (nset xs) (nset ys)) = srt (xs.filter fun z => decide (z ∉ ys)) by rw [nset_sub, srt_nset (ndx.filter _)])]
    walk_at "rd"
    -- left | right
    refine u_nsBin (hL.same t15) (hR.same t15) (by omega) fun c3 H16 s16 nc3 hc3 => ?_
    have t16 := t15.trans s16
    walk_at "rd"
    refine w_iLx (cB t16) ?_
    refine lcb_pure V.str V.str (walk_list (xs := ys.map V.str)) (fun H' e => cB (t16.trans e)) (by rw [PySem.sizeLine_eq]; omega) (fun z => if z ∉ xs then some z else none) ?_ ?_
    · intro z H' hz sz R hR'
      walk_at "rd"
      refine w_niL (cA (t16.trans sz)) rfl (flat_strsM xs) ?_
      rw [inV_strs]
      walk_at "rd"
      refine w_ifn (fun hz => ?_) (fun hz => ?_)
      · walk_at "rd"
        rw [if_pos hz] at hR'
        exact hR'
      · rw [if_neg (fun h => h hz)] at hR'
        exact hR'
    intro D3 nD3
    rw [filterMap_if]
    walk_at "rd"
    have lf : (ys.filter fun z => decide (z ∉ xs)).length ≤ 16 := Nat.le_trans (List.length_filter_le _ _) ly
    refine w_cat ((t16.trans (Same.new nD3)) _ _ hA) upd_same (by rw [PySem.sizeLine_eq, List.length_map, List.length_map]; omega) fun q nq => ?_
    rw [← List.map_append]
    walk_at "rd"
    have dup : (xs ++ ys.filter fun z => decide (z ∉ xs)).Nodup := List.nodup_append.mpr ⟨ndx, ndy.filter _, fun z hz u hu e => by
      have := (List.mem_filter.mp hu).2
      rw [decide_eq_true_eq] at this
      exact this (e ▸ hz)⟩
    refine use_lawIs (hc3.same ((Same.new nD3).trans (Same.new nq))) (SqL.of upd_same) (by rw [List.length_append]; omega) (ox.append (oy.filter _)) fun H17 s17 => ?_
    rw [decide_eq_true (show nset (nsOr (nset xs) (nset ys)) = srt (xs ++ ys.filter fun z => decide (z ∉ xs)) by
      rw [nset_or, srt_nset dup]
      refine nset_congr fun z => ?_
      simp only [List.mem_append, List.mem_filter, decide_eq_true_eq]
      by_cases hz : z ∈ xs <;> simp [hz])]
    exact k H17 (((t16.trans (Same.new nD3)).trans (Same.new nq)).trans s17)
abbrev n_name : List Str := ["_law_source_here", "_law_taken", "_law_size", "_law_name_here", "_law_k", "_law_one", "_law_letter"]
theorem sc_name : FnScope n_name ["_law_source_here", "_law_taken"] (defScope s_name) := ⟨rfl, rfl, rfl, by decide +kernel, rfl, by decide +kernel, by decide +kernel⟩
theorem ok_name (A0 : DefAt K mg "_law_name" s_name ["_law_source_here", "_law_taken"]) (b_range : mg "range" = none) (D_draw : Does P w K mg base CX0 1 "_law_draw" ["_law_source_here", "_law_many"] sp_draw) : Does P w K mg base CX0 2 "_law_name" ["_law_source_here", "_law_taken"] (sp_name K) := by
  obtain ⟨f, fd, F, gm, bd⟩ := A0
  obtain ⟨f_draw, fd_draw, G_draw, g_draw, kp_draw, bd_draw⟩ := D_draw
  refine ⟨f, fd, ?_, gm, F.kp, bd⟩
  refine F.ok sc_name (fun vs H Q E h => ?_) (fun cdv A outer s H vs Q E hr h => ?_)
  · obtain ⟨p, a, c, xs, rfl, _⟩ := h
    rfl
  · obtain ⟨p, a, c, xs, rfl, hs, hc, hS, hl, k⟩ := h
    have hu := hu_of hr
    refine ⟨_, (pss_cons (ps_set (i := 2) sc_name.nd rfl (Or.inl rfl) (pe_ix (k_ixL K) (pe_lst (pa_cons pe_int (pa_cons pe_int (pa_cons pe_int (pa_cons pe_int (pa_cons pe_int (pa_cons pe_int (pa_cons pe_int (pa_cons pe_int (pa_cons pe_int (pa_cons pe_int (pa_cons pe_int (pa_cons pe_int (pa_cons pe_int pa_nil)))))))))))))) (pe_call G_draw (hr.mono (by decide)) rfl g_draw kp_draw bd_draw .nil pass0 (pa_cons (pv 0) (pa_cons pe_int pa_nil))) (fun _ _ => rfl)))
  (pss_cons (ps_set (i := 3) sc_name.nd rfl (Or.inl rfl) (k_join K pe_str (pe_lc (own := [("_law_k", 4)]) (tt := tYes) rfl sc_name.nd (pi_range1 (by rfl) b_range (pa_cons (pv 2) pa_nil)) (blkOk_by (own := [("_law_k", 4)]) (N := n_name) (sc := defScope s_name) (by decide +kernel)) (fun _ _ _ _ _ => (pg_name (i := 4) sc_name.nd rfl (Or.inl rfl))) (fun _ _ _ _ _ => pts_nil) (fun _ _ _ _ _ => (pe_ix ix_str pe_str (pe_call G_draw (hr.mono (by decide)) rfl g_draw kp_draw bd_draw .nil pass0 (pa_cons (pv 0) (pa_cons pe_int pa_nil))) (fun _ _ => rfl))))))
  (C8.pss_cut (ps_if (pt_chain op_lt op_lt pe_int (pv 2) pe_int) (pss_one (ps_set (i := 3) sc_name.nd rfl (Or.inl rfl) (pe_ix (k_ixL K) (pe_lst (pa_cons pe_str (pa_cons pe_str (pa_cons pe_str (pa_cons pe_str (pa_cons (pe_op o_addS pe_str (pe_slice sl_str (pv 3) (po_some pe_int) po_none)) pa_nil)))))) (pe_call G_draw (hr.mono (by decide)) rfl g_draw kp_draw bd_draw .nil pass0 (pa_cons (pv 0) (pa_cons pe_int pa_nil))) (fun _ _ => rfl)))) pss_nil)
  (pss_cons (ps_if (pt_cmpR (k_ni K) (pv 3) (pv 1) (by rfl)) (pss_one (ps_ret (pv 3))) pss_nil)
  (pss_one (ps_ret (pe_ix (k_ixL K) (pe_lc (own := [("_law_one", 5)]) rfl sc_name.nd (k_iL K (pe_lc (own := [("_law_letter", 6)]) (tt := tYes) rfl sc_name.nd (pi_str pe_str) (blkOk_by (own := [("_law_letter", 6)]) (N := n_name) (sc := defScope s_name) (by decide +kernel)) (fun _ _ _ _ _ => (pg_name (i := 6) sc_name.nd rfl (Or.inl rfl))) (fun _ _ _ _ _ => pts_nil) (fun _ _ _ _ _ => (pe_op o_addS pe_str (pv 6))))) (blkOk_by (own := [("_law_one", 5)]) (N := n_name) (sc := defScope s_name) (by decide +kernel)) (fun _ _ _ _ _ => (pg_name (i := 5) sc_name.nd rfl (Or.inl rfl))) (fun _ _ _ _ _ => pts_one (pt_cmpR (k_ni K) (pv 5) (pv 1) (by rfl))) (fun _ _ _ _ _ => (pv 5))) pe_int (fun _ _ => rfl)))))))), ?_⟩
    have hC : c + 10 < 1000000000 := hc
    walk_at "rd"
    intro l nl
    walk_at "rd"
    refine use_draw (hs.new nl) (by show _ < 1000000000; omega) (by decide) (by decide) (fun v c1 H1 v0 v1 hc1 hs1 b1 => ?_)
    have np : l ≠ p := hs.ne nl
    have k1 : Kp p H H1 := (Kp.new nl).trans b1.kp
    obtain ⟨sz, esz, n, rfl, n1, n8⟩ := atI_all (xs := [V.int 8, V.int 4, V.int 5, V.int 6, V.int 7, V.int 1, V.int 2, V.int 3, V.int 1, V.int 2, V.int 3, V.int 1, V.int 2]) (fun x => ∃ n : Int, x = .int n ∧ 1 ≤ n ∧ n ≤ 8) (by simp) v0 v1
    refine w_ixL (SqL.of (show H1 l = some _ by rw [b1 l np]; exact upd_same)) esz ?_
    walk_at "rd"
    refine lcb walk_range (fun D i acc H' => ∃ (c' : Nat) (cs : List Nat), acc = (cs.map sign).map V.str ∧ cs.length = i ∧ (∀ ch ∈ cs, 97 ≤ ch ∧ ch ≤ 122) ∧ Kp p H H' ∧ Src H' p c' ∧ c' ≤ c1 + i ∧ H' D = some (.lst acc))
      (fun D nD => ⟨c1, [], rfl, rfl, by simp, k1.trans (Kp.new nD), hs1.new nD, by omega, upd_same⟩) (fun _ _ _ _ _ _ _ => trivial) ?_ ?_
    · rintro D i x acc H2 H3 nD hi ⟨c', cs, rfl, hl', hcs, k2, s2, hc2, hD⟩ ⟨rfl, rfl⟩
      have nDp : D ≠ p := hs1.ne nD
      have hi8 : i < 8 := by omega
      walk_at "rd"
      refine use_draw s2 (by show _ < 1000000000; omega) (by decide) (by decide) (fun u c2 H4 u0 u1 hc3 s3 b2 => ?_)
      obtain ⟨ch, ech, hch⟩ := letters_at u0 u1
      refine w_ixS (by rw [letters_len]; decide) ech ?_
      refine lcr_some (acc := (cs.map sign).map V.str) (by rw [b2 D nDp]; exact hD) (by simp only [PySem.sizeLine_eq, List.length_map]; omega) ?_
      refine ⟨c2, cs ++ [ch], by simp [sign], by simp [hl'], fun d hd => ?_, (k2.trans b2.kp).mut ?_, s3.mut nDp.symm, by omega, upd_same⟩
      · rcases List.mem_append.mp hd with h | h
        · exact hcs d h
        · rw [List.mem_singleton.mp h]; exact hch
      · cases q : H D with
        | none => rfl
        | some o => rw [k1 D o nDp q] at nD; cases nD
    · rintro D acc H2 nD ⟨c2, cs, rfl, hl2, hcs, k2, s2, hc2, hD⟩
      refine w_join (zs := cs.map sign) (SqL.of hD) (signs_size cs (by omega)) ?_
      rw [join_signs]
      have hx : IsName ⟨cs.toArray⟩ := ⟨by rw [len_list]; simp; omega, by rw [len_list]; simp; omega, by simpa using hcs⟩
      have hxl : (⟨cs.toArray⟩ : Str).length = n.toNat := by rw [len_list]; simp; omega
      generalize (⟨cs.toArray⟩ : Str) = x at hx hxl
      walk_at "rd"
      refine w_cut (fun σ' H' => ∃ (x : Str) (c' : Nat) (v4 v5 v6 : Option V), σ' = [some (.ref p), some (.ref a), some (.int n), some (.str x), v4, v5, v6] ∧ IsName x ∧ Kp p H H' ∧ Src H' p c' ∧ c' ≤ c + 10) ?_ ?_
      · walk_at "rd"
        refine w_if (fun h3 => ?_) (fun h3 => ?_)
        · walk_at "rd"
          refine w_if (fun h8 => ?_) (fun h8 => ?_)
          · walk_at "rd"
            have hx8 := hx.2.1
            have hxc := cutS_length x (some 1) none
            refine w_addS (by rw [PySem.sizeLine_eq, show (Str.ofString "q").length = 1 from by decide +kernel]; omega) ?_
            walk_at "rd"
            intro l2 nl2
            walk_at "rd"
            refine use_draw (s2.new nl2) (by show _ < 1000000000; omega) (by decide) (by decide) (fun u c3 H4 u0 u1 hc3 s3 b3 => ?_)
            have np2 : l2 ≠ p := s2.ne nl2
            obtain ⟨y, ey, z, rfl, hz⟩ := atI_all (xs := [V.str "read", V.str "call", V.str "say", V.str "try", V.str ("q" ++ cutS x (some 1) none)]) (fun y => ∃ z : Str, y = .str z ∧ IsName z) (by
              intro y hy
              simp only [List.mem_cons, List.not_mem_nil, or_false] at hy
              rcases hy with rfl | rfl | rfl | rfl | rfl
              · exact ⟨_, rfl, by decide +kernel⟩
              · exact ⟨_, rfl, by decide +kernel⟩
              · exact ⟨_, rfl, by decide +kernel⟩
              · exact ⟨_, rfl, by decide +kernel⟩
              · exact ⟨_, rfl, isName_q hx (by omega)⟩) u0 u1
            refine w_ixL (SqL.of (show H4 l2 = some _ by rw [b3 l2 np2]; exact upd_same)) ey ?_
            walk_at "rd"
            exact ⟨z, c3, _, _, _, rfl, hz, (k2.trans (Kp.new nl2)).trans b3.kp, s3, by omega⟩
          · walk_at "rd"
            exact ⟨x, c2, _, _, _, rfl, hx, k2, s2, by omega⟩
        · walk_at "rd"
          exact ⟨x, c2, _, _, _, rfl, hx, k2, s2, by omega⟩
      · rintro σ' H3 ⟨y, c3, v4, v5, v6, rfl, hy, k3, s3, hc3⟩
        have hS3 : SqL K H3 a (xs.map V.str) := hid_same.seq (k3.hid.seq hS)
        walk_at "rd"
        refine w_niL hS3 rfl (flat_strsM xs) ?_
        rw [inV_strs]
        walk_at "rd"
        refine w_ifn (fun hn => ?_) (fun hn => ?_)
        · walk_at "rd"
          exact k y c3 H3 k3 s3 hc3 hn hy
        · walk_at "rd"
          refine lcb_pure (fun c => V.str (sign c)) V.str (walk_signs _) (fun _ _ => trivial) (by decide +kernel) (fun ch => some ("z" ++ sign ch)) ?_ ?_
          · intro ch H4 hv s4 R hR
            walk_at "rd"
            refine w_addS (by rw [PySem.sizeLine_eq]; show 1 + 1 ≤ _; omega) ?_
            walk_at "rd"
            exact hR
          · intro D nD
            rw [List.filterMap_eq_map']
            walk_at "rd"
            have hS4 : SqL K (upd H3 D (.lst (zNames.map V.str))) a (xs.map V.str) := (Same.new nD).seq hS3
            refine lcb_pure (xs := zNames) V.str V.str walk_list (fun H' e => e.seq (SqL.of upd_same)) (by rw [zNames_len]; decide) (fun z => if z ∈ xs then none else some z) ?_ ?_
            · intro z H4 hv s4 R hR
              have hS5 := s4.seq hS4
              walk_at "rd"
              refine w_niL hS5 rfl (flat_strsM xs) ?_
              rw [inV_strs]
              walk_at "rd"
              refine w_ifn (fun hz => ?_) (fun hz => ?_)
              · walk_at "rd"
                rw [if_neg hz] at hR
                exact hR
              · rw [if_pos hz] at hR
                exact hR
            · intro D2 nD2
              walk_at "rd"
              obtain ⟨z0, hz0, hz1⟩ := pigeon zNames xs zNames_nodup (by rw [zNames_len]; omega)
              have hz2 : z0 ∈ zNames.filterMap fun z => if z ∈ xs then none else some z := List.mem_filterMap.mpr ⟨z0, hz0, by rw [if_neg hz1]⟩
              cases hF : zNames.filterMap fun z => if z ∈ xs then none else some z with
              | nil => rw [hF] at hz2; cases hz2
              | cons z r =>
                have hz : z ∈ zNames.filterMap fun z => if z ∈ xs then none else some z := by rw [hF]; exact List.mem_cons_self
                obtain ⟨z', hz3, hz4⟩ := List.mem_filterMap.mp hz
                by_cases hm : z' ∈ xs
                · rw [if_pos hm] at hz4; cases hz4
                · rw [if_neg hm] at hz4
                  cases hz4
                  refine w_ixL (SqL.of upd_same) (v := V.str z) (atI_nat (j := 0) rfl) ?_
                  exact k z c3 _ ((k3.trans (Kp.new nD)).trans (Kp.new nD2)) ((s3.new nD).new nD2) hc3 hm (zNames_isName z hz3)
abbrev n_names : List Str := ["_law_source_here", "_law_many", "_law_names_here", "_law_k"]
theorem sc_names : FnScope n_names ["_law_source_here", "_law_many"] (defScope s_names) := ⟨rfl, rfl, rfl, by decide +kernel, rfl, by decide +kernel, by decide +kernel⟩
theorem ok_names (A0 : DefAt K mg "_law_names" s_names ["_law_source_here", "_law_many"]) (b_list : mg "list" = none) (b_range : mg "range" = none) (D_name : Does P w K mg base CX0 2 "_law_name" ["_law_source_here", "_law_taken"] (sp_name K)) : Does P w K mg base CX0 3 "_law_names" ["_law_source_here", "_law_many"] sp_names := by
  obtain ⟨f, fd, F, gm, bd⟩ := A0
  obtain ⟨f_name, fd_name, G_name, g_name, kp_name, bd_name⟩ := D_name
  refine ⟨f, fd, ?_, gm, F.kp, bd⟩
  refine F.ok sc_names (fun vs H Q E h => ?_) (fun cdv A outer s H vs Q E hr h => ?_)
  · obtain ⟨p, c, n, rfl, _⟩ := h
    rfl
  · obtain ⟨p, c, n, rfl, hs, hc, hn, k⟩ := h
    have hu := hu_of hr
    refine ⟨_, (pss_cons (ps_set (i := 2) sc_names.nd rfl (Or.inl rfl) (pe_lst pa_nil))
  (pss_cons (ps_for PassesOwn.never rfl (pi_range1 (by rfl) b_range (pa_cons (pv 1) pa_nil)) (pg_name (i := 3) sc_names.nd rfl (Or.inl rfl))
  (pss_one (ps_expr (k_bm K PySem.F.plainAttrs_list PySem.F.slot_list_append PySem.F.type_list_append mt_append (pv 2) (pa_cons (pe_call G_name (hr.mono (by decide)) rfl g_name kp_name bd_name .nil pass0 (pa_cons (pv 0) (pa_cons (pe_callTy (k_list K) (by rfl) b_list (by decide +kernel) (pa_cons (pv 2) pa_nil)) pa_nil))) pa_nil)))))
  (pss_one (ps_ret (pv 2))))), ?_⟩
    have hC : c + 10 * n + 10 < 1000000000 := hc
    walk_at "rd"
    intro l nl
    walk_at "rd"
    have nlp : l ≠ p := hs.ne nl
    refine forb walk_range (fun i σ H' => ∃ (xs : List Str) (c' : Nat) (v3 : Option V), σ = [some (.ref p), some (.int n), some (.ref l), v3] ∧ Kp p H H' ∧ Src H' p c' ∧ c' ≤ c + 10 * i ∧ H' l = some (.lst (xs.map V.str)) ∧ xs.length = i ∧ Names xs)
      ⟨[], c, _, rfl, Kp.new nl, hs.new nl, by omega, upd_same, rfl, List.nodup_nil, by simp⟩ (fun _ _ _ _ _ => trivial) ?_ ?_
    · rintro i x σ H1 H2 hi ⟨xs, c1, v3, rfl, k1, s1, hc1, hl, hx, hN⟩ ⟨rfl, rfl⟩
      have hi' : i < n := by omega
      walk_at "rd"
      refine w_listL (SqL.of hl) ?_
      intro l2 nl2
      walk_at "rd"
      have n2 : l2 ≠ p := s1.ne nl2
      refine use_name (s1.new nl2) (by show _ < 1000000000; omega) (sq_hid n2 upd_same) (by omega) (fun y c2 H3 k2 s2 hc2 hy hy2 => ?_)
      walk_at "rd"
      have hl3 : H3 l = some (.lst (xs.map V.str)) := k2 l _ nlp ((Same.new nl2) l _ hl)
      refine w_append hl3 (by rw [PySem.sizeLine_eq, List.length_map]; omega) ?_
      exact ⟨xs ++ [y], c2, _, rfl, ((k1.trans (Kp.new nl2)).trans k2).mut nl, s2.mut nlp.symm, by omega, by rw [upd_same]; simp, by simp [hx],
        List.nodup_append.mpr ⟨hN.1, by simp, fun a ha b hb => by rw [List.mem_singleton.mp hb]; intro e; exact hy (e ▸ ha)⟩,
        fun z hz => by rcases List.mem_append.mp hz with h | h; exact hN.2 z h; rw [List.mem_singleton.mp h]; exact hy2⟩
    · rintro σ H1 ⟨xs, c1, v3, rfl, k1, s1, hc1, hl, hx, hN⟩
      walk_at "rd"
      have hx' : xs.length = n := by omega
      exact k xs l c1 H1 k1 s1 (by omega) nl hl hx' hN
abbrev n_subset : List Str := ["_law_source_here", "_law_row", "_law_one"]
theorem sc_subset : FnScope n_subset ["_law_source_here", "_law_row"] (defScope s_subset) := ⟨rfl, rfl, rfl, by decide +kernel, rfl, by decide +kernel, by decide +kernel⟩
theorem ok_subset (A0 : DefAt K mg "_law_subset" s_subset ["_law_source_here", "_law_row"]) (D_draw : Does P w K mg base CX0 1 "_law_draw" ["_law_source_here", "_law_many"] sp_draw) : Does P w K mg base CX0 2 "_law_subset" ["_law_source_here", "_law_row"] (sp_subset K) := by
  obtain ⟨f, fd, F, gm, bd⟩ := A0
  obtain ⟨f_draw, fd_draw, G_draw, g_draw, kp_draw, bd_draw⟩ := D_draw
  refine ⟨f, fd, ?_, gm, F.kp, bd⟩
  refine F.ok sc_subset (fun vs H Q E h => ?_) (fun cdv A outer s H vs Q E hr h => ?_)
  · obtain ⟨p, a, c, xs, rfl, _⟩ := h
    rfl
  · obtain ⟨p, a, c, xs, rfl, hs, hc, hS, hl, k⟩ := h
    have hu := hu_of hr
    refine ⟨_, (pss_one (ps_ret (pe_lc (own := [("_law_one", 2)]) rfl sc_subset.nd (k_iL K (pv 1)) (blkOk_by (own := [("_law_one", 2)]) (N := n_subset) (sc := defScope s_subset) (by decide +kernel)) (fun _ _ _ _ _ => (pg_name (i := 2) sc_subset.nd rfl (Or.inl rfl))) (fun _ _ _ _ _ => pts_one (pt_cmpR op_eq (pe_call G_draw (hr.mono (by decide)) rfl g_draw kp_draw bd_draw .nil pass0 (pa_cons (pv 0) (pa_cons pe_int pa_nil))) pe_int (nomark _))) (fun _ _ _ _ _ => (pv 2))))), ?_⟩
    have hC : c + xs.length < 1000000000 := hc
    have hS1 := hid_same.seq hS
    walk_at "rd"
    refine lcb (walk_list (xs := xs.map V.str)) (fun D i acc H' => ∃ (ys : List Str) (c' : Nat), acc = ys.map V.str ∧ ys.Sublist (xs.take i) ∧ Kp p H H' ∧ Src H' p c' ∧ c' ≤ c + i ∧ H' D = some (.lst acc))
      (fun D nD => ⟨[], c, rfl, List.nil_sublist _, Kp.new nD, hs.new nD, by omega, upd_same⟩) (fun D i acc H' nD _ ⟨_, _, _, _, k1, _⟩ => hid_same.seq (k1.hid.seq hS)) ?_ ?_
    · rintro D i x acc H1 H2 nD hi ⟨ys, c1, rfl, hy, k1, s1, hc1, hD⟩ ⟨rfl, hx⟩
      rw [List.length_map] at hi
      rw [List.getElem?_map, List.getElem?_eq_getElem hi] at hx
      cases hx
      have nDp : D ≠ p := hs.ne nD
      have et : xs.take (i + 1) = xs.take i ++ [xs[i]] := by rw [List.take_succ, List.getElem?_eq_getElem hi] <;> rfl
      have yl : ys.length ≤ i := Nat.le_trans hy.length_le (by rw [List.length_take]; omega)
      walk_at "rd"
      refine use_draw s1 (by show _ < 1000000000; omega) (by decide) (by decide) (fun u c2 H4 u0 u1 hc3 s3 b2 => ?_)
      have hD4 : H4 D = some (.lst (ys.map V.str)) := by rw [b2 D nDp]; exact hD
      walk_at "rd"
      refine w_if (fun hu => ?_) (fun hu => ?_)
      · walk_at "rd"
        refine lcr_some hD4 (by rw [PySem.sizeLine_eq, List.length_map]; omega) ?_
        exact ⟨ys ++ [xs[i]], c2, by simp, by rw [et]; exact hy.append (List.Sublist.refl _), (k1.trans b2.kp).mut nD, s3.mut nDp.symm, by omega, upd_same⟩
      · exact lcr_none ⟨ys, c2, rfl, by rw [et]; exact hy.trans (List.sublist_append_left _ _), k1.trans b2.kp, s3, by omega, hD4⟩
    · rintro D acc H1 nD ⟨ys, c1, rfl, hy, k1, s1, hc1, hD⟩
      rw [List.length_map] at hc1 hy
      rw [List.take_length] at hy
      exact k ys D c1 H1 k1 s1 hc1 nD hD hy
abbrev n_law : List Str := ["_law_script", "_law_source_here", "_law_stock", "_law_one", "_law_other", "_law_first", "_law_second", "_law_kept", "_law_left", "_law_right", "_law_again", "_law_name_here"]
theorem sc_law : FnScope n_law ["_law_script"] (defScope s_law) := ⟨rfl, rfl, rfl, by decide +kernel, rfl, by decide +kernel, by decide +kernel⟩
theorem ok_law {C_NameSet : Addr} {f : Addr} {fd : FuncData} (F : Fun K "law" "law" s_law f fd) (T_NameSet : ClsF K mg "NameSet" C_NameSet) (b_len : mg "len" = none) (b_list : mg "list" = none) (b_tuple : mg "tuple" = none) (D_source : Does P w K mg base CX0 1 "_law_source" ["_law_script"] (sp_source K)) (D_names : Does P w K mg base CX0 3 "_law_names" ["_law_source_here", "_law_many"] sp_names) (D_subset : Does P w K mg base CX0 2 "_law_subset" ["_law_source_here", "_law_row"] (sp_subset K)) (D_draw : Does P w K mg base CX0 1 "_law_draw" ["_law_source_here", "_law_many"] sp_draw) (D_mixed : Does P w K mg base CX0 2 "_law_mixed" ["_law_source_here", "_law_row"] (sp_mixed K)) (D_is : Does P w K mg base CX0 2 "_law_is" ["_law_found", "_law_due"] (sp_lawIs K C_NameSet)) (D_truths : Does P w K mg base CX0 1 "_law_truths" ["_law_found", "_law_due"] (sp_truths K)) (D_sorted : Does P w K mg base CX0 1 "_law_sorted" ["_law_names_here"] (sp_sorted K)) (D_pair : Does P w K mg base CX0 5 "_law_pair" ["_law_left", "_law_right", "_law_one", "_law_other"] (sp_pair K C_NameSet)) (D_NameSet : MkDoes P w K mg base CX0 1 "NameSet" C_NameSet ["self", "names"] [] (sp_nsInit K C_NameSet)) {T0 : Addr} (hT0 : ∀ H, SqT K H T0 []) (D_NameSet0 : MkDoes P w K mg base CX0 1 "NameSet" C_NameSet ["self", "names"] [.ref T0] (sp_nsInit K C_NameSet)) (D_NameSet_contains : MDoes P w K mg base CX0 1 C_NameSet "__contains__" ["self", "name"] (sp_nsContains K C_NameSet)) (D_NameSet_len : MDoes P w K mg base CX0 1 C_NameSet "__len__" ["self"] (sp_nsLen K C_NameSet)) (D_NameSet_eq : MDoes P w K mg base CX0 1 C_NameSet "__eq__" ["self", "other"] (sp_nsEq K C_NameSet)) (nM : NoAttr K C_NameSet "members") (kt : PySem.W.kitOne K (.type "tuple") (.ref C_NameSet) = some false) (nt : PySem.W.notFirst K C_NameSet (.type "tuple") = true) : FnOk P w K mg base CX0 6 f fd ["_law_script"] (sp_law K) := by
  have cl_NameSet := T_NameSet.ic.cl
  have g_NameSet := T_NameSet.g
  obtain ⟨f_source, fd_source, G_source, g_source, kp_source, bd_source⟩ := D_source
  obtain ⟨f_names, fd_names, G_names, g_names, kp_names, bd_names⟩ := D_names
  obtain ⟨f_subset, fd_subset, G_subset, g_subset, kp_subset, bd_subset⟩ := D_subset
  obtain ⟨f_draw, fd_draw, G_draw, g_draw, kp_draw, bd_draw⟩ := D_draw
  obtain ⟨f_mixed, fd_mixed, G_mixed, g_mixed, kp_mixed, bd_mixed⟩ := D_mixed
  obtain ⟨f_is, fd_is, G_is, g_is, kp_is, bd_is⟩ := D_is
  obtain ⟨f_truths, fd_truths, G_truths, g_truths, kp_truths, bd_truths⟩ := D_truths
  obtain ⟨f_sorted, fd_sorted, G_sorted, g_sorted, kp_sorted, bd_sorted⟩ := D_sorted
  obtain ⟨f_pair, fd_pair, G_pair, g_pair, kp_pair, bd_pair⟩ := D_pair
  obtain ⟨f_NameSet, fd_NameSet, ds_NameSet, M_NameSet, G_NameSet, bd_NameSet, vd_NameSet, g_NameSet⟩ := D_NameSet
  cases vd_NameSet
  obtain ⟨f_NameSet0, fd_NameSet0, ds_NameSet0, M_NameSet0, G_NameSet0, bd_NameSet0, vd_NameSet0, g_NameSet0⟩ := D_NameSet0
  obtain ⟨f_NameSet_contains, fd_NameSet_contains, G_NameSet_contains, m_NameSet_contains, bd_NameSet_contains⟩ := D_NameSet_contains
  obtain ⟨f_NameSet_len, fd_NameSet_len, G_NameSet_len, m_NameSet_len, bd_NameSet_len⟩ := D_NameSet_len
  obtain ⟨f_NameSet_eq, fd_NameSet_eq, G_NameSet_eq, m_NameSet_eq, bd_NameSet_eq⟩ := D_NameSet_eq
  refine F.ok sc_law (fun vs H Q E h => ?_) (fun cdv A outer s H vs Q E hr h => ?_)
  · obtain ⟨a, ns, rfl, _⟩ := h
    rfl
  · obtain ⟨a, ns, rfl, hS, hlen, k⟩ := h
    have hu := hu_of hr
    refine ⟨_, (pss_cons (ps_set (i := 1) sc_law.nd rfl (Or.inl rfl) (pe_call G_source (hr.mono (by decide)) rfl g_source kp_source bd_source .nil pass0 (pa_cons (pv 0) pa_nil)))
  (pss_cons (ps_set (i := 2) sc_law.nd rfl (Or.inl rfl) (pe_call G_names (hr.mono (by decide)) rfl g_names kp_names bd_names .nil pass0 (pa_cons (pv 1) (pa_cons pe_int pa_nil))))
  (pss_cons (ps_asg (pe_tup (pa_cons (pe_call G_subset (hr.mono (by decide)) rfl g_subset kp_subset bd_subset .nil pass0 (pa_cons (pv 1) (pa_cons (pv 2) pa_nil))) (pa_cons (pe_call G_subset (hr.mono (by decide)) rfl g_subset kp_subset bd_subset .nil pass0 (pa_cons (pv 1) (pa_cons (pv 2) pa_nil))) pa_nil))) (k_gT K (by rfl) (pgs_cons (pg_name (i := 3) sc_law.nd rfl (Or.inr rfl)) (pgs_cons (pg_name (i := 4) sc_law.nd rfl (Or.inr rfl)) pgs_nil))))
  (C8.pss_cut (ps_if (pt_cmpR op_eq (pe_call G_draw (hr.mono (by decide)) rfl g_draw kp_draw bd_draw .nil pass0 (pa_cons (pv 1) (pa_cons pe_int pa_nil))) pe_int (nomark _)) (pss_one (ps_set (i := 4) sc_law.nd rfl (Or.inr rfl) (pe_lc (own := [("_law_name_here", 11)]) rfl sc_law.nd (k_iL K (pv 2)) (blkOk_by (own := [("_law_name_here", 11)]) (N := n_law) (sc := defScope s_law) (by decide +kernel)) (fun _ _ _ _ _ => (pg_name (i := 11) sc_law.nd rfl (Or.inl rfl))) (fun _ _ _ _ _ => pts_one (PW.pt (pw_or (pt_cmpR (k_in K) (pv 11) (pv 3) (by rfl)) (pw_or1 (pt_cmpR (k_in K) (pv 11) (pv 4) (by rfl)))))) (fun _ _ _ _ _ => (pv 11))))) pss_nil)
  (pss_cons (ps_par (i := 5) (j := 6) (by rfl) sc_law.nd rfl rfl (by decide) rfl rfl (pa_cons (pe_call G_mixed (hr.mono (by decide)) rfl g_mixed kp_mixed bd_mixed .nil pass0 (pa_cons (pv 1) (pa_cons (pv 3) pa_nil))) (pa_cons (pe_call G_mixed (hr.mono (by decide)) rfl g_mixed kp_mixed bd_mixed .nil pass0 (pa_cons (pv 1) (pa_cons (pv 4) pa_nil))) pa_nil)) (by rfl))
  (pss_cons (ps_set (i := 7) sc_law.nd rfl (Or.inl rfl) (pe_callTy (k_list K) (by rfl) b_list (by decide +kernel) (pa_cons (pv 5) pa_nil)))
  (pss_cons (ps_par (i := 8) (j := 9) (by rfl) sc_law.nd rfl rfl (by decide) rfl rfl (pa_cons (pe_make M_NameSet G_NameSet (hr.mono (by decide)) rfl g_NameSet bd_NameSet .nil pass0 (pa_cons (pv 5) pa_nil)) (pa_cons (pe_make M_NameSet G_NameSet (hr.mono (by decide)) rfl g_NameSet bd_NameSet .nil pass0 (pa_cons (pe_callTy (k_tupL K) (by rfl) b_tuple (by decide +kernel) (pa_cons (pv 6) pa_nil)) pa_nil)) pa_nil)) (by rfl))
  (pss_cons (ps_if (pt_cmpR (k_neD K hr.units) (pv 5) (pv 7) (nomark _)) (pss_one (ps_ret pe_bl)) pss_nil)
  (pss_cons (ps_expr (k_bm0 K PySem.F.plainAttrs_list PySem.F.slot_list_clear PySem.F.type_list_clear mt_clear (pv 5)))
  (pss_cons (ps_set (i := 10) sc_law.nd rfl (Or.inl rfl) (pe_make M_NameSet G_NameSet (hr.mono (by decide)) rfl g_NameSet bd_NameSet .nil pass0 (pa_cons (pv 8) pa_nil)))
  (pss_cons (ps_if (PW.pt (pw_or (pt_not (pt_val (pe_call G_is (hr.mono (by decide)) rfl g_is kp_is bd_is .nil pass0 (pa_cons (pv 8) (pa_cons (pv 3) pa_nil))))) (pw_or (pt_not (pt_val (pe_call G_is (hr.mono (by decide)) rfl g_is kp_is bd_is .nil pass0 (pa_cons (pv 10) (pa_cons (pv 3) pa_nil))))) (pw_or (pt_not (pt_val (pe_call G_is (hr.mono (by decide)) rfl g_is kp_is bd_is .nil pass0 (pa_cons (pv 9) (pa_cons (pv 4) pa_nil))))) (pw_or1 (pt_not (pt_val (pe_call G_is (hr.mono (by decide)) rfl g_is kp_is bd_is .nil pass0 (pa_cons (pe_make0 M_NameSet0 G_NameSet0 (hr.mono (by decide)) rfl g_NameSet0 bd_NameSet0 vd_NameSet0 pass0) (pa_cons (pe_lst pa_nil) pa_nil)))))))))) (pss_one (ps_ret pe_bl)) pss_nil)
  (pss_cons (ps_for PassesOwn.never rfl (k_iL K (pe_op op_cat (pv 2) (pe_lst (pa_cons pe_str (pa_cons pe_str pa_nil))))) (pg_name (i := 11) sc_law.nd rfl (Or.inl rfl))
  (pss_one (ps_if (pt_not (pt_val (pe_call G_truths (hr.mono (by decide)) rfl g_truths kp_truths bd_truths .nil pass0 (pa_cons (pe_lst (pa_cons (pe_cmpR (o_inO m_NameSet_contains G_NameSet_contains (hr.mono (by decide)) bd_NameSet_contains pass0) (pv 11) (pv 8) (by rfl)) (pa_cons (pe_cmpR (o_inO m_NameSet_contains G_NameSet_contains (hr.mono (by decide)) bd_NameSet_contains pass0) (pv 11) (pv 9) (by rfl)) pa_nil))) (pa_cons (pe_lst (pa_cons (pe_cmpR (k_in K) (pv 11) (pv 3) (by rfl)) (pa_cons (pe_cmpR (k_in K) (pv 11) (pv 4) (by rfl)) pa_nil))) pa_nil))))) (pss_one (ps_ret pe_bl)) pss_nil)))
  (pss_cons (ps_if (PW.pt (pw_or (pt_cmpR op_ne (pe_callB (c_lenO m_NameSet_len G_NameSet_len (hr.mono (by decide)) bd_NameSet_len pass0) (by rfl) b_len (by decide +kernel) (pa_cons (pv 8) pa_nil)) (pe_callB (k_len K) (by rfl) b_len (by decide +kernel) (pa_cons (pv 3) pa_nil)) (nomark _)) (pw_or (pt_cmpR op_ne (pe_callB (c_lenO m_NameSet_len G_NameSet_len (hr.mono (by decide)) bd_NameSet_len pass0) (by rfl) b_len (by decide +kernel) (pa_cons (pe_make M_NameSet G_NameSet (hr.mono (by decide)) rfl g_NameSet bd_NameSet .nil pass0 (pa_cons (pe_lst pa_nil) pa_nil)) pa_nil)) pe_int (nomark _)) (pw_or1 (pt_not (pt_val (pe_call G_truths (hr.mono (by decide)) rfl g_truths kp_truths bd_truths .nil pass0 (pa_cons (pe_lst (pa_cons (pe_cmpR (o_cmpO K (fun _ _ => rfl) m_NameSet_eq G_NameSet_eq (hr.mono (by decide)) bd_NameSet_eq pass0) (pv 8) (pe_call G_sorted (hr.mono (by decide)) rfl g_sorted kp_sorted bd_sorted .nil pass0 (pa_cons (pv 3) pa_nil)) (nomark _)) pa_nil)) (pa_cons (pe_lst (pa_cons pe_bl pa_nil)) pa_nil))))))))) (pss_one (ps_ret pe_bl)) pss_nil)
  (pss_cons (ps_if (PW.pt (pw_or (pt_not (pt_val (pe_call G_pair (hr.mono (by decide)) rfl g_pair kp_pair bd_pair .nil pass0 (pa_cons (pv 8) (pa_cons (pv 9) (pa_cons (pv 3) (pa_cons (pv 4) pa_nil))))))) (pw_or1 (pt_not (pt_val (pe_call G_pair (hr.mono (by decide)) rfl g_pair kp_pair bd_pair .nil pass0 (pa_cons (pv 9) (pa_cons (pv 8) (pa_cons (pv 4) (pa_cons (pv 3) pa_nil)))))))))) (pss_one (ps_ret pe_bl)) pss_nil)
  (pss_one (ps_ret (pe_and (pe_call G_pair (hr.mono (by decide)) rfl g_pair kp_pair bd_pair .nil pass0 (pa_cons (pv 8) (pa_cons (pv 10) (pa_cons (pv 3) (pa_cons (pv 3) pa_nil))))) (pe_and (pe_call G_pair (hr.mono (by decide)) rfl g_pair kp_pair bd_pair .nil pass0 (pa_cons (pe_make0 M_NameSet0 G_NameSet0 (hr.mono (by decide)) rfl g_NameSet0 bd_NameSet0 vd_NameSet0 pass0) (pa_cons (pv 9) (pa_cons (pe_lst pa_nil) (pa_cons (pv 4) pa_nil))))) (pe_one (pe_call G_is (hr.mono (by decide)) rfl g_is kp_is bd_is .nil pass0 (pa_cons (pv 8) (pa_cons (pv 3) pa_nil)))))))))))))))))))))), ?_⟩
    have ic := T_NameSet.ic
    walk_at "rd"
    refine use_source hS hlen fun p H1 s1 np hs1 => ?_
    walk_at "rd"
    refine use_names (n := 8) hs1 (by decide) (by decide) fun stk st c2 H2 k2 hs2 hc2 nst hst lst8 hN => ?_
    have nstp : st ≠ p := hs1.ne nst
    have oS : Oks stk := hN.oks
    walk_at "rd"
    -- one, other
    refine use_subset hs2 (by show _ < 1000000000; omega) (sq_hid nstp hst) (by omega) fun one a1 c3 H3 k3 hs3 hc3 na1 ha1 so1 => ?_
    have na1p : a1 ≠ p := hs2.ne na1
    walk_at "rd"
    refine use_subset hs3 (by show _ < 1000000000; omega) (sq_hid nstp (k3 _ _ nstp hst)) (by omega) fun oth a2 c4 H4 k4 hs4 hc4 na2 ha2 so2 => ?_
    have na2p : a2 ≠ p := hs3.ne na2
    walk_at "rd"
    intro T nT
    have k5 : Kp p H4 (upd H4 T (.tup [.ref a1, .ref a2])) := Kp.new nT
    walk_at "rd"
    have hs5 := hs4.new (o := .tup [.ref a1, .ref a2]) nT
    have hst5 := k5 _ _ nstp (k4 _ _ nstp (k3 _ _ nstp hst))
    have ha15 := k5 _ _ na1p (k4 _ _ na1p ha1)
    have ha25 := k5 _ _ na2p ha2
    generalize upd H4 T (.tup [.ref a1, .ref a2]) = H5 at *
    -- if draw == 0: other = ..
    refine w_cut (fun σ' H' => ∃ (b : Addr) (oth' : List Str) (c' : Nat), σ' = [some (.ref a), some (.ref p), some (.ref st), some (.ref a1), some (.ref b), none, none, none, none, none, none, none] ∧ Kp p H5 H' ∧ Src H' p c' ∧ c' ≤ 100 ∧ H' b = some (.lst (oth'.map V.str)) ∧ oth'.Sublist stk) ?_ ?_
    · walk_at "rd"
      refine use_draw hs5 (by show _ < 1000000000; omega) (by decide) (by decide) (fun u c6 H6 u0 u1 hc6 hs6 b6 => ?_)
      walk_at "rd"
      have hst6 : H6 st = some (.lst (stk.map V.str)) := by rw [b6 st nstp]; exact hst5
      have ha16 : H6 a1 = some (.lst (one.map V.str)) := by rw [b6 a1 na1p]; exact ha15
      have ha26 : H6 a2 = some (.lst (oth.map V.str)) := by rw [b6 a2 na2p]; exact ha25
      refine w_if (fun hu0 => ?_) (fun hu0 => ?_)
      · walk_at "rd"
        refine lcb_pure V.str V.str (walk_list (xs := stk.map V.str)) (fun H' e => SqL.of (e _ _ hst6)) (by rw [PySem.sizeLine_eq]; omega) (fun z => if (z ∈ one ∨ z ∈ oth) then some z else none) ?_ ?_
        · intro z H' hz sz R hR
          walk_at "rd"
          refine w_inL (SqL.of (sz _ _ ha16)) rfl (flat_strsM one) ?_
          rw [inV_strs]
          walk_at "rd"
          refine w_if (fun h1 => ?_) (fun h1 => ?_)
          · walk_at "rd"
            rw [if_pos (.inl h1)] at hR
            exact hR
          · walk_at "rd"
            refine w_inL (SqL.of (sz _ _ ha26)) rfl (flat_strsM oth) ?_
            rw [inV_strs]
            walk_at "rd"
            refine w_if (fun h2 => ?_) (fun h2 => ?_)
            · walk_at "rd"
              rw [if_pos (.inr h2)] at hR
              exact hR
            · rw [if_neg (by rintro (h | h); exact h1 h; exact h2 h)] at hR
              exact hR
        · intro D nD
          rw [filterMap_if]
          walk_at "rd"
          exact ⟨D, _, c6, rfl, b6.kp.trans (Kp.new nD), hs6.new nD, by omega, upd_same, List.filter_sublist⟩
      · walk_at "rd"
        exact ⟨a2, oth, c6, rfl, b6.kp, hs6, by omega, ha26, so2⟩
    clear ha25 ha2 so2 k4 hs4 hc4 na2
    rintro σ7 H7 ⟨b, oth', c7, rfl, k7, hs7, hc7, hb7, so2⟩
    have hst7 := k7 _ _ nstp hst5
    have ha17 := k7 _ _ na1p ha15
    have nbp : b ≠ p := fun e => by
      obtain ⟨g, sd, hp7, _⟩ := hs7
      rw [e] at hb7
      rw [hp7] at hb7
      cases oth' with
      | nil => cases hb7
      | cons x r => cases hb7
    have l1 : one.length ≤ 8 := Nat.le_trans so1.length_le (by omega)
    have l2 : oth'.length ≤ 8 := Nat.le_trans so2.length_le (by omega)
    have o1 : Oks one := fun z hz => oS z (so1.subset hz)
    have o2 : Oks oth' := fun z hz => oS z (so2.subset hz)
    have nd1 : one.Nodup := hN.1.sublist so1
    have nd2 : oth'.Nodup := hN.1.sublist so2
    walk_at "rd"
    -- first, second
    refine use_mixed hs7 (by show _ < 1000000000; omega) (sq_hid na1p ha17) (by omega) fun fst f c8 H8 k8 hs8 hc8 nf hf hlf hmf => ?_
    have nfp : f ≠ p := hs7.ne nf
    walk_at "rd"
    refine use_mixed hs8 (by show _ < 1000000000; omega) (sq_hid nbp (k8 _ _ nbp hb7)) (by omega) fun snd g c9 H9 k9 hs9 hc9 ng hg hlg hmg => ?_
    walk_at "rd"
    have hst9 := k9 _ _ nstp (k8 _ _ nstp hst7)
    have ha19 := k9 _ _ na1p (k8 _ _ na1p ha17)
    have hb9 := k9 _ _ nbp (k8 _ _ nbp hb7)
    have hf9 := k9 _ _ nfp hf
    have nstf : st ≠ f := ne_of_none hst7 nf
    have na1f : a1 ≠ f := ne_of_none ha17 nf
    have nbf : b ≠ f := ne_of_none hb7 nf
    have of : Oks fst := fun z hz => o1 z ((hmf z).1 hz)
    have og : Oks snd := fun z hz => o2 z ((hmg z).1 hz)
    -- kept = list(first)
    refine w_listL (SqL.of hf9) fun q nq => ?_
    walk_at "rd"
    have e10 := Same.new (o := .lst (fst.map V.str)) nq
    have hq10 : upd H9 q (.lst (fst.map V.str)) q = some (.lst (fst.map V.str)) := upd_same
    generalize upd H9 q (.lst (fst.map V.str)) = H10 at *
    -- left, right
    refine use_nsMake rfl (Coll.lst (e10 _ _ hf9)) of (by omega) fun x H11 s11 nx hx => ?_
    have e11 := e10.trans s11
    walk_at "rd"
    refine w_tupL (SqL.of (e11 _ _ hg)) fun t nt' => ?_
    walk_at "rd"
    refine use_nsMake rfl (Coll.tup upd_same) og (by omega) fun y H12 s12 ny hy => ?_
    have s12' := (Same.new nt').trans s12
    have e12 := e11.trans s12'
    have hx12 := hx.same s12'
    rw [nset_congr hmf] at hx12
    rw [nset_congr hmg] at hy
    walk_at "rd"
    refine w_neL (SqL.of (e12 _ _ hf9)) (SqL.of ((s11.trans s12') _ _ hq10)) of of ?_
    rw [decide_eq_true rfl]
    have hf12 := e12 _ _ hf9
    walk_at "rd"
    -- first.clear()
    have hst13 : upd H12 f (.lst []) st = some (.lst (stk.map V.str)) := by rw [upd_ne nstf]; exact e12 _ _ hst9
    have ha113 : upd H12 f (.lst []) a1 = some (.lst (one.map V.str)) := by rw [upd_ne na1f]; exact e12 _ _ ha19
    have hb13 : upd H12 f (.lst []) b = some (.lst (oth'.map V.str)) := by rw [upd_ne nbf]; exact e12 _ _ hb9
    have hx13 := hx12.mut (ws := []) (e12 _ _ hf9)
    have hy13 := hy.mut (ws := []) (e12 _ _ hf9)
    generalize upd H12 f (.lst []) = H13 at hst13 ha113 hb13 hx13 hy13 ⊢
    clear hf12 hx12 hy hx e12 e11 e10 s12 s12' s11 hq10 hf9 hst9 ha19 hb9 hs9 k9 hs8 k8 hs7 k7 hs5 k5 hs3 k3 hs2 k2 hst5 ha15 hst7 ha17 hb7 hg hf hst ha1
    walk_at "rd"
    -- again
    have hnl := nset_len one
    have hnl2 := nset_len oth'
    refine use_nsMake rfl (Coll.ns hx13) hx13.choose_spec.choose_spec.2.2 (by omega) fun z H14 s14 nz hz => ?_
    rw [nset_nset] at hz
    have st1 : srt one = nset one := srt_nset nd1
    have st2 : srt oth' = nset oth' := srt_nset nd2
    walk_at "rd"
    refine use_lawIs (hx13.same s14) (SqL.of (s14 _ _ ha113)) (by omega) o1 fun H15 s15 => ?_
    have e15 := s14.trans s15
    rw [decide_eq_true st1.symm]
    walk_at "rd"
    refine use_lawIs (hz.same s15) (SqL.of (e15 _ _ ha113)) (by omega) o1 fun H16 s16 => ?_
    have e16 := e15.trans s16
    have hz16 := hz.same (s15.trans s16)
    rw [decide_eq_true st1.symm]
    walk_at "rd"
    refine use_lawIs (hy13.same e16) (SqL.of (e16 _ _ hb13)) (by omega) o2 fun H17 s17 => ?_
    have e17 := e16.trans s17
    have hz17 := hz16.same s17
    rw [decide_eq_true st2.symm]
    walk_at "rd"
    have oN : Oks [] := fun z hz => nomatch hz
    refine use_nsMake (xs := []) rfl ⟨T0, rfl, .inr (.inl (hT0 _))⟩ oN (by decide) fun w1 H18 s18 nw1 hw1 => ?_
    have e18 := e17.trans s18
    walk_at "rd"
    intro p1 np1
    have e19 := e18.trans (Same.new (o := .lst []) np1)
    walk_at "rd"
    refine use_lawIs (xs := []) (hw1.same (Same.new np1)) (SqL.of upd_same) (by decide) oN fun H20 s20 => ?_
    have e20 := e19.trans s20
    have hz20 := hz17.same ((s18.trans (Same.new np1)).trans s20)
    rw [decide_eq_true (show nset [] = srt [] from rfl)]
    walk_at "rd"
    -- for name in stock + ..
    intro p2 np2
    have e21 := e20.trans (Same.new (o := .lst [V.str "", V.str "longername"]) np2)
    walk_at "rd"
    refine w_cat (e21 _ _ hst13) upd_same (by rw [PySem.sizeLine_eq, List.length_map]; show stk.length + 2 ≤ _; omega) fun p3 np3 => ?_
    have e22 := e21.trans (Same.new (o := .lst (stk.map V.str ++ [V.str "", V.str "longername"])) np3)
    have hz22 := hz20.same ((Same.new np2).trans (Same.new (o := .lst (stk.map V.str ++ [V.str "", V.str "longername"])) np3))
    have hall : stk.map V.str ++ [V.str "", V.str "longername"] = (stk ++ [Str.ofString "", Str.ofString "longername"]).map V.str := by simp
    rw [hall] at e22 hz22 ⊢
    have hp3 : upd (upd H20 p2 (.lst [V.str "", V.str "longername"])) p3 (.lst ((stk ++ [Str.ofString "", Str.ofString "longername"]).map V.str)) p3 = some (.lst ((stk ++ [Str.ofString "", Str.ofString "longername"]).map V.str)) := upd_same
    generalize upd (upd H20 p2 (.lst [V.str "", V.str "longername"])) p3 (.lst ((stk ++ [Str.ofString "", Str.ofString "longername"]).map V.str)) = H22 at *
    walk_at "rd"
    refine forb (walk_list (xs := (stk ++ [Str.ofString "", Str.ofString "longername"]).map V.str)) (fun i σ H' => ∃ v11 : Option V, σ = [some (.ref a), some (.ref p), some (.ref st), some (.ref a1), some (.ref b), some (.ref f), some (.ref g), some (.ref q), some (.ref x), some (.ref y), some (.ref z), v11] ∧ Same H22 H')
      ⟨_, rfl, Same.refl _⟩ (fun i σ H' _ ⟨_, _, e⟩ => SqL.of (e _ _ hp3)) ?_ ?_
    · rintro i v σ H23 H24 hi ⟨v11, rfl, e23⟩ ⟨rfl, hv⟩
      rw [List.getElem?_map] at hv
      cases hvi : (stk ++ [Str.ofString "", Str.ofString "longername"])[i]? with
      | none => rw [hvi] at hv; cases hv
      | some nm =>
        rw [hvi] at hv
        cases hv
        have e24 := e22.trans e23
        walk_at "rd"
        refine u_nsIn (hx13.same e24) ?_
        walk_at "rd"
        refine u_nsIn (hy13.same e24) ?_
        walk_at "rd"
        intro p4 np4
        have e25 := e24.trans (Same.new (o := .lst [V.bl (decide (nm ∈ nset one)), V.bl (decide (nm ∈ nset oth'))]) np4)
        walk_at "rd"
        refine w_inL (SqL.of (e25 _ _ ha113)) rfl (flat_strsM one) ?_
        rw [inV_strs]
        walk_at "rd"
        refine w_inL (SqL.of (e25 _ _ hb13)) rfl (flat_strsM oth') ?_
        rw [inV_strs]
        walk_at "rd"
        intro p5 np5
        walk_at "rd"
        refine use_truths (bs := [_, _]) (cs := [_, _]) ((Same.new np5).seq (SqL.of upd_same)) (SqL.of upd_same) (by show 2 ≤ 1000; decide) fun H26 s26 => ?_
        have d1 : ([decide (nm ∈ nset one), decide (nm ∈ nset oth')] : List Bool) = [decide (nm ∈ one), decide (nm ∈ oth')] := by
          have h1 : (nm ∈ nset one) = (nm ∈ one) := propext mem_nset
          have h2 : (nm ∈ nset oth') = (nm ∈ oth') := propext mem_nset
          simp only [h1, h2]
        rw [decide_eq_true d1]
        walk_at "rd"
        exact ⟨_, rfl, e23.trans (((Same.new np4).trans (Same.new np5)).trans s26)⟩
    · rintro σ H23 ⟨v11, rfl, e23⟩
      have e24 := e22.trans e23
      have hz24 := hz22.same e23
      walk_at "rd"
      refine u_nsLen (hx13.same e24) (by omega) ?_
      walk_at "rd"
      refine w_lenL (SqL.of (e24 _ _ ha113)) ?_
      walk_at "rd"
      rw [List.length_map, nset_len_nodup nd1, decide_eq_true rfl]
      walk_at "rd"
      intro p6 np6
      walk_at "rd"
      refine use_nsMake (xs := []) rfl ⟨p6, rfl, .inl (SqL.of upd_same)⟩ oN (by decide) fun w2 H27 s27 nw2 hw2 => ?_
      have e27 := e24.trans ((Same.new np6).trans s27)
      have hz27 := hz24.same ((Same.new np6).trans s27)
      walk_at "rd"
      refine u_nsLen hw2 (by rw [nset_nil]; decide) ?_
      rw [nset_nil]
      walk_at "rd"
      refine w_ifn (fun hne => absurd rfl hne) (fun _ => ?_)
      walk_at "rd"
      refine use_sorted (SqL.of (e27 _ _ ha113)) (by omega) fun t1 H28 s28 nt1 ht1 => ?_
      have e28 := e27.trans s28
      walk_at "rd"
      refine u_nsEqO (hx13.same e28) (tyx_t (SqT.of ht1)) nt kt ?_
      walk_at "rd"
      intro p7 np7
      have e29 := e28.trans (Same.new (o := .lst [V.bl false]) np7)
      walk_at "rd"
      intro p8 np8
      have e30 := e29.trans (Same.new (o := .lst [V.bl false]) np8)
      walk_at "rd"
      refine use_truths (bs := [_]) (cs := [_]) ((Same.new np8).seq (SqL.of upd_same)) (SqL.of upd_same) (by show 1 ≤ 1000; decide) fun H31 s31 => ?_
      have e31 := e30.trans s31
      have hz31 := hz27.same (s28.trans (((Same.new np7).trans (Same.new np8)).trans s31))
      rw [decide_eq_true rfl]
      walk_at "rd"
      -- the pairs
      refine use_pair (hx13.same e31) (hy13.same e31) (e31 _ _ ha113) (e31 _ _ hb13) so1 so2 hN.1 (by omega) oS fun H32 s32 => ?_
      have e32 := e31.trans s32
      walk_at "rd"
      refine use_pair (hy13.same e32) (hx13.same e32) (e32 _ _ hb13) (e32 _ _ ha113) so2 so1 hN.1 (by omega) oS fun H33 s33 => ?_
      have e33 := e32.trans s33
      have hz33 := hz31.same (s32.trans s33)
      walk_at "rd"
      refine use_pair (hx13.same e33) hz33 (e33 _ _ ha113) (e33 _ _ ha113) so1 so1 hN.1 (by omega) oS fun H34 s34 => ?_
      have e34 := e33.trans s34
      walk_at "rd"
      refine use_nsMake (xs := []) rfl ⟨T0, rfl, .inr (.inl (hT0 _))⟩ oN (by decide) fun w3 H35 s35 nw3 hw3 => ?_
      have e35 := e34.trans s35
      walk_at "rd"
      intro p9 np9
      have e36 := e35.trans (Same.new (o := .lst []) np9)
      walk_at "rd"
      refine use_pair (xs := []) (hw3.same (Same.new np9)) (hy13.same e36) upd_same (e36 _ _ hb13) (List.nil_sublist _) so2 hN.1 (by omega) oS fun H37 s37 => ?_
      have e37 := e36.trans s37
      walk_at "rd"
      refine use_lawIs (hx13.same e37) (SqL.of (e37 _ _ ha113)) (by omega) o1 fun H38 s38 => ?_
      rw [decide_eq_true st1.symm]
      exact k H38
end
end Mf
namespace Mf
open PySem L2
theorem all_mk {l : PySem.W.OpenLaw} {w : World} {K : PySem.W.Frag} {h : Heap} {mg : Str → Option Value} {fa : Addr} (X : K.In h) (G : h.Ns mainGlobals mg) (hfa : mg "law" = some (.ref fa))
    {C_NameSet : Addr}
    {f_source : Addr} {od_source an_source : Option Addr} {sl_source : Array (Option Value)} {oc_source kV_source dc_source pm_source cd_source ct_source : Value}
    {f_draw : Addr} {od_draw an_draw : Option Addr} {sl_draw : Array (Option Value)} {oc_draw kV_draw dc_draw pm_draw cd_draw ct_draw : Value}
    {f_NameSet___init__ : Addr} {od_NameSet___init__ an_NameSet___init__ : Option Addr} {sl_NameSet___init__ : Array (Option Value)} {oc_NameSet___init__ kV_NameSet___init__ dc_NameSet___init__ pm_NameSet___init__ cd_NameSet___init__ ct_NameSet___init__ : Value}
    {T_NameSet___init__ T0_NameSet___init__ : Addr} {td_NameSet___init__ d0_NameSet___init__ : Option Addr} {tc_NameSet___init__ : Value} {ts_NameSet___init__ s0_NameSet___init__ : Array (Option Value)} {n_NameSet___init__ n0_NameSet___init__ : Nat}
    {f_NameSet___contains__ : Addr} {od_NameSet___contains__ an_NameSet___contains__ : Option Addr} {sl_NameSet___contains__ : Array (Option Value)} {oc_NameSet___contains__ kV_NameSet___contains__ dc_NameSet___contains__ pm_NameSet___contains__ cd_NameSet___contains__ ct_NameSet___contains__ : Value}
    {f_NameSet___len__ : Addr} {od_NameSet___len__ an_NameSet___len__ : Option Addr} {sl_NameSet___len__ : Array (Option Value)} {oc_NameSet___len__ kV_NameSet___len__ dc_NameSet___len__ pm_NameSet___len__ cd_NameSet___len__ ct_NameSet___len__ : Value}
    {f_NameSet___eq__ : Addr} {od_NameSet___eq__ an_NameSet___eq__ : Option Addr} {sl_NameSet___eq__ : Array (Option Value)} {oc_NameSet___eq__ kV_NameSet___eq__ dc_NameSet___eq__ pm_NameSet___eq__ cd_NameSet___eq__ ct_NameSet___eq__ : Value}
    {f_NameSet___le__ : Addr} {od_NameSet___le__ an_NameSet___le__ : Option Addr} {sl_NameSet___le__ : Array (Option Value)} {oc_NameSet___le__ kV_NameSet___le__ dc_NameSet___le__ pm_NameSet___le__ cd_NameSet___le__ ct_NameSet___le__ : Value}
    {f_NameSet___lt__ : Addr} {od_NameSet___lt__ an_NameSet___lt__ : Option Addr} {sl_NameSet___lt__ : Array (Option Value)} {oc_NameSet___lt__ kV_NameSet___lt__ dc_NameSet___lt__ pm_NameSet___lt__ cd_NameSet___lt__ ct_NameSet___lt__ : Value}
    {f_NameSet___or__ : Addr} {od_NameSet___or__ an_NameSet___or__ : Option Addr} {sl_NameSet___or__ : Array (Option Value)} {oc_NameSet___or__ kV_NameSet___or__ dc_NameSet___or__ pm_NameSet___or__ cd_NameSet___or__ ct_NameSet___or__ : Value}
    {f_NameSet___and__ : Addr} {od_NameSet___and__ an_NameSet___and__ : Option Addr} {sl_NameSet___and__ : Array (Option Value)} {oc_NameSet___and__ kV_NameSet___and__ dc_NameSet___and__ pm_NameSet___and__ cd_NameSet___and__ ct_NameSet___and__ : Value}
    {f_NameSet___sub__ : Addr} {od_NameSet___sub__ an_NameSet___sub__ : Option Addr} {sl_NameSet___sub__ : Array (Option Value)} {oc_NameSet___sub__ kV_NameSet___sub__ dc_NameSet___sub__ pm_NameSet___sub__ cd_NameSet___sub__ ct_NameSet___sub__ : Value}
    {f_sorted : Addr} {od_sorted an_sorted : Option Addr} {sl_sorted : Array (Option Value)} {oc_sorted kV_sorted dc_sorted pm_sorted cd_sorted ct_sorted : Value}
    {f_truths : Addr} {od_truths an_truths : Option Addr} {sl_truths : Array (Option Value)} {oc_truths kV_truths dc_truths pm_truths cd_truths ct_truths : Value}
    {f_mixed : Addr} {od_mixed an_mixed : Option Addr} {sl_mixed : Array (Option Value)} {oc_mixed kV_mixed dc_mixed pm_mixed cd_mixed ct_mixed : Value}
    {f_is : Addr} {od_is an_is : Option Addr} {sl_is : Array (Option Value)} {oc_is kV_is dc_is pm_is cd_is ct_is : Value}
    {f_pair : Addr} {od_pair an_pair : Option Addr} {sl_pair : Array (Option Value)} {oc_pair kV_pair dc_pair pm_pair cd_pair ct_pair : Value}
    {f_name : Addr} {od_name an_name : Option Addr} {sl_name : Array (Option Value)} {oc_name kV_name dc_name pm_name cd_name ct_name : Value}
    {f_names : Addr} {od_names an_names : Option Addr} {sl_names : Array (Option Value)} {oc_names kV_names dc_names pm_names cd_names ct_names : Value}
    {f_subset : Addr} {od_subset an_subset : Option Addr} {sl_subset : Array (Option Value)} {oc_subset kV_subset dc_subset pm_subset cd_subset ct_subset : Value}
    {f_law : Addr} {od_law an_law : Option Addr} {sl_law : Array (Option Value)} {oc_law kV_law dc_law pm_law cd_law ct_law : Value}
    (z_all : PySem.W.nsIn K mainGlobals "all" = some none)
    (z_bool : PySem.W.nsIn K mainGlobals "bool" = some none)
    (z_enumerate : PySem.W.nsIn K mainGlobals "enumerate" = some none)
    (z_int : PySem.W.nsIn K mainGlobals "int" = some none)
    (z_isinstance : PySem.W.nsIn K mainGlobals "isinstance" = some none)
    (z_len : PySem.W.nsIn K mainGlobals "len" = some none)
    (z_list : PySem.W.nsIn K mainGlobals "list" = some none)
    (z_range : PySem.W.nsIn K mainGlobals "range" = some none)
    (z_sorted : PySem.W.nsIn K mainGlobals "sorted" = some none)
    (z_str : PySem.W.nsIn K mainGlobals "str" = some none)
    (z_tuple : PySem.W.nsIn K mainGlobals "tuple" = some none)
    (cA_NameSet : PySem.W.nsIn K mainGlobals "NameSet" = some (some (.ref C_NameSet)))
    (pg_NameSet : PySem.W.plainGet K C_NameSet Str.empty = true)
    (hd_NameSet : PySem.W.hasDictIn K C_NameSet = true)
    (po_NameSet : PySem.W.plainOver K C_NameSet = true)
    (sa_NameSet : PySem.W.findIn K (.ref C_NameSet) "__setattr__" = some (some (.builtin "object.__setattr__")))
    (ha_NameSet : PySem.W.findIn K (.ref C_NameSet) "__class__" = some (some (.builtin "object.__class__")))
    (hn_NameSet : PySem.W.specialIn K (.builtin "object.__class__") "__get__" = some (some (.builtin "getset_descriptor.__get__")))
    (ht_NameSet : PySem.W.takesIn K (.builtin "object.__class__") = some true)
    (hm_NameSet : PySem.W.mroIn K C_NameSet (.type "object") = some true)
    (sf_NameSet : PySem.W.selfFirst K C_NameSet = true)
    (ne_NameSet : PySem.W.findIn K (.ref C_NameSet) "__ne__" = some (some (.builtin "object.__ne__")))
    (nM : PySem.W.findIn K (.ref C_NameSet) "members" = some none)
    (ci : PySem.W.isClsIn K C_NameSet = true)
    (ty : PySem.W.typeIn K (.ref C_NameSet) = some (.type "type"))
    (nl : PySem.W.notFirst K C_NameSet (.type "list") = true)
    (nt : PySem.W.notFirst K C_NameSet (.type "tuple") = true)
    (a_source : PySem.W.nsIn K mainGlobals "_law_source" = some (some (.ref f_source)))
    (l_source : K.lookup f_source = some ⟨oc_source, od_source, .func (PySem.W.fnOf "_law_source" "_law_source" (defArgs s_source) (defBody s_source) (defScope s_source) .none kV_source dc_source pm_source an_source cd_source ct_source), sl_source⟩)
    (c_source : PySem.W.codeIn K cd_source "_law_source" = true)
    (k_source : PySem.W.keepIn K (.ref f_source) = true)
    (a_draw : PySem.W.nsIn K mainGlobals "_law_draw" = some (some (.ref f_draw)))
    (l_draw : K.lookup f_draw = some ⟨oc_draw, od_draw, .func (PySem.W.fnOf "_law_draw" "_law_draw" (defArgs s_draw) (defBody s_draw) (defScope s_draw) .none kV_draw dc_draw pm_draw an_draw cd_draw ct_draw), sl_draw⟩)
    (c_draw : PySem.W.codeIn K cd_draw "_law_draw" = true)
    (k_draw : PySem.W.keepIn K (.ref f_draw) = true)
    (a_NameSet___init__ : PySem.W.findIn K (.ref C_NameSet) "__init__" = some (some (.ref f_NameSet___init__)))
    (i_NameSet___init__ : PySem.W.isFn K (.ref f_NameSet___init__) = true)
    (l_NameSet___init__ : K.lookup f_NameSet___init__ = some ⟨oc_NameSet___init__, od_NameSet___init__, .func (PySem.W.fnOf "__init__" "NameSet.__init__" (defArgs s_NameSet___init__) (defBody s_NameSet___init__) (defScope s_NameSet___init__) (.ref T_NameSet___init__) kV_NameSet___init__ dc_NameSet___init__ pm_NameSet___init__ an_NameSet___init__ cd_NameSet___init__ ct_NameSet___init__), sl_NameSet___init__⟩)
    (c_NameSet___init__ : PySem.W.codeIn K cd_NameSet___init__ "NameSet.__init__" = true)
    (k_NameSet___init__ : PySem.W.keepIn K (.ref f_NameSet___init__) = true)
    (t_NameSet___init__ : K.lookup T_NameSet___init__ = some ⟨tc_NameSet___init__, td_NameSet___init__, .seq [Value.ref T0_NameSet___init__].toArray n_NameSet___init__, ts_NameSet___init__⟩)
    (u_NameSet___init__ : K.lookup T0_NameSet___init__ = some ⟨.type "tuple", d0_NameSet___init__, .seq #[] n0_NameSet___init__, s0_NameSet___init__⟩)
    (mk_NameSet___init__ : PySem.W.makesIn K C_NameSet = true)
    (kc_NameSet___init__ : PySem.W.keepIn K (.ref C_NameSet) = true)
    (a_NameSet___contains__ : PySem.W.findIn K (.ref C_NameSet) "__contains__" = some (some (.ref f_NameSet___contains__)))
    (i_NameSet___contains__ : PySem.W.isFn K (.ref f_NameSet___contains__) = true)
    (l_NameSet___contains__ : K.lookup f_NameSet___contains__ = some ⟨oc_NameSet___contains__, od_NameSet___contains__, .func (PySem.W.fnOf "__contains__" "NameSet.__contains__" (defArgs s_NameSet___contains__) (defBody s_NameSet___contains__) (defScope s_NameSet___contains__) .none kV_NameSet___contains__ dc_NameSet___contains__ pm_NameSet___contains__ an_NameSet___contains__ cd_NameSet___contains__ ct_NameSet___contains__), sl_NameSet___contains__⟩)
    (c_NameSet___contains__ : PySem.W.codeIn K cd_NameSet___contains__ "NameSet.__contains__" = true)
    (k_NameSet___contains__ : PySem.W.keepIn K (.ref f_NameSet___contains__) = true)
    (a_NameSet___len__ : PySem.W.findIn K (.ref C_NameSet) "__len__" = some (some (.ref f_NameSet___len__)))
    (i_NameSet___len__ : PySem.W.isFn K (.ref f_NameSet___len__) = true)
    (l_NameSet___len__ : K.lookup f_NameSet___len__ = some ⟨oc_NameSet___len__, od_NameSet___len__, .func (PySem.W.fnOf "__len__" "NameSet.__len__" (defArgs s_NameSet___len__) (defBody s_NameSet___len__) (defScope s_NameSet___len__) .none kV_NameSet___len__ dc_NameSet___len__ pm_NameSet___len__ an_NameSet___len__ cd_NameSet___len__ ct_NameSet___len__), sl_NameSet___len__⟩)
    (c_NameSet___len__ : PySem.W.codeIn K cd_NameSet___len__ "NameSet.__len__" = true)
    (k_NameSet___len__ : PySem.W.keepIn K (.ref f_NameSet___len__) = true)
    (a_NameSet___eq__ : PySem.W.findIn K (.ref C_NameSet) "__eq__" = some (some (.ref f_NameSet___eq__)))
    (i_NameSet___eq__ : PySem.W.isFn K (.ref f_NameSet___eq__) = true)
    (l_NameSet___eq__ : K.lookup f_NameSet___eq__ = some ⟨oc_NameSet___eq__, od_NameSet___eq__, .func (PySem.W.fnOf "__eq__" "NameSet.__eq__" (defArgs s_NameSet___eq__) (defBody s_NameSet___eq__) (defScope s_NameSet___eq__) .none kV_NameSet___eq__ dc_NameSet___eq__ pm_NameSet___eq__ an_NameSet___eq__ cd_NameSet___eq__ ct_NameSet___eq__), sl_NameSet___eq__⟩)
    (c_NameSet___eq__ : PySem.W.codeIn K cd_NameSet___eq__ "NameSet.__eq__" = true)
    (k_NameSet___eq__ : PySem.W.keepIn K (.ref f_NameSet___eq__) = true)
    (a_NameSet___le__ : PySem.W.findIn K (.ref C_NameSet) "__le__" = some (some (.ref f_NameSet___le__)))
    (i_NameSet___le__ : PySem.W.isFn K (.ref f_NameSet___le__) = true)
    (l_NameSet___le__ : K.lookup f_NameSet___le__ = some ⟨oc_NameSet___le__, od_NameSet___le__, .func (PySem.W.fnOf "__le__" "NameSet.__le__" (defArgs s_NameSet___le__) (defBody s_NameSet___le__) (defScope s_NameSet___le__) .none kV_NameSet___le__ dc_NameSet___le__ pm_NameSet___le__ an_NameSet___le__ cd_NameSet___le__ ct_NameSet___le__), sl_NameSet___le__⟩)
    (c_NameSet___le__ : PySem.W.codeIn K cd_NameSet___le__ "NameSet.__le__" = true)
    (k_NameSet___le__ : PySem.W.keepIn K (.ref f_NameSet___le__) = true)
    (a_NameSet___lt__ : PySem.W.findIn K (.ref C_NameSet) "__lt__" = some (some (.ref f_NameSet___lt__)))
    (i_NameSet___lt__ : PySem.W.isFn K (.ref f_NameSet___lt__) = true)
    (l_NameSet___lt__ : K.lookup f_NameSet___lt__ = some ⟨oc_NameSet___lt__, od_NameSet___lt__, .func (PySem.W.fnOf "__lt__" "NameSet.__lt__" (defArgs s_NameSet___lt__) (defBody s_NameSet___lt__) (defScope s_NameSet___lt__) .none kV_NameSet___lt__ dc_NameSet___lt__ pm_NameSet___lt__ an_NameSet___lt__ cd_NameSet___lt__ ct_NameSet___lt__), sl_NameSet___lt__⟩)
    (c_NameSet___lt__ : PySem.W.codeIn K cd_NameSet___lt__ "NameSet.__lt__" = true)
    (k_NameSet___lt__ : PySem.W.keepIn K (.ref f_NameSet___lt__) = true)
    (a_NameSet___or__ : PySem.W.findIn K (.ref C_NameSet) "__or__" = some (some (.ref f_NameSet___or__)))
    (i_NameSet___or__ : PySem.W.isFn K (.ref f_NameSet___or__) = true)
    (l_NameSet___or__ : K.lookup f_NameSet___or__ = some ⟨oc_NameSet___or__, od_NameSet___or__, .func (PySem.W.fnOf "__or__" "NameSet.__or__" (defArgs s_NameSet___or__) (defBody s_NameSet___or__) (defScope s_NameSet___or__) .none kV_NameSet___or__ dc_NameSet___or__ pm_NameSet___or__ an_NameSet___or__ cd_NameSet___or__ ct_NameSet___or__), sl_NameSet___or__⟩)
    (c_NameSet___or__ : PySem.W.codeIn K cd_NameSet___or__ "NameSet.__or__" = true)
    (k_NameSet___or__ : PySem.W.keepIn K (.ref f_NameSet___or__) = true)
    (a_NameSet___and__ : PySem.W.findIn K (.ref C_NameSet) "__and__" = some (some (.ref f_NameSet___and__)))
    (i_NameSet___and__ : PySem.W.isFn K (.ref f_NameSet___and__) = true)
    (l_NameSet___and__ : K.lookup f_NameSet___and__ = some ⟨oc_NameSet___and__, od_NameSet___and__, .func (PySem.W.fnOf "__and__" "NameSet.__and__" (defArgs s_NameSet___and__) (defBody s_NameSet___and__) (defScope s_NameSet___and__) .none kV_NameSet___and__ dc_NameSet___and__ pm_NameSet___and__ an_NameSet___and__ cd_NameSet___and__ ct_NameSet___and__), sl_NameSet___and__⟩)
    (c_NameSet___and__ : PySem.W.codeIn K cd_NameSet___and__ "NameSet.__and__" = true)
    (k_NameSet___and__ : PySem.W.keepIn K (.ref f_NameSet___and__) = true)
    (a_NameSet___sub__ : PySem.W.findIn K (.ref C_NameSet) "__sub__" = some (some (.ref f_NameSet___sub__)))
    (i_NameSet___sub__ : PySem.W.isFn K (.ref f_NameSet___sub__) = true)
    (l_NameSet___sub__ : K.lookup f_NameSet___sub__ = some ⟨oc_NameSet___sub__, od_NameSet___sub__, .func (PySem.W.fnOf "__sub__" "NameSet.__sub__" (defArgs s_NameSet___sub__) (defBody s_NameSet___sub__) (defScope s_NameSet___sub__) .none kV_NameSet___sub__ dc_NameSet___sub__ pm_NameSet___sub__ an_NameSet___sub__ cd_NameSet___sub__ ct_NameSet___sub__), sl_NameSet___sub__⟩)
    (c_NameSet___sub__ : PySem.W.codeIn K cd_NameSet___sub__ "NameSet.__sub__" = true)
    (k_NameSet___sub__ : PySem.W.keepIn K (.ref f_NameSet___sub__) = true)
    (a_sorted : PySem.W.nsIn K mainGlobals "_law_sorted" = some (some (.ref f_sorted)))
    (l_sorted : K.lookup f_sorted = some ⟨oc_sorted, od_sorted, .func (PySem.W.fnOf "_law_sorted" "_law_sorted" (defArgs s_sorted) (defBody s_sorted) (defScope s_sorted) .none kV_sorted dc_sorted pm_sorted an_sorted cd_sorted ct_sorted), sl_sorted⟩)
    (c_sorted : PySem.W.codeIn K cd_sorted "_law_sorted" = true)
    (k_sorted : PySem.W.keepIn K (.ref f_sorted) = true)
    (a_truths : PySem.W.nsIn K mainGlobals "_law_truths" = some (some (.ref f_truths)))
    (l_truths : K.lookup f_truths = some ⟨oc_truths, od_truths, .func (PySem.W.fnOf "_law_truths" "_law_truths" (defArgs s_truths) (defBody s_truths) (defScope s_truths) .none kV_truths dc_truths pm_truths an_truths cd_truths ct_truths), sl_truths⟩)
    (c_truths : PySem.W.codeIn K cd_truths "_law_truths" = true)
    (k_truths : PySem.W.keepIn K (.ref f_truths) = true)
    (a_mixed : PySem.W.nsIn K mainGlobals "_law_mixed" = some (some (.ref f_mixed)))
    (l_mixed : K.lookup f_mixed = some ⟨oc_mixed, od_mixed, .func (PySem.W.fnOf "_law_mixed" "_law_mixed" (defArgs s_mixed) (defBody s_mixed) (defScope s_mixed) .none kV_mixed dc_mixed pm_mixed an_mixed cd_mixed ct_mixed), sl_mixed⟩)
    (c_mixed : PySem.W.codeIn K cd_mixed "_law_mixed" = true)
    (k_mixed : PySem.W.keepIn K (.ref f_mixed) = true)
    (a_is : PySem.W.nsIn K mainGlobals "_law_is" = some (some (.ref f_is)))
    (l_is : K.lookup f_is = some ⟨oc_is, od_is, .func (PySem.W.fnOf "_law_is" "_law_is" (defArgs s_is) (defBody s_is) (defScope s_is) .none kV_is dc_is pm_is an_is cd_is ct_is), sl_is⟩)
    (c_is : PySem.W.codeIn K cd_is "_law_is" = true)
    (k_is : PySem.W.keepIn K (.ref f_is) = true)
    (a_pair : PySem.W.nsIn K mainGlobals "_law_pair" = some (some (.ref f_pair)))
    (l_pair : K.lookup f_pair = some ⟨oc_pair, od_pair, .func (PySem.W.fnOf "_law_pair" "_law_pair" (defArgs s_pair) (defBody s_pair) (defScope s_pair) .none kV_pair dc_pair pm_pair an_pair cd_pair ct_pair), sl_pair⟩)
    (c_pair : PySem.W.codeIn K cd_pair "_law_pair" = true)
    (k_pair : PySem.W.keepIn K (.ref f_pair) = true)
    (a_name : PySem.W.nsIn K mainGlobals "_law_name" = some (some (.ref f_name)))
    (l_name : K.lookup f_name = some ⟨oc_name, od_name, .func (PySem.W.fnOf "_law_name" "_law_name" (defArgs s_name) (defBody s_name) (defScope s_name) .none kV_name dc_name pm_name an_name cd_name ct_name), sl_name⟩)
    (c_name : PySem.W.codeIn K cd_name "_law_name" = true)
    (k_name : PySem.W.keepIn K (.ref f_name) = true)
    (a_names : PySem.W.nsIn K mainGlobals "_law_names" = some (some (.ref f_names)))
    (l_names : K.lookup f_names = some ⟨oc_names, od_names, .func (PySem.W.fnOf "_law_names" "_law_names" (defArgs s_names) (defBody s_names) (defScope s_names) .none kV_names dc_names pm_names an_names cd_names ct_names), sl_names⟩)
    (c_names : PySem.W.codeIn K cd_names "_law_names" = true)
    (k_names : PySem.W.keepIn K (.ref f_names) = true)
    (a_subset : PySem.W.nsIn K mainGlobals "_law_subset" = some (some (.ref f_subset)))
    (l_subset : K.lookup f_subset = some ⟨oc_subset, od_subset, .func (PySem.W.fnOf "_law_subset" "_law_subset" (defArgs s_subset) (defBody s_subset) (defScope s_subset) .none kV_subset dc_subset pm_subset an_subset cd_subset ct_subset), sl_subset⟩)
    (c_subset : PySem.W.codeIn K cd_subset "_law_subset" = true)
    (k_subset : PySem.W.keepIn K (.ref f_subset) = true)
    (a_law : PySem.W.nsIn K mainGlobals "law" = some (some (.ref f_law)))
    (l_law : K.lookup f_law = some ⟨oc_law, od_law, .func (PySem.W.fnOf "law" "law" (defArgs s_law) (defBody s_law) (defScope s_law) .none kV_law dc_law pm_law an_law cd_law ct_law), sl_law⟩)
    (c_law : PySem.W.codeIn K cd_law "law" = true)
    (k_law : PySem.W.keepIn K (.ref f_law) = true)
    : ∃ fd : FuncData, (∀ (s : Shared) (u : Value), BindsTo s fd ⟨[u], []⟩ [("_law_script", u)]) ∧ ∀ base : Heap, K.In base → base.Ns mainGlobals mg → FnOk l.prog w K mg base CX0 6 fa fd ["_law_script"] (sp_law K) := by
  have b_all := PySem.W.mg_none_of X G z_all
  have b_bool := PySem.W.mg_none_of X G z_bool
  have b_enumerate := PySem.W.mg_none_of X G z_enumerate
  have b_int := PySem.W.mg_none_of X G z_int
  have b_isinstance := PySem.W.mg_none_of X G z_isinstance
  have b_len := PySem.W.mg_none_of X G z_len
  have b_list := PySem.W.mg_none_of X G z_list
  have b_range := PySem.W.mg_none_of X G z_range
  have b_sorted := PySem.W.mg_none_of X G z_sorted
  have b_str := PySem.W.mg_none_of X G z_str
  have b_tuple := PySem.W.mg_none_of X G z_tuple
  have T_NameSet : ClsF K mg "NameSet" C_NameSet := clsF_mk X G cA_NameSet pg_NameSet hd_NameSet po_NameSet sa_NameSet ha_NameSet hn_NameSet ht_NameSet hm_NameSet sf_NameSet ne_NameSet
  have A_source : DefAt K mg "_law_source" s_source ["_law_script"] := defAt_mk X G a_source l_source c_source k_source (fun _ _ _ _ _ _ us hl => match us, hl with | [_], _ => rfl)
  have A_draw : DefAt K mg "_law_draw" s_draw ["_law_source_here", "_law_many"] := defAt_mk X G a_draw l_draw c_draw k_draw (fun _ _ _ _ _ _ us hl => match us, hl with | [_, _], _ => rfl)
  have A_NameSet___init__ := funD_mk (st := s_NameSet___init__) l_NameSet___init__ c_NameSet___init__ k_NameSet___init__ t_NameSet___init__
  have M_NameSet : Mk K C_NameSet f_NameSet___init__ := ⟨mk_NameSet___init__, a_NameSet___init__, i_NameSet___init__, kc_NameSet___init__⟩
  have hT0 : ∀ H, SqT K H T0_NameSet___init__ [] := unitT u_NameSet___init__
  have A_NameSet___contains__ : MethAt K C_NameSet "__contains__" "NameSet.__contains__" s_NameSet___contains__ ["self", "name"] := methAt_mk a_NameSet___contains__ i_NameSet___contains__ l_NameSet___contains__ c_NameSet___contains__ k_NameSet___contains__ (fun _ _ _ _ _ _ us hl => match us, hl with | [_, _], _ => rfl)
  have A_NameSet___len__ : MethAt K C_NameSet "__len__" "NameSet.__len__" s_NameSet___len__ ["self"] := methAt_mk a_NameSet___len__ i_NameSet___len__ l_NameSet___len__ c_NameSet___len__ k_NameSet___len__ (fun _ _ _ _ _ _ us hl => match us, hl with | [_], _ => rfl)
  have A_NameSet___eq__ : MethAt K C_NameSet "__eq__" "NameSet.__eq__" s_NameSet___eq__ ["self", "other"] := methAt_mk a_NameSet___eq__ i_NameSet___eq__ l_NameSet___eq__ c_NameSet___eq__ k_NameSet___eq__ (fun _ _ _ _ _ _ us hl => match us, hl with | [_, _], _ => rfl)
  have A_NameSet___le__ : MethAt K C_NameSet "__le__" "NameSet.__le__" s_NameSet___le__ ["self", "other"] := methAt_mk a_NameSet___le__ i_NameSet___le__ l_NameSet___le__ c_NameSet___le__ k_NameSet___le__ (fun _ _ _ _ _ _ us hl => match us, hl with | [_, _], _ => rfl)
  have A_NameSet___lt__ : MethAt K C_NameSet "__lt__" "NameSet.__lt__" s_NameSet___lt__ ["self", "other"] := methAt_mk a_NameSet___lt__ i_NameSet___lt__ l_NameSet___lt__ c_NameSet___lt__ k_NameSet___lt__ (fun _ _ _ _ _ _ us hl => match us, hl with | [_, _], _ => rfl)
  have A_NameSet___or__ : MethAt K C_NameSet "__or__" "NameSet.__or__" s_NameSet___or__ ["self", "other"] := methAt_mk a_NameSet___or__ i_NameSet___or__ l_NameSet___or__ c_NameSet___or__ k_NameSet___or__ (fun _ _ _ _ _ _ us hl => match us, hl with | [_, _], _ => rfl)
  have A_NameSet___and__ : MethAt K C_NameSet "__and__" "NameSet.__and__" s_NameSet___and__ ["self", "other"] := methAt_mk a_NameSet___and__ i_NameSet___and__ l_NameSet___and__ c_NameSet___and__ k_NameSet___and__ (fun _ _ _ _ _ _ us hl => match us, hl with | [_, _], _ => rfl)
  have A_NameSet___sub__ : MethAt K C_NameSet "__sub__" "NameSet.__sub__" s_NameSet___sub__ ["self", "other"] := methAt_mk a_NameSet___sub__ i_NameSet___sub__ l_NameSet___sub__ c_NameSet___sub__ k_NameSet___sub__ (fun _ _ _ _ _ _ us hl => match us, hl with | [_, _], _ => rfl)
  have A_sorted : DefAt K mg "_law_sorted" s_sorted ["_law_names_here"] := defAt_mk X G a_sorted l_sorted c_sorted k_sorted (fun _ _ _ _ _ _ us hl => match us, hl with | [_], _ => rfl)
  have A_truths : DefAt K mg "_law_truths" s_truths ["_law_found", "_law_due"] := defAt_mk X G a_truths l_truths c_truths k_truths (fun _ _ _ _ _ _ us hl => match us, hl with | [_, _], _ => rfl)
  have A_mixed : DefAt K mg "_law_mixed" s_mixed ["_law_source_here", "_law_row"] := defAt_mk X G a_mixed l_mixed c_mixed k_mixed (fun _ _ _ _ _ _ us hl => match us, hl with | [_, _], _ => rfl)
  have A_is : DefAt K mg "_law_is" s_is ["_law_found", "_law_due"] := defAt_mk X G a_is l_is c_is k_is (fun _ _ _ _ _ _ us hl => match us, hl with | [_, _], _ => rfl)
  have A_pair : DefAt K mg "_law_pair" s_pair ["_law_left", "_law_right", "_law_one", "_law_other"] := defAt_mk X G a_pair l_pair c_pair k_pair (fun _ _ _ _ _ _ us hl => match us, hl with | [_, _, _, _], _ => rfl)
  have A_name : DefAt K mg "_law_name" s_name ["_law_source_here", "_law_taken"] := defAt_mk X G a_name l_name c_name k_name (fun _ _ _ _ _ _ us hl => match us, hl with | [_, _], _ => rfl)
  have A_names : DefAt K mg "_law_names" s_names ["_law_source_here", "_law_many"] := defAt_mk X G a_names l_names c_names k_names (fun _ _ _ _ _ _ us hl => match us, hl with | [_, _], _ => rfl)
  have A_subset : DefAt K mg "_law_subset" s_subset ["_law_source_here", "_law_row"] := defAt_mk X G a_subset l_subset c_subset k_subset (fun _ _ _ _ _ _ us hl => match us, hl with | [_, _], _ => rfl)
  have F_law := fun_mk (st := s_law) l_law c_law k_law
  have efa := hfa.symm.trans (PySem.W.mg_of X G a_law)
  cases efa
  refine ⟨_, law_binds (p := "_law_script") F_law (fun _ _ _ _ _ _ _ => rfl), fun base _ _ => ?_⟩
  have D_source := ok_source (P := l.prog) (w := w) (base := base) A_source b_enumerate b_int 
  have D_draw := ok_draw (P := l.prog) (w := w) (base := base) A_draw b_int 
  have G_NameSet := ok_NameSet___init__ (P := l.prog) (w := w) (base := base) A_NameSet___init__ T_NameSet b_isinstance b_sorted b_str b_tuple nM (kit_no ci ty nl) (kit_no ci ty nt)
  obtain ⟨ds2, v2, b2⟩ := A_NameSet___init__.binds1 (ps := ["self", "names"]) 2 1 (by simp) rfl (fun T kV doc pm an cdv ct us its h1 h2 => match us, h1, its, h2 with | [_, _], _, [_], _ => ⟨_, rfl, rfl⟩)
  obtain ⟨ds1, v1, b1⟩ := A_NameSet___init__.binds1 (ps := ["self", "names"]) 1 0 (by simp) rfl (fun T kV doc pm an cdv ct us its h1 h2 => match us, h1, its, h2 with | [_], _, [_], _ => ⟨_, rfl, rfl⟩)
  have D_NameSet : MkDoes l.prog w K mg base CX0 1 "NameSet" C_NameSet ["self", "names"] [] (sp_nsInit K C_NameSet) := ⟨_, _, ds2, M_NameSet, G_NameSet, b2, v2, T_NameSet.g⟩
  have D_NameSet0 : MkDoes l.prog w K mg base CX0 1 "NameSet" C_NameSet ["self", "names"] [.ref T0_NameSet___init__] (sp_nsInit K C_NameSet) := ⟨_, _, ds1, M_NameSet, G_NameSet, b1, v1, T_NameSet.g⟩
  have D_NameSet_contains := ok_NameSet___contains__ (P := l.prog) (w := w) (base := base) A_NameSet___contains__ T_NameSet nM
  have D_NameSet_len := ok_NameSet___len__ (P := l.prog) (w := w) (base := base) A_NameSet___len__ T_NameSet b_len nM
  have D_NameSet_eq := ok_NameSet___eq__ (P := l.prog) (w := w) (base := base) A_NameSet___eq__ T_NameSet b_isinstance nM
  have D_NameSet_le := ok_NameSet___le__ (P := l.prog) (w := w) (base := base) A_NameSet___le__ T_NameSet b_all nM
  have D_NameSet_lt := ok_NameSet___lt__ (P := l.prog) (w := w) (base := base) A_NameSet___lt__ T_NameSet b_all b_len nM
  have D_NameSet_or := ok_NameSet___or__ (P := l.prog) (w := w) (base := base) A_NameSet___or__ T_NameSet D_NameSet nM
  have D_NameSet_and := ok_NameSet___and__ (P := l.prog) (w := w) (base := base) A_NameSet___and__ T_NameSet D_NameSet nM
  have D_NameSet_sub := ok_NameSet___sub__ (P := l.prog) (w := w) (base := base) A_NameSet___sub__ T_NameSet D_NameSet nM
  have D_sorted := ok_sorted (P := l.prog) (w := w) (base := base) A_sorted b_sorted b_str b_tuple 
  have D_truths := ok_truths (P := l.prog) (w := w) (base := base) A_truths b_all b_bool b_isinstance 
  have D_mixed := ok_mixed (P := l.prog) (w := w) (base := base) A_mixed b_len b_range D_draw 
  have D_is := ok_is (P := l.prog) (w := w) (base := base) A_is T_NameSet b_isinstance b_tuple D_sorted nM
  have D_pair := ok_pair (P := l.prog) (w := w) (base := base) A_pair T_NameSet b_all b_len D_truths D_sorted D_is D_NameSet_le D_NameSet_lt D_NameSet_eq D_NameSet_and D_NameSet_sub D_NameSet_or 
  have D_name := ok_name (P := l.prog) (w := w) (base := base) A_name b_range D_draw 
  have D_names := ok_names (P := l.prog) (w := w) (base := base) A_names b_list b_range D_name 
  have D_subset := ok_subset (P := l.prog) (w := w) (base := base) A_subset D_draw 
  exact ok_law (P := l.prog) (w := w) (base := base) F_law T_NameSet b_len b_list b_tuple D_source D_names D_subset D_draw D_mixed D_is D_truths D_sorted D_pair D_NameSet hT0 D_NameSet0 D_NameSet_contains D_NameSet_len D_NameSet_eq nM (kit_no ci ty nt) nt
end Mf
open PySem PySem.W PyProof.Rows
set_option maxRecDepth 100000 in
set_option maxHeartbeats 0 in
theorem PySem.Challenge.cw_midfall_k01_name_sets_holds : PySem.Challenge.rw_midfall_k01_name_sets.Holds := by
  w_on; o_law; k_head; (case hw => w_witness2)
  k_fill
  refine Mf.walkL (l := PySem.Challenge.rw_midfall_k01_name_sets) (lv := 6) (x := "_law_script") rfl rfl ⟨rfl, by decide, by decide⟩ (fun w h Y => PySem.W.kIn_of Y) ?F
  case F =>
    intro w mg fa h KX G hmg
    refine' Mf.all_mk KX G hmg ?z_all ?z_bool ?z_enumerate ?z_int ?z_isinstance ?z_len ?z_list ?z_range ?z_sorted ?z_str ?z_tuple ?cA_NameSet ?pg_NameSet ?hd_NameSet ?po_NameSet ?sa_NameSet ?ha_NameSet ?hn_NameSet ?ht_NameSet ?hm_NameSet ?sf_NameSet ?ne_NameSet ?nM ?ci ?ty ?nl ?nt ?a_source ?l_source ?c_source ?k_source ?a_draw ?l_draw ?c_draw ?k_draw ?a_NameSet___init__ ?i_NameSet___init__ ?l_NameSet___init__ ?c_NameSet___init__ ?k_NameSet___init__ ?t_NameSet___init__ ?u_NameSet___init__ ?mk_NameSet___init__ ?kc_NameSet___init__ ?a_NameSet___contains__ ?i_NameSet___contains__ ?l_NameSet___contains__ ?c_NameSet___contains__ ?k_NameSet___contains__ ?a_NameSet___len__ ?i_NameSet___len__ ?l_NameSet___len__ ?c_NameSet___len__ ?k_NameSet___len__ ?a_NameSet___eq__ ?i_NameSet___eq__ ?l_NameSet___eq__ ?c_NameSet___eq__ ?k_NameSet___eq__ ?a_NameSet___le__ ?i_NameSet___le__ ?l_NameSet___le__ ?c_NameSet___le__ ?k_NameSet___le__ ?a_NameSet___lt__ ?i_NameSet___lt__ ?l_NameSet___lt__ ?c_NameSet___lt__ ?k_NameSet___lt__ ?a_NameSet___or__ ?i_NameSet___or__ ?l_NameSet___or__ ?c_NameSet___or__ ?k_NameSet___or__ ?a_NameSet___and__ ?i_NameSet___and__ ?l_NameSet___and__ ?c_NameSet___and__ ?k_NameSet___and__ ?a_NameSet___sub__ ?i_NameSet___sub__ ?l_NameSet___sub__ ?c_NameSet___sub__ ?k_NameSet___sub__ ?a_sorted ?l_sorted ?c_sorted ?k_sorted ?a_truths ?l_truths ?c_truths ?k_truths ?a_mixed ?l_mixed ?c_mixed ?k_mixed ?a_is ?l_is ?c_is ?k_is ?a_pair ?l_pair ?c_pair ?k_pair ?a_name ?l_name ?c_name ?k_name ?a_names ?l_names ?c_names ?k_names ?a_subset ?l_subset ?c_subset ?k_subset ?a_law ?l_law ?c_law ?k_law
    (case z_all => k_is)
    (case z_bool => k_is)
    (case z_enumerate => k_is)
    (case z_int => k_is)
    (case z_isinstance => k_is)
    (case z_len => k_is)
    (case z_list => k_is)
    (case z_range => k_is)
    (case z_sorted => k_is)
    (case z_str => k_is)
    (case z_tuple => k_is)
    (case cA_NameSet => k_is)
    (case pg_NameSet => k_is)
    (case hd_NameSet => k_is)
    (case po_NameSet => k_is)
    (case sa_NameSet => k_is)
    (case ha_NameSet => k_is)
    (case hn_NameSet => k_is)
    (case ht_NameSet => k_is)
    (case hm_NameSet => k_is)
    (case sf_NameSet => k_is)
    (case ne_NameSet => k_is)
    (case nM => k_is)
    (case ci => k_is)
    (case ty => k_is)
    (case nl => k_is)
    (case nt => k_is)
    (case a_source => k_is)
    (case l_source => k_is)
    (case c_source => k_is)
    (case k_source => k_is)
    (case a_draw => k_is)
    (case l_draw => k_is)
    (case c_draw => k_is)
    (case k_draw => k_is)
    (case a_NameSet___init__ => k_is)
    (case i_NameSet___init__ => k_is)
    (case l_NameSet___init__ => k_is)
    (case c_NameSet___init__ => k_is)
    (case k_NameSet___init__ => k_is)
    (case t_NameSet___init__ => k_is)
    (case u_NameSet___init__ => k_is)
    (case mk_NameSet___init__ => k_is)
    (case kc_NameSet___init__ => k_is)
    (case a_NameSet___contains__ => k_is)
    (case i_NameSet___contains__ => k_is)
    (case l_NameSet___contains__ => k_is)
    (case c_NameSet___contains__ => k_is)
    (case k_NameSet___contains__ => k_is)
    (case a_NameSet___len__ => k_is)
    (case i_NameSet___len__ => k_is)
    (case l_NameSet___len__ => k_is)
    (case c_NameSet___len__ => k_is)
    (case k_NameSet___len__ => k_is)
    (case a_NameSet___eq__ => k_is)
    (case i_NameSet___eq__ => k_is)
    (case l_NameSet___eq__ => k_is)
    (case c_NameSet___eq__ => k_is)
    (case k_NameSet___eq__ => k_is)
    (case a_NameSet___le__ => k_is)
    (case i_NameSet___le__ => k_is)
    (case l_NameSet___le__ => k_is)
    (case c_NameSet___le__ => k_is)
    (case k_NameSet___le__ => k_is)
    (case a_NameSet___lt__ => k_is)
    (case i_NameSet___lt__ => k_is)
    (case l_NameSet___lt__ => k_is)
    (case c_NameSet___lt__ => k_is)
    (case k_NameSet___lt__ => k_is)
    (case a_NameSet___or__ => k_is)
    (case i_NameSet___or__ => k_is)
    (case l_NameSet___or__ => k_is)
    (case c_NameSet___or__ => k_is)
    (case k_NameSet___or__ => k_is)
    (case a_NameSet___and__ => k_is)
    (case i_NameSet___and__ => k_is)
    (case l_NameSet___and__ => k_is)
    (case c_NameSet___and__ => k_is)
    (case k_NameSet___and__ => k_is)
    (case a_NameSet___sub__ => k_is)
    (case i_NameSet___sub__ => k_is)
    (case l_NameSet___sub__ => k_is)
    (case c_NameSet___sub__ => k_is)
    (case k_NameSet___sub__ => k_is)
    (case a_sorted => k_is)
    (case l_sorted => k_is)
    (case c_sorted => k_is)
    (case k_sorted => k_is)
    (case a_truths => k_is)
    (case l_truths => k_is)
    (case c_truths => k_is)
    (case k_truths => k_is)
    (case a_mixed => k_is)
    (case l_mixed => k_is)
    (case c_mixed => k_is)
    (case k_mixed => k_is)
    (case a_is => k_is)
    (case l_is => k_is)
    (case c_is => k_is)
    (case k_is => k_is)
    (case a_pair => k_is)
    (case l_pair => k_is)
    (case c_pair => k_is)
    (case k_pair => k_is)
    (case a_name => k_is)
    (case l_name => k_is)
    (case c_name => k_is)
    (case k_name => k_is)
    (case a_names => k_is)
    (case l_names => k_is)
    (case c_names => k_is)
    (case k_names => k_is)
    (case a_subset => k_is)
    (case l_subset => k_is)
    (case c_subset => k_is)
    (case k_subset => k_is)
    (case a_law => k_is)
    (case l_law => k_is)
    (case c_law => k_is)
    (case k_law => k_is)
#print axioms PySem.Challenge.cw_midfall_k01_name_sets_holds
