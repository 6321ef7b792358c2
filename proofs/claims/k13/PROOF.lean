import PyProof.Rows.All
import Wide.All
import OpenK.AllK
import Wide.FinOn
import KE.KStateDown
import Lean
import HandS.Base
import HandS.Call
import HandS.Ends
import HandS.List
import HandS.Comp
import HandS.Iter
import HandS.Dict
import HandS.Text
import HandS.Exc
import HandS.More
import HandS.Words
import HandS.WordsExc
import HandS.WordsList
import HandS.WordsDict
import HandS.Defaults
import HandS.IsInst
import HandS.Wide
import HandS.WideBits
import HandS.Walk
import HandS.Zip
import HandS.FStr
import HandS.Codes
import HandS.TryOnly
import HandS.ExcOwn
import HandS.Steps
import HandS.Head0
import HandS.Head1
import HandS.Head2
import HandS.HeadEnd
import HandS.HeadHook1
import HandS.HeadHook2
import PySem.Challenge.RW_powerwish_k13_names_told
set_option Elab.async false
set_option linter.all false
set_option maxRecDepth 100000
set_option maxHeartbeats 4000000
/-! ### the hook: facts, and Bools of one's own -/
namespace PW
open PySem PySem.Spec PyProof.Rows L2
def fdOf (K : PySem.W.Frag) (a : Addr) : FuncData := match K.lookup a with
  | some ⟨_, _, .func fd, _⟩ => fd
  | _ => default
theorem funD_of {K : PySem.W.Frag} {x qual : Str} {params : Arguments} {body : List Stmt} {scope : Scope} {dvs : List V} {kws : List (Str × V)} {f : Addr} (h : ∃ fd, FunD K x qual params body scope dvs kws f fd) :
    FunD K x qual params body scope dvs kws f (fdOf K f) := by
  obtain ⟨fd, F⟩ := h
  obtain ⟨oc, od, dV, kV, doc, pm, an, cdv, ct, osl, e, lk, _⟩ := F.ex
  have e2 : fdOf K f = fd := by
    unfold fdOf
    rw [lk]
  rw [e2]
  exact F
abbrev AlM : Type := He.AlD × Bool
def obsM (fa : List He.Fa) (fn : List He.DefD) (ex : PySem.W.Frag → List Bool) (K : PySem.W.Frag) : AlM := (He.obsD fa fn K, (ex K).all id)
def valM (fn : List He.DefD) : AlM := (He.valD fn, true)
def SaysM (fa : List He.Fa) (fn : List He.DefD) (ex : PySem.W.Frag → List Bool) (K : PySem.W.Frag) : Prop := He.SaysD fa fn K ∧ ∀ b ∈ ex K, b = true
theorem exN {l : List Bool} (h : ∀ b ∈ l, b = true) (i : Nat) {b : Bool} (e : l[i]? = some b) : b = true := h b (List.mem_of_getElem? e)
def obsMG (n : Nat) (fa : List He.Fa) (fn : List He.DefD) (ex : PySem.W.Frag → List Bool) (g : Addr → Option Obj) : AlM := obsM fa fn ex (He.frG g (He.asD g n))
theorem saysM_of {fa : List He.Fa} {fn : List He.DefD} {ex : PySem.W.Frag → List Bool} {K : PySem.W.Frag} (e : obsM fa fn ex K = valM fn) : SaysM fa fn ex K :=
  ⟨congrArg (fun z : AlM => z.1) e, fun b hb => List.all_eq_true.mp (congrArg (fun z : AlM => z.2) e : (ex K).all id = true) b hb⟩
def hookM (n : Nat) (fa : List He.Fa) (fn : List He.DefD) (ex : PySem.W.Frag → List Bool) : PySem.W.Hook where
  α := AlM
  obs := fun s => obsMG n fa fn ex s.heap.get?
  val := fun _ => valM fn
  says := fun _ h => ∃ K : PySem.W.Frag, K.In h ∧ SaysM fa fn ex K
  of := fun _ _ e => ⟨_, He.frG_in, saysM_of e⟩
  keeps := fun _ _ _ ⟨K, hK, c⟩ k => ⟨K, PySem.W.Frag.In.keeps hK k, c⟩
theorem obsMG_eq {n : Nat} {fa : List He.Fa} {fn : List He.DefD} {ex : PySem.W.Frag → List Bool} {g : Addr → Option Obj} {s : Shared} (h : ∀ a, g a = s.heap.get? a) : obsMG n fa fn ex g = (hookM n fa fn ex).obs s := by
  have e : g = s.heap.get? := funext h
  rw [e] <;> rfl
/-! ### a module's constants -/
section
variable {X : Cx} {x : Str} {pos : Pos}
theorem pe_gint {i : Int} (hg : Gl X x) (h : ∃ t, X.mg x = some (.int i t)) (hd : (x == ("__debug__" : Str)) = false := by decide) : PE X (.Name x pos) (tC (.int i)) := by
  obtain ⟨t, h⟩ := h
  exact pe_glob hg h ⟨t, rfl⟩ hd
theorem pe_gstr {z : Str} (hg : Gl X x) (h : ∃ t, X.mg x = some (.str z t)) (hd : (x == ("__debug__" : Str)) = false := by decide) : PE X (.Name x pos) (tC (.str z)) := by
  obtain ⟨t, h⟩ := h
  exact pe_glob hg h ⟨t, rfl⟩ hd
end
end PW
/-! ### readings, one step at a time -/
namespace PW
open PySem PySem.Spec PyProof.Rows L2
section
variable {σ : L2.St} {H : Hp} {Q : VK} {D : Ends} {v x y : V} {i j : Int} {n m : Nat} {ta tb tc te : TE} {t u : TT} {s1 s2 : TS} {r r' : R2} {K : PySem.W.Frag} {tA tR : TA}
theorem r_var (h : σ[n]? = some (some v)) (q : Q v H) : tVar n σ H Q := ⟨v, h, q⟩
theorem r_c (q : Q v H) : tC v σ H Q := q
theorem r_op (h : ta σ H fun x H1 => tb σ H1 fun y H2 => r x y H2 Q) : tOp r ta tb σ H Q := h
theorem r_un {r : V → Hp → VK → Prop} (h : ta σ H fun x H1 => r x H1 Q) : tUn r ta σ H Q := h
theorem r_chain (h : ta σ H fun x H1 => tb σ H1 fun y H2 => r x y H2 fun z H3 => ∃ k, z = .bl k ∧ (if k = true then tc σ H3 fun w' H4 => r' y w' H4 Q else Q (.bl false) H3)) : tChain r r' ta tb tc σ H Q := h
theorem r_test {Q : Bool → Hp → Prop} (h : te σ H fun x H' => ∃ k, x = .bl k ∧ Q k H') : tTest te σ H Q := h
theorem r_b {Q : Bool → Hp → Prop} (h : te σ H fun x H' => ∃ k, x = .bl k ∧ Q k H') : tB te σ H Q := h
theorem r_bl {b : Bool} {Q : Bool → Prop} (q : Q b) : ∃ k, V.bl b = .bl k ∧ Q k := ⟨b, rfl, q⟩
theorem r_bl' {b : Bool} {Q : Bool → Hp → Prop} (q : Q b H) : ∃ k, V.bl b = .bl k ∧ Q k H := ⟨b, rfl, q⟩
theorem r_not {Q : Bool → Hp → Prop} (h : t σ H fun c H1 => Q (!c) H1) : tNot t σ H Q := h
theorem r_and {Q : Bool → Hp → Prop} (h : t σ H fun c H1 => if c = true then u σ H1 Q else Q false H1) : tAnd t u σ H Q := h
theorem r_or {Q : Bool → Hp → Prop} (h : t σ H fun c H1 => if c = true then Q true H1 else u σ H1 Q) : tOr t u σ H Q := h
theorem r_andV (h : ta σ H fun x H1 => ∃ c, x = .bl c ∧ if c = true then tb σ H1 Q else Q (.bl false) H1) : tAndV ta tb σ H Q := h
theorem r_orV (h : ta σ H fun x H1 => ∃ c, x = .bl c ∧ if c = true then Q (.bl true) H1 else tb σ H1 Q) : tOrV ta tb σ H Q := h
theorem r_notV (h : ta σ H fun x H1 => ∃ c, x = .bl c ∧ Q (.bl (!c)) H1) : tNotV ta σ H Q := h
theorem r_isN (h : ta σ H fun x H1 => Q (.bl (decide (x = .non))) H1) : tIsN ta σ H Q := h
theorem r_notN (h : ta σ H fun x H1 => Q (.bl (!decide (x = .non))) H1) : tNotN ta σ H Q := h
theorem r_ifE (h : t σ H fun c H1 => if c = true then ta σ H1 Q else tb σ H1 Q) : tIf t ta tb σ H Q := h
theorem r_ifS (h : t σ H fun b H1 => if b = true then s1 D σ H1 else s2 D σ H1) : tIfS t s1 s2 D σ H := h
theorem r_seq (h : s1 { D with nx := s2 D } σ H) : tSeq s1 s2 D σ H := h
theorem r_next (h : D.nx σ H) : tNext D σ H := h
theorem r_brk (h : D.bk σ H) : tBreak D σ H := h
theorem r_cnt (h : D.ct σ H) : tCont D σ H := h
theorem r_ret (h : te σ H D.rt) : tRet te D σ H := h
theorem r_retN (h : D.rt .non H) : tRetN D σ H := h
theorem r_drop (h : te σ H fun _ H1 => D.nx σ H1) : tDrop te D σ H := h
theorem r_asg {g : TG} (h : te σ H fun x H1 => g x σ H1 D.nx) : tAsg te g D σ H := h
theorem r_gname {Q : L2.St → Hp → Prop} (h : Q (σ.set n (some v)) H) : gName n v σ H Q := h
theorem r_gsub {to ti : TE} {ts : TSet} {Q : L2.St → Hp → Prop} (h : to σ H fun o H1 => ti σ H1 fun i H2 => ts o i v H2 fun H3 => Q σ H3) : gSub to ti ts v σ H Q := h
theorem r_aug {ti : TIp} (hx : σ[n]? = some (some x)) (h : te σ H fun y H1 => ti x y H1 fun z H2 => D.nx (σ.set n (some z)) H2) : tAug n te ti D σ H := ⟨x, hx, h⟩
theorem r_ipI {g : Int → Int → Int} {Q : VK} (q : Q (.int (g i j)) H) : ipI g (.int i) (.int j) H Q := ⟨i, j, rfl, rfl, q⟩
theorem r_nil {Q : List V → Hp → Prop} (h : Q [] H) : tNil σ H Q := h
theorem r_cons {Q : List V → Hp → Prop} (h : ta σ H fun x H1 => tR σ H1 fun xs H2 => Q (x :: xs) H2) : tCons ta tR σ H Q := h
theorem r_cb {r : List V → Hp → VK → Prop} (h : tA σ H fun vs H1 => r vs H1 Q) : tCB r tA σ H Q := h
theorem r_call {sp : Sp} {dvs : List V} {E : XK} (h : tA σ H fun vs H1 => sp (vs ++ dvs) H1 Q E) : tCall sp dvs E tA σ H Q := h
theorem r_I0 {g : Int → Int → V} (q : Q (g i j) H) : rI0 g (.int i) (.int j) H Q := ⟨i, j, rfl, rfl, q⟩
theorem r_I {C : Int → Int → Prop} {g : Int → Int → V} (c : C i j) (q : Q (g i j) H) : rI C g (.int i) (.int j) H Q := ⟨i, j, rfl, rfl, c, q⟩
theorem r_U {g : Int → V} (q : Q (g i) H) : rU g (.int i) H Q := ⟨i, rfl, q⟩
theorem r_eq (h : scal x y = true) (q : Q (.bl (decide (x = y))) H) : rEq x y H Q := ⟨h, q⟩
theorem r_ne (h : scal x y = true) (q : Q (.bl (!decide (x = y))) H) : rNe x y H Q := ⟨h, q⟩
theorem r_ixL {p : Addr} {xs : List V} (h : SqL K H p xs) (a : atI xs i = some v) (q : Q v H) : rIxL K (.ref p) (.int i) H Q := ⟨p, xs, i, v, rfl, rfl, h, a, q⟩
theorem r_ixT {p : Addr} {xs : List V} (h : SqT K H p xs) (a : atI xs i = some v) (q : Q v H) : rIxT K (.ref p) (.int i) H Q := ⟨p, xs, i, v, rfl, rfl, h, a, q⟩
theorem r_setL {p : Addr} {xs : List V} {k : Nat} {Q : Hp → Prop} (h : H p = some (.lst xs)) (e : ixN xs.length i = some k) (q : Q (upd H p (.lst (xs.set k v)))) : rSetL (.ref p) (.int i) v H Q := ⟨p, xs, i, k, rfl, rfl, h, e, q⟩
theorem r_lst {l : Nat} (hl : l = l) (h : tA σ H fun xs H1 => xs.length ≤ sizeLine ∧ ∀ p, H1 p = none → Q (.ref p) (upd H1 p (.lst xs))) : tLst tA σ H Q := h
theorem r_lst1 {xs : List V} {R : Prop} (hl : xs.length ≤ 100000) (h : R) : xs.length ≤ sizeLine ∧ R := ⟨Nat.le_trans hl (by decide), h⟩
theorem r_tup (h : tA σ H fun xs H1 => xs.length ≤ sizeLine ∧ ∀ p, H1 p = none → Q (.ref p) (upd H1 p (.tup xs))) : tTup tA σ H Q := h
theorem r_ifT {A B : Prop} (h : A) : if true = true then A else B := by rw [if_pos rfl]; exact h
theorem r_ifF {A B : Prop} (h : B) : if false = true then A else B := by rw [if_neg Bool.false_ne_true]; exact h
theorem r_ifT' {c : Bool} {A B : Prop} (e : c = true) (h : A) : if c = true then A else B := by rw [if_pos e]; exact h
theorem r_ifF' {c : Bool} {A B : Prop} (e : c = false) (h : B) : if c = true then A else B := by rw [if_neg (by rw [e]; exact Bool.false_ne_true)]; exact h
theorem r_if2 {c : Bool} {A B : Prop} (h1 : c = true → A) (h2 : c = false → B) : if c = true then A else B := by
  cases c with
  | true => exact r_ifT (h1 rfl)
  | false => exact r_ifF (h2 rfl)
theorem r_int1 {Q : VK} (q : Q (.int i) H) : (∃ k, [V.int i] = [.int k] ∧ Q (.int k) H) ∨ ∃ k, [V.int i] = [.bl k] ∧ Q (.int (if k then 1 else 0)) H := .inl ⟨i, rfl, q⟩
theorem r_part {Q : Option Int → Hp → Prop} (h : te σ H fun x H1 => ∃ i, x = .int i ∧ Q (some i) H1) : tPart te σ H Q := h
theorem r_exI {R : Int → Prop} (h : R i) : ∃ k, V.int i = .int k ∧ R k := ⟨i, rfl, h⟩
theorem r_noPart {Q : Option Int → Hp → Prop} (h : Q none H) : tNoPart σ H Q := h
theorem r_sl {rs : V → Option Int → Option Int → Hp → VK → Prop} {tl th : TO} (h : te σ H fun x H1 => tl σ H1 fun l H2 => th σ H2 fun u H3 => rs x l u H3 Q) : tSl rs te tl th σ H Q := h
theorem r_slL {p : Addr} {xs : List V} {lo hi : Option Int} (h : SqL K H p xs) (q : ∀ l, H l = none → Q (.ref l) (upd H l (.lst (cutV xs lo hi)))) : rSlL K (.ref p) lo hi H Q := ⟨p, xs, rfl, h, q⟩
theorem r_slS {z : Str} {lo hi : Option Int} (h : z.length ≤ sizeLine) (q : Q (.str (cutS z lo hi)) H) : rSlS (.str z) lo hi H Q := ⟨z, rfl, h, q⟩
end
end PW
namespace PW
open PySem PySem.Spec PyProof.Rows L2
theorem cmx {i j : Int} (h1 : -(2 ^ 64) < i) (h2 : i < 2 ^ 64) (h3 : -(2 ^ 64) < j) (h4 : j < 2 ^ 64) : CMulX i j := mulx_ok (a := 64) (b := 64) (by omega) (by omega) (by decide)
theorem cdw {i j : Int} (h : 0 < j) (h2 : j < 2 ^ 64) : CDivW i j := wide_div (b := 64) h (by omega) (by decide) (by decide)
end PW
namespace PW
open PySem PySem.Spec PyProof.Rows L2
theorem cpow {i j : Int} (h : 0 ≤ j) (h2 : j ≤ 1000) (h3 : -(2 ^ 64) < i) (h4 : i < 2 ^ 64) : CPow i j := ⟨h, by omega, by omega⟩
theorem cdw2 {i j : Int} (h : 0 < j) (h2 : j.natAbs.log2 < 9000) : CDivW i j := ⟨h, h2⟩
/-! ### built-ins by named readings -/
def cInt : List V → Hp → VK → Prop := fun xs H Q => (∃ i, xs = [.int i] ∧ Q (.int i) H) ∨ ∃ k, xs = [.bl k] ∧ Q (.int (if k then 1 else 0)) H
def cLen (K : PySem.W.Frag) : List V → Hp → VK → Prop := fun xs H Q => ∃ x n, xs = [x] ∧ LenV K x H n ∧ Q (.int n) H
def cAbs : List V → Hp → VK → Prop := fun xs H Q => ∃ i, xs = [.int i] ∧ Q (.int (if i < 0 then -i else i)) H
def cMax : List V → Hp → VK → Prop := fun xs H Q => ∃ i j, xs = [.int i, .int j] ∧ Q (.int (if j > i then j else i)) H
def cMin : List V → Hp → VK → Prop := fun xs H Q => ∃ i j, xs = [.int i, .int j] ∧ Q (.int (if j < i then j else i)) H
def cList (K : PySem.W.Frag) : List V → Hp → VK → Prop := fun xs H Q => ∃ p ys, xs = [.ref p] ∧ (SqL K H p ys ∨ SqT K H p ys) ∧ ∀ l, H l = none → Q (.ref l) (upd H l (.lst ys))
def cTuple (K : PySem.W.Frag) : List V → Hp → VK → Prop := fun xs H Q => ∃ p ys, xs = [.ref p] ∧ ((SqL K H p ys ∧ ∀ l, H l = none → Q (.ref l) (upd H l (.tup ys))) ∨ (SqT K H p ys ∧ Q (.ref p) H))
def oAddS : R2 := fun x y H Q => ∃ i j, x = .str i ∧ y = .str j ∧ i.length + j.length ≤ sizeLine ∧ Q (.str (i ++ j)) H
section
variable {X : Cx}
theorem call_intN : CallR X (.type "int") cInt := call_int1
theorem call_lenN : CallR X (.builtin "len") (cLen X.K) := call_len
theorem call_absN : CallR X (.builtin "abs") cAbs := call_abs
theorem call_maxN (hc : X.calm = true) : CallR X (.builtin "max") cMax := call_max2 hc
theorem call_minN (hc : X.calm = true) : CallR X (.builtin "min") cMin := call_min2 hc
theorem call_listN : CallR X (.type "list") (cList X.K) := call_list_of
theorem call_tupleN : CallR X (.type "tuple") (cTuple X.K) := call_tuple_of
theorem op_addSN : OpR X (binaryOp .Add) oAddS := op_add_str
end
section
variable {H : Hp} {Q : VK} {i j : Int} {k : Bool} {K : PySem.W.Frag} {p : Addr} {ys : List V} {z z' : Str}
theorem r_cInt (q : Q (.int i) H) : cInt [.int i] H Q := .inl ⟨i, rfl, q⟩
theorem r_cLenS (h : z.length ≤ sizeLine) (q : Q (.int (z.length : Nat)) H) : cLen K [.str z] H Q := ⟨.str z, z.length, rfl, ⟨h, rfl⟩, q⟩
theorem r_cLenL (h : SqL K H p ys) (q : Q (.int (ys.length : Nat)) H) : cLen K [.ref p] H Q := ⟨.ref p, ys.length, rfl, .inl ⟨ys, h, rfl⟩, q⟩
theorem r_cLenT (h : SqT K H p ys) (q : Q (.int (ys.length : Nat)) H) : cLen K [.ref p] H Q := ⟨.ref p, ys.length, rfl, .inr ⟨ys, h, rfl⟩, q⟩
theorem r_cAbs (q : Q (.int (if i < 0 then -i else i)) H) : cAbs [.int i] H Q := ⟨i, rfl, q⟩
theorem r_cMax (q : Q (.int (if j > i then j else i)) H) : cMax [.int i, .int j] H Q := ⟨i, j, rfl, q⟩
theorem r_cMin (q : Q (.int (if j < i then j else i)) H) : cMin [.int i, .int j] H Q := ⟨i, j, rfl, q⟩
theorem r_cListL (h : SqL K H p ys) (q : ∀ l, H l = none → Q (.ref l) (upd H l (.lst ys))) : cList K [.ref p] H Q := ⟨p, ys, rfl, .inl h, q⟩
theorem r_cListT (h : SqT K H p ys) (q : ∀ l, H l = none → Q (.ref l) (upd H l (.lst ys))) : cList K [.ref p] H Q := ⟨p, ys, rfl, .inr h, q⟩
theorem r_cTupleL (h : SqL K H p ys) (q : ∀ l, H l = none → Q (.ref l) (upd H l (.tup ys))) : cTuple K [.ref p] H Q := ⟨p, ys, rfl, .inl ⟨h, q⟩⟩
theorem r_addS (h : z.length + z'.length ≤ sizeLine) (q : Q (.str (z ++ z')) H) : oAddS (.str z) (.str z') H Q := ⟨z, z', rfl, rfl, h, q⟩
end
end PW
namespace PW
open PySem PySem.Spec PyProof.Rows L2
section
variable {H : Hp} {Q : VK} {i : Int} {K : PySem.W.Frag} {p : Addr} {xs : List V} {v : V} {z : Str} {c : Nat}
theorem r_ixqL (h : SqL K H p xs) (a : atI xs i = some v) (q : Q v H) : rIx K (.ref p) (.int i) H Q := .inl (r_ixL h a q)
theorem r_ixqT (h : SqT K H p xs) (a : atI xs i = some v) (q : Q v H) : rIx K (.ref p) (.int i) H Q := .inr (.inl (r_ixT h a q))
theorem r_ixqS (h : z.length ≤ sizeLine) (a : atI z.cps.toList i = some c) (q : Q (.str ⟨#[c]⟩) H) : rIx K (.str z) (.int i) H Q := .inr (.inr ⟨z, i, c, rfl, rfl, h, a, q⟩)
theorem atI_mem {α : Type} {xs : List α} {i : Int} (h0 : 0 ≤ i) (h : i < (xs.length : Int)) : ∃ v, v ∈ xs ∧ atI xs i = some v := by
  have hl : i.toNat < xs.length := by omega
  have e : i = (i.toNat : Int) := by omega
  have h2 : atI xs (i.toNat : Int) = some xs[i.toNat] := atI_nat (List.getElem?_eq_getElem hl)
  exact ⟨_, List.getElem_mem hl, by rw [← e] at h2; exact h2⟩
end
end PW
namespace PW
open PySem PySem.Spec PyProof.Rows L2
/-! ### heaps that grow -/
def Ex (H H' : Hp) : Prop := ∀ a o, H a = some o → H' a = some o
theorem Ex.refl (H : Hp) : Ex H H := fun _ _ h => h
theorem Ex.trans {H H1 H2 : Hp} (a : Ex H H1) (b : Ex H1 H2) : Ex H H2 := fun c o h => b c o (a c o h)
theorem Ex.new {H : Hp} {p : Addr} {o : HO} (h : H p = none) : Ex H (L2.upd H p o) := fun a u e => by
  rw [upd_ne (ne_of_none e h)]
  exact e
theorem Ex.newT {H H1 : Hp} {p : Addr} {o : HO} (x : Ex H H1) (h : H1 p = none) : Ex H (L2.upd H1 p o) := x.trans (Ex.new h)
theorem Ex.free {H H' : Hp} {p : Addr} (e : Ex H H') (h : H' p = none) : H p = none := Same.free e h
/-- an object that H does not know may change -/
theorem Ex.mut {H H' : Hp} {p : Addr} {o : HO} (e : Ex H H') (h : H p = none) : Ex H (L2.upd H' p o) := fun a u ha => by
  rw [upd_ne (ne_of_none ha h)]
  exact e a u ha
theorem Ex.tup {K : PySem.W.Frag} {p : Addr} {H H' : Hp} {xs : List V} (e : Ex H H') (h : SqT K H p xs) : SqT K H' p xs := by
  rcases h with (h | ⟨o, h⟩) | h
  · exact .inl (.inl (e _ _ h))
  · exact .inl (.inr ⟨o, e _ _ h⟩)
  · exact .inr h
theorem Ex.lst {K : PySem.W.Frag} {p : Addr} {H H' : Hp} {xs : List V} (e : Ex H H') (h : SqL K H p xs) : SqL K H' p xs := by
  rcases h with (h | ⟨o, h⟩) | h
  · exact .inl (.inl (e _ _ h))
  · exact .inl (.inr ⟨o, e _ _ h⟩)
  · exact .inr h
/-! ### isinstance, targets, comprehensions -/
section
variable {K : PySem.W.Frag} {H : Hp} {Q : VK} {x v : V} {n m m1 m2 : String} {b b1 b2 : Bool} {tp a : Addr} {σ : L2.St} {xs r : List V} {k : Nat}
theorem r_isi (h : TyX K H x (.type n)) (e : kitB n m = some b) (q : Q (.bl b) H) : rIsi K [x, .ty m] H Q := ⟨x, .ty m, .type n, .type m, b, rfl, .ty m, h, kit_ty e, q⟩
theorem r_isiT2 (ht : H tp = some (.tup [.ty m1, .ty m2])) (h : TyX K H x (.type n)) (e1 : kitB n m1 = some b1) (e2 : kitB n m2 = some b2) (q : Q (.bl (b1 || b2)) H) : rIsiT K [x, .ref tp] H Q := by
  refine ⟨x, tp, [.ty m1, .ty m2], .type n, [.type m1, .type m2], b1 || b2, rfl, ht, .cons (.ty m1) (.cons (.ty m2) .nil), h, ?_, q⟩
  refine kitAny_cons (kit_ty e1) (fun h1 => ?_) (fun h1 => by rw [h1]; rfl)
  rw [h1, Bool.false_or]
  exact kitAny_cons (kit_ty e2) (fun h2 => by rw [h2]; exact kitAny_nil) fun h2 => h2
theorem r_gtup {t : List V → L2.St → Hp → (L2.St → Hp → Prop) → Prop} {Q : L2.St → Hp → Prop} (h : SqT K H a xs) (l : xs.length = k) (q : t xs σ H Q) : gTup K k t (.ref a) σ H Q := ⟨a, xs, rfl, h, l, q⟩
theorem r_gcons {t : TG} {u : List V → L2.St → Hp → (L2.St → Hp → Prop) → Prop} {Q : L2.St → Hp → Prop} (q : t v σ H fun σ' H' => u r σ' H' Q) : gCons t u (v :: r) σ H Q := ⟨v, r, rfl, q⟩
theorem r_gnil {Q : L2.St → Hp → Prop} (q : Q σ H) : gNil [] σ H Q := ⟨rfl, q⟩
theorem r_yes {Q : Bool → Hp → Prop} (q : Q true H) : tYes σ H Q := q
theorem r_lc {wi : TI} {g : TG} {tt : TT} {te : TE} {vs : List Nat} (h : wi σ H fun J H1 => ∀ D, H1 D = none → ∃ W : Nat → Nat → Hp → Prop, (∃ m, W 0 m (upd H1 D (.lst []))) ∧ ∀ i m H, W i m H →
  (J.stop i H ∧ Q (.ref D) H) ∨ (J.go i H ∧ ∃ Nx : Hp → Prop, (∀ H', Nx H' → ∃ m', m' < m ∧ W (i + 1) m' H') ∧ ∀ x H', J.yld i H x H' → g x (wipe σ vs) H' fun σ2 H2 => wipe σ2 vs = wipe σ vs ∧ tt σ2 H2 fun b H3 =>
    if b = true then te σ2 H3 fun y H4 => ∃ acc, H4 D = some (.lst acc) ∧ acc.length < sizeLine ∧ Nx (upd H4 D (.lst (acc ++ [y]))) else Nx H3)) : tLc wi g tt te vs σ H Q := h
theorem r_all {bs : List Bool} (h : SqL K H a (bs.map V.bl)) (q : Q (.bl (bs.all id)) H) : rAll K [.ref a] H Q := ⟨a, bs, rfl, h, q⟩
theorem r_any {bs : List Bool} (h : SqL K H a (bs.map V.bl)) (q : Q (.bl (bs.any id)) H) : rAny K [.ref a] H Q := ⟨a, bs, rfl, h, q⟩
end
theorem replicate_all (n : Nat) : (List.replicate n true).all id = true := by
  induction n with
  | zero => rfl
  | succ n ih => rw [List.replicate_succ, List.all_cons, ih]; rfl
end PW
namespace PW
open PySem PySem.Spec PyProof.Rows L2
section
variable {X : Cx} {es : List Expr} {e : Expr} {k n i : Nat} {t : TG} {u : TGs} {pos : Pos} {x : Str}
theorem pg_tupX {K : PySem.W.Frag} (hK : X.K = K) (hc : X.calm = true) (hn : (assignEach es X.env).length = n) (hst : (assignEach es X.env).findIdx? (·.1) = none) (h : PGs X es u) : PG X (.Tuple es k pos) (gTup K n u) := by
  subst hK
  exact pg_tup hc h hn hst
theorem pgs_consX (hs : (assignEach (e :: es) X.env).map (·.2) = assign e X.env :: (assignEach es X.env).map (·.2)) (h1 : PG X e t) (h2 : PGs X es u) : PGs X (e :: es) (gCons t u) := pgs_cons h1 h2 hs
theorem pg_nameX (i : Nat) (hN : X.N.Nodup) (hi : X.N[i]? = some x) (hx : Loc X.env.scope x) (hf : X.fn x = true ∨ X.env.scope.names.lookup x = some .local) : PG X (.Name x pos) (gName i) := pg_name hN hi hx hf
end
end PW
namespace PW
open L2
theorem kb_NoneType_bool : kitB "NoneType" "bool" = some false := by decide +kernel
theorem kb_NoneType_int : kitB "NoneType" "int" = some false := by decide +kernel
theorem kb_NoneType_str : kitB "NoneType" "str" = some false := by decide +kernel
theorem kb_NoneType_list : kitB "NoneType" "list" = some false := by decide +kernel
theorem kb_NoneType_tuple : kitB "NoneType" "tuple" = some false := by decide +kernel
theorem kb_NoneType_dict : kitB "NoneType" "dict" = some false := by decide +kernel
theorem kb_bool_bool : kitB "bool" "bool" = some true := by decide +kernel
theorem kb_bool_int : kitB "bool" "int" = some true := by decide +kernel
theorem kb_bool_str : kitB "bool" "str" = some false := by decide +kernel
theorem kb_bool_list : kitB "bool" "list" = some false := by decide +kernel
theorem kb_bool_tuple : kitB "bool" "tuple" = some false := by decide +kernel
theorem kb_bool_dict : kitB "bool" "dict" = some false := by decide +kernel
theorem kb_int_bool : kitB "int" "bool" = some false := by decide +kernel
theorem kb_int_int : kitB "int" "int" = some true := by decide +kernel
theorem kb_int_str : kitB "int" "str" = some false := by decide +kernel
theorem kb_int_list : kitB "int" "list" = some false := by decide +kernel
theorem kb_int_tuple : kitB "int" "tuple" = some false := by decide +kernel
theorem kb_int_dict : kitB "int" "dict" = some false := by decide +kernel
theorem kb_str_bool : kitB "str" "bool" = some false := by decide +kernel
theorem kb_str_int : kitB "str" "int" = some false := by decide +kernel
theorem kb_str_str : kitB "str" "str" = some true := by decide +kernel
theorem kb_str_list : kitB "str" "list" = some false := by decide +kernel
theorem kb_str_tuple : kitB "str" "tuple" = some false := by decide +kernel
theorem kb_str_dict : kitB "str" "dict" = some false := by decide +kernel
theorem kb_list_bool : kitB "list" "bool" = some false := by decide +kernel
theorem kb_list_int : kitB "list" "int" = some false := by decide +kernel
theorem kb_list_str : kitB "list" "str" = some false := by decide +kernel
theorem kb_list_list : kitB "list" "list" = some true := by decide +kernel
theorem kb_list_tuple : kitB "list" "tuple" = some false := by decide +kernel
theorem kb_list_dict : kitB "list" "dict" = some false := by decide +kernel
theorem kb_tuple_bool : kitB "tuple" "bool" = some false := by decide +kernel
theorem kb_tuple_int : kitB "tuple" "int" = some false := by decide +kernel
theorem kb_tuple_str : kitB "tuple" "str" = some false := by decide +kernel
theorem kb_tuple_list : kitB "tuple" "list" = some false := by decide +kernel
theorem kb_tuple_tuple : kitB "tuple" "tuple" = some true := by decide +kernel
theorem kb_tuple_dict : kitB "tuple" "dict" = some false := by decide +kernel
end PW
namespace PW
open PySem PySem.Spec PyProof.Rows L2
section
variable {H : Hp} {Q : VK} {x y : V}
theorem r_eqT (h : scal x x = true) (q : Q (.bl true) H) : rEq x x H Q := ⟨h, by rw [decide_eq_true rfl]; exact q⟩
theorem r_neT (h : scal x x = true) (q : Q (.bl false) H) : rNe x x H Q := ⟨h, by rw [decide_eq_true rfl]; exact q⟩
theorem r_eqF (h : scal x y = true) (n : ¬ x = y) (q : Q (.bl false) H) : rEq x y H Q := ⟨h, by rw [decide_eq_false n]; exact q⟩
theorem r_neF (h : scal x y = true) (n : ¬ x = y) (q : Q (.bl true) H) : rNe x y H Q := ⟨h, by rw [decide_eq_false n]; exact q⟩
end
end PW
namespace PW
open PySem PySem.Spec PyProof.Rows L2
theorem walk_zipT {K : PySem.W.Frag} {a b : Addr} {xs ys : List V} {n : Nat} (hn : n = min xs.length ys.length) : Walk (RZ.ItzT K a b) n (fun H => SqT K H a xs ∧ SqT K H b ys) (YPair (fun i => xs[i]?) (fun i => ys[i]?)) := by
  subst hn
  refine ⟨fun i _ hi q => ?_, fun _ q => ⟨xs, ys, q.1, q.2, by omega⟩, fun i H v H' _ q y => ?_⟩
  · have h1 : i < xs.length := by omega
    have h2 : i < ys.length := by omega
    exact ⟨xs, ys, xs[i], ys[i], q.1, q.2, by simp [h1], by simp [h2]⟩
  · obtain ⟨T, x, z, h1, h2, h3, h4, h5⟩ := y
    exact ⟨T, x, z, h1, h2, h3, h4 xs q.1, h5 ys q.2⟩
/-- a comprehension's turns over J, the new list at D -/
def LcW (J : It) (g : TG) (tt : TT) (te : TE) (vs : List Nat) (σ : L2.St) (H1 : Hp) (D : Addr) (Qd : Hp → Prop) : Prop :=
  ∃ W : Nat → Nat → Hp → Prop, (∃ m, W 0 m (upd H1 D (.lst []))) ∧ ∀ i m H, W i m H →
      (J.stop i H ∧ Qd H) ∨ (J.go i H ∧ ∃ Nx : Hp → Prop, (∀ H', Nx H' → ∃ m', m' < m ∧ W (i + 1) m' H') ∧ ∀ x H', J.yld i H x H' → g x (wipe σ vs) H' fun σ2 H2 => wipe σ2 vs = wipe σ vs ∧ tt σ2 H2 fun b H3 =>
        if b = true then te σ2 H3 fun y H4 => ∃ acc, H4 D = some (.lst acc) ∧ acc.length < sizeLine ∧ Nx (upd H4 D (.lst (acc ++ [y]))) else Nx H3)
/-- the heap without what stands at D -/
def hide (H : Hp) (D : Addr) : Hp := fun a => if a = D then none else H a
theorem hide_ne {H : Hp} {D a : Addr} (h : a ≠ D) : hide H D a = H a := by unfold hide; rw [if_neg h]
theorem hide_same {H : Hp} {D : Addr} : hide H D D = none := by unfold hide; rw [if_pos rfl]
theorem Ex.hide (H : Hp) (D : Addr) : Ex (hide H D) H := fun a o h => by
  by_cases e : a = D
  · subst e
    rw [hide_same] at h
    cases h
  · rw [hide_ne e] at h
    exact h
theorem hide_upd {H : Hp} {D : Addr} {o : HO} : hide (L2.upd H D o) D = hide H D := by
  funext a
  unfold PW.hide
  by_cases e : a = D
  · rw [if_pos e, if_pos e]
  · rw [if_neg e, if_neg e, upd_ne e]
theorem Ex.hides {H H' : Hp} (e : Ex H H') (D : Addr) : Ex (PW.hide H D) (PW.hide H' D) := fun a o h => by
  by_cases q : a = D
  · subst q
    rw [hide_same] at h
    cases h
  · rw [hide_ne q] at h ⊢
    exact e a o h
/-- .. over a walk whose place stays while the heap grows; no test; each element is told by E (of the heap without the new list) and leaves what was tracked -/
theorem lc_grow {J : It} {n : Nat} {G : Hp → Prop} {Y : Nat → Hp → V → Hp → Prop} (w : Walk J n G Y) {g : TG} {te : TE} {vs : List Nat} {σ : L2.St} {H1 : Hp} {D : Addr} {Qd : Hp → Prop} {σw : L2.St} (hw : wipe σ vs = σw) (E : Nat → Hp → V → Prop) (hD : H1 D = none) (hn : n ≤ 100000)
    (hG : ∀ H, Ex H1 H → G H) (hE : ∀ i H H' v, Ex H H' → E i H v → E i H' v)
    (hs : ∀ i x H H' acc (R : VK), i < n → Ex H1 H → H D = some (.lst acc) → Y i H x H' → (∀ v H4, E i (hide H4 D) v → Ex H H4 → R v H4) → g x σw H' fun σ2 H2 => wipe σ2 vs = σw ∧ te σ2 H2 R)
    (hd : ∀ H acc, Ex H1 H → H D = some (.lst acc) → acc.length = n → (∀ i v, acc[i]? = some v → E i (hide H D) v) → Qd H) : LcW J g tYes te vs σ H1 D Qd := by
  subst hw
  refine lc_it w (fun i H => Ex H1 H ∧ ∃ acc, H D = some (.lst acc) ∧ acc.length = i ∧ ∀ j v, acc[j]? = some v → E j (hide H D) v) ?_ (fun i H _ p => hG H p.1) ?_ ?_
  · exact ⟨Ex.new hD, [], upd_same, rfl, fun j v e => by simp at e⟩
  · rintro i x H H' hi ⟨p, acc, ha, hl, hE2⟩ y
    refine hs i x H H' acc _ hi p ha y fun v H4 e x4 => ?_
    refine ⟨acc, x4 _ _ ha, Nat.lt_of_lt_of_le (show acc.length < 100001 by omega) (by decide), (p.trans x4).mut hD, acc ++ [v], upd_same, by rw [List.length_append, hl]; rfl, fun j u hj => ?_⟩
    rw [hide_upd]
    by_cases h : j < acc.length
    · rw [List.getElem?_append_left h] at hj
      exact hE j _ _ u (x4.hides D) (hE2 j u hj)
    · have hj2 : j = acc.length := by
        have h3 : j < (acc ++ [v]).length := (List.getElem?_eq_some_iff.mp hj).1
        rw [List.length_append] at h3
        have h4 : [v].length = 1 := rfl
        omega
      subst hj2
      rw [List.getElem?_append_right (Nat.le_refl _), Nat.sub_self] at hj
      injection hj with hj
      subst hj
      rw [hl]
      exact e
  · rintro H ⟨p, acc, ha, hl, hE2⟩
    exact hd H acc p ha hl hE2
/-- a list of truths -/
theorem all_true {acc : List V} (h : ∀ (i : Nat) v, acc[i]? = some v → v = .bl true) : acc = (List.replicate acc.length true).map V.bl := by
  refine List.ext_getElem? fun i => ?_
  rw [List.getElem?_map, List.getElem?_replicate]
  cases e : acc[i]? with
  | none => rw [if_neg (by have := List.getElem?_eq_none_iff.mp e; omega)]; rfl
  | some v => rw [if_pos (List.getElem?_eq_some_iff.mp e).1, h i v e]; rfl
end PW
namespace PW
open PySem PySem.Spec PyProof.Rows L2
/-! ### unlike kinds -/
def vKind : V → Nat
  | .non => 0
  | .bl _ => 1
  | .int _ => 2
  | .str _ => 3
  | .byt _ => 4
  | .flt _ => 5
  | .ref _ => 6
  | .ty _ => 7
theorem vne {x y : V} (h : (vKind x == vKind y) = false) : ¬ x = y := fun e => by
  subst e
  rw [beq_self_eq_true] at h
  cases h
theorem dec_self {α : Type} {x : α} [Decidable (x = x)] : decide (x = x) = true := decide_eq_true rfl
theorem dec_kind {x y : V} (h : (vKind x == vKind y) = false) : decide (x = y) = false := decide_eq_false (vne h)
theorem ndec_self {α : Type} {x : α} [Decidable (x = x)] : (!decide (x = x)) = false := by rw [dec_self]; rfl
theorem ndec_kind {x y : V} (h : (vKind x == vKind y) = false) : (!decide (x = y)) = true := by rw [dec_kind h]; rfl
def hoKind : HO → Nat
  | .lst _ => 0
  | .tup _ => 1
  | .dK _ => 2
  | .dT _ => 3
  | .set _ _ => 4
  | .ins _ _ _ => 5
  | .own _ => 6
  | .xd _ => 7
  | .met _ _ => 8
  | .rng _ _ => 9
  | .frz _ _ => 10
  | .tbl _ => 11
  | .ext _ => 12
theorem ne_ofK {H : Hp} {a b : Addr} {o u : HO} (h : H a = some o) (h' : H b = some u) (k : (hoKind o == hoKind u) = false) : a ≠ b := ne_of h h' fun e => by
  subst e
  rw [beq_self_eq_true] at k
  cases k
end PW
namespace PW
open PySem PySem.Spec PyProof.Rows L2
section
variable {K : PySem.W.Frag} {tA : TA} {te : TE} {σ : L2.St} {H : Hp} {R : It → Hp → Prop}
theorem r_iZip (h : tA σ H fun vs H1 => ∃ a b xs ys, vs = [.ref a, .ref b] ∧ ((SqL K H1 a xs ∧ SqL K H1 b ys ∧ R (Itz K a b) H1) ∨ (SqT K H1 a xs ∧ SqT K H1 b ys ∧ R (RZ.ItzT K a b) H1))) : RZ.iZipA K tA σ H R := h
theorem r_iRng1 (h : tA σ H fun vs H1 => ∃ j : Int, vs = [.int j] ∧ -(2 ^ 62) ≤ j ∧ j < 2 ^ 62 ∧ R (Itr 0 j.toNat) H1) : iRng1 tA σ H R := h
theorem r_iRng2 (h : tA σ H fun vs H1 => ∃ i j : Int, vs = [.int i, .int j] ∧ (-(2 ^ 62) ≤ i ∧ i < 2 ^ 62 ∧ -(2 ^ 62) ≤ j ∧ j < 2 ^ 62) ∧ R (Itr i (j - i).toNat) H1) : iRng2 tA σ H R := h
theorem r_iStr (h : te σ H fun v H1 => ∃ x, v = .str x ∧ R (Its x) H1) : iStr te σ H R := h
theorem r_iList (h : te σ H fun x H1 => ∃ a, x = .ref a ∧ (∃ xs, SqL K H1 a xs) ∧ R (Itl K a) H1) : iList K te σ H R := h
theorem r_iTup (h : te σ H fun x H1 => ∃ a, x = .ref a ∧ (∃ xs, SqT K H1 a xs) ∧ R (Itt K a) H1) : iTup K te σ H R := h
theorem r_iEnum (h : tA σ H fun vs H1 => ∃ a xs, vs = [.ref a] ∧ SqL K H1 a xs ∧ R (Ite K a) H1) : iEnum K tA σ H R := h
theorem r_for {wi : TI} {g : TG} {tb : TS} {D : Ends} (h : wi σ H fun J H1 => ∃ W : Nat → Nat → L2.St → Hp → Prop, (∃ m, W 0 m σ H1) ∧ ∀ i m σ H, W i m σ H →
  (J.stop i H ∧ D.nx σ H) ∨ (J.go i H ∧ ∃ N : L2.St → Hp → Prop, (∀ σ' H', N σ' H' → ∃ m', m' < m ∧ W (i + 1) m' σ' H') ∧ ∀ x H', J.yld i H x H' → g x σ H' fun σ2 H2 => tb { D with nx := N, ct := N, bk := D.nx } σ2 H2)) : tFor wi g tb D σ H := h
end
end PW
/-! ### one step of a reading, by instances -/
namespace PW
open PySem PySem.Spec PyProof.Rows L2
class Step (g : Prop) (n : outParam Prop) : Prop where
  imp : n → g
class Get (σ : List (Option V)) (n : Nat) (v : outParam V) : Prop where
  eq : σ[n]? = some (some v)
instance {v : V} {r : List (Option V)} : Get (some v :: r) 0 v := ⟨rfl⟩
instance {x : Option V} {r : List (Option V)} {n : Nat} {v : V} [h : Get r n v] : Get (x :: r) (n + 1) v := ⟨h.eq⟩
class Put (σ : List (Option V)) (n : Nat) (v : V) (τ : outParam (List (Option V))) : Prop where
  eq : σ.set n (some v) = τ
instance {v : V} {x : Option V} {r : List (Option V)} : Put (x :: r) 0 v (some v :: r) := ⟨rfl⟩
instance {x : Option V} {r τ : List (Option V)} {n : Nat} {v : V} [h : Put r n v τ] : Put (x :: r) (n + 1) v (x :: τ) := ⟨by rw [List.set_cons_succ, h.eq]⟩
class Scal (x y : V) : Prop where
  eq : scal x y = true
instance {i j : Int} : Scal (.int i) (.int j) := ⟨rfl⟩
instance {i j : Bool} : Scal (.bl i) (.bl j) := ⟨rfl⟩
instance {i j : Str} : Scal (.str i) (.str j) := ⟨rfl⟩
section
variable {σ τ : L2.St} {H : Hp} {Q : VK} {D : Ends} {v x y : V} {i j : Int} {n m : Nat} {ta tb tc te : TE} {t u : TT} {s1 s2 : TS} {r r' : R2} {K : PySem.W.Frag} {tA tR : TA}
instance [h : Get σ n v] : Step (tVar n σ H Q) (Q v H) := ⟨fun q => ⟨v, h.eq, q⟩⟩
instance : Step (tC v σ H Q) (Q v H) := ⟨id⟩
instance : Step (tOp r ta tb σ H Q) (ta σ H fun x H1 => tb σ H1 fun y H2 => r x y H2 Q) := ⟨id⟩
instance {r : V → Hp → VK → Prop} : Step (tUn r ta σ H Q) (ta σ H fun x H1 => r x H1 Q) := ⟨id⟩
instance : Step (tChain r r' ta tb tc σ H Q) (ta σ H fun x H1 => tb σ H1 fun y H2 => r x y H2 fun z H3 => ∃ k, z = .bl k ∧ (if k = true then tc σ H3 fun w' H4 => r' y w' H4 Q else Q (.bl false) H3)) := ⟨id⟩
instance {Q : Bool → Hp → Prop} : Step (tTest te σ H Q) (te σ H fun x H' => ∃ k, x = .bl k ∧ Q k H') := ⟨id⟩
instance {Q : Bool → Hp → Prop} : Step (tB te σ H Q) (te σ H fun x H' => ∃ k, x = .bl k ∧ Q k H') := ⟨id⟩
instance {b : Bool} {Q : Bool → Prop} : Step (∃ k, V.bl b = .bl k ∧ Q k) (Q b) := ⟨fun q => ⟨b, rfl, q⟩⟩
instance {Q : Int → Prop} : Step (∃ k, V.int i = .int k ∧ Q k) (Q i) := ⟨fun q => ⟨i, rfl, q⟩⟩
instance {z : Str} {Q : Str → Prop} : Step (∃ k, V.str z = .str k ∧ Q k) (Q z) := ⟨fun q => ⟨z, rfl, q⟩⟩
instance {Q : Bool → Hp → Prop} : Step (tNot t σ H Q) (t σ H fun c H1 => Q (!c) H1) := ⟨id⟩
instance {Q : Bool → Hp → Prop} : Step (tAnd t u σ H Q) (t σ H fun c H1 => if c = true then u σ H1 Q else Q false H1) := ⟨id⟩
instance {Q : Bool → Hp → Prop} : Step (tOr t u σ H Q) (t σ H fun c H1 => if c = true then Q true H1 else u σ H1 Q) := ⟨id⟩
instance : Step (tAndV ta tb σ H Q) (ta σ H fun x H1 => ∃ c, x = .bl c ∧ if c = true then tb σ H1 Q else Q (.bl false) H1) := ⟨id⟩
instance : Step (tOrV ta tb σ H Q) (ta σ H fun x H1 => ∃ c, x = .bl c ∧ if c = true then Q (.bl true) H1 else tb σ H1 Q) := ⟨id⟩
instance : Step (tNotV ta σ H Q) (ta σ H fun x H1 => ∃ c, x = .bl c ∧ Q (.bl (!c)) H1) := ⟨id⟩
instance : Step (tIsN ta σ H Q) (ta σ H fun x H1 => Q (.bl (decide (x = .non))) H1) := ⟨id⟩
instance : Step (tNotN ta σ H Q) (ta σ H fun x H1 => Q (.bl (!decide (x = .non))) H1) := ⟨id⟩
instance : Step (tIf t ta tb σ H Q) (t σ H fun c H1 => if c = true then ta σ H1 Q else tb σ H1 Q) := ⟨id⟩
instance : Step (tIfS t s1 s2 D σ H) (t σ H fun b H1 => if b = true then s1 D σ H1 else s2 D σ H1) := ⟨id⟩
instance : Step (tSeq s1 s2 D σ H) (s1 { D with nx := s2 D } σ H) := ⟨id⟩
instance : Step (tNext D σ H) (D.nx σ H) := ⟨id⟩
instance : Step (tBreak D σ H) (D.bk σ H) := ⟨id⟩
instance : Step (tCont D σ H) (D.ct σ H) := ⟨id⟩
instance : Step (tRet te D σ H) (te σ H D.rt) := ⟨id⟩
instance : Step (tRetN D σ H) (D.rt .non H) := ⟨id⟩
instance : Step (tDrop te D σ H) (te σ H fun _ H1 => D.nx σ H1) := ⟨id⟩
instance {g : TG} : Step (tAsg te g D σ H) (te σ H fun x H1 => g x σ H1 D.nx) := ⟨id⟩
instance {Q : L2.St → Hp → Prop} [h : Put σ n v τ] : Step (gName n v σ H Q) (Q τ H) := ⟨fun q => by
  show Q (σ.set n (some v)) H
  rw [h.eq]
  exact q⟩
instance {to ti : TE} {ts : TSet} {Q : L2.St → Hp → Prop} : Step (gSub to ti ts v σ H Q) (to σ H fun o H1 => ti σ H1 fun i H2 => ts o i v H2 fun H3 => Q σ H3) := ⟨id⟩
instance {ti : TIp} [h : Get σ n x] : Step (tAug n te ti D σ H) (te σ H fun y H1 => ti x y H1 fun z H2 => D.nx (σ.set n (some z)) H2) := ⟨fun q => ⟨x, h.eq, q⟩⟩
instance {g : Int → Int → Int} : Step (ipI g (.int i) (.int j) H Q) (Q (.int (g i j)) H) := ⟨fun q => ⟨i, j, rfl, rfl, q⟩⟩
instance {Q : List V → Hp → Prop} : Step (tNil σ H Q) (Q [] H) := ⟨id⟩
instance {Q : List V → Hp → Prop} : Step (tCons ta tR σ H Q) (ta σ H fun x H1 => tR σ H1 fun xs H2 => Q (x :: xs) H2) := ⟨id⟩
instance {r : List V → Hp → VK → Prop} : Step (tCB r tA σ H Q) (tA σ H fun vs H1 => r vs H1 Q) := ⟨id⟩
instance {sp : Sp} {dvs : List V} {E : XK} : Step (tCall sp dvs E tA σ H Q) (tA σ H fun vs H1 => sp (vs ++ dvs) H1 Q E) := ⟨id⟩
instance {g : Int → Int → V} : Step (rI0 g (.int i) (.int j) H Q) (Q (g i j) H) := ⟨fun q => ⟨i, j, rfl, rfl, q⟩⟩
instance {g : Int → V} : Step (rU g (.int i) H Q) (Q (g i) H) := ⟨fun q => ⟨i, rfl, q⟩⟩
instance (priority := high) [s : Scal x x] : Step (rEq x x H Q) (Q (.bl true) H) := ⟨r_eqT s.eq⟩
instance (priority := high) [s : Scal x x] : Step (rNe x x H Q) (Q (.bl false) H) := ⟨r_neT s.eq⟩
instance [s : Scal x y] : Step (rEq x y H Q) (Q (.bl (decide (x = y))) H) := ⟨fun q => ⟨s.eq, q⟩⟩
instance [s : Scal x y] : Step (rNe x y H Q) (Q (.bl (!decide (x = y))) H) := ⟨fun q => ⟨s.eq, q⟩⟩
instance : Step (tLst tA σ H Q) (tA σ H fun xs H1 => xs.length ≤ sizeLine ∧ ∀ p, H1 p = none → Q (.ref p) (upd H1 p (.lst xs))) := ⟨id⟩
instance : Step (tTup tA σ H Q) (tA σ H fun xs H1 => xs.length ≤ sizeLine ∧ ∀ p, H1 p = none → Q (.ref p) (upd H1 p (.tup xs))) := ⟨id⟩
instance {A B : Prop} : Step (if true = true then A else B) A := ⟨r_ifT⟩
instance {A B : Prop} : Step (if false = true then A else B) B := ⟨r_ifF⟩
instance : Step (cInt [.int i] H Q) (Q (.int i) H) := ⟨r_cInt⟩
instance : Step (cAbs [.int i] H Q) (Q (.int (if i < 0 then -i else i)) H) := ⟨r_cAbs⟩
instance : Step (cMax [.int i, .int j] H Q) (Q (.int (if j > i then j else i)) H) := ⟨r_cMax⟩
instance : Step (cMin [.int i, .int j] H Q) (Q (.int (if j < i then j else i)) H) := ⟨r_cMin⟩
instance {Q : Option Int → Hp → Prop} : Step (tPart te σ H Q) (te σ H fun x H1 => ∃ i, x = .int i ∧ Q (some i) H1) := ⟨id⟩
instance {Q : Option Int → Hp → Prop} : Step (tNoPart σ H Q) (Q none H) := ⟨id⟩
instance {rs : V → Option Int → Option Int → Hp → VK → Prop} {tl th : TO} : Step (tSl rs te tl th σ H Q) (te σ H fun x H1 => tl σ H1 fun l H2 => th σ H2 fun u H3 => rs x l u H3 Q) := ⟨id⟩
instance {t : TG} {u : TGs} {l : List V} {Q : L2.St → Hp → Prop} : Step (gCons t u (v :: l) σ H Q) (t v σ H fun σ' H' => u l σ' H' Q) := ⟨r_gcons⟩
instance {Q : L2.St → Hp → Prop} : Step (gNil [] σ H Q) (Q σ H) := ⟨r_gnil⟩
instance {Q : Bool → Hp → Prop} : Step (tYes σ H Q) (Q true H) := ⟨id⟩
instance {wi : TI} {g : TG} {tt : TT} {vs : List Nat} : Step (tLc wi g tt te vs σ H Q) (wi σ H fun J H1 => ∀ D, H1 D = none → LcW J g tt te vs σ H1 D (fun H => Q (.ref D) H)) := ⟨id⟩
instance {R : It → Hp → Prop} : Step (RZ.iZipA K tA σ H R) (tA σ H fun vs H1 => ∃ a b xs ys, vs = [.ref a, .ref b] ∧ ((SqL K H1 a xs ∧ SqL K H1 b ys ∧ R (Itz K a b) H1) ∨ (SqT K H1 a xs ∧ SqT K H1 b ys ∧ R (RZ.ItzT K a b) H1))) := ⟨id⟩
def Rng1 (vs : List V) (H : Hp) (R : It → Hp → Prop) : Prop := ∃ j : Int, vs = [.int j] ∧ -(2 ^ 62) ≤ j ∧ j < 2 ^ 62 ∧ R (Itr 0 j.toNat) H
instance {R : It → Hp → Prop} : Step (iRng1 tA σ H R) (tA σ H fun vs H1 => Rng1 vs H1 R) := ⟨id⟩
def Rng2 (vs : List V) (H : Hp) (R : It → Hp → Prop) : Prop := ∃ i j : Int, vs = [.int i, .int j] ∧ (-(2 ^ 62) ≤ i ∧ i < 2 ^ 62 ∧ -(2 ^ 62) ≤ j ∧ j < 2 ^ 62) ∧ R (Itr i (j - i).toNat) H
instance {R : It → Hp → Prop} : Step (iRng2 tA σ H R) (tA σ H fun vs H1 => Rng2 vs H1 R) := ⟨id⟩
instance {R : It → Hp → Prop} : Step (iStr te σ H R) (te σ H fun v H1 => ∃ x, v = .str x ∧ R (Its x) H1) := ⟨id⟩
def WkL (K : PySem.W.Frag) (x : V) (H : Hp) (R : It → Hp → Prop) : Prop := ∃ a, x = .ref a ∧ (∃ xs, SqL K H a xs) ∧ R (Itl K a) H
instance {R : It → Hp → Prop} : Step (iList K te σ H R) (te σ H fun x H1 => WkL K x H1 R) := ⟨id⟩
def WkT (K : PySem.W.Frag) (x : V) (H : Hp) (R : It → Hp → Prop) : Prop := ∃ a, x = .ref a ∧ (∃ xs, SqT K H a xs) ∧ R (Itt K a) H
instance {R : It → Hp → Prop} : Step (iTup K te σ H R) (te σ H fun x H1 => WkT K x H1 R) := ⟨id⟩
def WkE (K : PySem.W.Frag) (vs : List V) (H : Hp) (R : It → Hp → Prop) : Prop := ∃ a xs, vs = [.ref a] ∧ SqL K H a xs ∧ R (Ite K a) H
instance {R : It → Hp → Prop} : Step (iEnum K tA σ H R) (tA σ H fun vs H1 => WkE K vs H1 R) := ⟨id⟩
/-- a for's turns over J -/
def ForW (J : It) (g : TG) (tb : TS) (D : Ends) (σ : L2.St) (H : Hp) : Prop := ∃ W : Nat → Nat → L2.St → Hp → Prop, (∃ m, W 0 m σ H) ∧ ∀ i m σ H, W i m σ H →
  (J.stop i H ∧ D.nx σ H) ∨ (J.go i H ∧ ∃ N : L2.St → Hp → Prop, (∀ σ' H', N σ' H' → ∃ m', m' < m ∧ W (i + 1) m' σ' H') ∧ ∀ x H', J.yld i H x H' → g x σ H' fun σ2 H2 => tb { D with nx := N, ct := N, bk := D.nx } σ2 H2)
instance {wi : TI} {g : TG} {tb : TS} : Step (tFor wi g tb D σ H) (wi σ H fun J H1 => ForW J g tb D σ H1) := ⟨id⟩
theorem rng1 {R : It → Hp → Prop} (h0 : -(2 ^ 62) ≤ j) (h1 : j < 2 ^ 62) (q : R (Itr 0 j.toNat) H) : Rng1 [.int j] H R := ⟨j, rfl, h0, h1, q⟩
theorem rng2 {R : It → Hp → Prop} (h0 : -(2 ^ 62) ≤ i) (h1 : i < 2 ^ 62) (h2 : -(2 ^ 62) ≤ j) (h3 : j < 2 ^ 62) (q : R (Itr i (j - i).toNat) H) : Rng2 [.int i, .int j] H R := ⟨i, j, rfl, ⟨h0, h1, h2, h3⟩, q⟩
theorem wkL {R : It → Hp → Prop} {a : Addr} {xs : List V} (h : SqL K H a xs) (q : R (Itl K a) H) : WkL K (.ref a) H R := ⟨a, rfl, ⟨xs, h⟩, q⟩
theorem wkT {R : It → Hp → Prop} {a : Addr} {xs : List V} (h : SqT K H a xs) (q : R (Itt K a) H) : WkT K (.ref a) H R := ⟨a, rfl, ⟨xs, h⟩, q⟩
theorem wkE {R : It → Hp → Prop} {a : Addr} {xs : List V} (h : SqL K H a xs) (q : R (Ite K a) H) : WkE K [.ref a] H R := ⟨a, xs, rfl, h, q⟩
end
end PW
namespace PW
open PySem PySem.Spec PyProof.Rows L2
section
variable {H : Hp} {Q : VK} {x : V} {c : Nat} {z : Str} {p : Addr} {xs : List V} {K : PySem.W.Frag}
instance : Step (rInS (.str ⟨#[c]⟩) (.str z) H Q) (Q (.bl (decide (c ∈ z.cps.toList))) H) := ⟨fun q => ⟨c, z, rfl, rfl, q⟩⟩
instance : Step (rNotInS (.str ⟨#[c]⟩) (.str z) H Q) (Q (.bl (!decide (c ∈ z.cps.toList))) H) := ⟨fun q => ⟨c, z, rfl, rfl, q⟩⟩
theorem r_inT (h : SqT K H p xs) (fx : flatV x = true) (fs : xs.all flatV = true) (q : Q (.bl (inV x xs)) H) : rIn K false x (.ref p) H Q := ⟨p, xs, rfl, .inr h, fx, fs, q⟩
theorem r_inL (h : SqL K H p xs) (fx : flatV x = true) (fs : xs.all flatV = true) (q : Q (.bl (inV x xs)) H) : rIn K false x (.ref p) H Q := ⟨p, xs, rfl, .inl h, fx, fs, q⟩
theorem r_ninT (h : SqT K H p xs) (fx : flatV x = true) (fs : xs.all flatV = true) (q : Q (.bl (!inV x xs)) H) : rIn K true x (.ref p) H Q := ⟨p, xs, rfl, .inr h, fx, fs, q⟩
theorem r_ninL (h : SqL K H p xs) (fx : flatV x = true) (fs : xs.all flatV = true) (q : Q (.bl (!inV x xs)) H) : rIn K true x (.ref p) H Q := ⟨p, xs, rfl, .inl h, fx, fs, q⟩
theorem acc_map {α : Type} {acc : List V} {l : List α} {f : α → V} (hl : acc.length = l.length) (h : ∀ (i : Nat) v, acc[i]? = some v → ∃ a, l[i]? = some a ∧ v = f a) : acc = l.map f := by
  refine List.ext_getElem? fun i => ?_
  rw [List.getElem?_map]
  cases e : acc[i]? with
  | none =>
    have h1 := List.getElem?_eq_none_iff.mp e
    rw [List.getElem?_eq_none_iff.mpr (show l.length ≤ i by omega)]
    rfl
  | some v =>
    obtain ⟨a, h1, h2⟩ := h i v e
    rw [h1, h2]
    rfl
end
end PW
namespace PW
open PySem PySem.Spec PyProof.Rows L2
/-! ### calls by keywords, the place of the arguments kept -/
section
variable {X : Cx} {CX : CXT} {k n : Nat} {f : Addr} {fd : FuncData} {ps ks : List Str} {sp : Sp} {E : XK} {x qual : Str} {p pos : Pos} {kws : List Keyword} {tk : TA} {g : List Value → List Value → List Value} {gV : List V → List V → List V}
theorem pe_callN0 (F : FnOk X.prog X.w X.K X.mg X.base CX k f fd ps sp) (hr : Room k X.A) (hg : Gl X x) (hm : X.mg x = some (.ref f)) (hk : PySem.W.keepIn X.K (.ref f) = true) (hb : KBn X.K fd ps 0 ks g gV) (hx : Passes CX X E)
    (hkw : PK X kws tk) (hall : (backToKw pos (keywordEach kws X.env)).all (·.1.isSome) = true := by rfl) (hks : (backToKw pos (keywordEach kws X.env)).filterMap (·.1) = ks := by rfl)
    (hdb : (x == ("__debug__" : Str)) = false := by decide) (hpl : ((backTo pos (starEach [] X.env)).any (·.1) || (backToKw pos (keywordEach kws X.env)).any (·.1.isNone)) = false := by rfl) :
    PE X (.Call (.Name x p) [] kws pos) (tCallN 0 ks.length sp gV E tNil tk) := by
  refine ⟨fun pins s σ H Q I h => ?_⟩
  refine wpAny_Call_Name_kw (ld_glob I hg hm ?_ hdb)
  refine PySem.W.callWith_KW0 (h₀ := X.base) I.ok.mod.kin hk hall ?_ hpl
  refine thn (hkw.run pos pins s σ H _ I h) fun ws s2 ⟨zs, H2, I2, rz, l1, l2, q2⟩ => ⟨I2.kIn, ?_⟩
  rw [hks]
  exact run_fnN (us := []) (vs := []) F hr hb hx I2 .nil rz rfl l2 q2
theorem kbn_app {K : PySem.W.Frag} {params : Arguments} {body : List Stmt} {scope : Scope} {kws : List (Str × V)} (F : FunD K x qual params body scope [] kws f fd) (n : Nat) (ks : List Str)
    (h : ∀ (kV doc pm : Value) (an : Option Addr) (cdv ct : Value) (us ws : List Value), us.length = n → ws.length = ks.length → bindArgs (PySem.W.fnOf x qual params body scope .none kV doc pm an cdv ct) ⟨us, ks.zip ws⟩ = pure (ps.zip (us ++ ws))) :
    KBn K fd ps n ks (fun us ws => us ++ ws) (fun vs zs => vs ++ zs) := by
  obtain ⟨oc, od, dV, kV, doc, pm, an, cdv, ct, osl, rfl, lk, hcd, hD, hK⟩ := F.ex
  rcases hD with ⟨_, rfl⟩ | ⟨e, _⟩
  · exact ⟨fun s us ws _ l1 l2 => .of_eq (h kV doc pm an cdv ct us ws l1 l2), fun r1 r2 => r1.append r2⟩
  · exact absurd rfl e
end
section
variable {σ : L2.St} {H : Hp} {Q : VK} {n m : Nat} {sp : Sp} {gV : List V → List V → List V} {E : XK} {t tk : TA}
instance : Step (tCallN n m sp gV E t tk σ H Q) (t σ H fun vs H1 => tk σ H1 fun zs H2 => vs.length = n ∧ zs.length = m ∧ sp (gV vs zs) H2 Q E) := ⟨id⟩
end
/-- a comprehension under an invariant of the heap that the new list does not touch; elements told apart from the heap -/
theorem lc_inv {J : It} {n : Nat} {G : Hp → Prop} {Y : Nat → Hp → V → Hp → Prop} (w : Walk J n G Y) {g : TG} {te : TE} {vs : List Nat} {σ : L2.St} {H1 : Hp} {D : Addr} {Qd : Hp → Prop} {σw : L2.St} (hw : wipe σ vs = σw) (I : Hp → Prop) (E : Nat → V → Prop) (hD : H1 D = none) (hn : n ≤ 100000)
    (h0 : I (upd H1 D (.lst []))) (hG : ∀ H, I H → G H)
    (hs : ∀ i x H H' acc (R : VK), i < n → I H → H D = some (.lst acc) → Y i H x H' → (∀ v H4, E i v → H4 D = some (.lst acc) → I (upd H4 D (.lst (acc ++ [v]))) → R v H4) → g x σw H' fun σ2 H2 => wipe σ2 vs = σw ∧ te σ2 H2 R)
    (hd : ∀ H acc, I H → H D = some (.lst acc) → acc.length = n → (∀ i v, acc[i]? = some v → E i v) → Qd H) : LcW J g tYes te vs σ H1 D Qd := by
  subst hw
  refine lc_it w (fun i H => I H ∧ ∃ acc, H D = some (.lst acc) ∧ acc.length = i ∧ ∀ j v, acc[j]? = some v → E j v) ?_ (fun i H _ p => hG H p.1) ?_ ?_
  · exact ⟨h0, [], upd_same, rfl, fun j v e => by simp at e⟩
  · rintro i x H H' hi ⟨p, acc, ha, hl, hE2⟩ y
    refine hs i x H H' acc _ hi p ha y fun v H4 e x4 hI => ?_
    refine ⟨acc, x4, Nat.lt_of_lt_of_le (show acc.length < 100001 by omega) (by decide), hI, acc ++ [v], upd_same, by rw [List.length_append, hl]; rfl, fun j u hj => ?_⟩
    by_cases h : j < acc.length
    · rw [List.getElem?_append_left h] at hj
      exact hE2 j u hj
    · have hj2 : j = acc.length := by
        have h3 : j < (acc ++ [v]).length := (List.getElem?_eq_some_iff.mp hj).1
        rw [List.length_append] at h3
        have h4 : [v].length = 1 := rfl
        omega
      subst hj2
      rw [List.getElem?_append_right (Nat.le_refl _), Nat.sub_self] at hj
      injection hj with hj
      subst hj
      rw [hl]
      exact e
  · rintro H ⟨p, acc, ha, hl, hE2⟩
    exact hd H acc p ha hl hE2
theorem r_and3 {A B C : Prop} (a : A) (b : B) (c : C) : A ∧ B ∧ C := ⟨a, b, c⟩
end PW
namespace PW
open PySem PySem.Spec PyProof.Rows L2
section
variable {z : Str} {R : Prop} {to te : TE} {σ : L2.St} {H : Hp} {Q : VK} {r : V → List V → Hp → VK → Prop}
instance : Step ((∃ a, V.str z = .str a) ∧ R) R := ⟨fun q => ⟨⟨z, rfl⟩, q⟩⟩
instance : Step (tM1 r to te σ H Q) (to σ H fun x H1 => (∃ a, x = .str a) ∧ te σ H1 fun y H2 => r x [y] H2 Q) := ⟨id⟩
instance : Step (tM0 r to σ H Q) (to σ H fun x H1 => (∃ a, x = .str a) ∧ r x [] H1 Q) := ⟨id⟩
end
theorem cutS_len (z : Str) (lo hi : Option Int) : (cutS z lo hi).length ≤ z.length := by
  show (List.toArray _).size ≤ z.cps.size
  rw [List.size_toArray, List.length_take, List.length_drop]
  have : z.cps.toList.length = z.cps.size := by simp
  omega
theorem add_len (y z : Str) : (y ++ z).length = y.length + z.length := by
  show (y.cps ++ z.cps).size = _
  rw [Array.size_append]
  rfl
/-- a list whose items are told one by one -/
theorem acc_exists {α : Type} {g : α → V} {p : α → Prop} : ∀ {acc : List V}, (∀ (i : Nat) v, acc[i]? = some v → ∃ a, v = g a ∧ p a) → ∃ l : List α, acc = l.map g ∧ l.length = acc.length ∧ ∀ a ∈ l, p a
  | [], _ => ⟨[], rfl, rfl, fun _ h => by cases h⟩
  | x :: r, h => by
    obtain ⟨a, e, pa⟩ := h 0 x rfl
    obtain ⟨l, e2, hl, pl⟩ := acc_exists (acc := r) fun i v hv => h (i + 1) v (by rw [List.getElem?_cons_succ]; exact hv)
    refine ⟨a :: l, by rw [e, e2]; rfl, by rw [List.length_cons, List.length_cons, hl], fun b hb => ?_⟩
    rcases List.mem_cons.mp hb with rfl | hb
    · exact pa
    · exact pl b hb
theorem joinL_len (S : List Nat) : ∀ ps : List (List Nat), (TL.joinL S ps).length ≤ (ps.map List.length).sum + ps.length * S.length
  | [] => Nat.zero_le _
  | [p] => by
    show p.length ≤ _
    simp
  | p :: q :: r => by
    have ih := joinL_len S (q :: r)
    show (p ++ (S ++ TL.joinL S (q :: r))).length ≤ _
    rw [List.length_append, List.length_append, List.map_cons, List.sum_cons, List.length_cons]
    have e : ((q :: r).length + 1) * S.length = (q :: r).length * S.length + S.length := Nat.succ_mul _ _
    rw [e]
    omega
theorem sum_le {k : Nat} : ∀ {l : List Str}, (∀ z ∈ l, z.length ≤ k) → (l.map (·.length)).sum ≤ l.length * k
  | [], _ => Nat.zero_le _
  | z :: r, h => by
    have h1 := h z (List.mem_cons_self ..)
    have h2 := sum_le (k := k) (l := r) fun y hy => h y (List.mem_cons_of_mem _ hy)
    rw [List.map_cons, List.sum_cons, List.length_cons, Nat.succ_mul]
    omega
end PW
namespace PW
open PySem PySem.Spec PyProof.Rows L2
theorem len_ok {n : Nat} (h : n ≤ 100000) : n ≤ sizeLine := Nat.le_trans h (by decide)
theorem log_ok {m : Int} (h0 : 0 ≤ m) (h : m < 2 ^ 64) : m.natAbs.log2 < 9000 := by
  have h2 : m.natAbs < 2 ^ 64 := by omega
  exact Nat.lt_trans (PySem.Flt.log2_lt_of (by decide) h2) (by decide)
section
variable {H : Hp} {Q : VK} {p : Addr} {xs : List V} {k : Int}
theorem r_rep (h : H p = some (.lst xs)) (h0 : 0 ≤ k) (h1 : k < 1000) (hl : xs.length ≤ 1000) (q : ∀ r, H r = none → Q (.ref r) (upd H r (.lst (List.replicate k.toNat xs).flatten))) : rRep (.ref p) (.int k) H Q := by
  refine ⟨p, k, xs, rfl, rfl, h, by omega, by omega, ?_, q⟩
  have h2 : xs.length * k.toNat ≤ 1000 * 1000 := Nat.mul_le_mul hl (by omega)
  exact Nat.le_trans h2 (by decide)
end
end PW
local macro_rules | `(tactic| walk_at "lst") => `(tactic| first | with_reducible assumption | exact L2.SqL.of (by walk_at "hp") | exact L2.SqT.of (by walk_at "hp") | assumption)
local macro_rules | `(tactic| walk_at "hp") => `(tactic| first | with_reducible assumption | (with_reducible exact L2.upd_same) | exact (L2.upd_ne (by walk_at "ne")).trans (by walk_at "hp"))
local macro_rules | `(tactic| walk_at "ne") => `(tactic| first | with_reducible assumption | (with_reducible exact Ne.symm (by with_reducible assumption)) | (with_reducible exact L2.ne_of_none (by with_reducible assumption) (by with_reducible assumption)) | (with_reducible exact Ne.symm (L2.ne_of_none (by with_reducible assumption) (by with_reducible assumption))) | exact PW.ne_ofK (by with_reducible assumption) (by with_reducible assumption) rfl)
local macro_rules | `(tactic| walk_at "g1") => `(tactic| first
  | refine PW.Step.imp ?_
  | ((with_reducible refine' PW.r_I ?h ?_); (case h => walk_at "cond"))
  | ((with_reducible refine' PW.r_ixL ?h ?a ?_); (case h => walk_at "lst"); (case a => rfl))
  | ((with_reducible refine' PW.r_ixT ?h ?a ?_); (case h => walk_at "lst"); (case a => rfl))
  | ((with_reducible refine' PW.r_setL ?h ?a ?_); (case h => walk_at "hp"); (case a => rfl))
  | ((with_reducible refine' PW.r_lst1 ?h ?_); (case h => first | decide | (simp only [List.length_cons, List.length_nil]; omega)))
  | ((with_reducible refine' PW.r_ifT' ?e ?_); (case e => with_reducible exact PW.dec_self))
  | ((with_reducible refine' PW.r_ifF' ?e ?_); (case e => exact PW.dec_kind rfl))
  | ((with_reducible refine' PW.r_ifF' ?e ?_); (case e => with_reducible exact PW.ndec_self))
  | ((with_reducible refine' PW.r_ifT' ?e ?_); (case e => exact PW.ndec_kind rfl))
  | ((with_reducible refine' PW.r_ifT' ?e ?_); (case e => decide))
  | ((with_reducible refine' PW.r_ifF' ?e ?_); (case e => decide))
  | ((with_reducible refine' PW.r_cLenL ?h ?_); (case h => walk_at "lst"))
  | ((with_reducible refine' PW.r_cLenT ?h ?_); (case h => walk_at "lst"))
  | ((with_reducible refine' PW.r_cLenS ?h ?_); (case h => walk_at "size"))
  | ((with_reducible refine' PW.r_addS ?h ?_); (case h => walk_at "size"))
  | ((with_reducible refine' PW.r_slL ?h ?_); (case h => walk_at "lst"))
  | ((with_reducible refine' PW.r_slS ?h ?_); (case h => walk_at "size"))
  | ((with_reducible refine' PW.r_gtup ?h ?l ?_); (case h => walk_at "lst"); (case l => rfl))
  | ((with_reducible refine' PW.r_isi ?h ?e ?_); (case h => walk_at "ty"); (case e => walk_at "kit"))
  | ((with_reducible refine' PW.r_isiT2 ?ht ?h ?e1 ?e2 ?_); (case ht => walk_at "hp"); (case h => walk_at "ty"); (case e1 => walk_at "kit"); (case e2 => walk_at "kit"))
  | ((with_reducible refine' PW.r_ixqL ?h ?a ?_); (case h => walk_at "lst"); (case a => rfl))
  | ((with_reducible refine' PW.r_ixqT ?h ?a ?_); (case h => walk_at "lst"); (case a => rfl))
  | ((with_reducible refine' PW.r_inT ?h ?a ?b ?_); (case h => walk_at "lst"); (case a => rfl); (case b => rfl))
  | ((with_reducible refine' PW.r_inL ?h ?a ?b ?_); (case h => walk_at "lst"); (case a => rfl); (case b => rfl))
  | ((with_reducible refine' PW.r_ninT ?h ?a ?b ?_); (case h => walk_at "lst"); (case a => rfl); (case b => rfl))
  | ((with_reducible refine' PW.r_ninL ?h ?a ?b ?_); (case h => walk_at "lst"); (case a => rfl); (case b => rfl))
  | ((with_reducible refine' PW.rng1 ?h1 ?h2 ?_); (case h1 => omega); (case h2 => omega))
  | ((with_reducible refine' PW.rng2 ?h1 ?h2 ?h3 ?h4 ?_); (case h1 => omega); (case h2 => omega); (case h3 => omega); (case h4 => omega))
  | ((with_reducible refine' PW.r_rep ?h ?a ?b ?c ?_); (case h => walk_at "hp"); (case a => omega); (case b => omega); (case c => walk_at "len"))
  | (with_reducible refine' PW.r_and3 rfl rfl ?_)
  | ((with_reducible refine' PW.wkL ?h ?_); (case h => walk_at "lst"))
  | ((with_reducible refine' PW.wkT ?h ?_); (case h => walk_at "lst"))
  | ((with_reducible refine' PW.wkE ?h ?_); (case h => walk_at "lst"))
  | ((with_reducible refine' PW.r_cListL ?h ?_); (case h => walk_at "lst"))
  | ((with_reducible refine' PW.r_cListT ?h ?_); (case h => walk_at "lst"))
  | ((with_reducible refine' PW.r_cTupleL ?h ?_); (case h => walk_at "lst")))
local macro_rules | `(tactic| walk_at "go") => `(tactic| repeat (walk_at "g1"))
local macro_rules | `(tactic| walk_at "cond") => `(tactic| first | with_reducible assumption | omega | ((with_reducible refine PW.cmx ?_ ?_ ?_ ?_) <;> omega) | ((with_reducible refine PW.cdw ?_ ?_) <;> omega) | ((with_reducible refine PW.cdw2 ?_ ?_) <;> with_reducible assumption) | ((with_reducible refine PW.cpow ?_ ?_ ?_ ?_) <;> omega))
local macro_rules | `(tactic| walk_at "size") => `(tactic| first | with_reducible assumption | exact Nat.le_trans (by with_reducible assumption) (by decide))
local macro_rules | `(tactic| walk_at "ty") => `(tactic| first | with_reducible assumption | exact .base (.int _) | exact .base (.str _) | exact .base (.bl _) | exact .base .non | exact .base (.lst (by walk_at "hp")) | exact .base (.tup (by walk_at "hp")))
local macro_rules | `(tactic| walk_at "kit") => `(tactic| first | exact PW.kb_NoneType_bool | exact PW.kb_NoneType_int | exact PW.kb_NoneType_str | exact PW.kb_NoneType_list | exact PW.kb_NoneType_tuple | exact PW.kb_NoneType_dict | exact PW.kb_bool_bool | exact PW.kb_bool_int | exact PW.kb_bool_str | exact PW.kb_bool_list | exact PW.kb_bool_tuple | exact PW.kb_bool_dict | exact PW.kb_int_bool | exact PW.kb_int_int | exact PW.kb_int_str | exact PW.kb_int_list | exact PW.kb_int_tuple | exact PW.kb_int_dict | exact PW.kb_str_bool | exact PW.kb_str_int | exact PW.kb_str_str | exact PW.kb_str_list | exact PW.kb_str_tuple | exact PW.kb_str_dict | exact PW.kb_list_bool | exact PW.kb_list_int | exact PW.kb_list_str | exact PW.kb_list_list | exact PW.kb_list_tuple | exact PW.kb_list_dict | exact PW.kb_tuple_bool | exact PW.kb_tuple_int | exact PW.kb_tuple_str | exact PW.kb_tuple_list | exact PW.kb_tuple_tuple | exact PW.kb_tuple_dict)
local macro_rules | `(tactic| walk_at "len") => `(tactic| first | decide | (refine PW.len_ok ?_; simp only [List.length_cons, List.length_nil]; omega) | (simp only [List.length_cons, List.length_nil]; omega))
namespace PW
open PySem PySem.Spec PyProof.Rows L2
/-! ### the text by places -/
def top (i : Nat) : Stmt := PySem.Challenge.pw_powerwish_k13_names_told.main.body.getD i (.Pass ⟨0, 0, 0, 0⟩)
abbrev s_is_name : Stmt := top 4
abbrev n_is_name : List Str := ["value", "sign"]
abbrev p_is_name : List Str := ["value"]
theorem sc_is_name : FnScope n_is_name p_is_name (defScope s_is_name) := ⟨rfl, rfl, rfl, by decide +kernel, rfl, by decide +kernel, by decide +kernel⟩
abbrev s__law_pull : Stmt := top 6
abbrev n__law_pull : List Str := ["_law_bag_here", "_law_many_z", "_law_cell", "_law_got", "_law_seed"]
abbrev p__law_pull : List Str := ["_law_bag_here", "_law_many_z"]
theorem sc__law_pull : FnScope n__law_pull p__law_pull (defScope s__law_pull) := ⟨rfl, rfl, rfl, by decide +kernel, rfl, by decide +kernel, by decide +kernel⟩
abbrev s__law_of : Stmt := top 7
abbrev n__law_of : List Str := ["_law_bag_here", "_law_some"]
abbrev p__law_of : List Str := ["_law_bag_here", "_law_some"]
theorem sc__law_of : FnScope n__law_of p__law_of (defScope s__law_of) := ⟨rfl, rfl, rfl, by decide +kernel, rfl, by decide +kernel, by decide +kernel⟩
abbrev s__law_same : Stmt := top 8
abbrev n__law_same : List Str := ["_law_found", "_law_due", "_law_one_z", "_law_other_z"]
abbrev p__law_same : List Str := ["_law_found", "_law_due"]
theorem sc__law_same : FnScope n__law_same p__law_same (defScope s__law_same) := ⟨rfl, rfl, rfl, by decide +kernel, rfl, by decide +kernel, by decide +kernel⟩
abbrev s__law_bag : Stmt := top 9
abbrev n__law_bag : List Str := ["_law_script"]
abbrev p__law_bag : List Str := ["_law_script"]
theorem sc__law_bag : FnScope n__law_bag p__law_bag (defScope s__law_bag) := ⟨rfl, rfl, rfl, by decide +kernel, rfl, by decide +kernel, by decide +kernel⟩
abbrev s__law_letters : Stmt := top 10
abbrev n__law_letters : List Str := []
abbrev p__law_letters : List Str := []
theorem sc__law_letters : FnScope n__law_letters p__law_letters (defScope s__law_letters) := ⟨rfl, rfl, rfl, by decide +kernel, rfl, by decide +kernel, by decide +kernel⟩
abbrev s__law_is_name : Stmt := top 11
abbrev n__law_is_name : List Str := ["_law_text_z", "_law_good", "_law_sign_z"]
abbrev p__law_is_name : List Str := ["_law_text_z"]
theorem sc__law_is_name : FnScope n__law_is_name p__law_is_name (defScope s__law_is_name) := ⟨rfl, rfl, rfl, by decide +kernel, rfl, by decide +kernel, by decide +kernel⟩
abbrev s_law : Stmt := top 12
abbrev n_law : List Str := ["_law_script", "_law_bag_here", "_law_turn", "_law_text_z", "_law_at_z", "_law_k"]
abbrev p_law : List Str := ["_law_script"]
theorem sc_law : FnScope n_law p_law (defScope s_law) := ⟨rfl, rfl, rfl, by decide +kernel, rfl, by decide +kernel, by decide +kernel⟩
/-! ### what the top has made -/
structure Txt (K : PySem.W.Frag) (mg : Str → Option Value) : Prop where
  g_is_name : mg "is_name" = some (.ref (He.ga K "is_name"))
  g__law_pull : mg "_law_pull" = some (.ref (He.ga K "_law_pull"))
  g__law_of : mg "_law_of" = some (.ref (He.ga K "_law_of"))
  g__law_same : mg "_law_same" = some (.ref (He.ga K "_law_same"))
  g__law_bag : mg "_law_bag" = some (.ref (He.ga K "_law_bag"))
  g__law_letters : mg "_law_letters" = some (.ref (He.ga K "_law_letters"))
  g__law_is_name : mg "_law_is_name" = some (.ref (He.ga K "_law_is_name"))
  g_law : mg "law" = some (.ref (He.ga K "law"))
  c_LETTERS : ∃ t, mg "LETTERS" = some (.str "abcdefghijklmnopqrstuvwxyz" t)
  g_RESERVED : mg "RESERVED" = some (.ref (He.ga K "RESERVED"))
  t_RESERVED : ∀ H : Hp, SqT K H (He.ga K "RESERVED") ([(.str "len"), (.str "mod"), (.str "and"), (.str "or"), (.str "not"), (.str "true")] : List V)
  c_MOST_LETTERS : ∃ t, mg "MOST_LETTERS" = some (.int 6 t)
  f_all : mg "all" = none
  f_isinstance : mg "isinstance" = none
  f_str : mg "str" = none
  f_len : mg "len" = none
  f_int : mg "int" = none
  f_list : mg "list" = none
  f_tuple : mg "tuple" = none
  f_bool : mg "bool" = none
  f_zip : mg "zip" = none
  f_range : mg "range" = none
  d_is_name : FunD K "is_name" "is_name" (defArgs s_is_name) (defBody s_is_name) (defScope s_is_name) [] [] (He.fAd K ("is_name", none)) (fdOf K (He.fAd K ("is_name", none)))
  d__law_pull : FunD K "_law_pull" "_law_pull" (defArgs s__law_pull) (defBody s__law_pull) (defScope s__law_pull) [] [] (He.fAd K ("_law_pull", none)) (fdOf K (He.fAd K ("_law_pull", none)))
  d__law_of : FunD K "_law_of" "_law_of" (defArgs s__law_of) (defBody s__law_of) (defScope s__law_of) [] [] (He.fAd K ("_law_of", none)) (fdOf K (He.fAd K ("_law_of", none)))
  d__law_same : FunD K "_law_same" "_law_same" (defArgs s__law_same) (defBody s__law_same) (defScope s__law_same) [] [] (He.fAd K ("_law_same", none)) (fdOf K (He.fAd K ("_law_same", none)))
  d__law_bag : FunD K "_law_bag" "_law_bag" (defArgs s__law_bag) (defBody s__law_bag) (defScope s__law_bag) [] [] (He.fAd K ("_law_bag", none)) (fdOf K (He.fAd K ("_law_bag", none)))
  d__law_letters : FunD K "_law_letters" "_law_letters" (defArgs s__law_letters) (defBody s__law_letters) (defScope s__law_letters) [] [] (He.fAd K ("_law_letters", none)) (fdOf K (He.fAd K ("_law_letters", none)))
  d__law_is_name : FunD K "_law_is_name" "_law_is_name" (defArgs s__law_is_name) (defBody s__law_is_name) (defScope s__law_is_name) [] [] (He.fAd K ("_law_is_name", none)) (fdOf K (He.fAd K ("_law_is_name", none)))
  d_law : FunD K "law" "law" (defArgs s_law) (defBody s_law) (defScope s_law) [] [] (He.fAd K ("law", none)) (fdOf K (He.fAd K ("law", none)))
section
variable {K : PySem.W.Frag} {mg : Str → Option Value}
theorem b_is_name (T : Txt K mg) : Binds K (fdOf K (He.fAd K ("is_name", none))) p_is_name [] := FunD.bindsN (ps := p_is_name) T.d_is_name fun _ _ _ _ _ _ us hl => match us, hl with | [_], _ => rfl
theorem b__law_pull (T : Txt K mg) : Binds K (fdOf K (He.fAd K ("_law_pull", none))) p__law_pull [] := FunD.bindsN (ps := p__law_pull) T.d__law_pull fun _ _ _ _ _ _ us hl => match us, hl with | [_, _], _ => rfl
theorem b__law_of (T : Txt K mg) : Binds K (fdOf K (He.fAd K ("_law_of", none))) p__law_of [] := FunD.bindsN (ps := p__law_of) T.d__law_of fun _ _ _ _ _ _ us hl => match us, hl with | [_, _], _ => rfl
theorem b__law_same (T : Txt K mg) : Binds K (fdOf K (He.fAd K ("_law_same", none))) p__law_same [] := FunD.bindsN (ps := p__law_same) T.d__law_same fun _ _ _ _ _ _ us hl => match us, hl with | [_, _], _ => rfl
theorem b__law_bag (T : Txt K mg) : Binds K (fdOf K (He.fAd K ("_law_bag", none))) p__law_bag [] := FunD.bindsN (ps := p__law_bag) T.d__law_bag fun _ _ _ _ _ _ us hl => match us, hl with | [_], _ => rfl
theorem b__law_letters (T : Txt K mg) : Binds K (fdOf K (He.fAd K ("_law_letters", none))) p__law_letters [] := FunD.bindsN (ps := p__law_letters) T.d__law_letters fun _ _ _ _ _ _ us hl => match us, hl with | [], _ => rfl
theorem b__law_is_name (T : Txt K mg) : Binds K (fdOf K (He.fAd K ("_law_is_name", none))) p__law_is_name [] := FunD.bindsN (ps := p__law_is_name) T.d__law_is_name fun _ _ _ _ _ _ us hl => match us, hl with | [_], _ => rfl
theorem b_law (T : Txt K mg) : Binds K (fdOf K (He.fAd K ("law", none))) p_law [] := FunD.bindsN (ps := p_law) T.d_law fun _ _ _ _ _ _ us hl => match us, hl with | [_], _ => rfl
end
end PW
/-! ### the draws -/
namespace PW
open PySem PySem.Spec PyProof.Rows L2
theorem r_seqP {s1 s2 : TS} {D : Ends} {σ : L2.St} {H : Hp} (P : L2.St → Hp → Prop) (hq : ∀ σ' H', P σ' H' → s2 D σ' H') (h : ∀ N : L2.St → Hp → Prop, (∀ σ' H', P σ' H' → N σ' H') → s1 { D with nx := N } σ H) : tSeq s1 s2 D σ H := h (s2 D) hq
/-- all but b stays -/
def ExB (b : Addr) (H H' : Hp) : Prop := ∀ a o, a ≠ b → H a = some o → H' a = some o
theorem ExB.refl {b : Addr} {H : Hp} : ExB b H H := fun _ _ _ h => h
theorem ExB.trans {b : Addr} {H H1 H2 : Hp} (x : ExB b H H1) (y : ExB b H1 H2) : ExB b H H2 := fun a o n h => y a o n (x a o n h)
theorem ExB.upd {b : Addr} {H H1 : Hp} {o : HO} (x : ExB b H H1) : ExB b H (L2.upd H1 b o) := fun a u n h => by
  rw [upd_ne n]
  exact x a u n h
structure BagAt (H : Hp) (b c : Addr) : Prop where
  ex : ∃ (cells : List Int) (i g s : Int), H b = some (.lst [.ref c, .int i, .int g, .int s]) ∧ H c = some (.lst (cells.map V.int)) ∧ 0 ≤ i ∧ 0 ≤ g ∧ 0 ≤ s ∧ s < 2147483549
theorem bag_ne {H : Hp} {b c : Addr} {cells : List Int} {i g s : Int} (h : H b = some (.lst [.ref c, .int i, .int g, .int s])) (h2 : H c = some (.lst (cells.map V.int))) : c ≠ b := by
  intro e
  subst e
  rw [h] at h2
  injection h2 with h2
  injection h2 with h2
  cases cells with
  | nil => cases h2
  | cons z r =>
    rw [List.map_cons] at h2
    injection h2 with h3
    cases h3
theorem BagAt.upd {H : Hp} {b c : Addr} {cells : List Int} {i g s i' g' s' : Int} (h : H b = some (.lst [.ref c, .int i, .int g, .int s])) (h2 : H c = some (.lst (cells.map V.int))) (a1 : 0 ≤ i') (a2 : 0 ≤ g') (a3 : 0 ≤ s') (a4 : s' < 2147483549) :
    BagAt (L2.upd H b (.lst [.ref c, .int i', .int g', .int s'])) b c :=
  ⟨cells, i', g', s', upd_same, by rw [upd_ne (bag_ne h h2)]; exact h2, a1, a2, a3, a4⟩
theorem atI_ints {xs : List Int} {i : Int} (h0 : 0 ≤ i) (h : i < (xs.length : Int)) : ∃ z, atI (xs.map V.int) i = some (.int z) := by
  have hl : i.toNat < xs.length := by omega
  have e : i = (i.toNat : Int) := by omega
  have h2 : atI (xs.map V.int) (i.toNat : Int) = some (.int xs[i.toNat]) := atI_nat (by rw [List.getElem?_map, List.getElem?_eq_getElem hl]; rfl)
  exact ⟨_, by rw [← e] at h2; exact h2⟩
theorem BagAt.objs {H : Hp} {b c : Addr} (h : BagAt H b c) : (∃ o, H b = some o) ∧ (∃ o, H c = some o) ∧ c ≠ b := by
  obtain ⟨cells, i, g, s, h1, h2, _⟩ := h
  exact ⟨⟨_, h1⟩, ⟨_, h2⟩, bag_ne h1 h2⟩
/-- where the two lists of the bag stay -/
theorem BagAt.keep {H H' : Hp} {b c : Addr} (h : BagAt H b c) (e1 : ∀ o, H b = some o → H' b = some o) (e2 : ∀ o, H c = some o → H' c = some o) : BagAt H' b c := by
  obtain ⟨cells, i, g, s, h1, h2, r⟩ := h
  exact ⟨cells, i, g, s, e1 _ h1, e2 _ h2, r⟩
theorem BagAt.put {H : Hp} {b c D : Addr} {o : HO} (h : BagAt H b c) (n1 : b ≠ D) (n2 : c ≠ D) : BagAt (L2.upd H D o) b c := h.keep (fun o e => by rw [upd_ne n1]; exact e) fun o e => by rw [upd_ne n2]; exact e
theorem BagAt.grow {H H' : Hp} {b c : Addr} (h : BagAt H b c) (e : ∀ a o, H a = some o → H' a = some o) : BagAt H' b c := h.keep (fun o q => e _ o q) fun o q => e _ o q
theorem BagAt.ne {H : Hp} {b c D : Addr} (h : BagAt H b c) (hD : H D = none) : b ≠ D ∧ c ≠ D := by
  obtain ⟨⟨o, h1⟩, ⟨o2, h2⟩, _⟩ := h.objs
  exact ⟨ne_of_none h1 hD, ne_of_none h2 hD⟩
theorem BagAt.new {H : Hp} {b c D : Addr} {o : HO} (h : BagAt H b c) (hD : H D = none) : BagAt (L2.upd H D o) b c := h.put (h.ne hD).1 (h.ne hD).2
def spPull : Sp := fun vs H Q _ => ∃ (b c : Addr) (m : Int), vs = [.ref b, .int m] ∧ BagAt H b c ∧ 0 < m ∧ m.natAbs.log2 < 9000 ∧ ∀ r H', 0 ≤ r → r < m → BagAt H' b c → ExB b H H' → Q (.int r) H'
section
variable {P : Program} {w : World} {K : PySem.W.Frag} {mg : Str → Option Value} {base : Heap}
theorem ok__law_pull (T : Txt K mg) : FnOk P w K mg base CX0 1 (He.ga K "_law_pull") (fdOf K (He.ga K "_law_pull")) p__law_pull spPull := by
  refine FunD.ok T.d__law_pull sc__law_pull (fun vs H Q E h => ?_) (fun cdv A outer s H vs Q E hr h => ?_)
  · obtain ⟨b, c, m, rfl, _⟩ := h
    rfl
  · obtain ⟨b, c, m, rfl, ⟨cells, i, g, z, hb, hc, hi, hg, hz, hz2⟩, hm, hm9, hQ⟩ := h
    have hcb := bag_ne hb hc
    refine ⟨_, PSs.nox ((pss_cons (ps_if (PW.pt (pw_and (pt_cmpR op_eq (pe_ix ix_list (pv 0) pe_int (fun _ _ => rfl)) pe_int (nomark _)) (pw_and1 (pt_cmpR op_lt (pe_ix ix_list (pv 0) pe_int (fun _ _ => rfl)) (pe_callB call_lenN (by rfl) T.f_len (by decide +kernel) (pa_cons (pe_ix ix_list (pv 0) pe_int (fun _ _ => rfl)) pa_nil)) (nomark _)))))
      (pss_cons (ps_set (i := 2) sc__law_pull.nd rfl (Or.inl rfl) (pe_ix ix_list (pe_ix ix_list (pv 0) pe_int (fun _ _ => rfl)) (pe_ix ix_list (pv 0) pe_int (fun _ _ => rfl)) (fun _ _ => rfl)))
        (pss_cons (ps_asg (pe_op op_add (pe_ix ix_list (pv 0) pe_int (fun _ _ => rfl)) pe_int) (pg_sub (pv 0) pe_int set_list))
        (pss_one (ps_if (pt_cmpR op_ge (pv 2) (pe_op op_pow pe_int pe_int) (nomark _))
          (pss_one (ps_asg (pv 2) (pg_sub (pv 0) pe_int set_list)))
          (pss_one (ps_asg (pe_op op_mod (pe_callTy call_intN (by rfl) T.f_int (by decide +kernel) (pa_cons (pe_op op_add (pe_op op_add (pe_op op_mulX (pe_ix ix_list (pv 0) pe_int (fun _ _ => rfl)) pe_int) (pe_op op_mulX (pe_op op_mod (pe_callTy call_intN (by rfl) T.f_int (by decide +kernel) (pa_cons (pv 2) pa_nil)) pe_int) pe_int)) pe_int) pa_nil)) pe_int) (pg_sub (pv 0) pe_int set_list)))))))
      pss_nil)
    (pss_cons (ps_if (pt_cmpR op_gt (pe_ix ix_list (pv 0) pe_int (fun _ _ => rfl)) pe_int (nomark _))
      (pss_cons (ps_set (i := 3) sc__law_pull.nd rfl (Or.inl rfl) (pe_op op_mod (pe_callTy call_intN (by rfl) T.f_int (by decide +kernel) (pa_cons (pe_ix ix_list (pv 0) pe_int (fun _ _ => rfl)) pa_nil)) (pv 1)))
        (pss_cons (ps_asg (pe_op op_fdivW (pe_ix ix_list (pv 0) pe_int (fun _ _ => rfl)) (pv 1)) (pg_sub (pv 0) pe_int set_list))
        (pss_one (ps_ret (pv 3)))))
      pss_nil)
    (pss_cons (ps_set (i := 4) sc__law_pull.nd rfl (Or.inl rfl) (pe_ix ix_list (pv 0) pe_int (fun _ _ => rfl)))
    (pss_cons (ps_asg (pe_op op_mod (pe_callTy call_intN (by rfl) T.f_int (by decide +kernel) (pa_cons (pe_op op_add (pe_op op_add (pe_op op_mulX (pv 4) (pv 4)) (pe_op op_mulX (pv 4) pe_int)) pe_int) pa_nil)) pe_int) (pg_sub (pv 0) pe_int set_list))
    (pss_one (ps_ret (pe_op op_mod (pe_callTy call_intN (by rfl) T.f_int (by decide +kernel) (pa_cons (pe_op op_add (pe_op op_fdivW (pe_ix ix_list (pv 0) pe_int (fun _ _ => rfl)) pe_int) (pe_op op_mulX (pe_op op_mod (pe_callTy call_intN (by rfl) T.f_int (by decide +kernel) (pa_cons (pe_ix ix_list (pv 0) pe_int (fun _ _ => rfl)) pa_nil)) pe_int) pe_int)) pa_nil)) (pv 1))))))))), ?_⟩
    show tSeq _ _ _ [some (V.ref b), some (V.int m), none, none, none] H
    refine r_seqP (fun σ' H' => ∃ (x : Option V) (i g z : Int), σ' = [some (V.ref b), some (V.int m), x, none, none] ∧ H' b = some (.lst [.ref c, .int i, .int g, .int z]) ∧ H' c = some (.lst (cells.map V.int)) ∧ 0 ≤ i ∧ 0 ≤ g ∧ 0 ≤ z ∧ z < 2147483549 ∧ ExB b H H') ?_ ?_
    · clear hb hc hi hg hz hz2 i g z
      rintro σ' H' ⟨x, i, g, z, rfl, hb, hc, hi, hg, hz, hz2, hx⟩
      refine r_seqP (fun σ2 H2 => σ2 = [some (V.ref b), some (V.int m), x, none, none] ∧ H2 = H') ?_ ?_
      · rintro σ2 H2 ⟨rfl, rfl⟩
        walk_at "go"
        refine hQ _ _ (Int.emod_nonneg _ (by omega)) (Int.emod_lt_of_pos _ hm) (BagAt.upd hb hc hi hg (Int.emod_nonneg _ (by decide)) (Int.emod_lt_of_pos _ (by decide))) (ExB.upd hx)
      · intro N hN
        walk_at "go"
        refine r_if2 (fun e => ?_) (fun e => ?_)
        · have hg1 : 0 < g := by simpa using e
          walk_at "go"
          refine hQ _ _ (Int.emod_nonneg _ (by omega)) (Int.emod_lt_of_pos _ hm) (BagAt.upd hb hc hi (Int.ediv_nonneg hg (by omega)) hz hz2) (ExB.upd hx)
        · walk_at "go"
          exact hN _ _ ⟨rfl, rfl⟩
    · intro N hN
      walk_at "go"
      refine r_if2 (fun e => ?_) (fun e => ?_)
      · walk_at "go"
        refine r_if2 (fun e2 => ?_) (fun e2 => ?_)
        · have hlt : i < (cells.length : Int) := by simpa using e2
          obtain ⟨y, hy⟩ := atI_ints hi hlt
          walk_at "go"
          refine r_ixL (SqL.of hc) hy ?_
          walk_at "go"
          refine r_if2 (fun e3 => ?_) (fun e3 => ?_)
          · have h1 := of_decide_eq_true e3
            have h2 : (0 : Int) < 10 ^ Int.toNat 18 := by decide
            walk_at "go"
            refine hN _ _ ⟨some (.int y), i + 1, y, z, rfl, upd_same, (upd_ne hcb).trans ((upd_ne hcb).trans hc), by omega, by omega, hz, hz2, ExB.upd (ExB.upd ExB.refl)⟩
          · walk_at "go"
            refine hN _ _ ⟨some (.int y), i + 1, g, _, rfl, upd_same, (upd_ne hcb).trans ((upd_ne hcb).trans hc), by omega, hg, Int.emod_nonneg _ (by decide), Int.emod_lt_of_pos _ (by decide), ExB.upd (ExB.upd ExB.refl)⟩
        · walk_at "go"
          exact hN _ _ ⟨none, i, g, z, rfl, hb, hc, hi, hg, hz, hz2, ExB.refl⟩
      · walk_at "go"
        exact hN _ _ ⟨none, i, g, z, rfl, hb, hc, hi, hg, hz, hz2, ExB.refl⟩
end
end PW
namespace PW
open PySem PySem.Spec PyProof.Rows L2
/-- what is drawn from: a list, a tuple, a text -/
def SeqV (K : PySem.W.Frag) (H : Hp) (b : Addr) (s : V) (xs : List V) : Prop :=
  (∃ p, s = .ref p ∧ p ≠ b ∧ (H p = some (.lst xs) ∨ SqT K H p xs)) ∨ ∃ z : Str, s = .str z ∧ z.length ≤ sizeLine ∧ xs = z.cps.toList.map fun c => .str ⟨#[c]⟩
def spOf (K : PySem.W.Frag) : Sp := fun vs H Q _ => ∃ (b c : Addr) (s : V) (xs : List V), vs = [.ref b, s] ∧ BagAt H b c ∧ SeqV K H b s xs ∧ 0 < xs.length ∧ xs.length ≤ sizeLine ∧ ∀ v H', v ∈ xs → BagAt H' b c → ExB b H H' → Q v H'
theorem ExB.tup {K : PySem.W.Frag} {b p : Addr} {H H' : Hp} {xs : List V} (e : ExB b H H') (n : p ≠ b) (h : SqT K H p xs) : SqT K H' p xs := by
  rcases h with (h | ⟨o, h⟩) | h
  · exact .inl (.inl (e _ _ n h))
  · exact .inl (.inr ⟨o, e _ _ n h⟩)
  · exact .inr h
theorem seqLog {n : Nat} (h : n ≤ sizeLine) : ((n : Nat) : Int).natAbs.log2 < 9000 := by
  have h2 : n ≤ 2 ^ 24 := h
  have h3 : (n : Int).natAbs < 2 ^ 25 := by
    rw [Int.natAbs_natCast]
    exact Nat.lt_of_le_of_lt h2 (by decide)
  exact Nat.lt_trans (PySem.Flt.log2_lt_of (by decide) h3) (by decide)
theorem cutV_ints (ns : List Int) (lo hi : Option Int) : ∃ cells : List Int, cutV (ns.map V.int) lo hi = cells.map V.int := by
  unfold cutV
  rw [← List.map_drop, ← List.map_take]
  exact ⟨_, rfl⟩
def spLetters : Sp := fun vs H Q _ => vs = [] ∧ Q (.str "abcdefghijklmnopqrstuvwxyz") H
/-- a new bag -/
def spBag (K : PySem.W.Frag) : Sp := fun vs H Q _ => ∃ (a : Addr) (ns : List Int), vs = [.ref a] ∧ SqL K H a (ns.map V.int) ∧ ns.length ≤ 63 ∧ ∀ b c H', H b = none → H c = none → BagAt H' b c → (∀ a o, H a = some o → H' a = some o) → Q (.ref b) H'
section
variable {P : Program} {w : World} {K : PySem.W.Frag} {mg : Str → Option Value} {base : Heap}
theorem ok__law_of {k : Nat} (T : Txt K mg) (G__law_pull : FnOk P w K mg base CX0 k (He.ga K "_law_pull") (fdOf K (He.ga K "_law_pull")) p__law_pull spPull) : FnOk P w K mg base CX0 (k + 1) (He.ga K "_law_of") (fdOf K (He.ga K "_law_of")) p__law_of (spOf K) := by
  refine FunD.ok T.d__law_of sc__law_of (fun vs H Q E h => ?_) (fun cdv A outer s H vs Q E hr h => ?_)
  · obtain ⟨b, c, s, xs, rfl, _⟩ := h
    rfl
  · obtain ⟨b, c, q, xs, rfl, hb, hs, h0, hl, hQ⟩ := h
    refine ⟨_, PSs.nox ((pss_one (ps_ret (pe_ix ix_seq (pv 1) (pe_call G__law_pull hr rfl T.g__law_pull T.d__law_pull.kp (b__law_pull T) .nil pass0 (pa_cons (pv 0) (pa_cons (pe_callB call_lenN (by rfl) T.f_len (by decide +kernel) (pa_cons (pv 1) pa_nil)) pa_nil))) (fun _ _ => rfl))))), ?_⟩
    show tRet _ _ [some (V.ref b), some q] H
    have hlen : ∀ R : VK, R (.int (xs.length : Nat)) H → cLen K [q] H R := fun R hR => by
      rcases hs with ⟨p, rfl, hp, hp2 | hp2⟩ | ⟨z, rfl, hz, e⟩
      · exact r_cLenL (SqL.of hp2) hR
      · exact r_cLenT hp2 hR
      · refine r_cLenS hz ?_
        have e2 : xs.length = z.length := by rw [e, List.length_map]; rfl
        rw [← e2]
        exact hR
    walk_at "go"
    refine hlen _ ?_
    walk_at "go"
    refine ⟨b, c, (xs.length : Nat), rfl, hb, by omega, seqLog hl, fun r H' r0 r1 hb' hx => ?_⟩
    rcases hs with ⟨p, rfl, hp, hp2 | hp2⟩ | ⟨z, rfl, hz, e⟩
    · obtain ⟨v, hv, ha⟩ := atI_mem r0 r1
      exact r_ixqL (SqL.of (hx _ _ hp hp2)) ha (hQ v H' hv hb' hx)
    · obtain ⟨v, hv, ha⟩ := atI_mem r0 r1
      exact r_ixqT (ExB.tup hx hp hp2) ha (hQ v H' hv hb' hx)
    · have e2 : xs.length = z.cps.toList.length := by rw [e, List.length_map]
      rw [e2] at r1
      obtain ⟨v, hv, ha⟩ := atI_mem r0 r1
      exact r_ixqS hz ha (hQ _ H' (by rw [e]; exact List.mem_map.mpr ⟨v, hv, rfl⟩) hb' hx)
theorem ok__law_letters (T : Txt K mg) : FnOk P w K mg base CX0 1 (He.ga K "_law_letters") (fdOf K (He.ga K "_law_letters")) p__law_letters spLetters := by
  refine FunD.ok T.d__law_letters sc__law_letters (fun vs H Q E h => ?_) (fun cdv A outer s H vs Q E hr h => ?_)
  · obtain ⟨rfl, _⟩ := h
    rfl
  · obtain ⟨rfl, hQ⟩ := h
    exact ⟨_, PSs.nox ((pss_one (ps_ret pe_str))), hQ⟩
theorem ok__law_bag (T : Txt K mg) : FnOk P w K mg base CX0 1 (He.ga K "_law_bag") (fdOf K (He.ga K "_law_bag")) p__law_bag (spBag K) := by
  refine FunD.ok T.d__law_bag sc__law_bag (fun vs H Q E h => ?_) (fun cdv A outer s H vs Q E hr h => ?_)
  · obtain ⟨a, ns, rfl, _⟩ := h
    rfl
  · obtain ⟨a, ns, rfl, ha, hl, hQ⟩ := h
    refine ⟨_, PSs.nox ((pss_one (ps_ret (pe_lst (pa_cons (pe_callTy call_listN (by rfl) T.f_list (by decide +kernel) (pa_cons (pe_slice sl_list (pv 0) po_none (po_some pe_int)) pa_nil)) (pa_cons pe_int (pa_cons pe_int (pa_cons pe_int pa_nil)))))))), ?_⟩
    show tRet _ _ [some (V.ref a)] H
    walk_at "go"
    intro l hl1
    walk_at "go"
    intro c hc
    walk_at "go"
    intro b hb
    have hcl : c ≠ l := Ne.symm (ne_of_none upd_same hc)
    have hb2 : (L2.upd H l (.lst (cutV (ns.map V.int) none (some 63)))) b = none := Same.free (H' := L2.upd (L2.upd H l (.lst (cutV (ns.map V.int) none (some 63)))) c (.lst (cutV (ns.map V.int) none (some 63)))) (fun x o e => by rw [upd_ne (ne_of_none e hc)]; exact e) hb
    have hb3 : H b = none := Same.free (H' := L2.upd H l (.lst (cutV (ns.map V.int) none (some 63)))) (fun x o e => by rw [upd_ne (ne_of_none e hl1)]; exact e) hb2
    have hbc : c ≠ b := ne_of_none upd_same hb
    obtain ⟨cells, e⟩ := cutV_ints ns none (some 63)
    have hc3 : H c = none := Same.free (H' := L2.upd H l (.lst (cutV (ns.map V.int) none (some 63)))) (fun x o e => by rw [upd_ne (ne_of_none e hl1)]; exact e) hc
    refine hQ b c _ hb3 hc3 ⟨cells, 0, 0, 5618, upd_same, (upd_ne hbc).trans ?_, by decide, by decide, by decide, by decide⟩ fun x o ex => ?_
    · rw [e]
      exact upd_same
    · rw [upd_ne (ne_of_none ex hb3), upd_ne (ne_of_none ex hc3), upd_ne (ne_of_none ex hl1)]
      exact ex
end
end PW
namespace PW
open PySem PySem.Spec PyProof.Rows L2
/-- alike to depth n, part by part -/
def Sm (K : PySem.W.Frag) : Nat → Hp → V → V → Prop
  | 0, _, x, y => x = y ∧ flatV x = true
  | n + 1, H, x, y => (x = y ∧ flatV x = true) ∨ ∃ (p q : Addr) (xs ys : List V), x = .ref p ∧ y = .ref q ∧ ((H p = some (.lst xs) ∧ H q = some (.lst ys)) ∨ (H p = some (.tup xs) ∧ H q = some (.tup ys))) ∧
      xs.length = ys.length ∧ xs.length ≤ 100000 ∧ ∀ (i : Nat) u v, xs[i]? = some u → ys[i]? = some v → Sm K n H u v
theorem Sm.mono {K : PySem.W.Frag} : ∀ {n : Nat} {H H' : Hp} {x y : V}, Ex H H' → Sm K n H x y → Sm K n H' x y
  | 0, _, _, _, _, _, h => h
  | n + 1, H, H', x, y, e, h => by
    rcases h with h | ⟨p, q, xs, ys, h1, h2, h3, h4, h5, h6⟩
    · exact .inl h
    · refine .inr ⟨p, q, xs, ys, h1, h2, ?_, h4, h5, fun i u v hu hv => Sm.mono e (h6 i u v hu hv)⟩
      rcases h3 with h3 | h3
      · exact .inl ⟨e _ _ h3.1, e _ _ h3.2⟩
      · exact .inr ⟨e _ _ h3.1, e _ _ h3.2⟩
theorem Sm.flat {K : PySem.W.Frag} {n : Nat} {H : Hp} {x : V} (h : flatV x = true) : Sm K n H x x := by
  cases n with
  | zero => exact ⟨rfl, h⟩
  | succ n => exact .inl ⟨rfl, h⟩
theorem Sm.flats {K : PySem.W.Frag} {n : Nat} {H : Hp} {p q : Addr} {xs : List V} (hp : H p = some (.lst xs)) (hq : H q = some (.lst xs)) (hl : xs.length ≤ 100000) (hf : ∀ v ∈ xs, flatV v = true) : Sm K (n + 1) H (.ref p) (.ref q) :=
  .inr ⟨p, q, xs, xs, rfl, rfl, .inl ⟨hp, hq⟩, rfl, hl, fun i u v hu hv => by
    rw [hu] at hv
    injection hv with hv
    subst hv
    exact Sm.flat (hf u (List.mem_of_getElem? hu))⟩
def spSame (K : PySem.W.Frag) (n : Nat) : Sp := fun vs H Q _ => ∃ x y, vs = [x, y] ∧ Sm K n H x y ∧ ∀ H', Ex H H' → Q (.bl true) H'
section
variable {P : Program} {w : World} {K : PySem.W.Frag} {mg : Str → Option Value} {base : Heap}
def spNo : Sp := fun _ _ _ _ => False
theorem fnOk_no {CX : CXT} {k : Nat} {f : Addr} {fd : FuncData} {ps : List Str} : FnOk P w K mg base CX k f fd ps spNo := ⟨fun _ _ _ _ h => h.elim, fun _ _ _ _ _ _ _ _ _ _ _ _ _ h => h.elim⟩
theorem ok1__law_same {k n : Nat} {spj : Sp} (T : Txt K mg) (hj : n = 0 ∨ ∃ j, n = j + 1 ∧ spj = spSame K j) (G__law_same : FnOk P w K mg base CX0 k (He.ga K "_law_same") (fdOf K (He.ga K "_law_same")) p__law_same spj) :
    FnOk P w K mg base CX0 (k + 1) (He.ga K "_law_same") (fdOf K (He.ga K "_law_same")) p__law_same (spSame K n) := by
  refine FunD.ok T.d__law_same sc__law_same (fun vs H Q E h => ?_) (fun cdv A outer s H vs Q E hr h => ?_)
  · obtain ⟨x, y, rfl, _⟩ := h
    rfl
  · obtain ⟨x, y, rfl, hs, hQ⟩ := h
    refine ⟨_, PSs.nox ((pss_cons (ps_if (pt_val (pe_callB call_isiT (by rfl) T.f_isinstance (by decide +kernel) (pa_cons (pv 1) (pa_cons (pe_tup (pa_cons (pe_bltn (v := .ty "list") (u := .type "list") (by rfl) T.f_list (by decide +kernel) rfl) (pa_cons (pe_bltn (v := .ty "tuple") (u := .type "tuple") (by rfl) T.f_tuple (by decide +kernel) rfl) pa_nil))) pa_nil))))
      (pss_cons (ps_if (PW.pt (pw_or (pt_cmpR op_ne (pe_callB call_isi (by rfl) T.f_isinstance (by decide +kernel) (pa_cons (pv 0) (pa_cons (pe_bltn (v := .ty "list") (u := .type "list") (by rfl) T.f_list (by decide +kernel) rfl) pa_nil))) (pe_callB call_isi (by rfl) T.f_isinstance (by decide +kernel) (pa_cons (pv 1) (pa_cons (pe_bltn (v := .ty "list") (u := .type "list") (by rfl) T.f_list (by decide +kernel) rfl) pa_nil))) (nomark _)) (pw_or1 (pt_cmpR op_ne (pe_callB call_isi (by rfl) T.f_isinstance (by decide +kernel) (pa_cons (pv 0) (pa_cons (pe_bltn (v := .ty "tuple") (u := .type "tuple") (by rfl) T.f_tuple (by decide +kernel) rfl) pa_nil))) (pe_callB call_isi (by rfl) T.f_isinstance (by decide +kernel) (pa_cons (pv 1) (pa_cons (pe_bltn (v := .ty "tuple") (u := .type "tuple") (by rfl) T.f_tuple (by decide +kernel) rfl) pa_nil))) (nomark _)))))
          (pss_one (ps_ret pe_bl))
          pss_nil)
        (pss_one (ps_ret (pe_and (pe_cmpR op_eq (pe_callB call_lenN (by rfl) T.f_len (by decide +kernel) (pa_cons (pv 0) pa_nil)) (pe_callB call_lenN (by rfl) T.f_len (by decide +kernel) (pa_cons (pv 1) pa_nil)) (nomark _)) (pe_one (pe_callB (cr_all rfl) (by rfl) T.f_all (by decide +kernel) (pa_cons (pe_lc (own := [("_law_one_z", 2), ("_law_other_z", 3)]) (g := (gTup K 2 (gCons (gName 2) (gCons (gName 3) gNil)))) rfl sc__law_same.nd (RZ.pi_zipA (by rfl) T.f_zip (pa_cons (pv 0) (pa_cons (pv 1) pa_nil))) (blkOk_by (own := [("_law_one_z", 2), ("_law_other_z", 3)]) (N := n__law_same) (sc := defScope s__law_same) (by decide +kernel)) (fun _ _ _ _ _ => by (refine' PW.pg_tupX (K := K) ?a1 ?b1 ?c1 ?d1 ?h1; (case a1 => rfl); (case b1 => rfl); (case c1 => rfl); (case d1 => rfl); refine' PW.pgs_consX ?a2 ?b2 ?h2; (case a2 => rfl); (case b2 => (refine PW.pg_nameX 2 ?_ ?_ ?_ ?_; exact sc__law_same.nd; rfl; (first | exact Or.inl rfl | exact Or.inr rfl); (first | exact Or.inl rfl | exact Or.inr rfl))); refine' PW.pgs_consX ?a3 ?b3 ?h3; (case a3 => rfl); (case b3 => (refine PW.pg_nameX 3 ?_ ?_ ?_ ?_; exact sc__law_same.nd; rfl; (first | exact Or.inl rfl | exact Or.inr rfl); (first | exact Or.inl rfl | exact Or.inr rfl))); exact pgs_nil)) (fun _ _ _ _ _ => pts_nil) (fun _ _ _ _ _ => (pe_call G__law_same hr rfl T.g__law_same T.d__law_same.kp (b__law_same T) .nil pass0 (pa_cons (pv 2) (pa_cons (pv 3) pa_nil))))) pa_nil)))))))
      pss_nil)
    (pss_cons (ps_if (PW.pt (pw_or (pt_cmp (pc_isN (pv 1)) rfl) (pw_or1 (pt_cmp (pc_isN (pv 0)) rfl))))
      (pss_one (ps_ret (pe_and (pe_cmp (pc_isN (pv 1)) rfl) (pe_one (pe_cmp (pc_isN (pv 0)) rfl)))))
      pss_nil)
    (pss_cons (ps_if (PW.pt (pw_or (pt_cmpR op_ne (pe_callB call_isi (by rfl) T.f_isinstance (by decide +kernel) (pa_cons (pv 0) (pa_cons (pe_bltn (v := .ty "bool") (u := .type "bool") (by rfl) T.f_bool (by decide +kernel) rfl) pa_nil))) (pe_callB call_isi (by rfl) T.f_isinstance (by decide +kernel) (pa_cons (pv 1) (pa_cons (pe_bltn (v := .ty "bool") (u := .type "bool") (by rfl) T.f_bool (by decide +kernel) rfl) pa_nil))) (nomark _)) (pw_or1 (pt_cmpR op_ne (pe_callB call_isi (by rfl) T.f_isinstance (by decide +kernel) (pa_cons (pv 0) (pa_cons (pe_bltn (v := .ty "int") (u := .type "int") (by rfl) T.f_int (by decide +kernel) rfl) pa_nil))) (pe_callB call_isi (by rfl) T.f_isinstance (by decide +kernel) (pa_cons (pv 1) (pa_cons (pe_bltn (v := .ty "int") (u := .type "int") (by rfl) T.f_int (by decide +kernel) rfl) pa_nil))) (nomark _)))))
      (pss_one (ps_ret pe_bl))
      pss_nil)
    (pss_one (ps_ret (pe_and (pe_cmpR op_eq (pe_callB call_isi (by rfl) T.f_isinstance (by decide +kernel) (pa_cons (pv 0) (pa_cons (pe_bltn (v := .ty "str") (u := .type "str") (by rfl) T.f_str (by decide +kernel) rfl) pa_nil))) (pe_callB call_isi (by rfl) T.f_isinstance (by decide +kernel) (pa_cons (pv 1) (pa_cons (pe_bltn (v := .ty "str") (u := .type "str") (by rfl) T.f_str (by decide +kernel) rfl) pa_nil))) (nomark _)) (pe_one (pe_cmpR op_eq (pv 0) (pv 1) (nomark _)))))))))), ?_⟩
    show tSeq _ _ _ [some x, some y, none, none] H
    by_cases hf : x = y ∧ flatV x = true
    · obtain ⟨rfl, hf⟩ := hf
      cases x with
      | non =>
        walk_at "go"
        intro p hp
        walk_at "go"
        exact hQ _ (Ex.new hp)
      | bl b =>
        walk_at "go"
        intro p hp
        walk_at "go"
        exact hQ _ (Ex.new hp)
      | int i =>
        walk_at "go"
        intro p hp
        walk_at "go"
        exact hQ _ (Ex.new hp)
      | str z =>
        walk_at "go"
        intro p hp
        walk_at "go"
        exact hQ _ (Ex.new hp)
      | _ => cases hf
    · cases n with
      | zero => exact absurd hs hf
      | succ n =>
        rcases hs with hs | ⟨p, q, xs, ys, rfl, rfl, hpq, hl, hl2, hit⟩
        · exact absurd hs hf
        · have j0 : ∃ j, n + 1 = j + 1 ∧ spj = spSame K j := hj.elim (fun z => nomatch z) id
          obtain ⟨j, ej, rfl⟩ := j0
          have ej2 : j = n := by omega
          subst ej2
          have comp : ∀ (J : It) (G : Hp → Prop) (H1 : Hp) (D : Addr) (Qd : Hp → Prop), Walk J xs.length G (YPair (fun i => xs[i]?) (fun i => ys[i]?)) → Ex H H1 → (∀ H', Ex H1 H' → G H') → H1 D = none → (∀ H' bs, Ex H H' → H' D = some (.lst ((List.replicate bs true).map V.bl)) → Qd H') →
              LcW J (gTup K 2 (gCons (gName 2) (gCons (gName 3) gNil))) tYes (tCall (spSame K j) [] E0 (tCons (tVar 2) (tCons (tVar 3) tNil))) [2, 3] [some (.ref p), some (.ref q), none, none] H1 D Qd := by
            intro J G H1 D Qd w x1 hG hD hR
            refine lc_grow w (σw := [some (.ref p), some (.ref q), none, none]) rfl (fun _ _ v => v = .bl true) hD hl2 hG (fun _ _ _ _ _ e => e) ?_ ?_
            · rintro i x H2 H3 acc R2 hi x2 ha ⟨T2, u, v, rfl, hT2, rfl, hu, hv⟩ hR2
              walk_at "go"
              refine ⟨rfl, ?_⟩
              walk_at "go"
              exact ⟨u, v, rfl, Sm.mono ((x1.trans x2).trans (Ex.new hT2)) (hit i u v hu hv), fun H4 x4 => hR2 _ _ rfl ((Ex.new hT2).trans x4)⟩
            · intro H2 acc x2 ha hlen hb
              refine hR H2 acc.length (x1.trans x2) ?_
              rw [ha, ← all_true (fun i v e => hb i v e)]
          rcases hpq with ⟨hp1, hq1⟩ | ⟨hp1, hq1⟩
          · walk_at "go"
            intro t ht
            have e1 := (Ex.new (o := .tup [V.ty "list", V.ty "tuple"]) ht) _ _ hp1
            have e2 := (Ex.new (o := .tup [V.ty "list", V.ty "tuple"]) ht) _ _ hq1
            walk_at "go"
            refine r_ifT' (decide_eq_true (by rw [hl])) ?_
            walk_at "go"
            refine ⟨p, q, xs, ys, rfl, Or.inl ⟨SqL.of e1, SqL.of e2, fun D hD => ?_⟩⟩
            refine comp _ _ _ D _ (walk_zip (by rw [← hl, Nat.min_self])) (Ex.new ht) (fun H' x => ⟨SqL.of (x _ _ e1), SqL.of (x _ _ e2)⟩) hD fun H' bs x hb => ?_
            walk_at "go"
            refine r_all (SqL.of hb) ?_
            rw [replicate_all]
            exact hQ _ x
          · walk_at "go"
            intro t ht
            have e1 := (Ex.new (o := .tup [V.ty "list", V.ty "tuple"]) ht) _ _ hp1
            have e2 := (Ex.new (o := .tup [V.ty "list", V.ty "tuple"]) ht) _ _ hq1
            walk_at "go"
            refine r_ifT' (decide_eq_true (by rw [hl])) ?_
            walk_at "go"
            refine ⟨p, q, xs, ys, rfl, Or.inr ⟨SqT.of e1, SqT.of e2, fun D hD => ?_⟩⟩
            refine comp _ _ _ D _ (walk_zipT (by rw [← hl, Nat.min_self])) (Ex.new ht) (fun H' x => ⟨SqT.of (x _ _ e1), SqT.of (x _ _ e2)⟩) hD fun H' bs x hb => ?_
            walk_at "go"
            refine r_all (SqL.of hb) ?_
            rw [replicate_all]
            exact hQ _ x
theorem ok__law_same (T : Txt K mg) : ∀ n : Nat, FnOk P w K mg base CX0 (n + 1) (He.ga K "_law_same") (fdOf K (He.ga K "_law_same")) p__law_same (spSame K n)
  | 0 => ok1__law_same T (.inl rfl) (fnOk_no (k := 0))
  | n + 1 => ok1__law_same T (.inr ⟨n, rfl, rfl⟩) (ok__law_same T n)
end
end PW
namespace PW
open PySem PySem.Spec PyProof.Rows L2
/-- the letters -/
def lettersZ : Str := "abcdefghijklmnopqrstuvwxyz"
def reservedV : List V := [.str "len", .str "mod", .str "and", .str "or", .str "not", .str "true"]
def allLet (z : Str) : Bool := (z.cps.toList.map fun c => decide (c ∈ lettersZ.cps.toList)).all id
/-- whether a text is a name -/
def isNameZ (z : Str) : Bool := decide (1 ≤ (z.length : Int)) && (decide ((z.length : Int) ≤ 6) && (!inV (.str z) reservedV && allLet z))
def isNameV : V → Bool
  | .str z => isNameZ z
  | _ => false
def spIsName (K : PySem.W.Frag) : Sp := fun vs H Q _ => ∃ x, vs = [x] ∧ ((∃ z, x = .str z ∧ z.length ≤ 100000) ∨ ∃ n, isNameV x = false ∧ TyX K H x (.type n) ∧ kitB n "str" = some false) ∧ ∀ H', Ex H H' → Q (.bl (isNameV x)) H'
def spLawIsName : Sp := fun vs H Q _ => ∃ z : Str, vs = [.str z] ∧ z.length ≤ 100000 ∧ ∀ H', Ex H H' → Q (.bl (isNameZ z)) H'
theorem size_le {z : Str} (h : z.length ≤ 100000) : z.length ≤ sizeLine := Nat.le_trans h (by decide)
section
variable {P : Program} {w : World} {K : PySem.W.Frag} {mg : Str → Option Value} {base : Heap}
theorem str_walk {te : TE} {vs : List Nat} {σ σw : L2.St} {H1 : Hp} {D : Addr} {Qd : Hp → Prop} {z : Str} {i : Nat} {f : Nat → V} (τ : Nat → L2.St) (hz : z.length ≤ 100000) (hw : wipe σ vs = σw) (hτ : ∀ c, σw.set i (some (.str ⟨#[c]⟩)) = τ c) (hv : ∀ c, wipe (τ c) vs = σw) (hD : H1 D = none)
    (hs : ∀ c H (R : VK), Ex H1 H → (∀ H4, Ex H H4 → R (f c) H4) → te (τ c) H R) (hd : ∀ H, Ex H1 H → H D = some (.lst (z.cps.toList.map f)) → Qd H) : LcW (Its z) (gName i) tYes te vs σ H1 D Qd := by
  refine lc_grow walk_str hw (fun i _ v => ∃ c, z.cps.toList[i]? = some c ∧ v = f c) hD hz (fun _ _ => trivial) (fun _ _ _ _ _ e => e) ?_ ?_
  · rintro j x H H' acc R hj x1 ha ⟨rfl, c, hc, rfl⟩ hR
    show wipe (σw.set i (some (.str ⟨#[c]⟩))) vs = σw ∧ te (σw.set i (some (.str ⟨#[c]⟩))) _ R
    rw [hτ]
    exact ⟨hv c, hs c _ R x1 fun H4 x4 => hR _ _ ⟨c, by rw [← hc]; simp, rfl⟩ x4⟩
  · intro H acc x1 ha hl hE
    refine hd H x1 ?_
    rw [ha, acc_map (l := z.cps.toList) (f := f) (by rw [hl]; rfl) fun i v e => hE i v e]
theorem ok__law_is_name {k : Nat} (T : Txt K mg) (G__law_letters : FnOk P w K mg base CX0 k (He.ga K "_law_letters") (fdOf K (He.ga K "_law_letters")) p__law_letters spLetters) :
    FnOk P w K mg base CX0 (k + 1) (He.ga K "_law_is_name") (fdOf K (He.ga K "_law_is_name")) p__law_is_name spLawIsName := by
  refine FunD.ok T.d__law_is_name sc__law_is_name (fun vs H Q E h => ?_) (fun cdv A outer s H vs Q E hr h => ?_)
  · obtain ⟨z, rfl, _⟩ := h
    rfl
  · obtain ⟨z, rfl, hz, hQ⟩ := h
    have hz2 := size_le hz
    refine ⟨_, PSs.nox ((pss_cons (ps_set (i := 1) sc__law_is_name.nd rfl (Or.inl rfl) (pe_and (pe_chain op_le op_le pe_int (pe_callB call_lenN (by rfl) T.f_len (by decide +kernel) (pa_cons (pv 0) pa_nil)) pe_int) (pe_one (pe_cmpR op_notIn_seq (pv 0) (pe_lst (pa_cons pe_str (pa_cons pe_str (pa_cons pe_str (pa_cons pe_str (pa_cons pe_str (pa_cons pe_str pa_nil))))))) rfl))))
    (pss_one (ps_ret (pe_and (pv 1) (pe_one (pe_callB (cr_all rfl) (by rfl) T.f_all (by decide +kernel) (pa_cons (pe_lc (own := [("_law_sign_z", 2)]) rfl sc__law_is_name.nd (pi_str (pv 0)) (blkOk_by (own := [("_law_sign_z", 2)]) (N := n__law_is_name) (sc := defScope s__law_is_name) (by decide +kernel)) (fun _ _ _ _ _ => (pg_name (i := 2) sc__law_is_name.nd rfl (Or.inl rfl) (hf := by first | exact Or.inl rfl | exact Or.inr rfl))) (fun _ _ _ _ _ => pts_nil) (fun _ _ _ _ _ => (pe_cmpR op_inS (pv 2) (pe_call0 G__law_letters hr rfl T.g__law_letters T.d__law_letters.kp (b__law_letters T) .nil pass0) rfl))) pa_nil)))))))), ?_⟩
    show tSeq _ _ _ [some (V.str z), none, none] H
    refine r_seqP (fun σ' H' => σ' = [some (V.str z), some (.bl (decide (1 ≤ (z.length : Int)) && (decide ((z.length : Int) ≤ 6) && !inV (.str z) reservedV))), none] ∧ Ex H H') ?_ ?_
    · rintro σ' H' ⟨rfl, x⟩
      have fin : ∀ b : Bool, isNameZ z = b → ∀ H2, Ex H H2 → Q (.bl b) H2 := fun b e H2 x2 => by
        rw [← e]
        exact hQ H2 x2
      walk_at "go"
      refine r_if2 (fun e => ?_) (fun e => ?_)
      · walk_at "go"
        intro D hD
        refine str_walk (f := fun c => .bl (decide (c ∈ lettersZ.cps.toList))) (fun c => [some (V.str z), some (.bl (decide (1 ≤ (z.length : Int)) && (decide ((z.length : Int) ≤ 6) && !inV (.str z) reservedV))), some (.str ⟨#[c]⟩)]) hz rfl (fun _ => rfl) (fun _ => rfl) hD (fun c H2 R x2 hR => ?_) (fun H2 x2 ha => ?_)
        · walk_at "go"
          refine ⟨rfl, ?_⟩
          walk_at "go"
          exact hR _ (Ex.refl _)
        · walk_at "go"
          refine r_all (bs := z.cps.toList.map fun c => decide (c ∈ lettersZ.cps.toList)) (SqL.of (by rw [ha, List.map_map]; rfl)) ?_
          refine fin _ ?_ _ (x.trans x2)
          simp only [Bool.and_eq_true] at e
          unfold isNameZ allLet
          rw [e.1, e.2.1, e.2.2, Bool.true_and, Bool.true_and, Bool.true_and]
      · refine fin _ ?_ _ x
        unfold isNameZ
        rw [← Bool.and_assoc, ← Bool.and_assoc, Bool.and_assoc (decide (1 ≤ (z.length : Int))), e, Bool.false_and]
    · intro N hN
      walk_at "go"
      refine r_if2 (fun e => ?_) (fun e => ?_)
      · walk_at "go"
        refine r_if2 (fun e2 => ?_) (fun e2 => ?_)
        · walk_at "go"
          intro p hp
          walk_at "go"
          refine hN _ _ ⟨?_, Ex.new hp⟩
          rw [e, e2, Bool.true_and, Bool.true_and]
          rfl
        · walk_at "go"
          refine hN _ _ ⟨?_, Ex.refl _⟩
          rw [e2, Bool.false_and, Bool.and_false]
      · walk_at "go"
        refine hN _ _ ⟨?_, Ex.refl _⟩
        rw [e, Bool.false_and]
theorem ok_is_name {k : Nat} (T : Txt K mg) : FnOk P w K mg base CX0 (k + 1) (He.ga K "is_name") (fdOf K (He.ga K "is_name")) p_is_name (spIsName K) := by
  refine FunD.ok T.d_is_name sc_is_name (fun vs H Q E h => ?_) (fun cdv A outer s H vs Q E hr h => ?_)
  · obtain ⟨x, rfl, _⟩ := h
    rfl
  · obtain ⟨x, rfl, hx, hQ⟩ := h
    refine ⟨_, PSs.nox ((pss_cons (ps_if (PW.pt (pw_or (pt_not (pt_val (pe_callB call_isi (by rfl) T.f_isinstance (by decide +kernel) (pa_cons (pv 0) (pa_cons (pe_bltn (v := .ty "str") (u := .type "str") (by rfl) T.f_str (by decide +kernel) rfl) pa_nil))))) (pw_or (pt_not (pt_chain op_le op_le pe_int (pe_callB call_lenN (by rfl) T.f_len (by decide +kernel) (pa_cons (pv 0) pa_nil)) (pe_gint rfl T.c_MOST_LETTERS))) (pw_or1 (pt_cmpR op_in_seq (pv 0) (pe_glob (v := .ref _) rfl T.g_RESERVED rfl) rfl)))))
      (pss_one (ps_ret pe_bl))
      pss_nil)
    (pss_one (ps_ret (pe_callB (cr_all rfl) (by rfl) T.f_all (by decide +kernel) (pa_cons (pe_lc (own := [("sign", 1)]) rfl sc_is_name.nd (pi_str (pv 0)) (blkOk_by (own := [("sign", 1)]) (N := n_is_name) (sc := defScope s_is_name) (by decide +kernel)) (fun _ _ _ _ _ => (pg_name (i := 1) sc_is_name.nd rfl (Or.inl rfl) (hf := by first | exact Or.inl rfl | exact Or.inr rfl))) (fun _ _ _ _ _ => pts_nil) (fun _ _ _ _ _ => (pe_cmpR op_inS (pv 1) (pe_gstr rfl T.c_LETTERS) rfl))) pa_nil)))))), ?_⟩
    show tSeq _ _ _ [some x, none] H
    rcases hx with ⟨z, rfl, hz⟩ | ⟨n, hf, ht, hk⟩
    · have hz2 := size_le hz
      have tR := T.t_RESERVED H
      have fin : ∀ b : Bool, isNameZ z = b → ∀ H2, Ex H H2 → Q (.bl b) H2 := fun b e H2 x2 => by
        rw [← e]
        exact hQ H2 x2
      refine r_seqP (fun σ' H' => σ' = [some (V.str z), none] ∧ H' = H ∧ decide (1 ≤ (z.length : Int)) = true ∧ decide ((z.length : Int) ≤ 6) = true ∧ inV (.str z) reservedV = false) ?_ ?_
      · rintro σ' H' ⟨rfl, rfl, e1, e2, e3⟩
        walk_at "go"
        intro D hD
        refine str_walk (f := fun c => .bl (decide (c ∈ lettersZ.cps.toList))) (fun c => [some (V.str z), some (.str ⟨#[c]⟩)]) hz rfl (fun _ => rfl) (fun _ => rfl) hD (fun c H2 R x2 hR => ?_) (fun H2 x2 ha => ?_)
        · walk_at "go"
          exact hR _ (Ex.refl _)
        · walk_at "go"
          refine r_all (bs := z.cps.toList.map fun c => decide (c ∈ lettersZ.cps.toList)) (SqL.of (by rw [ha, List.map_map]; rfl)) ?_
          refine fin _ ?_ _ x2
          unfold isNameZ allLet
          rw [e1, e2, e3, Bool.true_and, Bool.true_and]
          rfl
      · intro N hN
        walk_at "go"
        refine r_if2 (fun e => ?_) (fun e => ?_)
        · walk_at "go"
          refine r_if2 (fun e2 => ?_) (fun e2 => ?_)
          · walk_at "go"
            refine fin _ ?_ _ (Ex.refl _)
            have e4 : decide ((z.length : Int) ≤ 6) = false := by simpa using e2
            unfold isNameZ
            rw [e4]
            simp
          · have e4 : decide ((z.length : Int) ≤ 6) = true := by simpa using e2
            walk_at "go"
            refine r_if2 (fun e3 => ?_) (fun e3 => ?_)
            · walk_at "go"
              refine fin _ ?_ _ (Ex.refl _)
              unfold isNameZ
              rw [show inV (.str z) reservedV = true from e3]
              simp
            · walk_at "go"
              exact hN _ _ ⟨rfl, rfl, e, e4, e3⟩
        · walk_at "go"
          refine fin _ ?_ _ (Ex.refl _)
          unfold isNameZ
          rw [e]
          simp
    · walk_at "go"
      refine r_isi ht hk ?_
      walk_at "go"
      have q := hQ H (Ex.refl _)
      rw [hf] at q
      exact q
end
end PW
namespace PW
open PySem PySem.Spec PyProof.Rows L2
theorem join_len (y : Str) (ps : List Str) : (Txt.join y ps).length ≤ (ps.map (·.length)).sum + ps.length * y.length := by
  rw [TL.join_eq]
  have e : (Str.join y ps).length = (TL.tl (Str.join y ps)).length := TL.len_tl _
  rw [e, TL.tl_join]
  refine Nat.le_trans (joinL_len _ _) ?_
  rw [List.map_map, List.length_map, ← TL.len_tl]
  have e2 : (List.length ∘ TL.tl) = fun z : Str => z.length := by
    funext z
    exact (TL.len_tl z).symm
  rw [e2]
  exact Nat.le_refl _
/-- the objects of H stay, but for b; the bag stands -/
structure Bg (b c : Addr) (H : Hp) : Prop where
  bag : BagAt H b c
def spLaw13 (K : PySem.W.Frag) : Sp := fun vs H Q _ => ∃ (a : Addr) (ns : List Int), vs = [.ref a] ∧ SqL K H a (ns.map V.int) ∧ ns.length ≤ 63 ∧ ∀ H', Q (.bl true) H'
theorem strs_of {t : Str} {v : V} (ht : t.length ≤ 9) (h : v ∈ [V.str t, .str t, .str "len", .str "mod", .str "and", .str "or", .str "not", .str "true", .str "to", .str "nota", .str "lens", .str "trues"]) : ∃ z : Str, v = .str z ∧ z.length ≤ 9 := by
  simp only [List.mem_cons, List.not_mem_nil, or_false] at h
  rcases h with rfl | rfl | rfl | rfl | rfl | rfl | rfl | rfl | rfl | rfl | rfl | rfl
  · exact ⟨_, rfl, ht⟩
  · exact ⟨_, rfl, ht⟩
  all_goals exact ⟨_, rfl, by decide⟩
theorem strs_of2 {v : V} (h : v ∈ [V.str "A", .str "7", .str " ", .str "_", .str "-", .str "^", .str "(", .str "\n", .str "x"]) : ∃ z : Str, v = .str z ∧ z.length ≤ 1 := by
  simp only [List.mem_cons, List.not_mem_nil, or_false] at h
  rcases h with rfl | rfl | rfl | rfl | rfl | rfl | rfl | rfl | rfl
  all_goals exact ⟨_, rfl, by decide⟩
theorem letters_mem {v : V} (h : v ∈ lettersZ.cps.toList.map fun c => V.str ⟨#[c]⟩) : ∃ z : Str, v = .str z ∧ z.length ≤ 1 := by
  obtain ⟨c, _, rfl⟩ := List.mem_map.mp h
  exact ⟨_, rfl, Nat.le_refl 1⟩
section
variable {P : Program} {w : World} {K : PySem.W.Frag} {mg : Str → Option Value} {base : Heap}
theorem ok_law13 {k : Nat} (T : Txt K mg)
    (G__law_bag : FnOk P w K mg base CX0 k (He.ga K "_law_bag") (fdOf K (He.ga K "_law_bag")) p__law_bag (spBag K))
    (G__law_pull : FnOk P w K mg base CX0 k (He.ga K "_law_pull") (fdOf K (He.ga K "_law_pull")) p__law_pull spPull)
    (G__law_of : FnOk P w K mg base CX0 k (He.ga K "_law_of") (fdOf K (He.ga K "_law_of")) p__law_of (spOf K))
    (G__law_letters : FnOk P w K mg base CX0 k (He.ga K "_law_letters") (fdOf K (He.ga K "_law_letters")) p__law_letters spLetters)
    (G__law_same : FnOk P w K mg base CX0 k (He.ga K "_law_same") (fdOf K (He.ga K "_law_same")) p__law_same (spSame K 1))
    (G__law_is_name : FnOk P w K mg base CX0 k (He.ga K "_law_is_name") (fdOf K (He.ga K "_law_is_name")) p__law_is_name spLawIsName)
    (G_is_name : FnOk P w K mg base CX0 k (He.ga K "is_name") (fdOf K (He.ga K "is_name")) p_is_name (spIsName K)) :
    FnOk P w K mg base CX0 (k + 1) (He.ga K "law") (fdOf K (He.ga K "law")) p_law (spLaw13 K) := by
  refine FunD.ok T.d_law sc_law (fun vs H Q E h => ?_) (fun cdv A outer s H vs Q E hr h => ?_)
  · obtain ⟨a, ns, rfl, _⟩ := h
    rfl
  · obtain ⟨a, ns, rfl, ha, hl, hQ⟩ := h
    refine ⟨_, PSs.nox ((pss_cons (ps_set (i := 1) sc_law.nd rfl (Or.inr rfl) (pe_call G__law_bag hr rfl T.g__law_bag T.d__law_bag.kp (b__law_bag T) .nil pass0 (pa_cons (pv 0) pa_nil)))
    (pss_cons (ps_for PassesOwn.never rfl (pi_range1 rfl T.f_range (pa_cons pe_int pa_nil)) (pg_name (i := 2) sc_law.nd rfl (Or.inl rfl) (hf := by first | exact Or.inl rfl | exact Or.inr rfl))
      (pss_cons (ps_set (i := 3) sc_law.nd rfl (Or.inl rfl) (pe_join pe_str (pe_lc (own := [("_law_k", 5)]) rfl sc_law.nd (pi_range1 rfl T.f_range (pa_cons (pe_call G__law_pull hr rfl T.g__law_pull T.d__law_pull.kp (b__law_pull T) .nil pass0 (pa_cons (pv 1) (pa_cons pe_int pa_nil))) pa_nil)) (blkOk_by (own := [("_law_k", 5)]) (N := n_law) (sc := defScope s_law) (by decide +kernel)) (fun _ _ _ _ _ => (pg_name (i := 5) sc_law.nd rfl (Or.inl rfl) (hf := by first | exact Or.inl rfl | exact Or.inr rfl))) (fun _ _ _ _ _ => pts_nil) (fun _ _ _ _ _ => (pe_call G__law_of hr rfl T.g__law_of T.d__law_of.kp (b__law_of T) .nil pass0 (pa_cons (pv 1) (pa_cons (pe_call0 G__law_letters hr rfl T.g__law_letters T.d__law_letters.kp (b__law_letters T) .nil pass0) pa_nil)))))))
        (pss_cons (ps_set (i := 3) sc_law.nd rfl (Or.inl rfl) (pe_call G__law_of hr rfl T.g__law_of T.d__law_of.kp (b__law_of T) .nil pass0 (pa_cons (pv 1) (pa_cons (pe_lst (pa_cons (pv 3) (pa_cons (pv 3) (pa_cons pe_str (pa_cons pe_str (pa_cons pe_str (pa_cons pe_str (pa_cons pe_str (pa_cons pe_str (pa_cons pe_str (pa_cons pe_str (pa_cons pe_str (pa_cons pe_str pa_nil))))))))))))) pa_nil))))
        (pss_cons (ps_if (pt_cmpR op_eq (pe_call G__law_pull hr rfl T.g__law_pull T.d__law_pull.kp (b__law_pull T) .nil pass0 (pa_cons (pv 1) (pa_cons pe_int pa_nil))) pe_int (nomark _))
          (pss_cons (ps_set (i := 4) sc_law.nd rfl (Or.inl rfl) (pe_call G__law_pull hr rfl T.g__law_pull T.d__law_pull.kp (b__law_pull T) .nil pass0 (pa_cons (pv 1) (pa_cons (pe_op op_add (pe_callB call_lenN (by rfl) T.f_len (by decide +kernel) (pa_cons (pv 3) pa_nil)) pe_int) pa_nil))))
            (pss_one (ps_set (i := 3) sc_law.nd rfl (Or.inl rfl) (pe_op op_addSN (pe_op op_addSN (pe_slice sl_str (pv 3) po_none (po_some (pv 4))) (pe_call G__law_of hr rfl T.g__law_of T.d__law_of.kp (b__law_of T) .nil pass0 (pa_cons (pv 1) (pa_cons (pe_lst (pa_cons pe_str (pa_cons pe_str (pa_cons pe_str (pa_cons pe_str (pa_cons pe_str (pa_cons pe_str (pa_cons pe_str (pa_cons pe_str (pa_cons pe_str pa_nil)))))))))) pa_nil)))) (pe_slice sl_str (pv 3) (po_some (pe_op op_add (pv 4) (pe_call G__law_pull hr rfl T.g__law_pull T.d__law_pull.kp (b__law_pull T) .nil pass0 (pa_cons (pv 1) (pa_cons pe_int pa_nil))))) po_none)))))
          pss_nil)
        (pss_cons (ps_if (pt_not (pt_val (pe_call G__law_same hr rfl T.g__law_same T.d__law_same.kp (b__law_same T) .nil pass0 (pa_cons (pe_lst (pa_cons (pe_call G_is_name hr rfl T.g_is_name T.d_is_name.kp (b_is_name T) .nil pass0 (pa_cons (pv 3) pa_nil)) (pa_cons (PW.pe_callN0 G_is_name hr rfl T.g_is_name T.d_is_name.kp (PW.kbn_app (ps := p_is_name) T.d_is_name 0 ["value"] (fun _ _ _ _ _ _ us ws h1 h2 => match us, h1, ws, h2 with | [], _, [_], _ => rfl)) pass0 (pk_cons (pv 3) pk_nil)) pa_nil))) (pa_cons (pe_op op_rep (pe_lst (pa_cons (pe_call G__law_is_name hr rfl T.g__law_is_name T.d__law_is_name.kp (b__law_is_name T) .nil pass0 (pa_cons (pv 3) pa_nil)) pa_nil)) pe_int) pa_nil)))))
          (pss_one (ps_ret pe_bl))
          pss_nil)
        (pss_one (ps_if (pt_not (pt_val (pe_call G__law_same hr rfl T.g__law_same T.d__law_same.kp (b__law_same T) .nil pass0 (pa_cons (pe_call G_is_name hr rfl T.g_is_name T.d_is_name.kp (b_is_name T) .nil pass0 (pa_cons (pe_call G__law_of hr rfl T.g__law_of T.d__law_of.kp (b__law_of T) .nil pass0 (pa_cons (pv 1) (pa_cons (pe_lst (pa_cons pe_non (pa_cons pe_int (pa_cons (pe_tup (pa_cons pe_str pa_nil)) (pa_cons (pe_lst (pa_cons pe_str pa_nil)) (pa_cons pe_bl pa_nil)))))) pa_nil))) pa_nil)) (pa_cons pe_bl pa_nil)))))
          (pss_one (ps_ret pe_bl))
          pss_nil)))))))
    (pss_one (ps_ret (pe_call G__law_same hr rfl T.g__law_same T.d__law_same.kp (b__law_same T) .nil pass0 (pa_cons (pe_lst (pa_cons (pe_call G_is_name hr rfl T.g_is_name T.d_is_name.kp (b_is_name T) .nil pass0 (pa_cons pe_str pa_nil)) (pa_cons (pe_call G_is_name hr rfl T.g_is_name T.d_is_name.kp (b_is_name T) .nil pass0 (pa_cons pe_str pa_nil)) (pa_cons (pe_call G_is_name hr rfl T.g_is_name T.d_is_name.kp (b_is_name T) .nil pass0 (pa_cons pe_str pa_nil)) pa_nil)))) (pa_cons (pe_lst (pa_cons pe_bl (pa_cons pe_bl (pa_cons pe_bl pa_nil)))) pa_nil)))))))), ?_⟩
    show tSeq _ _ _ [some (V.ref a), none, none, none, none, none] H
    walk_at "go"
    refine ⟨a, ns, rfl, ha, hl, fun b c H1 hb hc hB x1 => ?_⟩
    walk_at "go"
    refine for_it walk_range (fun i σ H => (∃ t x y z, σ = [some (.ref a), some (.ref b), t, x, y, z]) ∧ BagAt H b c) ?_ (fun _ _ _ _ _ => trivial) ?_ ?_
    · exact ⟨⟨none, none, none, none, rfl⟩, hB⟩
    · rintro i x σ H2 H3 hi ⟨⟨t, y, z, u, rfl⟩, hB2⟩ ⟨rfl, rfl⟩
      show tSeq _ _ _ [some (V.ref a), some (V.ref b), some (V.int (0 + i)), y, z, u] H3
      refine r_seqP (fun σ' H' => ∃ (t : Str) (x y : Option V), σ' = [some (V.ref a), some (V.ref b), some (V.int (0 + i)), some (.str t), x, y] ∧ t.length ≤ 9 ∧ BagAt H' b c) ?_ ?_
      · clear hB2 H3 y z u
        rintro σ' H3 ⟨t0, y, z, rfl, ht0, hB2⟩
        refine r_seqP (fun σ' H' => ∃ (t : Str) (x y : Option V), σ' = [some (V.ref a), some (V.ref b), some (V.int (0 + i)), some (.str t), x, y] ∧ t.length ≤ 9 ∧ BagAt H' b c) ?_ ?_
        · clear hB2 H3 y z ht0 t0
          rintro σ' H3 ⟨t0, y, z, rfl, ht0, hB2⟩
          refine r_seqP (fun σ' H' => ∃ (t : Str) (x y : Option V), σ' = [some (V.ref a), some (V.ref b), some (V.int (0 + i)), some (.str t), x, y] ∧ t.length ≤ 100 ∧ BagAt H' b c) ?_ ?_
          · clear hB2 H3 y z ht0 t0
            rintro σ' H3 ⟨t0, y, z, rfl, ht0, hB2⟩
            have ht2 : t0.length ≤ 100000 := by omega
            walk_at "go"
            refine ⟨.str t0, rfl, .inl ⟨t0, rfl, ht2⟩, fun H4 x4 => ?_⟩
            walk_at "go"
            refine ⟨.str t0, rfl, .inl ⟨t0, rfl, ht2⟩, fun H5 x5 => ?_⟩
            walk_at "go"
            intro p hp
            walk_at "go"
            refine ⟨t0, rfl, ht2, fun H6 x6 => ?_⟩
            walk_at "go"
            intro q hq
            walk_at "go"
            intro q2 hq2
            walk_at "go"
            have p6 : H6 p = some (.lst [V.bl (isNameV (.str t0)), V.bl (isNameV (.str t0))]) := x6 _ _ upd_same
            have pq : p ≠ q := ne_of_none p6 hq
            have p7 : (L2.upd H6 q (.lst [V.bl (isNameZ t0)])) p = some (.lst [V.bl (isNameV (.str t0)), V.bl (isNameV (.str t0))]) := (upd_ne pq).trans p6
            have pq2 : p ≠ q2 := ne_of_none p7 hq2
            refine ⟨.ref p, .ref q2, rfl, Sm.flats ((upd_ne pq2).trans p7) upd_same (by walk_at "len") (fun v hv => ?_), fun H7 x7 => ?_⟩
            · simp only [List.mem_cons, List.not_mem_nil, or_false] at hv
              rcases hv with rfl | rfl <;> rfl
            have hB7 : BagAt H7 b c := ((((((hB2.grow x4).grow x5).new hp).grow x6).new hq).new hq2).grow x7
            walk_at "go"
            intro t ht
            walk_at "go"
            intro l hl1
            walk_at "go"
            intro m hm
            walk_at "go"
            have hB8 := ((hB7.new (o := .tup [V.str "a"]) ht).new (o := .lst [V.str "a"]) hl1)
            have t8 : (L2.upd (L2.upd H7 t (.tup [V.str "a"])) l (.lst [V.str "a"])) t = some (.tup [V.str "a"]) := (upd_ne (ne_of_none upd_same hl1)).trans upd_same
            refine ⟨b, c, .ref m, _, rfl, hB8.new hm, Or.inl ⟨m, rfl, (hB8.ne hm).1.symm, Or.inl upd_same⟩, by walk_at "len", by walk_at "len", fun v H9 hv hB9 x9 => ?_⟩
            walk_at "go"
            have t9 : H9 t = some (.tup [V.str "a"]) := x9 _ _ (hB7.ne ht).1.symm ((upd_ne (ne_of_none t8 hm)).trans t8)
            have l9 : H9 l = some (.lst [V.str "a"]) := x9 _ _ ((hB7.new (o := .tup [V.str "a"]) ht).ne hl1).1.symm ((upd_ne (ne_of_none upd_same hm)).trans upd_same)
            have hk : isNameV v = false ∧ ∃ n, TyX K H9 v (.type n) ∧ kitB n "str" = some false := by
              simp only [List.mem_cons, List.not_mem_nil, or_false] at hv
              rcases hv with rfl | rfl | rfl | rfl | rfl
              · exact ⟨rfl, _, .base .non, kb_NoneType_str⟩
              · exact ⟨rfl, _, .base (.int _), kb_int_str⟩
              · exact ⟨rfl, _, .base (.tup t9), kb_tuple_str⟩
              · exact ⟨rfl, _, .base (.lst l9), kb_list_str⟩
              · exact ⟨rfl, _, .base (.bl _), kb_bool_str⟩
            obtain ⟨hv1, n, hv2, hv3⟩ := hk
            refine ⟨v, rfl, .inr ⟨n, hv1, hv2, hv3⟩, fun H10 x10 => ?_⟩
            rw [hv1]
            walk_at "go"
            refine ⟨_, _, rfl, Sm.flat rfl, fun H11 x11 => ?_⟩
            walk_at "go"
            exact ⟨⟨_, _, _, _, rfl⟩, (hB9.grow x10).grow x11⟩
          · intro N hN
            have ht2 : t0.length ≤ 100000 := by omega
            walk_at "go"
            refine ⟨b, c, 3, rfl, hB2, by decide, by decide, fun r H4 r0 r1 hB4 x4 => ?_⟩
            walk_at "go"
            refine r_if2 (fun e => ?_) (fun e => ?_)
            · walk_at "go"
              refine ⟨b, c, _, rfl, hB4, by omega, log_ok (by omega) (by omega), fun r2 H5 r20 r21 hB5 x5 => ?_⟩
              walk_at "go"
              intro p hp
              walk_at "go"
              refine ⟨b, c, .ref p, _, rfl, hB5.new hp, Or.inl ⟨p, rfl, (hB5.ne hp).1.symm, Or.inl upd_same⟩, by walk_at "len", by walk_at "len", fun v H6 hv hB6 x6 => ?_⟩
              obtain ⟨t1, rfl, ht1⟩ := strs_of2 hv
              have c1 := cutS_len t0 none (some r2)
              have s1 : (cutS t0 none (some r2)).length + t1.length ≤ sizeLine := len_ok (by omega)
              walk_at "go"
              refine ⟨b, c, 2, rfl, hB6, by decide, by decide, fun r3 H7 r30 r31 hB7 x7 => ?_⟩
              have c2 := cutS_len t0 (some (r2 + r3)) none
              have s2 : (cutS t0 none (some r2) ++ t1).length + (cutS t0 (some (r2 + r3)) none).length ≤ sizeLine := len_ok (by rw [add_len]; omega)
              walk_at "go"
              refine hN _ _ ⟨_, _, _, rfl, by rw [add_len, add_len]; omega, hB7⟩
            · walk_at "go"
              exact hN _ _ ⟨t0, y, z, rfl, by omega, hB4⟩
        · intro N hN
          walk_at "go"
          intro p hp
          walk_at "go"
          refine ⟨b, c, .ref p, _, rfl, hB2.new hp, Or.inl ⟨p, rfl, (hB2.ne hp).1.symm, Or.inl upd_same⟩, by walk_at "len", by walk_at "len", fun v H4 hv hB4 x4 => ?_⟩
          obtain ⟨t1, rfl, ht1⟩ := strs_of ht0 hv
          walk_at "go"
          exact hN _ _ ⟨t1, y, z, rfl, ht1, hB4⟩
      · intro N hN
        walk_at "go"
        refine ⟨b, c, 9, rfl, hB2, by decide, by decide, fun r H4 r0 r1 hB4 x4 => ?_⟩
        walk_at "go"
        intro D hD
        have nD := hB4.ne hD
        refine lc_inv walk_range (σw := [some (V.ref a), some (V.ref b), some (V.int (0 + i)), y, z, none]) rfl (fun H => BagAt H b c) (fun _ v => ∃ s : Str, v = .str s ∧ s.length ≤ 1) hD (by omega) (hB4.new hD) (fun _ _ => trivial) ?_ ?_
        · rintro j x H5 H6 acc R hj hB5 hacc ⟨rfl, rfl⟩ hR
          walk_at "go"
          refine ⟨rfl, ?_⟩
          walk_at "go"
          refine ⟨rfl, ?_⟩
          walk_at "go"
          refine ⟨b, c, .str lettersZ, _, rfl, hB5, Or.inr ⟨lettersZ, rfl, by decide, rfl⟩, by decide, by decide, fun v H7 hv hB7 x7 => ?_⟩
          exact hR v H7 (letters_mem hv) (x7 D _ nD.1.symm hacc) (hB7.put nD.1 nD.2)
        · intro H5 acc hB5 hacc hlen hE
          obtain ⟨ys, rfl, hl2, hy⟩ := acc_exists (g := V.str) (p := fun s => s.length ≤ 1) hE
          have hy1 := sum_le hy
          have hy2 := join_len (Str.ofString "") ys
          have e0 : (Str.ofString "").length = 0 := by decide
          rw [e0] at hy2
          walk_at "go"
          refine ⟨_, D, ys, rfl, rfl, Or.inl (SqL.of hacc), by rw [e0]; omega, ?_⟩
          walk_at "go"
          refine hN _ _ ⟨_, _, _, rfl, by omega, hB5⟩
    · rintro σ H2 ⟨⟨t, y, z, u, rfl⟩, hB2⟩
      walk_at "go"
      have q1 : isNameV (.str "abcdef") = true := by decide +kernel
      have q2 : isNameV (.str "abcdefg") = false := by decide +kernel
      have q3 : isNameV (.str "") = false := by decide +kernel
      refine ⟨.str "abcdef", rfl, .inl ⟨_, rfl, by decide⟩, fun H4 x4 => ?_⟩
      rw [q1]
      walk_at "go"
      refine ⟨.str "abcdefg", rfl, .inl ⟨_, rfl, by decide⟩, fun H5 x5 => ?_⟩
      rw [q2]
      walk_at "go"
      refine ⟨.str "", rfl, .inl ⟨_, rfl, by decide⟩, fun H6 x6 => ?_⟩
      rw [q3]
      walk_at "go"
      intro p hp
      walk_at "go"
      intro q hq
      walk_at "go"
      refine ⟨_, _, rfl, Sm.flats ((upd_ne (ne_of_none upd_same hq)).trans upd_same) upd_same (by decide) (fun v hv => ?_), fun H7 x7 => hQ H7⟩
      simp only [List.mem_cons, List.not_mem_nil, or_false] at hv
      rcases hv with rfl | rfl | rfl <;> rfl
end
end PW
namespace PW
open PySem PySem.Spec PyProof.Rows L2
abbrev sp_law (K : PySem.W.Frag) : Sp := spLaw13 K
theorem law_end {K : PySem.W.Frag} {H : Hp} {a : Addr} {ns : List Int} (hl : ns.length ≤ 63) (hO : Only H) (hS : SqL K H a (ns.map V.int)) : sp_law K [.ref a] H (fun v _ => v = .bl true) fun _ _ _ => False :=
  ⟨a, ns, rfl, hS, hl, fun _ => rfl⟩
theorem law_ok {P : Program} {w : World} {K : PySem.W.Frag} {mg : Str → Option Value} {base : Heap} (T : Txt K mg) : FnOk P w K mg base CX0 3 (He.ga K "law") (fdOf K (He.ga K "law")) p_law (sp_law K) := by
  have g1 := ok__law_pull (P := P) (w := w) (base := base) T
  have g2 := ok__law_letters (P := P) (w := w) (base := base) T
  exact ok_law13 T ((ok__law_bag T).mono (by decide)) (g1.mono (by decide)) (ok__law_of T g1) (g2.mono (by decide)) (ok__law_same T 1) (ok__law_is_name T g2) ((ok_is_name (k := 0) T).mono (by decide))
end PW
namespace PW
open PySem PySem.Spec PyProof.Rows L2
/-! ### the head: facts by names, the run -/
def d_is_name : He.DefD := ⟨("is_name", none), "is_name", "is_name", defArgs s_is_name, defBody s_is_name, defScope s_is_name, [], []⟩
def d__law_pull : He.DefD := ⟨("_law_pull", none), "_law_pull", "_law_pull", defArgs s__law_pull, defBody s__law_pull, defScope s__law_pull, [], []⟩
def d__law_of : He.DefD := ⟨("_law_of", none), "_law_of", "_law_of", defArgs s__law_of, defBody s__law_of, defScope s__law_of, [], []⟩
def d__law_same : He.DefD := ⟨("_law_same", none), "_law_same", "_law_same", defArgs s__law_same, defBody s__law_same, defScope s__law_same, [], []⟩
def d__law_bag : He.DefD := ⟨("_law_bag", none), "_law_bag", "_law_bag", defArgs s__law_bag, defBody s__law_bag, defScope s__law_bag, [], []⟩
def d__law_letters : He.DefD := ⟨("_law_letters", none), "_law_letters", "_law_letters", defArgs s__law_letters, defBody s__law_letters, defScope s__law_letters, [], []⟩
def d__law_is_name : He.DefD := ⟨("_law_is_name", none), "_law_is_name", "_law_is_name", defArgs s__law_is_name, defBody s__law_is_name, defScope s__law_is_name, [], []⟩
def d_law : He.DefD := ⟨("law", none), "law", "law", defArgs s_law, defBody s_law, defScope s_law, [], []⟩
def fn0 : List He.DefD := [d_is_name, d__law_pull, d__law_of, d__law_same, d__law_bag, d__law_letters, d__law_is_name, d_law]
def fn : List He.DefD := fn0
def fa0 : List He.Fa := [.glo "is_name", .glo "_law_pull", .glo "_law_of", .glo "_law_same", .glo "_law_bag", .glo "_law_letters", .glo "_law_is_name", .glo "law", .str "LETTERS" "abcdefghijklmnopqrstuvwxyz", .glo "RESERVED", .int "MOST_LETTERS" 6, .free "all", .free "isinstance", .free "str", .free "len", .free "int", .free "list", .free "tuple", .free "bool", .free "zip", .free "range"]
def fa : List He.Fa := fa0
def ex (K : PySem.W.Frag) : List Bool := [He.tupB K "RESERVED" [(.str "len"), (.str "mod"), (.str "and"), (.str "or"), (.str "not"), (.str "true")]]
def loose0 : List PySem.Str := ["LETTERS", "RESERVED", "MOST_LETTERS", "is_name", "_law_pull", "_law_of", "_law_same", "_law_bag", "_law_letters", "_law_is_name"]
def loose : List PySem.Str := loose0
abbrev R : PySem.W.OpenRow := PySem.W.OpenLaw.row PySem.Challenge.rw_powerwish_k13_names_told
abbrev hk : PySem.W.Hook := hookM 4 fa fn ex
def ob (s : PySem.W.SharedT) : AlM := obsMG 4 fa fn ex (HandSHeadRun.getT s)
theorem ob_eq (s : PySem.W.SharedT) : ob s = hk.obs s.abs := obsMG_eq (HandSHeadRun.getT_eq s)
theorem run (w : World) : HandSHeadRun.RunEq R (PySem.W.view R.prog [12]) hk ob 3000 loose w := by
  intro os
  kernel_rfl
theorem txt_of {K : PySem.W.Frag} {h : Heap} {mg : Str → Option Value} (X : K.In h) (G : h.Ns mainGlobals mg) (c : SaysM fa fn ex K) : Txt K mg where
  g_is_name := He.glo_ok X G (c.1.fact 0 (f := .glo "is_name") rfl)
  g__law_pull := He.glo_ok X G (c.1.fact 1 (f := .glo "_law_pull") rfl)
  g__law_of := He.glo_ok X G (c.1.fact 2 (f := .glo "_law_of") rfl)
  g__law_same := He.glo_ok X G (c.1.fact 3 (f := .glo "_law_same") rfl)
  g__law_bag := He.glo_ok X G (c.1.fact 4 (f := .glo "_law_bag") rfl)
  g__law_letters := He.glo_ok X G (c.1.fact 5 (f := .glo "_law_letters") rfl)
  g__law_is_name := He.glo_ok X G (c.1.fact 6 (f := .glo "_law_is_name") rfl)
  g_law := He.glo_ok X G (c.1.fact 7 (f := .glo "law") rfl)
  c_LETTERS := He.str_ok X G (c.1.fact 8 (f := .str "LETTERS" "abcdefghijklmnopqrstuvwxyz") rfl)
  g_RESERVED := He.glo_ok X G (c.1.fact 9 (f := .glo "RESERVED") rfl)
  t_RESERVED := fun H => He.tupB_ok (vs := [(.str "len"), (.str "mod"), (.str "and"), (.str "or"), (.str "not"), (.str "true")]) (exN c.2 0 rfl) H
  c_MOST_LETTERS := He.int_ok X G (c.1.fact 10 (f := .int "MOST_LETTERS" 6) rfl)
  f_all := He.free_ok X G (c.1.fact 11 (f := .free "all") rfl)
  f_isinstance := He.free_ok X G (c.1.fact 12 (f := .free "isinstance") rfl)
  f_str := He.free_ok X G (c.1.fact 13 (f := .free "str") rfl)
  f_len := He.free_ok X G (c.1.fact 14 (f := .free "len") rfl)
  f_int := He.free_ok X G (c.1.fact 15 (f := .free "int") rfl)
  f_list := He.free_ok X G (c.1.fact 16 (f := .free "list") rfl)
  f_tuple := He.free_ok X G (c.1.fact 17 (f := .free "tuple") rfl)
  f_bool := He.free_ok X G (c.1.fact 18 (f := .free "bool") rfl)
  f_zip := He.free_ok X G (c.1.fact 19 (f := .free "zip") rfl)
  f_range := He.free_ok X G (c.1.fact 20 (f := .free "range") rfl)
  d_is_name := funD_of (c.1.def_ 0 (d := d_is_name) rfl)
  d__law_pull := funD_of (c.1.def_ 1 (d := d__law_pull) rfl)
  d__law_of := funD_of (c.1.def_ 2 (d := d__law_of) rfl)
  d__law_same := funD_of (c.1.def_ 3 (d := d__law_same) rfl)
  d__law_bag := funD_of (c.1.def_ 4 (d := d__law_bag) rfl)
  d__law_letters := funD_of (c.1.def_ 5 (d := d__law_letters) rfl)
  d__law_is_name := funD_of (c.1.def_ 6 (d := d__law_is_name) rfl)
  d_law := funD_of (c.1.def_ 7 (d := d_law) rfl)
end PW
open PySem PySem.W PySem.Calls PyProof.Rows
theorem PySem.Challenge.cw_powerwish_k13_names_told_holds : PySem.Challenge.rw_powerwish_k13_names_told.Holds := by
  w_on; o_law
  refine HandSHeadRun.head_any (r := OpenLaw.row PySem.Challenge.rw_powerwish_k13_names_told) (q := view (OpenLaw.row PySem.Challenge.rw_powerwish_k13_names_told).prog [12]) (H := PW.hk) (ob := PW.ob) (M := 3000) (loose := PW.loose) (d := HandSHeadRun.topDef (OpenLaw.row PySem.Challenge.rw_powerwish_k13_names_told).prog 12) (kwd := []) PW.ob_eq
    (by kernel_rfl) (fun s => by kernel_rfl) PW.run (by kernel_rfl) (by kernel_rfl) (by kernel_rfl) (by rfl) (by first | assumption | decide +kernel) (by decide +kernel) ⟨rfl, rfl, rfl, rfl, rfl, by decide +kernel⟩ ?hw ?hc
  case hw => w_witness2
  case hc =>
    refine L2.walk_ofE (l := PySem.Challenge.rw_powerwish_k13_names_told) (n := 63) (k := 3) (x := "_law_script") (CX := L2.CX0) rfl (by decide) (by kernel_rfl) ⟨rfl, by decide, by decide⟩ ?F (fun _ _ _ _ z => z)
    intro w mg fa h Y G hmg0
    obtain ⟨K, KX, c⟩ := Y
    have hmg : mg ("law" : PySem.Str) = some (.ref fa) := by
      have e : (HandSHeadRun.topDef (OpenLaw.row PySem.Challenge.rw_powerwish_k13_names_told).prog 12).name = ("law" : PySem.Str) := by kernel_rfl
      rw [← e]
      exact hmg0
    have T := PW.txt_of KX G c
    have ef := hmg.symm.trans T.g_law
    cases ef
    exact ⟨K, _, PW.sp_law K, KX, fun s v => L2.FunD.bindsA (ps := PW.p_law) T.d_law (fun _ _ _ _ _ _ us hl => match us, hl with | [_], _ => rfl) s [v] rfl, fun H a ns hl hO hS => PW.law_end hl hO hS, fun base _ _ => PW.law_ok (P := (PySem.Challenge.rw_powerwish_k13_names_told).prog) (w := w) (base := base) T⟩
#print axioms PySem.Challenge.cw_powerwish_k13_names_told_holds
