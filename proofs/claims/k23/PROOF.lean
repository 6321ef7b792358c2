import PyProof.Rows.All
import Wide.All
import OpenK.AllK
import Wide.FinOn
import KE.KStateDown
import Lean
import HandS.Base
import HandS.Call
import HandS.Ends
import HandS.List
import HandS.Comp
import HandS.Iter
import HandS.Dict
import HandS.Text
import HandS.Exc
import HandS.More
import HandS.Words
import HandS.WordsExc
import HandS.WordsList
import HandS.WordsDict
import HandS.Defaults
import HandS.IsInst
import HandS.Wide
import HandS.WideBits
import HandS.Walk
import HandS.Zip
import HandS.FStr
import HandS.Codes
import HandS.TryOnly
import HandS.ExcOwn
import HandS.Steps
import HandS.Slots
import HandS.SlotsOwn
import HandS.MakeKwOnly
import HandS.Style
import HandS.Star
import HandS.ClsMeth
import HandS.ListEq
import HandS.Lambda
import HandS.Set
import HandS.SetTxt0
import PyProof.Rows.SortShellAny
import HandS.Head0
import HandS.Head1
import HandS.Head2
import HandS.HeadEnd
import HandS.HeadHook1
import HandS.HeadHook2
import PySem.Challenge.RW_powerwish_k23_parts_of_conditions
set_option Elab.async false
set_option linter.all false
set_option maxRecDepth 100000
set_option maxHeartbeats 4000000
/-! ### the hook: facts, and Bools of one's own -/
namespace PW
open PySem PySem.Spec PyProof.Rows L2
def fdOf (K : PySem.W.Frag) (a : Addr) : FuncData := match K.lookup a with
  | some ⟨_, _, .func fd, _⟩ => fd
  | _ => default
theorem funD_of {K : PySem.W.Frag} {x qual : Str} {params : Arguments} {body : List Stmt} {scope : Scope} {dvs : List V} {kws : List (Str × V)} {f : Addr} (h : ∃ fd, FunD K x qual params body scope dvs kws f fd) :
    FunD K x qual params body scope dvs kws f (fdOf K f) := by
  obtain ⟨fd, F⟩ := h
  obtain ⟨oc, od, dV, kV, doc, pm, an, cdv, ct, osl, e, lk, _⟩ := F.ex
  have e2 : fdOf K f = fd := by
    unfold fdOf
    rw [lk]
  rw [e2]
  exact F
/-- a def reached by a path of one's own (a staticmethod's), without defaults -/
structure DefA where
  at_ : PySem.W.Frag → Addr
  name : Str
  qual : Str
  params : Arguments
  body : List Stmt
  scope : Scope
def fnWA (K : PySem.W.Frag) (d : DefA) : He.FnW := match K.lookup (d.at_ K) with
  | some ⟨_, _, .func fd, _⟩ => some (fd.name, fd.qualname, fd.params, fd.body, fd.scope, fd.globals, fd.closure, fd.builtins)
  | _ => none
def DefA.val (d : DefA) : He.FnW := some (d.name, d.qual, d.params, .stmts d.body, d.scope, mainGlobals, [], builtinsNs)
def DefA.ok (K : PySem.W.Frag) (d : DefA) : Bool := PySem.W.keepIn K (.ref (d.at_ K)) && (match K.lookup (d.at_ K) with
  | some ⟨_, _, .func fd, _⟩ => PySem.W.codeIn K fd.code d.qual && (He.dflB K fd.defaults [] && He.kwdB K fd.kwdefaults [])
  | _ => false)
theorem DefA.funD {K : PySem.W.Frag} {d : DefA} (e : fnWA K d = d.val) (c : d.ok K = true) : ∃ fd, FunD K d.name d.qual d.params d.body d.scope [] [] (d.at_ K) fd := by
  obtain ⟨kp, c2⟩ := He.ba c
  unfold fnWA at e
  cases q : K.lookup (d.at_ K) with
  | none =>
    rw [q] at c2
    cases c2
  | some o =>
    obtain ⟨oc, od, dt, osl⟩ := o
    rw [q] at c2 e
    cases dt with
    | func fd =>
      obtain ⟨n1, n2, n3, n4, n5, n6, n7, n8, n9, n10, n11, n12, n13, n14, n15⟩ := fd
      have e2 : (some (n1, n2, n3, n4, n5, n6, n7, n15) : He.FnW) = some (d.name, d.qual, d.params, .stmts d.body, d.scope, mainGlobals, [], builtinsNs) := e
      simp only [Option.some.injEq, Prod.mk.injEq] at e2
      obtain ⟨h1, h2, h3, h4, h5, h6, h7, h8⟩ := e2
      subst h1 h2 h3 h4 h5 h6 h7 h8
      have c3 : (PySem.W.codeIn K n13 d.qual && (He.dflB K n8 [] && He.kwdB K n9 [])) = true := c2
      obtain ⟨k1, k2⟩ := He.ba c3
      obtain ⟨k3, k4⟩ := He.ba k2
      exact ⟨_, ⟨oc, od, n8, n9, n10, n11, n12, n13, n14, osl, rfl, q, k1, He.dflB_ok k3, He.kwdB_ok k4⟩, kp⟩
    | _ => cases c2
/-- a staticmethod's function -/
def sgA (C m : Str) (K : PySem.W.Frag) : Addr := match PySem.W.recIn K (He.ma K (He.ga K C) m) "staticmethod" with
  | some (.ref g :: _) => g
  | _ => 0
/-- a keyword-only default that is an object -/
def kwA (p : Str × Option Str) (x : Str) (K : PySem.W.Frag) : Addr := match K.lookup (He.fAd K p) with
  | some ⟨_, _, .func fd, _⟩ => (match fd.kwdefaults with
    | .ref D => (match PySem.W.nsIn K D x with
      | some (some (.ref a)) => a
      | _ => 0)
    | _ => 0)
  | _ => 0
/-- an empty tuple at a -/
def emptyT (K : PySem.W.Frag) (a : Addr) : Bool := match K.lookup a with
  | some ⟨.type c, _, .seq its _, _⟩ => decide (c = "tuple") && decide (its.size = 0)
  | _ => false
theorem emptyT_ok {K : PySem.W.Frag} {a : Addr} (h : emptyT K a = true) (H : Hp) : SqT K H a [] := by
  unfold emptyT at h
  cases q : K.lookup a with
  | none =>
    rw [q] at h
    cases h
  | some o =>
    obtain ⟨oc, od, dt, osl⟩ := o
    rw [q] at h
    cases oc with
    | type c =>
      cases dt with
      | seq its n =>
        obtain ⟨h1, h2⟩ := He.ba (show (decide (c = "tuple") && decide (its.size = 0)) = true from h)
        have h3 : its.size = 0 := of_decide_eq_true h2
        have h4 : its = #[] := Array.eq_empty_of_size_eq_zero h3
        subst h4
        exact .inr ⟨_, #[], n, q, congrArg Value.type (of_decide_eq_true h1), rfl, Nat.zero_le _, .nil⟩
      | _ => cases h
    | _ => cases dt <;> cases h
abbrev AlM : Type := He.AlD × (List He.FnW × Bool)
def obsM (fa : List He.Fa) (fn : List He.DefD) (fs : List DefA) (ex : PySem.W.Frag → List Bool) (K : PySem.W.Frag) : AlM := (He.obsD fa fn K, (fs.map (fnWA K), (fs.all fun d => d.ok K) && (ex K).all id))
def valM (fn : List He.DefD) (fs : List DefA) : AlM := (He.valD fn, (fs.map DefA.val, true))
structure SaysM (fa : List He.Fa) (fn : List He.DefD) (fs : List DefA) (ex : PySem.W.Frag → List Bool) (K : PySem.W.Frag) : Prop where
  d : He.SaysD fa fn K
  s : ∀ d ∈ fs, ∃ fd, FunD K d.name d.qual d.params d.body d.scope [] [] (d.at_ K) fd
  b : ∀ b ∈ ex K, b = true
theorem map_mem {α β : Type} {f g : α → β} : ∀ {l : List α}, l.map f = l.map g → ∀ a ∈ l, f a = g a
  | [], _, _, h => by cases h
  | x :: r, e, a, h => by
    rw [List.map_cons, List.map_cons] at e
    injection e with e1 e2
    rcases List.mem_cons.mp h with rfl | h
    · exact e1
    · exact map_mem e2 a h
theorem exN {l : List Bool} (h : ∀ b ∈ l, b = true) (i : Nat) {b : Bool} (e : l[i]? = some b) : b = true := h b (List.mem_of_getElem? e)
def obsMG (n : Nat) (fa : List He.Fa) (fn : List He.DefD) (fs : List DefA) (ex : PySem.W.Frag → List Bool) (g : Addr → Option Obj) : AlM := obsM fa fn fs ex (He.frG g (He.asD g n ++ [cStatics]))
theorem saysM_of {fa : List He.Fa} {fn : List He.DefD} {fs : List DefA} {ex : PySem.W.Frag → List Bool} {K : PySem.W.Frag} (e : obsM fa fn fs ex K = valM fn fs) : SaysM fa fn fs ex K := by
  have e1 : He.obsD fa fn K = He.valD fn := congrArg (fun z : AlM => z.1) e
  have e2 : fs.map (fnWA K) = fs.map DefA.val := congrArg (fun z : AlM => z.2.1) e
  have e3 : ((fs.all fun d => d.ok K) && (ex K).all id) = true := congrArg (fun z : AlM => z.2.2) e
  obtain ⟨e4, e5⟩ := He.ba e3
  exact ⟨e1, fun d hd => DefA.funD (map_mem e2 d hd) (List.all_eq_true.mp e4 d hd), fun b hb => List.all_eq_true.mp e5 b hb⟩
def hookM (n : Nat) (fa : List He.Fa) (fn : List He.DefD) (fs : List DefA) (ex : PySem.W.Frag → List Bool) : PySem.W.Hook where
  α := AlM
  obs := fun s => obsMG n fa fn fs ex s.heap.get?
  val := fun _ => valM fn fs
  says := fun _ h => ∃ K : PySem.W.Frag, K.In h ∧ SaysM fa fn fs ex K
  of := fun _ _ e => ⟨_, He.frG_in, saysM_of e⟩
  keeps := fun _ _ _ ⟨K, hK, c⟩ k => ⟨K, PySem.W.Frag.In.keeps hK k, c⟩
theorem obsMG_eq {n : Nat} {fa : List He.Fa} {fn : List He.DefD} {fs : List DefA} {ex : PySem.W.Frag → List Bool} {g : Addr → Option Obj} {s : Shared} (h : ∀ a, g a = s.heap.get? a) : obsMG n fa fn fs ex g = (hookM n fa fn fs ex).obs s := by
  have e : g = s.heap.get? := funext h
  rw [e] <;> rfl
/-! ### a module's constants -/
section
variable {X : Cx} {x : Str} {pos : Pos}
theorem pe_gint {i : Int} (hg : Gl X x) (h : ∃ t, X.mg x = some (.int i t)) (hd : (x == ("__debug__" : Str)) = false := by decide) : PE X (.Name x pos) (tC (.int i)) := by
  obtain ⟨t, h⟩ := h
  exact pe_glob hg h ⟨t, rfl⟩ hd
theorem pe_gstr {z : Str} (hg : Gl X x) (h : ∃ t, X.mg x = some (.str z t)) (hd : (x == ("__debug__" : Str)) = false := by decide) : PE X (.Name x pos) (tC (.str z)) := by
  obtain ⟨t, h⟩ := h
  exact pe_glob hg h ⟨t, rfl⟩ hd
end
end PW
/-! ### readings, one step at a time -/
namespace PW
open PySem PySem.Spec PyProof.Rows L2
section
variable {σ : L2.St} {H : Hp} {Q : VK} {D : Ends} {v x y : V} {i j : Int} {n m : Nat} {ta tb tc te : TE} {t u : TT} {s1 s2 : TS} {r r' : R2} {K : PySem.W.Frag} {tA tR : TA}
theorem r_var (h : σ[n]? = some (some v)) (q : Q v H) : tVar n σ H Q := ⟨v, h, q⟩
theorem r_c (q : Q v H) : tC v σ H Q := q
theorem r_op (h : ta σ H fun x H1 => tb σ H1 fun y H2 => r x y H2 Q) : tOp r ta tb σ H Q := h
theorem r_un {r : V → Hp → VK → Prop} (h : ta σ H fun x H1 => r x H1 Q) : tUn r ta σ H Q := h
theorem r_chain (h : ta σ H fun x H1 => tb σ H1 fun y H2 => r x y H2 fun z H3 => ∃ k, z = .bl k ∧ (if k = true then tc σ H3 fun w' H4 => r' y w' H4 Q else Q (.bl false) H3)) : tChain r r' ta tb tc σ H Q := h
theorem r_test {Q : Bool → Hp → Prop} (h : te σ H fun x H' => ∃ k, x = .bl k ∧ Q k H') : tTest te σ H Q := h
theorem r_b {Q : Bool → Hp → Prop} (h : te σ H fun x H' => ∃ k, x = .bl k ∧ Q k H') : tB te σ H Q := h
theorem r_bl {b : Bool} {Q : Bool → Prop} (q : Q b) : ∃ k, V.bl b = .bl k ∧ Q k := ⟨b, rfl, q⟩
theorem r_bl' {b : Bool} {Q : Bool → Hp → Prop} (q : Q b H) : ∃ k, V.bl b = .bl k ∧ Q k H := ⟨b, rfl, q⟩
theorem r_not {Q : Bool → Hp → Prop} (h : t σ H fun c H1 => Q (!c) H1) : tNot t σ H Q := h
theorem r_and {Q : Bool → Hp → Prop} (h : t σ H fun c H1 => if c = true then u σ H1 Q else Q false H1) : tAnd t u σ H Q := h
theorem r_or {Q : Bool → Hp → Prop} (h : t σ H fun c H1 => if c = true then Q true H1 else u σ H1 Q) : tOr t u σ H Q := h
theorem r_andV (h : ta σ H fun x H1 => ∃ c, x = .bl c ∧ if c = true then tb σ H1 Q else Q (.bl false) H1) : tAndV ta tb σ H Q := h
theorem r_orV (h : ta σ H fun x H1 => ∃ c, x = .bl c ∧ if c = true then Q (.bl true) H1 else tb σ H1 Q) : tOrV ta tb σ H Q := h
theorem r_notV (h : ta σ H fun x H1 => ∃ c, x = .bl c ∧ Q (.bl (!c)) H1) : tNotV ta σ H Q := h
theorem r_isN (h : ta σ H fun x H1 => Q (.bl (decide (x = .non))) H1) : tIsN ta σ H Q := h
theorem r_notN (h : ta σ H fun x H1 => Q (.bl (!decide (x = .non))) H1) : tNotN ta σ H Q := h
theorem r_ifE (h : t σ H fun c H1 => if c = true then ta σ H1 Q else tb σ H1 Q) : tIf t ta tb σ H Q := h
theorem r_ifS (h : t σ H fun b H1 => if b = true then s1 D σ H1 else s2 D σ H1) : tIfS t s1 s2 D σ H := h
theorem r_seq (h : s1 { D with nx := s2 D } σ H) : tSeq s1 s2 D σ H := h
theorem r_next (h : D.nx σ H) : tNext D σ H := h
theorem r_brk (h : D.bk σ H) : tBreak D σ H := h
theorem r_cnt (h : D.ct σ H) : tCont D σ H := h
theorem r_ret (h : te σ H D.rt) : tRet te D σ H := h
theorem r_retN (h : D.rt .non H) : tRetN D σ H := h
theorem r_drop (h : te σ H fun _ H1 => D.nx σ H1) : tDrop te D σ H := h
theorem r_asg {g : TG} (h : te σ H fun x H1 => g x σ H1 D.nx) : tAsg te g D σ H := h
theorem r_gname {Q : L2.St → Hp → Prop} (h : Q (σ.set n (some v)) H) : gName n v σ H Q := h
theorem r_gsub {to ti : TE} {ts : TSet} {Q : L2.St → Hp → Prop} (h : to σ H fun o H1 => ti σ H1 fun i H2 => ts o i v H2 fun H3 => Q σ H3) : gSub to ti ts v σ H Q := h
theorem r_aug {ti : TIp} (hx : σ[n]? = some (some x)) (h : te σ H fun y H1 => ti x y H1 fun z H2 => D.nx (σ.set n (some z)) H2) : tAug n te ti D σ H := ⟨x, hx, h⟩
theorem r_ipI {g : Int → Int → Int} {Q : VK} (q : Q (.int (g i j)) H) : ipI g (.int i) (.int j) H Q := ⟨i, j, rfl, rfl, q⟩
theorem r_nil {Q : List V → Hp → Prop} (h : Q [] H) : tNil σ H Q := h
theorem r_cons {Q : List V → Hp → Prop} (h : ta σ H fun x H1 => tR σ H1 fun xs H2 => Q (x :: xs) H2) : tCons ta tR σ H Q := h
theorem r_cb {r : List V → Hp → VK → Prop} (h : tA σ H fun vs H1 => r vs H1 Q) : tCB r tA σ H Q := h
theorem r_call {sp : Sp} {dvs : List V} {E : XK} (h : tA σ H fun vs H1 => sp (vs ++ dvs) H1 Q E) : tCall sp dvs E tA σ H Q := h
theorem r_I0 {g : Int → Int → V} (q : Q (g i j) H) : rI0 g (.int i) (.int j) H Q := ⟨i, j, rfl, rfl, q⟩
theorem r_I {C : Int → Int → Prop} {g : Int → Int → V} (c : C i j) (q : Q (g i j) H) : rI C g (.int i) (.int j) H Q := ⟨i, j, rfl, rfl, c, q⟩
theorem r_U {g : Int → V} (q : Q (g i) H) : rU g (.int i) H Q := ⟨i, rfl, q⟩
theorem r_eq (h : scal x y = true) (q : Q (.bl (decide (x = y))) H) : rEq x y H Q := ⟨h, q⟩
theorem r_ne (h : scal x y = true) (q : Q (.bl (!decide (x = y))) H) : rNe x y H Q := ⟨h, q⟩
theorem r_ixL {p : Addr} {xs : List V} (h : SqL K H p xs) (a : atI xs i = some v) (q : Q v H) : rIxL K (.ref p) (.int i) H Q := ⟨p, xs, i, v, rfl, rfl, h, a, q⟩
theorem r_ixT {p : Addr} {xs : List V} (h : SqT K H p xs) (a : atI xs i = some v) (q : Q v H) : rIxT K (.ref p) (.int i) H Q := ⟨p, xs, i, v, rfl, rfl, h, a, q⟩
theorem r_setL {p : Addr} {xs : List V} {k : Nat} {Q : Hp → Prop} (h : H p = some (.lst xs)) (e : ixN xs.length i = some k) (q : Q (upd H p (.lst (xs.set k v)))) : rSetL (.ref p) (.int i) v H Q := ⟨p, xs, i, k, rfl, rfl, h, e, q⟩
theorem r_lst {l : Nat} (hl : l = l) (h : tA σ H fun xs H1 => xs.length ≤ sizeLine ∧ ∀ p, H1 p = none → Q (.ref p) (upd H1 p (.lst xs))) : tLst tA σ H Q := h
theorem r_lst1 {xs : List V} {R : Prop} (hl : xs.length ≤ 100000) (h : R) : xs.length ≤ sizeLine ∧ R := ⟨Nat.le_trans hl (by decide), h⟩
theorem r_tup (h : tA σ H fun xs H1 => xs.length ≤ sizeLine ∧ ∀ p, H1 p = none → Q (.ref p) (upd H1 p (.tup xs))) : tTup tA σ H Q := h
theorem r_ifT {A B : Prop} (h : A) : if true = true then A else B := by rw [if_pos rfl]; exact h
theorem r_ifF {A B : Prop} (h : B) : if false = true then A else B := by rw [if_neg Bool.false_ne_true]; exact h
theorem r_ifT' {c : Bool} {A B : Prop} (e : c = true) (h : A) : if c = true then A else B := by rw [if_pos e]; exact h
theorem r_ifF' {c : Bool} {A B : Prop} (e : c = false) (h : B) : if c = true then A else B := by rw [if_neg (by rw [e]; exact Bool.false_ne_true)]; exact h
theorem r_if2 {c : Bool} {A B : Prop} (h1 : c = true → A) (h2 : c = false → B) : if c = true then A else B := by
  cases c with
  | true => exact r_ifT (h1 rfl)
  | false => exact r_ifF (h2 rfl)
theorem r_int1 {Q : VK} (q : Q (.int i) H) : (∃ k, [V.int i] = [.int k] ∧ Q (.int k) H) ∨ ∃ k, [V.int i] = [.bl k] ∧ Q (.int (if k then 1 else 0)) H := .inl ⟨i, rfl, q⟩
theorem r_part {Q : Option Int → Hp → Prop} (h : te σ H fun x H1 => ∃ i, x = .int i ∧ Q (some i) H1) : tPart te σ H Q := h
theorem r_exI {R : Int → Prop} (h : R i) : ∃ k, V.int i = .int k ∧ R k := ⟨i, rfl, h⟩
theorem r_noPart {Q : Option Int → Hp → Prop} (h : Q none H) : tNoPart σ H Q := h
theorem r_sl {rs : V → Option Int → Option Int → Hp → VK → Prop} {tl th : TO} (h : te σ H fun x H1 => tl σ H1 fun l H2 => th σ H2 fun u H3 => rs x l u H3 Q) : tSl rs te tl th σ H Q := h
theorem r_slL {p : Addr} {xs : List V} {lo hi : Option Int} (h : SqL K H p xs) (q : ∀ l, H l = none → Q (.ref l) (upd H l (.lst (cutV xs lo hi)))) : rSlL K (.ref p) lo hi H Q := ⟨p, xs, rfl, h, q⟩
theorem r_slS {z : Str} {lo hi : Option Int} (h : z.length ≤ sizeLine) (q : Q (.str (cutS z lo hi)) H) : rSlS (.str z) lo hi H Q := ⟨z, rfl, h, q⟩
end
end PW
namespace PW
open PySem PySem.Spec PyProof.Rows L2
theorem cmx {i j : Int} (h1 : -(2 ^ 64) < i) (h2 : i < 2 ^ 64) (h3 : -(2 ^ 64) < j) (h4 : j < 2 ^ 64) : CMulX i j := mulx_ok (a := 64) (b := 64) (by omega) (by omega) (by decide)
theorem cdw {i j : Int} (h : 0 < j) (h2 : j < 2 ^ 64) : CDivW i j := wide_div (b := 64) h (by omega) (by decide) (by decide)
end PW
namespace PW
open PySem PySem.Spec PyProof.Rows L2
theorem cpow {i j : Int} (h : 0 ≤ j) (h2 : j ≤ 1000) (h3 : -(2 ^ 64) < i) (h4 : i < 2 ^ 64) : CPow i j := ⟨h, by omega, by omega⟩
theorem cdw2 {i j : Int} (h : 0 < j) (h2 : j.natAbs.log2 < 9000) : CDivW i j := ⟨h, h2⟩
/-! ### built-ins by named readings -/
def cInt : List V → Hp → VK → Prop := fun xs H Q => (∃ i, xs = [.int i] ∧ Q (.int i) H) ∨ ∃ k, xs = [.bl k] ∧ Q (.int (if k then 1 else 0)) H
def cLen (K : PySem.W.Frag) : List V → Hp → VK → Prop := fun xs H Q => ∃ x n, xs = [x] ∧ LenV K x H n ∧ Q (.int n) H
def cAbs : List V → Hp → VK → Prop := fun xs H Q => ∃ i, xs = [.int i] ∧ Q (.int (if i < 0 then -i else i)) H
def cMax : List V → Hp → VK → Prop := fun xs H Q => ∃ i j, xs = [.int i, .int j] ∧ Q (.int (if j > i then j else i)) H
def cMin : List V → Hp → VK → Prop := fun xs H Q => ∃ i j, xs = [.int i, .int j] ∧ Q (.int (if j < i then j else i)) H
def cList (K : PySem.W.Frag) : List V → Hp → VK → Prop := fun xs H Q => ∃ p ys, xs = [.ref p] ∧ (SqL K H p ys ∨ SqT K H p ys) ∧ ∀ l, H l = none → Q (.ref l) (upd H l (.lst ys))
def cTuple (K : PySem.W.Frag) : List V → Hp → VK → Prop := fun xs H Q => ∃ p ys, xs = [.ref p] ∧ ((SqL K H p ys ∧ ∀ l, H l = none → Q (.ref l) (upd H l (.tup ys))) ∨ (SqT K H p ys ∧ Q (.ref p) H))
def oAddS : R2 := fun x y H Q => ∃ i j, x = .str i ∧ y = .str j ∧ i.length + j.length ≤ sizeLine ∧ Q (.str (i ++ j)) H
section
variable {X : Cx}
theorem call_intN : CallR X (.type "int") cInt := call_int1
theorem call_lenN : CallR X (.builtin "len") (cLen X.K) := call_len
theorem call_absN : CallR X (.builtin "abs") cAbs := call_abs
theorem call_maxN (hc : X.calm = true) : CallR X (.builtin "max") cMax := call_max2 hc
theorem call_minN (hc : X.calm = true) : CallR X (.builtin "min") cMin := call_min2 hc
theorem call_listN : CallR X (.type "list") (cList X.K) := call_list_of
theorem call_tupleN : CallR X (.type "tuple") (cTuple X.K) := call_tuple_of
theorem op_addSN : OpR X (binaryOp .Add) oAddS := op_add_str
end
section
variable {H : Hp} {Q : VK} {i j : Int} {k : Bool} {K : PySem.W.Frag} {p : Addr} {ys : List V} {z z' : Str}
theorem r_cInt (q : Q (.int i) H) : cInt [.int i] H Q := .inl ⟨i, rfl, q⟩
theorem r_cLenS (h : z.length ≤ sizeLine) (q : Q (.int (z.length : Nat)) H) : cLen K [.str z] H Q := ⟨.str z, z.length, rfl, ⟨h, rfl⟩, q⟩
theorem r_cLenL (h : SqL K H p ys) (q : Q (.int (ys.length : Nat)) H) : cLen K [.ref p] H Q := ⟨.ref p, ys.length, rfl, .inl ⟨ys, h, rfl⟩, q⟩
theorem r_cLenT (h : SqT K H p ys) (q : Q (.int (ys.length : Nat)) H) : cLen K [.ref p] H Q := ⟨.ref p, ys.length, rfl, .inr ⟨ys, h, rfl⟩, q⟩
theorem r_cAbs (q : Q (.int (if i < 0 then -i else i)) H) : cAbs [.int i] H Q := ⟨i, rfl, q⟩
theorem r_cMax (q : Q (.int (if j > i then j else i)) H) : cMax [.int i, .int j] H Q := ⟨i, j, rfl, q⟩
theorem r_cMin (q : Q (.int (if j < i then j else i)) H) : cMin [.int i, .int j] H Q := ⟨i, j, rfl, q⟩
theorem r_cListL (h : SqL K H p ys) (q : ∀ l, H l = none → Q (.ref l) (upd H l (.lst ys))) : cList K [.ref p] H Q := ⟨p, ys, rfl, .inl h, q⟩
theorem r_cListT (h : SqT K H p ys) (q : ∀ l, H l = none → Q (.ref l) (upd H l (.lst ys))) : cList K [.ref p] H Q := ⟨p, ys, rfl, .inr h, q⟩
theorem r_cTupleL (h : SqL K H p ys) (q : ∀ l, H l = none → Q (.ref l) (upd H l (.tup ys))) : cTuple K [.ref p] H Q := ⟨p, ys, rfl, .inl ⟨h, q⟩⟩
theorem r_addS (h : z.length + z'.length ≤ sizeLine) (q : Q (.str (z ++ z')) H) : oAddS (.str z) (.str z') H Q := ⟨z, z', rfl, rfl, h, q⟩
end
end PW
namespace PW
open PySem PySem.Spec PyProof.Rows L2
section
variable {H : Hp} {Q : VK} {i : Int} {K : PySem.W.Frag} {p : Addr} {xs : List V} {v : V} {z : Str} {c : Nat}
theorem r_ixqL (h : SqL K H p xs) (a : atI xs i = some v) (q : Q v H) : rIx K (.ref p) (.int i) H Q := .inl (r_ixL h a q)
theorem r_ixqT (h : SqT K H p xs) (a : atI xs i = some v) (q : Q v H) : rIx K (.ref p) (.int i) H Q := .inr (.inl (r_ixT h a q))
theorem r_ixqS (h : z.length ≤ sizeLine) (a : atI z.cps.toList i = some c) (q : Q (.str ⟨#[c]⟩) H) : rIx K (.str z) (.int i) H Q := .inr (.inr ⟨z, i, c, rfl, rfl, h, a, q⟩)
theorem atI_mem {α : Type} {xs : List α} {i : Int} (h0 : 0 ≤ i) (h : i < (xs.length : Int)) : ∃ v, v ∈ xs ∧ atI xs i = some v := by
  have hl : i.toNat < xs.length := by omega
  have e : i = (i.toNat : Int) := by omega
  have h2 : atI xs (i.toNat : Int) = some xs[i.toNat] := atI_nat (List.getElem?_eq_getElem hl)
  exact ⟨_, List.getElem_mem hl, by rw [← e] at h2; exact h2⟩
end
end PW
namespace PW
open PySem PySem.Spec PyProof.Rows L2
/-! ### heaps that grow -/
def Ex (H H' : Hp) : Prop := ∀ a o, H a = some o → H' a = some o
theorem Ex.refl (H : Hp) : Ex H H := fun _ _ h => h
theorem Ex.trans {H H1 H2 : Hp} (a : Ex H H1) (b : Ex H1 H2) : Ex H H2 := fun c o h => b c o (a c o h)
theorem Ex.new {H : Hp} {p : Addr} {o : HO} (h : H p = none) : Ex H (L2.upd H p o) := fun a u e => by
  rw [upd_ne (ne_of_none e h)]
  exact e
theorem Ex.newT {H H1 : Hp} {p : Addr} {o : HO} (x : Ex H H1) (h : H1 p = none) : Ex H (L2.upd H1 p o) := x.trans (Ex.new h)
theorem Ex.free {H H' : Hp} {p : Addr} (e : Ex H H') (h : H' p = none) : H p = none := Same.free e h
/-- an object that H does not know may change -/
theorem Ex.mut {H H' : Hp} {p : Addr} {o : HO} (e : Ex H H') (h : H p = none) : Ex H (L2.upd H' p o) := fun a u ha => by
  rw [upd_ne (ne_of_none ha h)]
  exact e a u ha
theorem Ex.tup {K : PySem.W.Frag} {p : Addr} {H H' : Hp} {xs : List V} (e : Ex H H') (h : SqT K H p xs) : SqT K H' p xs := by
  rcases h with (h | ⟨o, h⟩) | h
  · exact .inl (.inl (e _ _ h))
  · exact .inl (.inr ⟨o, e _ _ h⟩)
  · exact .inr h
theorem Ex.lst {K : PySem.W.Frag} {p : Addr} {H H' : Hp} {xs : List V} (e : Ex H H') (h : SqL K H p xs) : SqL K H' p xs := by
  rcases h with (h | ⟨o, h⟩) | h
  · exact .inl (.inl (e _ _ h))
  · exact .inl (.inr ⟨o, e _ _ h⟩)
  · exact .inr h
/-! ### isinstance, targets, comprehensions -/
section
variable {K : PySem.W.Frag} {H : Hp} {Q : VK} {x v : V} {n m m1 m2 : String} {b b1 b2 : Bool} {tp a : Addr} {σ : L2.St} {xs r : List V} {k : Nat}
theorem r_isi (h : TyX K H x (.type n)) (e : kitB n m = some b) (q : Q (.bl b) H) : rIsi K [x, .ty m] H Q := ⟨x, .ty m, .type n, .type m, b, rfl, .ty m, h, kit_ty e, q⟩
theorem r_isiT2 (ht : H tp = some (.tup [.ty m1, .ty m2])) (h : TyX K H x (.type n)) (e1 : kitB n m1 = some b1) (e2 : kitB n m2 = some b2) (q : Q (.bl (b1 || b2)) H) : rIsiT K [x, .ref tp] H Q := by
  refine ⟨x, tp, [.ty m1, .ty m2], .type n, [.type m1, .type m2], b1 || b2, rfl, ht, .cons (.ty m1) (.cons (.ty m2) .nil), h, ?_, q⟩
  refine kitAny_cons (kit_ty e1) (fun h1 => ?_) (fun h1 => by rw [h1]; rfl)
  rw [h1, Bool.false_or]
  exact kitAny_cons (kit_ty e2) (fun h2 => by rw [h2]; exact kitAny_nil) fun h2 => h2
theorem r_gtup {t : List V → L2.St → Hp → (L2.St → Hp → Prop) → Prop} {Q : L2.St → Hp → Prop} (h : SqT K H a xs) (l : xs.length = k) (q : t xs σ H Q) : gTup K k t (.ref a) σ H Q := ⟨a, xs, rfl, h, l, q⟩
theorem r_gcons {t : TG} {u : List V → L2.St → Hp → (L2.St → Hp → Prop) → Prop} {Q : L2.St → Hp → Prop} (q : t v σ H fun σ' H' => u r σ' H' Q) : gCons t u (v :: r) σ H Q := ⟨v, r, rfl, q⟩
theorem r_gnil {Q : L2.St → Hp → Prop} (q : Q σ H) : gNil [] σ H Q := ⟨rfl, q⟩
theorem r_yes {Q : Bool → Hp → Prop} (q : Q true H) : tYes σ H Q := q
theorem r_lc {wi : TI} {g : TG} {tt : TT} {te : TE} {vs : List Nat} (h : wi σ H fun J H1 => ∀ D, H1 D = none → ∃ W : Nat → Nat → Hp → Prop, (∃ m, W 0 m (upd H1 D (.lst []))) ∧ ∀ i m H, W i m H →
  (J.stop i H ∧ Q (.ref D) H) ∨ (J.go i H ∧ ∃ Nx : Hp → Prop, (∀ H', Nx H' → ∃ m', m' < m ∧ W (i + 1) m' H') ∧ ∀ x H', J.yld i H x H' → g x (wipe σ vs) H' fun σ2 H2 => wipe σ2 vs = wipe σ vs ∧ tt σ2 H2 fun b H3 =>
    if b = true then te σ2 H3 fun y H4 => ∃ acc, H4 D = some (.lst acc) ∧ acc.length < sizeLine ∧ Nx (upd H4 D (.lst (acc ++ [y]))) else Nx H3)) : tLc wi g tt te vs σ H Q := h
theorem r_all {bs : List Bool} (h : SqL K H a (bs.map V.bl)) (q : Q (.bl (bs.all id)) H) : rAll K [.ref a] H Q := ⟨a, bs, rfl, h, q⟩
theorem r_any {bs : List Bool} (h : SqL K H a (bs.map V.bl)) (q : Q (.bl (bs.any id)) H) : rAny K [.ref a] H Q := ⟨a, bs, rfl, h, q⟩
end
theorem replicate_all (n : Nat) : (List.replicate n true).all id = true := by
  induction n with
  | zero => rfl
  | succ n ih => rw [List.replicate_succ, List.all_cons, ih]; rfl
end PW
namespace PW
open PySem PySem.Spec PyProof.Rows L2
section
variable {X : Cx} {es : List Expr} {e : Expr} {k n i : Nat} {t : TG} {u : TGs} {pos : Pos} {x : Str}
theorem pg_tupX {K : PySem.W.Frag} (hK : X.K = K) (hc : X.calm = true) (hn : (assignEach es X.env).length = n) (hst : (assignEach es X.env).findIdx? (·.1) = none) (h : PGs X es u) : PG X (.Tuple es k pos) (gTup K n u) := by
  subst hK
  exact pg_tup hc h hn hst
theorem pgs_consX (hs : (assignEach (e :: es) X.env).map (·.2) = assign e X.env :: (assignEach es X.env).map (·.2)) (h1 : PG X e t) (h2 : PGs X es u) : PGs X (e :: es) (gCons t u) := pgs_cons h1 h2 hs
theorem pg_nameX (i : Nat) (hN : X.N.Nodup) (hi : X.N[i]? = some x) (hx : Loc X.env.scope x) (hf : X.fn x = true ∨ X.env.scope.names.lookup x = some .local) : PG X (.Name x pos) (gName i) := pg_name hN hi hx hf
end
end PW
namespace PW
open L2
theorem kb_NoneType_bool : kitB "NoneType" "bool" = some false := by decide +kernel
theorem kb_NoneType_int : kitB "NoneType" "int" = some false := by decide +kernel
theorem kb_NoneType_str : kitB "NoneType" "str" = some false := by decide +kernel
theorem kb_NoneType_list : kitB "NoneType" "list" = some false := by decide +kernel
theorem kb_NoneType_tuple : kitB "NoneType" "tuple" = some false := by decide +kernel
theorem kb_NoneType_dict : kitB "NoneType" "dict" = some false := by decide +kernel
theorem kb_bool_bool : kitB "bool" "bool" = some true := by decide +kernel
theorem kb_bool_int : kitB "bool" "int" = some true := by decide +kernel
theorem kb_bool_str : kitB "bool" "str" = some false := by decide +kernel
theorem kb_bool_list : kitB "bool" "list" = some false := by decide +kernel
theorem kb_bool_tuple : kitB "bool" "tuple" = some false := by decide +kernel
theorem kb_bool_dict : kitB "bool" "dict" = some false := by decide +kernel
theorem kb_int_bool : kitB "int" "bool" = some false := by decide +kernel
theorem kb_int_int : kitB "int" "int" = some true := by decide +kernel
theorem kb_int_str : kitB "int" "str" = some false := by decide +kernel
theorem kb_int_list : kitB "int" "list" = some false := by decide +kernel
theorem kb_int_tuple : kitB "int" "tuple" = some false := by decide +kernel
theorem kb_int_dict : kitB "int" "dict" = some false := by decide +kernel
theorem kb_str_bool : kitB "str" "bool" = some false := by decide +kernel
theorem kb_str_int : kitB "str" "int" = some false := by decide +kernel
theorem kb_str_str : kitB "str" "str" = some true := by decide +kernel
theorem kb_str_list : kitB "str" "list" = some false := by decide +kernel
theorem kb_str_tuple : kitB "str" "tuple" = some false := by decide +kernel
theorem kb_str_dict : kitB "str" "dict" = some false := by decide +kernel
theorem kb_list_bool : kitB "list" "bool" = some false := by decide +kernel
theorem kb_list_int : kitB "list" "int" = some false := by decide +kernel
theorem kb_list_str : kitB "list" "str" = some false := by decide +kernel
theorem kb_list_list : kitB "list" "list" = some true := by decide +kernel
theorem kb_list_tuple : kitB "list" "tuple" = some false := by decide +kernel
theorem kb_list_dict : kitB "list" "dict" = some false := by decide +kernel
theorem kb_tuple_bool : kitB "tuple" "bool" = some false := by decide +kernel
theorem kb_tuple_int : kitB "tuple" "int" = some false := by decide +kernel
theorem kb_tuple_str : kitB "tuple" "str" = some false := by decide +kernel
theorem kb_tuple_list : kitB "tuple" "list" = some false := by decide +kernel
theorem kb_tuple_tuple : kitB "tuple" "tuple" = some true := by decide +kernel
theorem kb_tuple_dict : kitB "tuple" "dict" = some false := by decide +kernel
end PW
namespace PW
open PySem PySem.Spec PyProof.Rows L2
section
variable {H : Hp} {Q : VK} {x y : V}
theorem r_eqT (h : scal x x = true) (q : Q (.bl true) H) : rEq x x H Q := ⟨h, by rw [decide_eq_true rfl]; exact q⟩
theorem r_neT (h : scal x x = true) (q : Q (.bl false) H) : rNe x x H Q := ⟨h, by rw [decide_eq_true rfl]; exact q⟩
theorem r_eqF (h : scal x y = true) (n : ¬ x = y) (q : Q (.bl false) H) : rEq x y H Q := ⟨h, by rw [decide_eq_false n]; exact q⟩
theorem r_neF (h : scal x y = true) (n : ¬ x = y) (q : Q (.bl true) H) : rNe x y H Q := ⟨h, by rw [decide_eq_false n]; exact q⟩
end
end PW
namespace PW
open PySem PySem.Spec PyProof.Rows L2
theorem walk_zipT {K : PySem.W.Frag} {a b : Addr} {xs ys : List V} {n : Nat} (hn : n = min xs.length ys.length) : Walk (RZ.ItzT K a b) n (fun H => SqT K H a xs ∧ SqT K H b ys) (YPair (fun i => xs[i]?) (fun i => ys[i]?)) := by
  subst hn
  refine ⟨fun i _ hi q => ?_, fun _ q => ⟨xs, ys, q.1, q.2, by omega⟩, fun i H v H' _ q y => ?_⟩
  · have h1 : i < xs.length := by omega
    have h2 : i < ys.length := by omega
    exact ⟨xs, ys, xs[i], ys[i], q.1, q.2, by simp [h1], by simp [h2]⟩
  · obtain ⟨T, x, z, h1, h2, h3, h4, h5⟩ := y
    exact ⟨T, x, z, h1, h2, h3, h4 xs q.1, h5 ys q.2⟩
/-- a comprehension's turns over J, the new list at D -/
def LcW (J : It) (g : TG) (tt : TT) (te : TE) (vs : List Nat) (σ : L2.St) (H1 : Hp) (D : Addr) (Qd : Hp → Prop) : Prop :=
  ∃ W : Nat → Nat → Hp → Prop, (∃ m, W 0 m (upd H1 D (.lst []))) ∧ ∀ i m H, W i m H →
      (J.stop i H ∧ Qd H) ∨ (J.go i H ∧ ∃ Nx : Hp → Prop, (∀ H', Nx H' → ∃ m', m' < m ∧ W (i + 1) m' H') ∧ ∀ x H', J.yld i H x H' → g x (wipe σ vs) H' fun σ2 H2 => wipe σ2 vs = wipe σ vs ∧ tt σ2 H2 fun b H3 =>
        if b = true then te σ2 H3 fun y H4 => ∃ acc, H4 D = some (.lst acc) ∧ acc.length < sizeLine ∧ Nx (upd H4 D (.lst (acc ++ [y]))) else Nx H3)
/-- the heap without what stands at D -/
def hide (H : Hp) (D : Addr) : Hp := fun a => if a = D then none else H a
theorem hide_ne {H : Hp} {D a : Addr} (h : a ≠ D) : hide H D a = H a := by unfold hide; rw [if_neg h]
theorem hide_same {H : Hp} {D : Addr} : hide H D D = none := by unfold hide; rw [if_pos rfl]
theorem Ex.hide (H : Hp) (D : Addr) : Ex (hide H D) H := fun a o h => by
  by_cases e : a = D
  · subst e
    rw [hide_same] at h
    cases h
  · rw [hide_ne e] at h
    exact h
theorem hide_upd {H : Hp} {D : Addr} {o : HO} : hide (L2.upd H D o) D = hide H D := by
  funext a
  unfold PW.hide
  by_cases e : a = D
  · rw [if_pos e, if_pos e]
  · rw [if_neg e, if_neg e, upd_ne e]
theorem Ex.hides {H H' : Hp} (e : Ex H H') (D : Addr) : Ex (PW.hide H D) (PW.hide H' D) := fun a o h => by
  by_cases q : a = D
  · subst q
    rw [hide_same] at h
    cases h
  · rw [hide_ne q] at h ⊢
    exact e a o h
/-- .. over a walk whose place stays while the heap grows; no test; each element is told by E (of the heap without the new list) and leaves what was tracked -/
theorem lc_grow {J : It} {n : Nat} {G : Hp → Prop} {Y : Nat → Hp → V → Hp → Prop} (w : Walk J n G Y) {g : TG} {te : TE} {vs : List Nat} {σ : L2.St} {H1 : Hp} {D : Addr} {Qd : Hp → Prop} {σw : L2.St} (hw : wipe σ vs = σw) (E : Nat → Hp → V → Prop) (hD : H1 D = none) (hn : n ≤ 100000)
    (hG : ∀ H, Ex H1 H → G H) (hE : ∀ i H H' v, Ex H H' → E i H v → E i H' v)
    (hs : ∀ i x H H' acc (R : VK), i < n → Ex H1 H → H D = some (.lst acc) → Y i H x H' → (∀ v H4, E i (hide H4 D) v → Ex H H4 → R v H4) → g x σw H' fun σ2 H2 => wipe σ2 vs = σw ∧ te σ2 H2 R)
    (hd : ∀ H acc, Ex H1 H → H D = some (.lst acc) → acc.length = n → (∀ i v, acc[i]? = some v → E i (hide H D) v) → Qd H) : LcW J g tYes te vs σ H1 D Qd := by
  subst hw
  refine lc_it w (fun i H => Ex H1 H ∧ ∃ acc, H D = some (.lst acc) ∧ acc.length = i ∧ ∀ j v, acc[j]? = some v → E j (hide H D) v) ?_ (fun i H _ p => hG H p.1) ?_ ?_
  · exact ⟨Ex.new hD, [], upd_same, rfl, fun j v e => by simp at e⟩
  · rintro i x H H' hi ⟨p, acc, ha, hl, hE2⟩ y
    refine hs i x H H' acc _ hi p ha y fun v H4 e x4 => ?_
    refine ⟨acc, x4 _ _ ha, Nat.lt_of_lt_of_le (show acc.length < 100001 by omega) (by decide), (p.trans x4).mut hD, acc ++ [v], upd_same, by rw [List.length_append, hl]; rfl, fun j u hj => ?_⟩
    rw [hide_upd]
    by_cases h : j < acc.length
    · rw [List.getElem?_append_left h] at hj
      exact hE j _ _ u (x4.hides D) (hE2 j u hj)
    · have hj2 : j = acc.length := by
        have h3 : j < (acc ++ [v]).length := (List.getElem?_eq_some_iff.mp hj).1
        rw [List.length_append] at h3
        have h4 : [v].length = 1 := rfl
        omega
      subst hj2
      rw [List.getElem?_append_right (Nat.le_refl _), Nat.sub_self] at hj
      injection hj with hj
      subst hj
      rw [hl]
      exact e
  · rintro H ⟨p, acc, ha, hl, hE2⟩
    exact hd H acc p ha hl hE2
/-- a list of truths -/
theorem all_true {acc : List V} (h : ∀ (i : Nat) v, acc[i]? = some v → v = .bl true) : acc = (List.replicate acc.length true).map V.bl := by
  refine List.ext_getElem? fun i => ?_
  rw [List.getElem?_map, List.getElem?_replicate]
  cases e : acc[i]? with
  | none => rw [if_neg (by have := List.getElem?_eq_none_iff.mp e; omega)]; rfl
  | some v => rw [if_pos (List.getElem?_eq_some_iff.mp e).1, h i v e]; rfl
end PW
namespace PW
open PySem PySem.Spec PyProof.Rows L2
/-! ### unlike kinds -/
def vKind : V → Nat
  | .non => 0
  | .bl _ => 1
  | .int _ => 2
  | .str _ => 3
  | .byt _ => 4
  | .flt _ => 5
  | .ref _ => 6
  | .ty _ => 7
theorem vne {x y : V} (h : (vKind x == vKind y) = false) : ¬ x = y := fun e => by
  subst e
  rw [beq_self_eq_true] at h
  cases h
theorem dec_self {α : Type} {x : α} [Decidable (x = x)] : decide (x = x) = true := decide_eq_true rfl
theorem dec_kind {x y : V} (h : (vKind x == vKind y) = false) : decide (x = y) = false := decide_eq_false (vne h)
theorem ndec_self {α : Type} {x : α} [Decidable (x = x)] : (!decide (x = x)) = false := by rw [dec_self]; rfl
theorem ndec_kind {x y : V} (h : (vKind x == vKind y) = false) : (!decide (x = y)) = true := by rw [dec_kind h]; rfl
def hoKind : HO → Nat
  | .lst _ => 0
  | .tup _ => 1
  | .dK _ => 2
  | .dT _ => 3
  | .set _ _ => 4
  | .ins _ _ _ => 5
  | .own _ => 6
  | .xd _ => 7
  | .met _ _ => 8
  | .rng _ _ => 9
  | .frz _ _ => 10
  | .tbl _ => 11
  | .ext _ => 12
theorem ne_ofK {H : Hp} {a b : Addr} {o u : HO} (h : H a = some o) (h' : H b = some u) (k : (hoKind o == hoKind u) = false) : a ≠ b := ne_of h h' fun e => by
  subst e
  rw [beq_self_eq_true] at k
  cases k
end PW
namespace PW
open PySem PySem.Spec PyProof.Rows L2
section
variable {K : PySem.W.Frag} {tA : TA} {te : TE} {σ : L2.St} {H : Hp} {R : It → Hp → Prop}
theorem r_iZip (h : tA σ H fun vs H1 => ∃ a b xs ys, vs = [.ref a, .ref b] ∧ ((SqL K H1 a xs ∧ SqL K H1 b ys ∧ R (Itz K a b) H1) ∨ (SqT K H1 a xs ∧ SqT K H1 b ys ∧ R (RZ.ItzT K a b) H1))) : RZ.iZipA K tA σ H R := h
theorem r_iRng1 (h : tA σ H fun vs H1 => ∃ j : Int, vs = [.int j] ∧ -(2 ^ 62) ≤ j ∧ j < 2 ^ 62 ∧ R (Itr 0 j.toNat) H1) : iRng1 tA σ H R := h
theorem r_iRng2 (h : tA σ H fun vs H1 => ∃ i j : Int, vs = [.int i, .int j] ∧ (-(2 ^ 62) ≤ i ∧ i < 2 ^ 62 ∧ -(2 ^ 62) ≤ j ∧ j < 2 ^ 62) ∧ R (Itr i (j - i).toNat) H1) : iRng2 tA σ H R := h
theorem r_iStr (h : te σ H fun v H1 => ∃ x, v = .str x ∧ R (Its x) H1) : iStr te σ H R := h
theorem r_iList (h : te σ H fun x H1 => ∃ a, x = .ref a ∧ (∃ xs, SqL K H1 a xs) ∧ R (Itl K a) H1) : iList K te σ H R := h
theorem r_iTup (h : te σ H fun x H1 => ∃ a, x = .ref a ∧ (∃ xs, SqT K H1 a xs) ∧ R (Itt K a) H1) : iTup K te σ H R := h
theorem r_iEnum (h : tA σ H fun vs H1 => ∃ a xs, vs = [.ref a] ∧ SqL K H1 a xs ∧ R (Ite K a) H1) : iEnum K tA σ H R := h
theorem r_for {wi : TI} {g : TG} {tb : TS} {D : Ends} (h : wi σ H fun J H1 => ∃ W : Nat → Nat → L2.St → Hp → Prop, (∃ m, W 0 m σ H1) ∧ ∀ i m σ H, W i m σ H →
  (J.stop i H ∧ D.nx σ H) ∨ (J.go i H ∧ ∃ N : L2.St → Hp → Prop, (∀ σ' H', N σ' H' → ∃ m', m' < m ∧ W (i + 1) m' σ' H') ∧ ∀ x H', J.yld i H x H' → g x σ H' fun σ2 H2 => tb { D with nx := N, ct := N, bk := D.nx } σ2 H2)) : tFor wi g tb D σ H := h
end
end PW
/-! ### one step of a reading, by instances -/
namespace PW
open PySem PySem.Spec PyProof.Rows L2
class Step (g : Prop) (n : outParam Prop) : Prop where
  imp : n → g
class Get (σ : List (Option V)) (n : Nat) (v : outParam V) : Prop where
  eq : σ[n]? = some (some v)
instance {v : V} {r : List (Option V)} : Get (some v :: r) 0 v := ⟨rfl⟩
instance {x : Option V} {r : List (Option V)} {n : Nat} {v : V} [h : Get r n v] : Get (x :: r) (n + 1) v := ⟨h.eq⟩
class Put (σ : List (Option V)) (n : Nat) (v : V) (τ : outParam (List (Option V))) : Prop where
  eq : σ.set n (some v) = τ
instance {v : V} {x : Option V} {r : List (Option V)} : Put (x :: r) 0 v (some v :: r) := ⟨rfl⟩
instance {x : Option V} {r τ : List (Option V)} {n : Nat} {v : V} [h : Put r n v τ] : Put (x :: r) (n + 1) v (x :: τ) := ⟨by rw [List.set_cons_succ, h.eq]⟩
class Scal (x y : V) : Prop where
  eq : scal x y = true
instance {i j : Int} : Scal (.int i) (.int j) := ⟨rfl⟩
instance {i j : Bool} : Scal (.bl i) (.bl j) := ⟨rfl⟩
instance {i j : Str} : Scal (.str i) (.str j) := ⟨rfl⟩
section
variable {σ τ : L2.St} {H : Hp} {Q : VK} {D : Ends} {v x y : V} {i j : Int} {n m : Nat} {ta tb tc te : TE} {t u : TT} {s1 s2 : TS} {r r' : R2} {K : PySem.W.Frag} {tA tR : TA}
instance [h : Get σ n v] : Step (tVar n σ H Q) (Q v H) := ⟨fun q => ⟨v, h.eq, q⟩⟩
instance : Step (tC v σ H Q) (Q v H) := ⟨id⟩
instance : Step (tOp r ta tb σ H Q) (ta σ H fun x H1 => tb σ H1 fun y H2 => r x y H2 Q) := ⟨id⟩
instance {r : V → Hp → VK → Prop} : Step (tUn r ta σ H Q) (ta σ H fun x H1 => r x H1 Q) := ⟨id⟩
instance : Step (tChain r r' ta tb tc σ H Q) (ta σ H fun x H1 => tb σ H1 fun y H2 => r x y H2 fun z H3 => ∃ k, z = .bl k ∧ (if k = true then tc σ H3 fun w' H4 => r' y w' H4 Q else Q (.bl false) H3)) := ⟨id⟩
instance {Q : Bool → Hp → Prop} : Step (tTest te σ H Q) (te σ H fun x H' => ∃ k, x = .bl k ∧ Q k H') := ⟨id⟩
instance {Q : Bool → Hp → Prop} : Step (tB te σ H Q) (te σ H fun x H' => ∃ k, x = .bl k ∧ Q k H') := ⟨id⟩
instance {b : Bool} {Q : Bool → Prop} : Step (∃ k, V.bl b = .bl k ∧ Q k) (Q b) := ⟨fun q => ⟨b, rfl, q⟩⟩
instance {Q : Int → Prop} : Step (∃ k, V.int i = .int k ∧ Q k) (Q i) := ⟨fun q => ⟨i, rfl, q⟩⟩
instance {z : Str} {Q : Str → Prop} : Step (∃ k, V.str z = .str k ∧ Q k) (Q z) := ⟨fun q => ⟨z, rfl, q⟩⟩
instance {Q : Bool → Hp → Prop} : Step (tNot t σ H Q) (t σ H fun c H1 => Q (!c) H1) := ⟨id⟩
instance {Q : Bool → Hp → Prop} : Step (tAnd t u σ H Q) (t σ H fun c H1 => if c = true then u σ H1 Q else Q false H1) := ⟨id⟩
instance {Q : Bool → Hp → Prop} : Step (tOr t u σ H Q) (t σ H fun c H1 => if c = true then Q true H1 else u σ H1 Q) := ⟨id⟩
instance : Step (tAndV ta tb σ H Q) (ta σ H fun x H1 => ∃ c, x = .bl c ∧ if c = true then tb σ H1 Q else Q (.bl false) H1) := ⟨id⟩
instance : Step (tOrV ta tb σ H Q) (ta σ H fun x H1 => ∃ c, x = .bl c ∧ if c = true then Q (.bl true) H1 else tb σ H1 Q) := ⟨id⟩
instance : Step (tNotV ta σ H Q) (ta σ H fun x H1 => ∃ c, x = .bl c ∧ Q (.bl (!c)) H1) := ⟨id⟩
instance : Step (tIsN ta σ H Q) (ta σ H fun x H1 => Q (.bl (decide (x = .non))) H1) := ⟨id⟩
instance : Step (tNotN ta σ H Q) (ta σ H fun x H1 => Q (.bl (!decide (x = .non))) H1) := ⟨id⟩
instance : Step (tIf t ta tb σ H Q) (t σ H fun c H1 => if c = true then ta σ H1 Q else tb σ H1 Q) := ⟨id⟩
instance : Step (tIfS t s1 s2 D σ H) (t σ H fun b H1 => if b = true then s1 D σ H1 else s2 D σ H1) := ⟨id⟩
instance : Step (tSeq s1 s2 D σ H) (s1 { D with nx := s2 D } σ H) := ⟨id⟩
instance : Step (tNext D σ H) (D.nx σ H) := ⟨id⟩
instance : Step (tBreak D σ H) (D.bk σ H) := ⟨id⟩
instance : Step (tCont D σ H) (D.ct σ H) := ⟨id⟩
instance : Step (tRet te D σ H) (te σ H D.rt) := ⟨id⟩
instance : Step (tRetN D σ H) (D.rt .non H) := ⟨id⟩
instance : Step (tDrop te D σ H) (te σ H fun _ H1 => D.nx σ H1) := ⟨id⟩
instance {g : TG} : Step (tAsg te g D σ H) (te σ H fun x H1 => g x σ H1 D.nx) := ⟨id⟩
instance {Q : L2.St → Hp → Prop} [h : Put σ n v τ] : Step (gName n v σ H Q) (Q τ H) := ⟨fun q => by
  show Q (σ.set n (some v)) H
  rw [h.eq]
  exact q⟩
instance {to ti : TE} {ts : TSet} {Q : L2.St → Hp → Prop} : Step (gSub to ti ts v σ H Q) (to σ H fun o H1 => ti σ H1 fun i H2 => ts o i v H2 fun H3 => Q σ H3) := ⟨id⟩
instance {ti : TIp} [h : Get σ n x] : Step (tAug n te ti D σ H) (te σ H fun y H1 => ti x y H1 fun z H2 => D.nx (σ.set n (some z)) H2) := ⟨fun q => ⟨x, h.eq, q⟩⟩
instance {g : Int → Int → Int} : Step (ipI g (.int i) (.int j) H Q) (Q (.int (g i j)) H) := ⟨fun q => ⟨i, j, rfl, rfl, q⟩⟩
instance {Q : List V → Hp → Prop} : Step (tNil σ H Q) (Q [] H) := ⟨id⟩
instance {Q : List V → Hp → Prop} : Step (tCons ta tR σ H Q) (ta σ H fun x H1 => tR σ H1 fun xs H2 => Q (x :: xs) H2) := ⟨id⟩
instance {r : List V → Hp → VK → Prop} : Step (tCB r tA σ H Q) (tA σ H fun vs H1 => r vs H1 Q) := ⟨id⟩
instance {sp : Sp} {dvs : List V} {E : XK} : Step (tCall sp dvs E tA σ H Q) (tA σ H fun vs H1 => sp (vs ++ dvs) H1 Q E) := ⟨id⟩
instance {g : Int → Int → V} : Step (rI0 g (.int i) (.int j) H Q) (Q (g i j) H) := ⟨fun q => ⟨i, j, rfl, rfl, q⟩⟩
instance {g : Int → V} : Step (rU g (.int i) H Q) (Q (g i) H) := ⟨fun q => ⟨i, rfl, q⟩⟩
instance (priority := high) [s : Scal x x] : Step (rEq x x H Q) (Q (.bl true) H) := ⟨r_eqT s.eq⟩
instance (priority := high) [s : Scal x x] : Step (rNe x x H Q) (Q (.bl false) H) := ⟨r_neT s.eq⟩
instance [s : Scal x y] : Step (rEq x y H Q) (Q (.bl (decide (x = y))) H) := ⟨fun q => ⟨s.eq, q⟩⟩
instance [s : Scal x y] : Step (rNe x y H Q) (Q (.bl (!decide (x = y))) H) := ⟨fun q => ⟨s.eq, q⟩⟩
instance : Step (tLst tA σ H Q) (tA σ H fun xs H1 => xs.length ≤ sizeLine ∧ ∀ p, H1 p = none → Q (.ref p) (upd H1 p (.lst xs))) := ⟨id⟩
instance : Step (tTup tA σ H Q) (tA σ H fun xs H1 => xs.length ≤ sizeLine ∧ ∀ p, H1 p = none → Q (.ref p) (upd H1 p (.tup xs))) := ⟨id⟩
instance {A B : Prop} : Step (if true = true then A else B) A := ⟨r_ifT⟩
instance {A B : Prop} : Step (if false = true then A else B) B := ⟨r_ifF⟩
instance : Step (cInt [.int i] H Q) (Q (.int i) H) := ⟨r_cInt⟩
instance : Step (cAbs [.int i] H Q) (Q (.int (if i < 0 then -i else i)) H) := ⟨r_cAbs⟩
instance : Step (cMax [.int i, .int j] H Q) (Q (.int (if j > i then j else i)) H) := ⟨r_cMax⟩
instance : Step (cMin [.int i, .int j] H Q) (Q (.int (if j < i then j else i)) H) := ⟨r_cMin⟩
instance {Q : Option Int → Hp → Prop} : Step (tPart te σ H Q) (te σ H fun x H1 => ∃ i, x = .int i ∧ Q (some i) H1) := ⟨id⟩
instance {Q : Option Int → Hp → Prop} : Step (tNoPart σ H Q) (Q none H) := ⟨id⟩
instance {rs : V → Option Int → Option Int → Hp → VK → Prop} {tl th : TO} : Step (tSl rs te tl th σ H Q) (te σ H fun x H1 => tl σ H1 fun l H2 => th σ H2 fun u H3 => rs x l u H3 Q) := ⟨id⟩
instance {t : TG} {u : TGs} {l : List V} {Q : L2.St → Hp → Prop} : Step (gCons t u (v :: l) σ H Q) (t v σ H fun σ' H' => u l σ' H' Q) := ⟨r_gcons⟩
instance {Q : L2.St → Hp → Prop} : Step (gNil [] σ H Q) (Q σ H) := ⟨r_gnil⟩
instance {Q : Bool → Hp → Prop} : Step (tYes σ H Q) (Q true H) := ⟨id⟩
instance {wi : TI} {g : TG} {tt : TT} {vs : List Nat} : Step (tLc wi g tt te vs σ H Q) (wi σ H fun J H1 => ∀ D, H1 D = none → LcW J g tt te vs σ H1 D (fun H => Q (.ref D) H)) := ⟨id⟩
instance {R : It → Hp → Prop} : Step (RZ.iZipA K tA σ H R) (tA σ H fun vs H1 => ∃ a b xs ys, vs = [.ref a, .ref b] ∧ ((SqL K H1 a xs ∧ SqL K H1 b ys ∧ R (Itz K a b) H1) ∨ (SqT K H1 a xs ∧ SqT K H1 b ys ∧ R (RZ.ItzT K a b) H1))) := ⟨id⟩
def Rng1 (vs : List V) (H : Hp) (R : It → Hp → Prop) : Prop := ∃ j : Int, vs = [.int j] ∧ -(2 ^ 62) ≤ j ∧ j < 2 ^ 62 ∧ R (Itr 0 j.toNat) H
instance {R : It → Hp → Prop} : Step (iRng1 tA σ H R) (tA σ H fun vs H1 => Rng1 vs H1 R) := ⟨id⟩
def Rng2 (vs : List V) (H : Hp) (R : It → Hp → Prop) : Prop := ∃ i j : Int, vs = [.int i, .int j] ∧ (-(2 ^ 62) ≤ i ∧ i < 2 ^ 62 ∧ -(2 ^ 62) ≤ j ∧ j < 2 ^ 62) ∧ R (Itr i (j - i).toNat) H
instance {R : It → Hp → Prop} : Step (iRng2 tA σ H R) (tA σ H fun vs H1 => Rng2 vs H1 R) := ⟨id⟩
instance {R : It → Hp → Prop} : Step (iStr te σ H R) (te σ H fun v H1 => ∃ x, v = .str x ∧ R (Its x) H1) := ⟨id⟩
def WkL (K : PySem.W.Frag) (x : V) (H : Hp) (R : It → Hp → Prop) : Prop := ∃ a, x = .ref a ∧ (∃ xs, SqL K H a xs) ∧ R (Itl K a) H
instance {R : It → Hp → Prop} : Step (iList K te σ H R) (te σ H fun x H1 => WkL K x H1 R) := ⟨id⟩
def WkT (K : PySem.W.Frag) (x : V) (H : Hp) (R : It → Hp → Prop) : Prop := ∃ a, x = .ref a ∧ (∃ xs, SqT K H a xs) ∧ R (Itt K a) H
instance {R : It → Hp → Prop} : Step (iTup K te σ H R) (te σ H fun x H1 => WkT K x H1 R) := ⟨id⟩
def WkE (K : PySem.W.Frag) (vs : List V) (H : Hp) (R : It → Hp → Prop) : Prop := ∃ a xs, vs = [.ref a] ∧ SqL K H a xs ∧ R (Ite K a) H
instance {R : It → Hp → Prop} : Step (iEnum K tA σ H R) (tA σ H fun vs H1 => WkE K vs H1 R) := ⟨id⟩
/-- a for's turns over J -/
def ForW (J : It) (g : TG) (tb : TS) (D : Ends) (σ : L2.St) (H : Hp) : Prop := ∃ W : Nat → Nat → L2.St → Hp → Prop, (∃ m, W 0 m σ H) ∧ ∀ i m σ H, W i m σ H →
  (J.stop i H ∧ D.nx σ H) ∨ (J.go i H ∧ ∃ N : L2.St → Hp → Prop, (∀ σ' H', N σ' H' → ∃ m', m' < m ∧ W (i + 1) m' σ' H') ∧ ∀ x H', J.yld i H x H' → g x σ H' fun σ2 H2 => tb { D with nx := N, ct := N, bk := D.nx } σ2 H2)
instance {wi : TI} {g : TG} {tb : TS} : Step (tFor wi g tb D σ H) (wi σ H fun J H1 => ForW J g tb D σ H1) := ⟨id⟩
theorem rng1 {R : It → Hp → Prop} (h0 : -(2 ^ 62) ≤ j) (h1 : j < 2 ^ 62) (q : R (Itr 0 j.toNat) H) : Rng1 [.int j] H R := ⟨j, rfl, h0, h1, q⟩
theorem rng2 {R : It → Hp → Prop} (h0 : -(2 ^ 62) ≤ i) (h1 : i < 2 ^ 62) (h2 : -(2 ^ 62) ≤ j) (h3 : j < 2 ^ 62) (q : R (Itr i (j - i).toNat) H) : Rng2 [.int i, .int j] H R := ⟨i, j, rfl, ⟨h0, h1, h2, h3⟩, q⟩
theorem wkL {R : It → Hp → Prop} {a : Addr} {xs : List V} (h : SqL K H a xs) (q : R (Itl K a) H) : WkL K (.ref a) H R := ⟨a, rfl, ⟨xs, h⟩, q⟩
theorem wkT {R : It → Hp → Prop} {a : Addr} {xs : List V} (h : SqT K H a xs) (q : R (Itt K a) H) : WkT K (.ref a) H R := ⟨a, rfl, ⟨xs, h⟩, q⟩
theorem wkE {R : It → Hp → Prop} {a : Addr} {xs : List V} (h : SqL K H a xs) (q : R (Ite K a) H) : WkE K [.ref a] H R := ⟨a, xs, rfl, h, q⟩
end
end PW
namespace PW
open PySem PySem.Spec PyProof.Rows L2
section
variable {H : Hp} {Q : VK} {x : V} {c : Nat} {z : Str} {p : Addr} {xs : List V} {K : PySem.W.Frag}
instance : Step (rInS (.str ⟨#[c]⟩) (.str z) H Q) (Q (.bl (decide (c ∈ z.cps.toList))) H) := ⟨fun q => ⟨c, z, rfl, rfl, q⟩⟩
instance : Step (rNotInS (.str ⟨#[c]⟩) (.str z) H Q) (Q (.bl (!decide (c ∈ z.cps.toList))) H) := ⟨fun q => ⟨c, z, rfl, rfl, q⟩⟩
theorem r_inT (h : SqT K H p xs) (fx : flatV x = true) (fs : xs.all flatV = true) (q : Q (.bl (inV x xs)) H) : rIn K false x (.ref p) H Q := ⟨p, xs, rfl, .inr h, fx, fs, q⟩
theorem r_inL (h : SqL K H p xs) (fx : flatV x = true) (fs : xs.all flatV = true) (q : Q (.bl (inV x xs)) H) : rIn K false x (.ref p) H Q := ⟨p, xs, rfl, .inl h, fx, fs, q⟩
theorem r_ninT (h : SqT K H p xs) (fx : flatV x = true) (fs : xs.all flatV = true) (q : Q (.bl (!inV x xs)) H) : rIn K true x (.ref p) H Q := ⟨p, xs, rfl, .inr h, fx, fs, q⟩
theorem r_ninL (h : SqL K H p xs) (fx : flatV x = true) (fs : xs.all flatV = true) (q : Q (.bl (!inV x xs)) H) : rIn K true x (.ref p) H Q := ⟨p, xs, rfl, .inl h, fx, fs, q⟩
theorem acc_map {α : Type} {acc : List V} {l : List α} {f : α → V} (hl : acc.length = l.length) (h : ∀ (i : Nat) v, acc[i]? = some v → ∃ a, l[i]? = some a ∧ v = f a) : acc = l.map f := by
  refine List.ext_getElem? fun i => ?_
  rw [List.getElem?_map]
  cases e : acc[i]? with
  | none =>
    have h1 := List.getElem?_eq_none_iff.mp e
    rw [List.getElem?_eq_none_iff.mpr (show l.length ≤ i by omega)]
    rfl
  | some v =>
    obtain ⟨a, h1, h2⟩ := h i v e
    rw [h1, h2]
    rfl
end
end PW
namespace PW
open PySem PySem.Spec PyProof.Rows L2
/-! ### calls by keywords, the place of the arguments kept -/
section
variable {X : Cx} {CX : CXT} {k n : Nat} {f : Addr} {fd : FuncData} {ps ks : List Str} {sp : Sp} {E : XK} {x qual : Str} {p pos : Pos} {kws : List Keyword} {tk : TA} {g : List Value → List Value → List Value} {gV : List V → List V → List V}
theorem pe_callN0 (F : FnOk X.prog X.w X.K X.mg X.base CX k f fd ps sp) (hr : Room k X.A) (hg : Gl X x) (hm : X.mg x = some (.ref f)) (hk : PySem.W.keepIn X.K (.ref f) = true) (hb : KBn X.K fd ps 0 ks g gV) (hx : Passes CX X E)
    (hkw : PK X kws tk) (hall : (backToKw pos (keywordEach kws X.env)).all (·.1.isSome) = true := by rfl) (hks : (backToKw pos (keywordEach kws X.env)).filterMap (·.1) = ks := by rfl)
    (hdb : (x == ("__debug__" : Str)) = false := by decide) (hpl : ((backTo pos (starEach [] X.env)).any (·.1) || (backToKw pos (keywordEach kws X.env)).any (·.1.isNone)) = false := by rfl) :
    PE X (.Call (.Name x p) [] kws pos) (tCallN 0 ks.length sp gV E tNil tk) := by
  refine ⟨fun pins s σ H Q I h => ?_⟩
  refine wpAny_Call_Name_kw (ld_glob I hg hm ?_ hdb)
  refine PySem.W.callWith_KW0 (h₀ := X.base) I.ok.mod.kin hk hall ?_ hpl
  refine thn (hkw.run pos pins s σ H _ I h) fun ws s2 ⟨zs, H2, I2, rz, l1, l2, q2⟩ => ⟨I2.kIn, ?_⟩
  rw [hks]
  exact run_fnN (us := []) (vs := []) F hr hb hx I2 .nil rz rfl l2 q2
theorem kbn_app {K : PySem.W.Frag} {params : Arguments} {body : List Stmt} {scope : Scope} {kws : List (Str × V)} (F : FunD K x qual params body scope [] kws f fd) (n : Nat) (ks : List Str)
    (h : ∀ (kV doc pm : Value) (an : Option Addr) (cdv ct : Value) (us ws : List Value), us.length = n → ws.length = ks.length → bindArgs (PySem.W.fnOf x qual params body scope .none kV doc pm an cdv ct) ⟨us, ks.zip ws⟩ = pure (ps.zip (us ++ ws))) :
    KBn K fd ps n ks (fun us ws => us ++ ws) (fun vs zs => vs ++ zs) := by
  obtain ⟨oc, od, dV, kV, doc, pm, an, cdv, ct, osl, rfl, lk, hcd, hD, hK⟩ := F.ex
  rcases hD with ⟨_, rfl⟩ | ⟨e, _⟩
  · exact ⟨fun s us ws _ l1 l2 => .of_eq (h kV doc pm an cdv ct us ws l1 l2), fun r1 r2 => r1.append r2⟩
  · exact absurd rfl e
end
section
variable {σ : L2.St} {H : Hp} {Q : VK} {n m : Nat} {sp : Sp} {gV : List V → List V → List V} {E : XK} {t tk : TA}
instance : Step (tCallN n m sp gV E t tk σ H Q) (t σ H fun vs H1 => tk σ H1 fun zs H2 => vs.length = n ∧ zs.length = m ∧ sp (gV vs zs) H2 Q E) := ⟨id⟩
end
/-- a comprehension under an invariant of the heap that the new list does not touch; elements told apart from the heap -/
theorem lc_inv {J : It} {n : Nat} {G : Hp → Prop} {Y : Nat → Hp → V → Hp → Prop} (w : Walk J n G Y) {g : TG} {te : TE} {vs : List Nat} {σ : L2.St} {H1 : Hp} {D : Addr} {Qd : Hp → Prop} {σw : L2.St} (hw : wipe σ vs = σw) (I : Hp → Prop) (E : Nat → V → Prop) (hD : H1 D = none) (hn : n ≤ 100000)
    (h0 : I (upd H1 D (.lst []))) (hG : ∀ H, I H → G H)
    (hs : ∀ i x H H' acc (R : VK), i < n → I H → H D = some (.lst acc) → Y i H x H' → (∀ v H4, E i v → H4 D = some (.lst acc) → I (upd H4 D (.lst (acc ++ [v]))) → R v H4) → g x σw H' fun σ2 H2 => wipe σ2 vs = σw ∧ te σ2 H2 R)
    (hd : ∀ H acc, I H → H D = some (.lst acc) → acc.length = n → (∀ i v, acc[i]? = some v → E i v) → Qd H) : LcW J g tYes te vs σ H1 D Qd := by
  subst hw
  refine lc_it w (fun i H => I H ∧ ∃ acc, H D = some (.lst acc) ∧ acc.length = i ∧ ∀ j v, acc[j]? = some v → E j v) ?_ (fun i H _ p => hG H p.1) ?_ ?_
  · exact ⟨h0, [], upd_same, rfl, fun j v e => by simp at e⟩
  · rintro i x H H' hi ⟨p, acc, ha, hl, hE2⟩ y
    refine hs i x H H' acc _ hi p ha y fun v H4 e x4 hI => ?_
    refine ⟨acc, x4, Nat.lt_of_lt_of_le (show acc.length < 100001 by omega) (by decide), hI, acc ++ [v], upd_same, by rw [List.length_append, hl]; rfl, fun j u hj => ?_⟩
    by_cases h : j < acc.length
    · rw [List.getElem?_append_left h] at hj
      exact hE2 j u hj
    · have hj2 : j = acc.length := by
        have h3 : j < (acc ++ [v]).length := (List.getElem?_eq_some_iff.mp hj).1
        rw [List.length_append] at h3
        have h4 : [v].length = 1 := rfl
        omega
      subst hj2
      rw [List.getElem?_append_right (Nat.le_refl _), Nat.sub_self] at hj
      injection hj with hj
      subst hj
      rw [hl]
      exact e
  · rintro H ⟨p, acc, ha, hl, hE2⟩
    exact hd H acc p ha hl hE2
theorem r_and3 {A B C : Prop} (a : A) (b : B) (c : C) : A ∧ B ∧ C := ⟨a, b, c⟩
end PW
namespace PW
open PySem PySem.Spec PyProof.Rows L2
section
variable {z : Str} {R : Prop} {to te : TE} {σ : L2.St} {H : Hp} {Q : VK} {r : V → List V → Hp → VK → Prop}
instance : Step ((∃ a, V.str z = .str a) ∧ R) R := ⟨fun q => ⟨⟨z, rfl⟩, q⟩⟩
instance : Step (tM1 r to te σ H Q) (to σ H fun x H1 => (∃ a, x = .str a) ∧ te σ H1 fun y H2 => r x [y] H2 Q) := ⟨id⟩
instance : Step (tM0 r to σ H Q) (to σ H fun x H1 => (∃ a, x = .str a) ∧ r x [] H1 Q) := ⟨id⟩
end
theorem cutS_len (z : Str) (lo hi : Option Int) : (cutS z lo hi).length ≤ z.length := by
  show (List.toArray _).size ≤ z.cps.size
  rw [List.size_toArray, List.length_take, List.length_drop]
  have : z.cps.toList.length = z.cps.size := by simp
  omega
theorem add_len (y z : Str) : (y ++ z).length = y.length + z.length := by
  show (y.cps ++ z.cps).size = _
  rw [Array.size_append]
  rfl
/-- a list whose items are told one by one -/
theorem acc_exists {α : Type} {g : α → V} {p : α → Prop} : ∀ {acc : List V}, (∀ (i : Nat) v, acc[i]? = some v → ∃ a, v = g a ∧ p a) → ∃ l : List α, acc = l.map g ∧ l.length = acc.length ∧ ∀ a ∈ l, p a
  | [], _ => ⟨[], rfl, rfl, fun _ h => by cases h⟩
  | x :: r, h => by
    obtain ⟨a, e, pa⟩ := h 0 x rfl
    obtain ⟨l, e2, hl, pl⟩ := acc_exists (acc := r) fun i v hv => h (i + 1) v (by rw [List.getElem?_cons_succ]; exact hv)
    refine ⟨a :: l, by rw [e, e2]; rfl, by rw [List.length_cons, List.length_cons, hl], fun b hb => ?_⟩
    rcases List.mem_cons.mp hb with rfl | hb
    · exact pa
    · exact pl b hb
theorem joinL_len (S : List Nat) : ∀ ps : List (List Nat), (TL.joinL S ps).length ≤ (ps.map List.length).sum + ps.length * S.length
  | [] => Nat.zero_le _
  | [p] => by
    show p.length ≤ _
    simp
  | p :: q :: r => by
    have ih := joinL_len S (q :: r)
    show (p ++ (S ++ TL.joinL S (q :: r))).length ≤ _
    rw [List.length_append, List.length_append, List.map_cons, List.sum_cons, List.length_cons]
    have e : ((q :: r).length + 1) * S.length = (q :: r).length * S.length + S.length := Nat.succ_mul _ _
    rw [e]
    omega
theorem sum_le {k : Nat} : ∀ {l : List Str}, (∀ z ∈ l, z.length ≤ k) → (l.map (·.length)).sum ≤ l.length * k
  | [], _ => Nat.zero_le _
  | z :: r, h => by
    have h1 := h z (List.mem_cons_self ..)
    have h2 := sum_le (k := k) (l := r) fun y hy => h y (List.mem_cons_of_mem _ hy)
    rw [List.map_cons, List.sum_cons, List.length_cons, Nat.succ_mul]
    omega
end PW
namespace PW
open PySem PySem.Spec PyProof.Rows L2
theorem len_ok {n : Nat} (h : n ≤ 100000) : n ≤ sizeLine := Nat.le_trans h (by decide)
theorem log_ok {m : Int} (h0 : 0 ≤ m) (h : m < 2 ^ 64) : m.natAbs.log2 < 9000 := by
  have h2 : m.natAbs < 2 ^ 64 := by omega
  exact Nat.lt_trans (PySem.Flt.log2_lt_of (by decide) h2) (by decide)
section
variable {H : Hp} {Q : VK} {p : Addr} {xs : List V} {k : Int}
theorem r_rep (h : H p = some (.lst xs)) (h0 : 0 ≤ k) (h1 : k < 1000) (hl : xs.length ≤ 1000) (q : ∀ r, H r = none → Q (.ref r) (upd H r (.lst (List.replicate k.toNat xs).flatten))) : rRep (.ref p) (.int k) H Q := by
  refine ⟨p, k, xs, rfl, rfl, h, by omega, by omega, ?_, q⟩
  have h2 : xs.length * k.toNat ≤ 1000 * 1000 := Nat.mul_le_mul hl (by omega)
  exact Nat.le_trans h2 (by decide)
end
end PW
namespace PW
open PySem PySem.Spec PyProof.Rows L2
theorem r_seqP {s1 s2 : TS} {D : Ends} {σ : L2.St} {H : Hp} (P : L2.St → Hp → Prop) (hq : ∀ σ' H', P σ' H' → s2 D σ' H') (h : ∀ N : L2.St → Hp → Prop, (∀ σ' H', P σ' H' → N σ' H') → s1 { D with nx := N } σ H) : tSeq s1 s2 D σ H := h (s2 D) hq
end PW
namespace PW
open PySem PySem.Spec PyProof.Rows L2
theorem atI0 {α : Type} {x : α} {xs : List α} : atI (x :: xs) 0 = some x := atI_nat (j := 0) rfl
end PW
/-! ### own operators -/
namespace PW
open PySem PySem.Spec PyProof.Rows L2
/-- what x op y asks of the class at C whose def for op is at g: y another one of C, or an int -/
structure OwnB (K : PySem.W.Frag) (C : Addr) (op : Operator) (g : Addr) : Prop where
  sf : PySem.W.selfFirst K C = true
  at_ : PySem.W.findIn K (.ref C) (PySem.dunder op.info.2) = some (some (.ref g))
  fn : PySem.W.isFn K (.ref g) = true
  r : ∃ rc, PySem.W.findIn K (.ref C) (dunderR op.info.2) = some rc ∧ (rc = none ∨ ∃ h : Addr, rc = some (.ref h))
  i1 : ∃ fo, PySem.W.findIn K (.type "int") (PySem.dunder op.info.2) = some fo
  i2 : ∃ ro, PySem.W.findIn K (.type "int") (dunderR op.info.2) = some ro
theorem sub_int {K : PySem.W.Frag} {C : Addr} : PySem.W.subIn K (.type "int") (.ref C) = some false := by
  show (fastBuiltinMro "int").map (·.contains (Value.ref C)) = some false
  have e : fastBuiltinMro "int" = some [.type "int", .type "object"] := by decide +kernel
  rw [e]
  rfl
def rOwnB (C : Addr) (sp : Sp) (E : XK) : R2 := fun x y H Q => ∃ a dx fs, x = .ref a ∧ H a = some (.ins C dx fs) ∧ ((∃ i, y = .int i) ∨ ∃ b dy gs, y = .ref b ∧ H b = some (.ins C dy gs)) ∧ sp [x, y] H Q E
section
variable {X : Cx} {CX : CXT} {k : Nat} {C g : Addr} {fd : FuncData} {ps : List Str} {sp : Sp} {E : XK} {pins : List (Addr × Obj)} {σ : L2.St} {H : Hp} {s : Shared} {a dx : Addr} {fs : List (Str × V)}
theorem inst_of (I : Inv X pins σ H s) (e : H a = some (.ins C dx fs)) : ∃ od, PySem.W.InstAt s.heap a (PySem.W.instObj C dx) C (some od) := by
  obtain ⟨mA, O, _⟩ := ins_get I.hok e
  obtain ⟨od, J, _⟩ := O.look
  exact ⟨od, J⟩
theorem op_ownB {op : Operator} (O : OwnB X.K C op g) (F : FnOk X.prog X.w X.K X.mg X.base CX k g fd ps sp) (hr : Room k X.A) (hb : Binds X.K fd ps []) (hx : Passes CX X E) : OpR X (binaryOp op) (rOwnB C sp E) := by
  intro pins s σ H x y v u Q I rx ry h
  obtain ⟨a, dx, fs, rfl, ha, hy, q⟩ := h
  cases (show v = Value.ref a from rx)
  obtain ⟨od, J⟩ := inst_of I ha
  obtain ⟨m, hF⟩ := I.fr
  obtain ⟨rc, e1, e2⟩ := O.r
  obtain ⟨fo, e3⟩ := O.i1
  obtain ⟨ro, e4⟩ := O.i2
  have fin : ∀ w s', EP X pins σ Q w s' → PySem.W.CmpBack (EP X pins σ Q) w s' := fun w s' z => by
    have z' := z
    obtain ⟨z1, H', I', rz, qz⟩ := z'
    exact SlX.cmpback rz z
  rcases hy with ⟨i, rfl⟩ | ⟨b, dy, gs, rfl, hb2⟩
  · obtain ⟨t, e⟩ := (show ∃ t, u = Value.int i t from ry)
    cases e
    refine PySem.W.ksp_binT (T := "int") hF I.ok.mod.kin J rfl O.sf O.at_ O.fn e1 e2 e3 e4 sub_int ?_
    exact wpAny_mono (run_fn (us := [.ref a, .int i t]) (vs := [.ref a, .int i]) (dvs := []) (ds := []) F hr hb .nil hx I (.cons rfl (.cons ⟨t, rfl⟩ .nil)) q) fin fun _ _ e => e
  · cases (show u = Value.ref b from ry)
    obtain ⟨od', J'⟩ := inst_of I hb2
    refine PySem.W.binop_K hF I.ok.mod.kin J J'.type O.sf O.at_ O.fn ?_
    exact wpAny_mono (run_fn (us := [.ref a, .ref b]) (vs := [.ref a, .ref b]) (dvs := []) (ds := []) F hr hb .nil hx I (.cons rfl (.cons rfl .nil)) q) fin fun _ _ e => e
/-- -x -/
def rOwnU (C : Addr) (sp : Sp) (E : XK) : V → Hp → VK → Prop := fun x H Q => ∃ a dx fs, x = .ref a ∧ H a = some (.ins C dx fs) ∧ sp [x] H Q E
theorem un_own (hs : PySem.W.findIn X.K (.ref C) "__neg__" = some (some (.ref g))) (hf : PySem.W.isFn X.K (.ref g) = true) (F : FnOk X.prog X.w X.K X.mg X.base CX k g fd ps sp) (hr : Room k X.A) (hb : Binds X.K fd ps []) (hx : Passes CX X E) :
    UnR X (unaryOp .USub) (rOwnU C sp E) := by
  intro pins s σ H x v Q I rx h
  obtain ⟨a, dx, fs, rfl, ha, q⟩ := h
  cases (show v = Value.ref a from rx)
  obtain ⟨od, J⟩ := inst_of I ha
  obtain ⟨m, hF⟩ := I.fr
  refine PySem.W.ksp_neg hF I.ok.mod.kin J hs hf ?_
  exact run_fn (us := [.ref a]) (vs := [.ref a]) (dvs := []) (ds := []) F hr hb .nil hx I (.cons rfl .nil) q
/-- abs(x) -/
def cOwnAbs (C : Addr) (sp : Sp) (E : XK) : List V → Hp → VK → Prop := fun xs H Q => ∃ a dx fs, xs = [.ref a] ∧ H a = some (.ins C dx fs) ∧ sp [.ref a] H Q E
theorem call_absOwn (hs : PySem.W.findIn X.K (.ref C) "__abs__" = some (some (.ref g))) (hf : PySem.W.isFn X.K (.ref g) = true) (F : FnOk X.prog X.w X.K X.mg X.base CX k g fd ps sp) (hr : Room (k + 1) X.A) (hb : Binds X.K fd ps []) (hx : Passes CX X E) :
    CallR X (.builtin "abs") (cOwnAbs C sp E) := by
  intro pins s σ H xs us Q I r h
  obtain ⟨a, dx, fs, rfl, ha, q⟩ := h
  obtain ⟨u, rfl, ru⟩ := vals1 r
  cases (show u = Value.ref a from ru)
  obtain ⟨od, J⟩ := inst_of I ha
  refine Calls.call_function_entry kind_abs plain_abs entry_abs (args_abs _) ?_
  unfold Builtin.«abs»
  refine wpAny_bind (m := oneArg "abs" _) (wpAny_pure ?_)
  refine wpAny_bind (m := callSpecial? (.ref a) (Str.ofString "__abs__")) (PySem.W.special_fn I.kIn J hs (beq_iff_eq.mp hf) ?_)
  have hE : Env0 X.prog X.w X.K X.mg X.base X.A.in1 X.stack s H := I.env0.in1
  have r2 : Vals [V.ref a] [Value.ref a] := .cons rfl .nil
  refine wpAny_call (codeAny_mono (F.run X.A.in1 X.stack s H ⟨[.ref a], []⟩ [.ref a] [.ref a] Q E (Room.in1 hr) hE (by
    have hl : ([Value.ref a] ++ ([] : List Value)).length = ps.length := by rw [List.append_nil, ← r2.length]; exact F.len _ _ _ _ q
    have z := hb s [.ref a] I.kIn hl
    rw [List.append_nil] at z
    exact z) r2 q) fun r s' hq => ?_)
  cases r with
  | error e => exact hx pins σ H s e s' I hq
  | ok fl =>
    cases fl with
    | ret u => exact wpAny_pure ⟨_, rfl, I.after hq⟩
    | next => exact False.elim hq
    | brk => exact False.elim hq
    | cont => exact False.elim hq
end
end PW
/-! ### an int to the left: the reflected def -/
namespace PW
open PySem PySem.Spec PyProof.Rows L2
theorem gives_no {P : Int → Int → Sem Fin} {nm : String} {i : Int} {t : Tok} {a : Addr} :
    PySem.GivesAt (fun s => ∃ o, s.heap.get? a = some o ∧ ∀ j u, o.data ≠ .prim (.int j u)) (Builtin.Int.intBinary nm P false ⟨[.int i t, .ref a], []⟩) (.val .notImplemented) := by
  intro prog w A R s ⟨o, ho, hd⟩ q
  unfold Builtin.Int.intBinary
  refine wpAny_bind (m := slotArgs nm 1 _) (wpAny_pure ?_)
  refine wpAny_bind (m := Builtin.Int.intOfSelf (.int i t)) (wpAny_pure ?_)
  refine wpAny_bind (m := asInt? (.ref a)) ?_
  show wpAny _ _ (load a >>= _) _ _ s
  refine wpAny_bind (wpAny_load ho ?_)
  obtain ⟨oc, od, dt, sl⟩ := o
  cases dt with
  | prim v =>
    cases v with
    | int j u => exact absurd rfl (hd j u)
    | _ => exact wpAny_pure (wpAny_bind (wpAny_rule (wpAny_pure q)))
  | _ => exact wpAny_pure (wpAny_bind (wpAny_rule (wpAny_pure q)))

section
variable {prog : Program} {w : World} {A : Around} {E : Value → Shared → Prop} {s : Shared} {K : PySem.W.Frag} {x C f : Addr} {ox : Obj} {od : Option Obj} {i : Int} {t : Tok}
def NotPrim (o : Obj) : Prop := ∀ j u, o.data ≠ .prim (.int j u)
/-- what int op instance asks -/
structure OwnR (K : PySem.W.Frag) (C : Addr) (op : Operator) (g : Addr) : Prop where
  sf : PySem.W.selfFirst K C = true
  l : ∃ h : Addr, PySem.W.findIn K (.ref C) (PySem.dunder op.info.2) = some (some (.ref h))
  at_ : PySem.W.findIn K (.ref C) (dunderR op.info.2) = some (some (.ref g))
  fn : PySem.W.isFn K (.ref g) = true
  sub : PySem.W.subIn K (.ref C) (.type "int") = some false
  i1 : ∃ fo, PySem.W.findIn K (.type "int") (PySem.dunder op.info.2) = some fo ∧ fo.isSome = true ∧ isSeqSlot fo = false
  i2 : ∃ ro, PySem.W.findIn K (.type "int") (dunderR op.info.2) = some ro
theorem own_refl {op : Operator} {Q : Value → Shared → Prop} (O : OwnR K C op f) (X : K.In s.heap) (I : PySem.W.InstAt s.heap x ox C od)
    (decl : ∀ Q : Value → Shared → Prop, Q .notImplemented s → wpAny (model prog w) A (tryMethod (.int i t) (PySem.dunder op.info.2) (.ref x)) (fun r s' => r = none ∧ Q .notImplemented s') E s)
    (h : wpAny (model prog w) A (call (.ref f) [.ref x, .int i t]) (PySem.W.CmpBack Q) E s) : wpAny (model prog w) A (binaryOp op (.int i t) (.ref x)) Q E s := by
  obtain ⟨cd, rest, hcd, hm⟩ := PySem.W.ksp_first O.sf
  obtain ⟨g0, hl⟩ := O.l
  obtain ⟨fo, h1, hso, hsq⟩ := O.i1
  obtain ⟨ro, h2⟩ := O.i2
  have hr := O.at_
  rcases hi : op.info with ⟨sym, nm'⟩
  rw [hi] at hl hr h1 h2 decl
  dsimp only at hl hr h1 h2 decl
  have one := PySem.W.ksp_try (b := .int i t) X I hr O.fn h
  have L1 : PySem.W.Looks (model prog w) s.heap (typeOf (.int i t)) (.type "int") := PySem.W.Looks.of_pure rfl
  have L2 : PySem.W.Looks (model prog w) s.heap (typeOf (.ref x)) (.ref C) := I.type
  have L3 : PySem.W.Looks (model prog w) s.heap (fillsNumberSlot (.ref C) nm') true := PySem.W.fills_K X hcd hm hl
  have L4 : PySem.W.Looks (model prog w) s.heap (fillsNumberSlot (.type "int") nm') true := by
    have z := PySem.W.ksp_fillsT (M := model prog w) (T := "int") (nm := nm') X h1 h2
    rw [hso, hsq] at z
    exact z
  have L5 : PySem.W.Looks (model prog w) s.heap (isSubtype (.ref C) (.type "int")) false := PySem.W.looks_subIn X O.sub
  have hne : (Value.type "int" == Value.ref C) = false := Bool.eq_false_iff.mpr fun q => by cases beq_iff_eq.mp q
  have hpy : numberSlotInPython (.type "int") nm' = pure false := rfl
  simp only [binaryOp, hi]
  refine wpAny_holding (wpAny_bind ?_)
  unfold binaryOp1
  refine wpAny_bind (L1.here (wpAny_bind (L2.here (wpAny_bind (L4.here ?_)))))
  simp only [hne, Bool.false_eq_true, if_false]
  refine wpAny_bind (L3.here ?_)
  simp only [Bool.and_self, if_true]
  refine wpAny_bind (L5.here ?_)
  simp only [Bool.false_eq_true, if_false, pure_bind, Bool.not_false, Bool.and_self, if_true, hpy]
  refine wpAny_bind (wpAny_mono (decl (fun v s' => v = .notImplemented ∧ s' = s) ⟨rfl, rfl⟩) (fun r s' z => ?_) fun _ _ e => e)
  obtain ⟨rfl, _, rfl⟩ := z
  refine wpAny_bind (wpAny_mono one (fun r s' z => ?_) fun _ _ e => e)
  obtain ⟨v, rfl, q⟩ := z
  exact wpAny_bind (wpAny_rule (wpAny_pure (wpAny_pure q)))
end
end PW
namespace PW
open PySem PySem.Spec PyProof.Rows L2
section
variable {X : Cx} {CX : CXT} {k : Nat} {C g : Addr} {fd : FuncData} {ps : List Str} {sp : Sp} {E : XK} {pins : List (Addr × Obj)} {σ : L2.St} {H : Hp} {s : Shared} {a dx : Addr} {fs : List (Str × V)}
def rOwnR (C : Addr) (sp : Sp) (E : XK) : R2 := fun x y H Q => ∃ i b dy gs, x = .int i ∧ y = .ref b ∧ H b = some (.ins C dy gs) ∧ sp [.ref b, .int i] H Q E
theorem backs {X : Cx} {pins : List (Addr × Obj)} {σ : L2.St} {Q : VK} : ∀ w s', EP X pins σ Q w s' → PySem.W.CmpBack (EP X pins σ Q) w s' := fun w s' z => by
  have z' := z
  obtain ⟨z1, H', I', rz, qz⟩ := z'
  exact SlX.cmpback rz z
theorem op_ownR {op : Operator} (O : OwnR X.K C op g) (decl : ∀ (A : Around) (E : Value → Shared → Prop) (s : Shared) (i : Int) (t : Tok) (a : Addr) (o : Obj), s.heap.get? a = some o → (∀ j u, o.data ≠ .prim (.int j u)) → ∀ Q : Value → Shared → Prop, Q .notImplemented s → wpAny (model X.prog X.w) A (tryMethod (.int i t) (PySem.dunder op.info.2) (.ref a)) (fun r s' => r = none ∧ Q .notImplemented s') E s)
    (F : FnOk X.prog X.w X.K X.mg X.base CX k g fd ps sp) (hr : Room k X.A) (hb : Binds X.K fd ps []) (hx : Passes CX X E) : OpR X (binaryOp op) (rOwnR C sp E) := by
  intro pins s σ H x y v u Q I rx ry h
  obtain ⟨i, b, dy, gs, rfl, rfl, hb2, q⟩ := h
  obtain ⟨t, e⟩ := (show ∃ t, v = Value.int i t from rx)
  cases e
  cases (show u = Value.ref b from ry)
  obtain ⟨od, J⟩ := inst_of I hb2
  refine own_refl O I.kIn J (decl _ _ _ _ _ _ _ J.1 fun j u z => nomatch z) ?_
  exact wpAny_mono (run_fn (us := [.ref b, .int i t]) (vs := [.ref b, .int i]) (dvs := []) (ds := []) F hr hb .nil hx I (.cons rfl (.cons ⟨t, rfl⟩ .nil)) q) backs fun _ _ e => e
theorem decl_add {prog : Program} {w : World} (A : Around) (E : Value → Shared → Prop) (s : Shared) (i : Int) (t : Tok) (a : Addr) (o : Obj) (ho : s.heap.get? a = some o) (hd : ∀ j u, o.data ≠ .prim (.int j u)) (Q : Value → Shared → Prop) (q : Q .notImplemented s) :
    wpAny (model prog w) A (tryMethod (.int i t) (PySem.dunder Operator.Add.info.2) (.ref a)) (fun r s' => r = none ∧ Q .notImplemented s') E s := by
  have g : GivesAt (fun s => ∃ o, s.heap.get? a = some o ∧ ∀ j u, o.data ≠ .prim (.int j u)) (Builtin.«int.__add__» ⟨[.int i t, .ref a], []⟩) (.val .notImplemented) := gives_no
  have hT : s.TypeIs (.int i t) "int" := typeIs_int _ _ _
  have c : wpAny (model prog w) A (call (.builtin "int.__add__") [.int i t, .ref a]) (fun v s' => v = .notImplemented ∧ ((none : Option Value) = none ∧ Q .notImplemented s')) E s :=
    call_givesAt F.slot_int_add hT F.entry_int_add (F.args_int_add_2 _ _) g ⟨o, ho, hd⟩ (show Value.notImplemented = .notImplemented ∧ _ from ⟨rfl, rfl, q⟩)
  have e : PySem.dunder Operator.Add.info.2 = PySem.dunder "add" := congrArg PySem.dunder (show Operator.Add.info.2 = "add" from rfl)
  rw [e]
  refine wpAny_tryMethod_declines (T := "int") (id := "int.__add__") (Q := fun r s' => r = none ∧ Q .notImplemented s') ?h1 ?h2 ?h3
  case h1 => exact hT
  case h2 => exact F.slot_int_add
  case h3 => exact c
theorem decl_sub {prog : Program} {w : World} (A : Around) (E : Value → Shared → Prop) (s : Shared) (i : Int) (t : Tok) (a : Addr) (o : Obj) (ho : s.heap.get? a = some o) (hd : ∀ j u, o.data ≠ .prim (.int j u)) (Q : Value → Shared → Prop) (q : Q .notImplemented s) :
    wpAny (model prog w) A (tryMethod (.int i t) (PySem.dunder Operator.Sub.info.2) (.ref a)) (fun r s' => r = none ∧ Q .notImplemented s') E s := by
  have g : GivesAt (fun s => ∃ o, s.heap.get? a = some o ∧ ∀ j u, o.data ≠ .prim (.int j u)) (Builtin.«int.__sub__» ⟨[.int i t, .ref a], []⟩) (.val .notImplemented) := gives_no
  have hT : s.TypeIs (.int i t) "int" := typeIs_int _ _ _
  have c : wpAny (model prog w) A (call (.builtin "int.__sub__") [.int i t, .ref a]) (fun v s' => v = .notImplemented ∧ ((none : Option Value) = none ∧ Q .notImplemented s')) E s :=
    call_givesAt F.slot_int_sub hT F.entry_int_sub (F.args_int_sub_2 _ _) g ⟨o, ho, hd⟩ (show Value.notImplemented = .notImplemented ∧ _ from ⟨rfl, rfl, q⟩)
  have e : PySem.dunder Operator.Sub.info.2 = PySem.dunder "sub" := congrArg PySem.dunder (show Operator.Sub.info.2 = "sub" from rfl)
  rw [e]
  refine wpAny_tryMethod_declines (T := "int") (id := "int.__sub__") (Q := fun r s' => r = none ∧ Q .notImplemented s') ?h1 ?h2 ?h3
  case h1 => exact hT
  case h2 => exact F.slot_int_sub
  case h3 => exact c
theorem decl_mul {prog : Program} {w : World} (A : Around) (E : Value → Shared → Prop) (s : Shared) (i : Int) (t : Tok) (a : Addr) (o : Obj) (ho : s.heap.get? a = some o) (hd : ∀ j u, o.data ≠ .prim (.int j u)) (Q : Value → Shared → Prop) (q : Q .notImplemented s) :
    wpAny (model prog w) A (tryMethod (.int i t) (PySem.dunder Operator.Mult.info.2) (.ref a)) (fun r s' => r = none ∧ Q .notImplemented s') E s := by
  have g : GivesAt (fun s => ∃ o, s.heap.get? a = some o ∧ ∀ j u, o.data ≠ .prim (.int j u)) (Builtin.«int.__mul__» ⟨[.int i t, .ref a], []⟩) (.val .notImplemented) := gives_no
  have hT : s.TypeIs (.int i t) "int" := typeIs_int _ _ _
  have c : wpAny (model prog w) A (call (.builtin "int.__mul__") [.int i t, .ref a]) (fun v s' => v = .notImplemented ∧ ((none : Option Value) = none ∧ Q .notImplemented s')) E s :=
    call_givesAt F.slot_int_mul hT F.entry_int_mul (F.args_int_mul_2 _ _) g ⟨o, ho, hd⟩ (show Value.notImplemented = .notImplemented ∧ _ from ⟨rfl, rfl, q⟩)
  have e : PySem.dunder Operator.Mult.info.2 = PySem.dunder "mul" := congrArg PySem.dunder (show Operator.Mult.info.2 = "mul" from rfl)
  rw [e]
  refine wpAny_tryMethod_declines (T := "int") (id := "int.__mul__") (Q := fun r s' => r = none ∧ Q .notImplemented s') ?h1 ?h2 ?h3
  case h1 => exact hT
  case h2 => exact F.slot_int_mul
  case h3 => exact c
/-- x == y, x of C with an own __eq__ at g -/
theorem cmp_ownB {op : CmpOp} (hop : ∀ a b, compareOp op a b = richCompare op a b) (hs : PySem.W.findIn X.K (.ref C) (cmpInfo op).2.1 = some (some (.ref g))) (hf : PySem.W.isFn X.K (.ref g) = true)
    (F : FnOk X.prog X.w X.K X.mg X.base CX k g fd ps sp) (hr : Room k X.A) (hb : Binds X.K fd ps []) (hx : Passes CX X E) : OpR X (compareOp op) (rOwnB C sp E) := by
  intro pins s σ H x y v u Q I rx ry h
  obtain ⟨a, dx, fs, rfl, ha, hy, q⟩ := h
  cases (show v = Value.ref a from rx)
  obtain ⟨od, J⟩ := inst_of I ha
  obtain ⟨m, hF⟩ := I.fr
  rw [hop]
  rcases hy with ⟨i, rfl⟩ | ⟨b, dy, gs, rfl, hb2⟩
  · obtain ⟨t, e⟩ := (show ∃ t, u = Value.int i t from ry)
    cases e
    refine PySem.W.cmp_K (op := op) (tb := .type "int") hr.units0 hF I.ok.mod.kin J (PySem.W.Looks.of_pure rfl) (by unfold PySem.W.notFirst; rw [sub_int]; rfl) hs hf ?_
    exact wpAny_mono (run_fn (us := [.ref a, .int i t]) (vs := [.ref a, .int i]) (dvs := []) (ds := []) F hr hb .nil hx I (.cons rfl (.cons ⟨t, rfl⟩ .nil)) q) backs fun _ _ e => e
  · cases (show u = Value.ref b from ry)
    obtain ⟨od', J'⟩ := inst_of I hb2
    refine PySem.W.cmp_K (op := op) (tb := .ref C) hr.units0 hF I.ok.mod.kin J J'.type (by unfold PySem.W.notFirst; rw [beq_self_eq_true]; rfl) hs hf ?_
    exact wpAny_mono (run_fn (us := [.ref a, .ref b]) (vs := [.ref a, .ref b]) (dvs := []) (ds := []) F hr hb .nil hx I (.cons rfl (.cons rfl .nil)) q) backs fun _ _ e => e
/-! ### a staticmethod called through its class -/
structure SMet (K : PySem.W.Frag) (C : Addr) (m : Str) (p g : Addr) : Prop where
  rd : PySem.W.readsIn K C (.type "type") = true
  ga : PySem.W.specialIn K (.ref C) "__getattribute__" = some (some (.builtin "type.__getattribute__"))
  at_ : PySem.W.findCls K (.ref C) (.type "type") m = some (.get (.builtin "staticmethod.__get__") (.ref p) .none (.ref C))
  rc : ∃ rest, PySem.W.recIn K p "staticmethod" = some (.ref g :: rest)
  kp : PySem.W.keepIn K (.ref g) = true
theorem getmethsm_ok {m : Str} {p : Addr} {pl : Sem Bool} {A : Around} {E : Value → Shared → Prop} {Q : Value × List Value → Shared → Prop} (I : Inv X pins σ H s) (k : SMet X.K C m p g)
    (h : ∀ s', Inv X pins σ H s' → Q (.ref g, []) s') : wpAny (model X.prog X.w) A (getMethod (.ref C) m pl) Q E s := by
  obtain ⟨rest, hp⟩ := k.rc
  refine PySem.W.method_cls I.kIn k.ga (PySem.W.cls_bind I.kIn k.rd k.at_ ?_)
  exact wpAny_call (PySem.W.sm_get (s := { s with toks := s.toks + 1 }) I.kIn hp (PySem.W.handed_on rfl (h _ (I.tok _))))
/-- C.m(e, ..) -/
def tSMeth (C : Addr) (sp : Sp) (E : XK) (ta : TE) (t : TA) : TE := fun σ H Q => ta σ H fun x H1 => x = .ref C ∧ t σ H1 fun vs H2 => sp vs H2 Q E
theorem pe_smeth {m : Str} {p : Addr} {o e : Expr} {es : List Expr} {pos apos : Pos} {ta : TE} {t : TA} {pl : Sem Bool} (he : PE X o ta) (c : SMet X.K C m p g) (F : FnOk X.prog X.w X.K X.mg X.base CX k g fd ps sp) (hr : Room k X.A) (hb : Binds X.K fd ps []) (hx : Passes CX X E) (ha : PA X (e :: es) t)
    (hst : starEach (e :: es) X.env = (false, eval e X.env) :: starEach es X.env := by rfl) (hpl : (backTo pos (starEach es X.env)).any (·.1) = false := by rfl)
    (ht : eval (.Call (.Attribute o m apos) (e :: es) [] pos) X.env = (do
      let ov ← eval o X.env
      standAt apos.atName
      let (f, first) ← holding [ov] (getMethod ov m pl)
      callWith pos f first (backTo pos (starEach (e :: es) X.env)) (backToKw pos (keywordEach [] X.env))) := by rfl) :
    PE X (.Call (.Attribute o m apos) (e :: es) [] pos) (tSMeth C sp E ta t) := by
  refine ⟨fun pins s σ H Q I h => ?_⟩
  refine PySem.W.methodCall_KW (pl := pl) (thn (he.run pins s σ H _ I h) fun u s1 ⟨x, H1, I1, rx, ex, q⟩ => ?_) ht
  subst ex
  obtain rfl : u = Value.ref C := rx
  refine getmethsm_ok I1 c fun s2 I2 => ?_
  refine PySem.W.callWith_K (first := []) (h₀ := X.base) I.ok.mod.kin c.kp (thn (ha.run pos pins s2 σ H1 _ I2 q) fun us s3 ⟨vs, H2, I3, r, q2⟩ => ⟨I3.kIn, ?_⟩) hst hpl
  refine run_fn (us := us) (vs := vs) (dvs := []) (ds := []) F hr hb .nil hx I3 r ?_
  rw [List.append_nil]
  exact q2
end
end PW
/-! ### == and != with an empty list or tuple -/
namespace PW
open PySem PySem.Spec PyProof.Rows L2 PySem.SeqAt
section
variable {prog : Program} {w : World}
theorem list_ne_size (l b : Addr) (items items2 : Array Value) (n n2 : Nat) (dd dd2 : Option Addr) (sl sl2 : Array (Option Value)) (hsz : items.size ≠ items2.size) :
    MeetsIn prog w (Builtin.«list.__eq__» ⟨[.ref l, .ref b], []⟩)
      (fun A R s => s.heap.get? l = some { cls := .type "list", dict := dd, data := .seq items n, slots := sl } ∧ s.heap.get? b = some { cls := .type "list", dict := dd2, data := .seq items2 n2, slots := sl2 } ∧
        R (.ok (.ret (.bool false))) s) := by
  intro A R s h
  obtain ⟨hp, g, d, tk, os⟩ := s; obtain ⟨hl, hb, h⟩ := h
  have f3 := AutoSeq1.sub_list_list
  have hne : (items.size != items2.size) = true := by simpa using hsz
  wp_walk using PySem.AutoSeq1.wpAny_loadPart' hl, PySem.AutoSeq1.wpAny_loadPart' hb
  exact h
theorem rcP_list_size {A : Around} {s : Shared} {l b : Addr} {items items2 : Array Value} (hl : s.heap.IsList l items) (hb : s.heap.IsList b items2) (hsz : items.size ≠ items2.size) (hu : A.units < cLine)
    (E Q : Value → Shared → Prop) (h : Q (.bool false) s) : wpAny (model prog w) A (richCompare .Eq (.ref l) (.ref b)) Q E s := by
  obtain ⟨⟨cls, dd, data, sl⟩, ho, hc, n, hd⟩ := id hl
  obtain ⟨⟨cls2, dd2, data2, sl2⟩, ho2, hc2, n2, hd2⟩ := id hb
  simp only at hc hd hc2 hd2
  subst hc hd hc2 hd2
  have ta : s.TypeIs (.ref l) "list" := ⟨_, ho, rfl⟩
  have tb : s.TypeIs (.ref b) "list" := ⟨_, ho2, rfl⟩
  exact wpAny_richCompare_same_room (op := .Eq) ta tb F.slot_list_eq (call_meetsIn F.slot_list_eq ta F.entry_list_eq (F.args_list_eq_2 _ _) (list_ne_size l b items items2 n n2 dd dd2 sl sl2 hsz)
    ⟨ho, ho2, show Value.bool false ≠ Value.notImplemented ∧ Q (.bool false) s from ⟨(fun x => nomatch x), h⟩⟩) hu
theorem tup_empty (ne : Bool) (l b : Addr) (items : Array Value) (n n2 : Nat) (dd dd2 : Option Addr) (sl sl2 : Array (Option Value)) :
    MeetsIn prog w ((if ne then Builtin.«tuple.__ne__» else Builtin.«tuple.__eq__») ⟨[.ref l, .ref b], []⟩)
      (fun A R s => s.heap.get? l = some { cls := .type "tuple", dict := dd, data := .seq items n, slots := sl } ∧ s.heap.get? b = some { cls := .type "tuple", dict := dd2, data := .seq #[] n2, slots := sl2 } ∧
        R (.ok (.ret (.bool (if ne then items.size != 0 else items.size == 0)))) s) := by
  intro A R s h
  obtain ⟨hp, g, d, tk, os⟩ := s; obtain ⟨hl, hb, h⟩ := h
  have f2 := AutoSeq1.sub_tuple_tuple
  cases ne with
  | true =>
    show wpAny _ _ (Builtin.«tuple.__ne__» ⟨[.ref l, .ref b], []⟩) _ _ _
    wp_walk using PySem.AutoSeq1.wpAny_loadPart' hl, PySem.AutoSeq1.wpAny_loadPart' hb
    have hz : items.toList.zip (#[] : Array Value).toList = [] := by simp
    generalize items.toList.zip (#[] : Array Value).toList = L at hz
    subst hz
    wp_walk
    simpa [Builtin.Tuple.tupleCompareSizes] using h
  | false =>
    show wpAny _ _ (Builtin.«tuple.__eq__» ⟨[.ref l, .ref b], []⟩) _ _ _
    wp_walk using PySem.AutoSeq1.wpAny_loadPart' hl, PySem.AutoSeq1.wpAny_loadPart' hb
    have hz : items.toList.zip (#[] : Array Value).toList = [] := by simp
    generalize items.toList.zip (#[] : Array Value).toList = L at hz
    subst hz
    wp_walk
    simpa [Builtin.Tuple.tupleCompareSizes] using h
end
end PW
namespace PW
open PySem PySem.Spec PyProof.Rows L2 PySem.SeqAt
section
variable {prog : Program} {w : World}
theorem rcP_tup_eq {A : Around} {s : Shared} {l b : Addr} {items : Array Value} (hl : IsTup s.heap l items) (hb : IsTup s.heap b #[]) (hu : A.units < cLine)
    (E Q : Value → Shared → Prop) (h : Q (.bool (items.size == 0)) s) : wpAny (model prog w) A (richCompare .Eq (.ref l) (.ref b)) Q E s := by
  obtain ⟨⟨cls, dd, data, sl⟩, ho, hc, n, hd⟩ := id hl
  obtain ⟨⟨cls2, dd2, data2, sl2⟩, ho2, hc2, n2, hd2⟩ := id hb
  simp only at hc hd hc2 hd2
  subst hc hd hc2 hd2
  have ta : s.TypeIs (.ref l) "tuple" := ⟨_, ho, rfl⟩
  have tb : s.TypeIs (.ref b) "tuple" := ⟨_, ho2, rfl⟩
  exact wpAny_richCompare_same_room (op := .Eq) ta tb F.slot_tuple_eq (call_meetsIn F.slot_tuple_eq ta F.entry_tuple_eq (F.args_tuple_eq_2 _ _) (tup_empty false l b items n n2 dd dd2 sl sl2)
    ⟨ho, ho2, show Value.bool (items.size == 0) ≠ Value.notImplemented ∧ Q (.bool (items.size == 0)) s from ⟨(fun x => nomatch x), h⟩⟩) hu
theorem rcP_tup_ne {A : Around} {s : Shared} {l b : Addr} {items : Array Value} (hl : IsTup s.heap l items) (hb : IsTup s.heap b #[]) (hu : A.units < cLine)
    (E Q : Value → Shared → Prop) (h : Q (.bool (items.size != 0)) s) : wpAny (model prog w) A (richCompare .NotEq (.ref l) (.ref b)) Q E s := by
  obtain ⟨⟨cls, dd, data, sl⟩, ho, hc, n, hd⟩ := id hl
  obtain ⟨⟨cls2, dd2, data2, sl2⟩, ho2, hc2, n2, hd2⟩ := id hb
  simp only at hc hd hc2 hd2
  subst hc hd hc2 hd2
  have ta : s.TypeIs (.ref l) "tuple" := ⟨_, ho, rfl⟩
  have tb : s.TypeIs (.ref b) "tuple" := ⟨_, ho2, rfl⟩
  exact wpAny_richCompare_same_room (op := .NotEq) ta tb F.slot_tuple_ne (call_meetsIn F.slot_tuple_ne ta F.entry_tuple_ne (F.args_tuple_ne_2 _ _) (tup_empty true l b items n n2 dd dd2 sl sl2)
    ⟨ho, ho2, show Value.bool (items.size != 0) ≠ Value.notImplemented ∧ Q (.bool (items.size != 0)) s from ⟨(fun x => nomatch x), h⟩⟩) hu
end
def rEqE (K : PySem.W.Frag) : R2 := fun x y H Q => ∃ a b xs, x = .ref a ∧ y = .ref b ∧ ((SqL K H a xs ∧ SqL K H b []) ∨ (SqT K H a xs ∧ SqT K H b [])) ∧ Q (.bl xs.isEmpty) H
def rNeE (K : PySem.W.Frag) : R2 := fun x y H Q => ∃ a b xs, x = .ref a ∧ y = .ref b ∧ SqT K H a xs ∧ SqT K H b [] ∧ Q (.bl (!xs.isEmpty)) H
section
variable {X : Cx}
theorem size_empty {xs : List V} {us : List Value} (r : Vals xs us) : (us.toArray.size == 0) = xs.isEmpty := by
  cases r with
  | nil => rfl
  | cons a b => rfl
theorem op_eqE (hu : X.A.units < cLine) : OpR X (compareOp .Eq) (rEqE X.K) := by
  intro pins s σ H x y v u Q I rx ry h
  obtain ⟨a, b, xs, rfl, rfl, h, q⟩ := h
  cases (show v = Value.ref a from rx)
  cases (show u = Value.ref b from ry)
  rcases h with ⟨ha, hb⟩ | ⟨ha, hb⟩
  · obtain ⟨us, r1, p1, _⟩ := I.list ha
    obtain ⟨ws, r2, p2, _⟩ := I.list hb
    cases r2
    cases r1 with
    | nil => exact rcP_lists (e := fun _ => true) p1.isList p2.isList rfl hu (fun j h1 _ => absurd h1 (Nat.not_lt_zero _)) _ _ ⟨.bl true, H, I, rfl, q⟩
    | cons r t => exact rcP_list_size p1.isList p2.isList (by simp) hu _ _ ⟨.bl false, H, I, rfl, q⟩
  · obtain ⟨us, r1, p1, _⟩ := I.tuple ha
    obtain ⟨ws, r2, p2, _⟩ := I.tuple hb
    cases r2
    refine rcP_tup_eq p1 p2 hu _ _ ⟨.bl xs.isEmpty, H, I, ?_, q⟩
    rw [size_empty r1]
    exact rfl
theorem op_neE (hu : X.A.units < cLine) : OpR X (compareOp .NotEq) (rNeE X.K) := by
  intro pins s σ H x y v u Q I rx ry h
  obtain ⟨a, b, xs, rfl, rfl, ha, hb, q⟩ := h
  cases (show v = Value.ref a from rx)
  cases (show u = Value.ref b from ry)
  obtain ⟨us, r1, p1, _⟩ := I.tuple ha
  obtain ⟨ws, r2, p2, _⟩ := I.tuple hb
  cases r2
  refine rcP_tup_ne p1 p2 hu _ _ ⟨.bl (!xs.isEmpty), H, I, ?_, q⟩
  show Value.bool (!(us.toArray.size == 0)) = _
  rw [size_empty r1]
end
/-! ### steps -/
def MkN (C : Addr) (sp : Sp) (vs : List V) (E : XK) (Q : VK) (H : Hp) : Prop := ∀ x dx, H x = none → H dx = none → dx ≠ x → sp (.ref x :: vs) (upd (upd H dx (.own x)) x (.ins C dx [])) (fun v H2 => v = .non ∧ Q (.ref x) H2) E
def MkKN (C : Addr) (sp : Sp) (gV : List V → List V → List V) (vs zs : List V) (E : XK) (Q : VK) (H : Hp) : Prop := ∀ x dx, H x = none → H dx = none → dx ≠ x → sp (gV (.ref x :: vs) zs) (upd (upd H dx (.own x)) x (.ins C dx [])) (fun v H2 => v = .non ∧ Q (.ref x) H2) E
section
variable {K : PySem.W.Frag} {σ : L2.St} {H : Hp} {Q : VK} {ta : TE} {t : TA} {tk : TA} {C a b : Addr} {sp : Sp} {E : XK} {xs : List V} {n m : Nat} {gV : List V → List V → List V} {f : Str} {i : Int}
theorem r_eqEL (h : SqL K H a xs) (h2 : SqL K H b []) (q : Q (.bl xs.isEmpty) H) : rEqE K (.ref a) (.ref b) H Q := ⟨a, b, xs, rfl, rfl, .inl ⟨h, h2⟩, q⟩
theorem r_eqET (h : SqT K H a xs) (h2 : SqT K H b []) (q : Q (.bl xs.isEmpty) H) : rEqE K (.ref a) (.ref b) H Q := ⟨a, b, xs, rfl, rfl, .inr ⟨h, h2⟩, q⟩
theorem r_neET (h : SqT K H a xs) (h2 : SqT K H b []) (q : Q (.bl (!xs.isEmpty)) H) : rNeE K (.ref a) (.ref b) H Q := ⟨a, b, xs, rfl, rfl, h, h2, q⟩
instance : Step (tSMeth C sp E (tC (.ref C)) t σ H Q) (t σ H fun vs H2 => sp vs H2 Q E) := ⟨fun q => ⟨rfl, q⟩⟩
instance : Step (tMakeK C n m sp gV E t tk σ H Q) (t σ H fun vs H1 => tk σ H1 fun zs H2 => vs.length = n ∧ zs.length = m ∧ MkKN C sp gV vs zs E Q H2) := ⟨id⟩
instance {dvs : List V} : Step (tMake C sp dvs E t σ H Q) (t σ H fun vs H1 => MkN C sp (vs ++ dvs) E Q H1) := ⟨id⟩
end
end PW
/-! ### facts of an own class, as Bools -/
namespace PW
open PySem PySem.Spec PyProof.Rows L2
def insB (K : PySem.W.Frag) (C : Addr) : Bool := He.eqO (PySem.W.findIn K (.ref C) "__class__") (some (some (.builtin "object.__class__"))) && (He.eqO (PySem.W.specialIn K (.builtin "object.__class__") "__get__") (some (some (.builtin "getset_descriptor.__get__"))) &&
  (decide (PySem.W.takesIn K (.builtin "object.__class__") = some true) && (decide (PySem.W.mroIn K C (.type "object") = some true) && decide (PySem.W.kitOne K (.ref C) (.ref C) = some true))))
theorem insB_ok {K : PySem.W.Frag} {C : Addr} (k : Cls K C) (h : insB K C = true) : C8.InsC K C := by
  obtain ⟨h1, h⟩ := He.ba h
  obtain ⟨h2, h⟩ := He.ba h
  obtain ⟨h3, h⟩ := He.ba h
  obtain ⟨h4, h5⟩ := He.ba h
  exact ⟨k, He.eqO_ok h1, He.eqO_ok h2, of_decide_eq_true h3, of_decide_eq_true h4, of_decide_eq_true h5⟩
/-- isinstance between the class and built-in types: no -/
structure IsTys (K : PySem.W.Frag) (C : Addr) : Prop where
  l : ∀ n ∈ ["int", "bool", "str", "NoneType", "float", "list", "tuple", "dict"], PySem.W.kitOne K (.type n) (.ref C) = some false
  r : ∀ n ∈ ["int", "bool", "str", "list", "tuple", "dict"], PySem.W.kitOne K (.ref C) (.type n) = some false
def isTysB (K : PySem.W.Frag) (C : Addr) : Bool := (["int", "bool", "str", "NoneType", "float", "list", "tuple", "dict"].all fun n => decide (PySem.W.kitOne K (.type n) (.ref C) = some false)) && (["int", "bool", "str", "list", "tuple", "dict"].all fun n => decide (PySem.W.kitOne K (.ref C) (.type n) = some false))
theorem isTysB_ok {K : PySem.W.Frag} {C : Addr} (h : isTysB K C = true) : IsTys K C := by
  obtain ⟨h1, h2⟩ := He.ba h
  exact ⟨fun n hn => of_decide_eq_true (List.all_eq_true.mp h1 n hn), fun n hn => of_decide_eq_true (List.all_eq_true.mp h2 n hn)⟩
def smetB (K : PySem.W.Frag) (C : Addr) (m : Str) (p g : Addr) : Bool := PySem.W.readsIn K C (.type "type") && (He.eqO (PySem.W.specialIn K (.ref C) "__getattribute__") (some (some (.builtin "type.__getattribute__"))) &&
  ((match PySem.W.findCls K (.ref C) (.type "type") m with
    | some (.get (.builtin n) (.ref q) .none (.ref D)) => decide (n = "staticmethod.__get__") && (decide (q = p) && decide (D = C))
    | _ => false) && ((match PySem.W.recIn K p "staticmethod" with
    | some (.ref f :: _) => decide (f = g)
    | _ => false) && PySem.W.keepIn K (.ref g))))
theorem smetB_ok {K : PySem.W.Frag} {C : Addr} {m : Str} {p g : Addr} (h : smetB K C m p g = true) : SMet K C m p g := by
  obtain ⟨h1, h⟩ := He.ba h
  obtain ⟨h2, h⟩ := He.ba h
  obtain ⟨h3, h⟩ := He.ba h
  obtain ⟨h4, h5⟩ := He.ba h
  refine ⟨h1, He.eqO_ok h2, ?_, ?_, h5⟩
  · split at h3
    · rename_i n q D e
      obtain ⟨k1, k⟩ := He.ba h3
      obtain ⟨k2, k3⟩ := He.ba k
      rw [e, of_decide_eq_true k1, of_decide_eq_true k2, of_decide_eq_true k3]
    · cases h3
  · split at h4
    · rename_i f rest e
      rw [of_decide_eq_true h4] at e
      exact ⟨rest, e⟩
    · cases h4
def ownB (K : PySem.W.Frag) (C : Addr) (op : Operator) (g : Addr) : Bool := PySem.W.selfFirst K C && (He.eqO (PySem.W.findIn K (.ref C) (PySem.dunder op.info.2)) (some (some (.ref g))) && (PySem.W.isFn K (.ref g) &&
  ((match PySem.W.findIn K (.ref C) (dunderR op.info.2) with
    | some none => true
    | some (some (.ref _)) => true
    | _ => false) && ((PySem.W.findIn K (.type "int") (PySem.dunder op.info.2)).isSome && (PySem.W.findIn K (.type "int") (dunderR op.info.2)).isSome))))
theorem ownB_ok {K : PySem.W.Frag} {C : Addr} {op : Operator} {g : Addr} (h : ownB K C op g = true) : OwnB K C op g := by
  obtain ⟨h1, h⟩ := He.ba h
  obtain ⟨h2, h⟩ := He.ba h
  obtain ⟨h3, h⟩ := He.ba h
  obtain ⟨h4, h⟩ := He.ba h
  obtain ⟨h5, h6⟩ := He.ba h
  refine ⟨h1, He.eqO_ok h2, h3, ?_, Option.isSome_iff_exists.mp h5, Option.isSome_iff_exists.mp h6⟩
  split at h4
  · rename_i e
    exact ⟨none, e, .inl rfl⟩
  · rename_i a e
    exact ⟨_, e, .inr ⟨a, rfl⟩⟩
  · cases h4
def ownR (K : PySem.W.Frag) (C : Addr) (op : Operator) (g : Addr) : Bool := PySem.W.selfFirst K C && ((match PySem.W.findIn K (.ref C) (PySem.dunder op.info.2) with
    | some (some (.ref _)) => true
    | _ => false) && (He.eqO (PySem.W.findIn K (.ref C) (dunderR op.info.2)) (some (some (.ref g))) && (PySem.W.isFn K (.ref g) && (decide (PySem.W.subIn K (.ref C) (.type "int") = some false) &&
  ((match PySem.W.findIn K (.type "int") (PySem.dunder op.info.2) with
    | some fo => fo.isSome && !isSeqSlot fo
    | _ => false) && (PySem.W.findIn K (.type "int") (dunderR op.info.2)).isSome)))))
theorem ownR_ok {K : PySem.W.Frag} {C : Addr} {op : Operator} {g : Addr} (h : ownR K C op g = true) : OwnR K C op g := by
  obtain ⟨h1, h⟩ := He.ba h
  obtain ⟨h2, h⟩ := He.ba h
  obtain ⟨h3, h⟩ := He.ba h
  obtain ⟨h4, h⟩ := He.ba h
  obtain ⟨h5, h⟩ := He.ba h
  obtain ⟨h6, h7⟩ := He.ba h
  refine ⟨h1, ?_, He.eqO_ok h3, h4, of_decide_eq_true h5, ?_, Option.isSome_iff_exists.mp h7⟩
  · split at h2
    · rename_i a e
      exact ⟨a, e⟩
    · cases h2
  · split at h6
    · rename_i fo e
      obtain ⟨k1, k2⟩ := He.ba h6
      exact ⟨fo, e, k1, by simpa using k2⟩
    · cases h6
end PW
/-! ### readings of instances, of two and three names, of while -/
namespace PW
open PySem PySem.Spec PyProof.Rows L2
def ParN (i j : Nat) (nx : L2.St → Hp → Prop) (σ : L2.St) (vs : List V) (H : Hp) : Prop := ∃ v w, vs = [v, w] ∧ nx ((σ.set i (some v)).set j (some w)) H
def ParN3 (i j l : Nat) (nx : L2.St → Hp → Prop) (σ : L2.St) (vs : List V) (H : Hp) : Prop := ∃ u v w, vs = [u, v, w] ∧ nx (((σ.set i (some u)).set j (some v)).set l (some w)) H
section
variable {σ τ τ2 τ3 : L2.St} {H : Hp} {Q : VK} {D : Ends} {i j l : Nat} {ta : TA} {a b c : V} {nx : L2.St → Hp → Prop} {K : PySem.W.Frag} {te tv : TE}
instance : Step (tPar i j ta D σ H) (ta σ H fun vs H1 => ParN i j D.nx σ vs H1) := ⟨id⟩
instance [h1 : Put σ i a τ] [h2 : Put τ j b τ2] : Step (ParN i j nx σ [a, b] H) (nx τ2 H) := ⟨fun q => ⟨a, b, rfl, by rw [h1.eq, h2.eq]; exact q⟩⟩
instance : Step (tPar3 i j l ta D σ H) (ta σ H fun vs H1 => ParN3 i j l D.nx σ vs H1) := ⟨id⟩
instance [h1 : Put σ i a τ] [h2 : Put τ j b τ2] [h3 : Put τ2 l c τ3] : Step (ParN3 i j l nx σ [a, b, c] H) (nx τ3 H) := ⟨fun q => ⟨a, b, c, rfl, by rw [h1.eq, h2.eq, h3.eq]; exact q⟩⟩
instance {to : TE} : Step (tBits to σ H Q) (to σ H fun x H1 => ∃ i, x = .int i ∧ Q (.int (Builtin.Int.intBits i : Nat)) H1) := ⟨id⟩
def RevN (K : PySem.W.Frag) (Q : VK) (x : V) (H : Hp) : Prop := ∃ a xs, x = .ref a ∧ SqL K H a xs ∧ ∀ p, H p = none → Q (.ref p) (upd H p (.lst xs.reverse))
instance : Step (tRevL K te σ H Q) (te σ H fun x H1 => RevN K Q x H1) := ⟨id⟩
theorem r_rev {p : Addr} {xs : List V} (h : SqL K H p xs) (q : ∀ r, H r = none → Q (.ref r) (upd H r (.lst xs.reverse))) : RevN K Q (.ref p) H := ⟨p, xs, rfl, h, q⟩
def FldN (K : PySem.W.Frag) (f : Str) (Q : VK) (x : V) (H : Hp) : Prop := ∃ a C dx fs v, x = .ref a ∧ H a = some (.ins C dx fs) ∧ Cls K C ∧ NoAttr K C f ∧ fs.lookup f = some v ∧ Q v H
instance {f : Str} : Step (tFld K te f σ H Q) (te σ H fun x H1 => FldN K f Q x H1) := ⟨id⟩
theorem r_fld {p C dx : Addr} {fs : List (Str × V)} {f : Str} {v : V} (h : H p = some (.ins C dx fs)) (c : Cls K C) (n : NoAttr K C f) (l : fs.lookup f = some v) (q : Q v H) : FldN K f Q (.ref p) H := ⟨p, C, dx, fs, v, rfl, h, c, n, l, q⟩
def SFldN (K : PySem.W.Frag) (f : Str) (nx : L2.St → Hp → Prop) (σ : L2.St) (y x : V) (H : Hp) : Prop := ∃ a C dx fs, x = .ref a ∧ H a = some (.ins C dx fs) ∧ Cls K C ∧ NoAttr K C f ∧ fs.length < 1000 ∧ nx σ (upd H a (.ins C dx (putF f y fs)))
instance {f : Str} : Step (sFld K te tv f D σ H) (tv σ H fun y H1 => te σ H1 fun x H2 => SFldN K f D.nx σ y x H2) := ⟨id⟩
theorem r_sfld {p C dx : Addr} {fs : List (Str × V)} {f : Str} {y : V} (h : H p = some (.ins C dx fs)) (c : Cls K C) (n : NoAttr K C f) (l : fs.length < 1000) (q : nx σ (upd H p (.ins C dx (putF f y fs)))) : SFldN K f nx σ y (.ref p) H := ⟨p, C, dx, fs, rfl, h, c, n, l, q⟩
def MethN (C : Addr) (m : Str) (sp : Sp) (dvs : List V) (E : XK) (t : TA) (σ : L2.St) (Q : VK) (x : V) (H : Hp) : Prop := ∃ a dx fs, x = .ref a ∧ H a = some (.ins C dx fs) ∧ fs.lookup m = none ∧ t σ H fun vs H2 => sp (x :: (vs ++ dvs)) H2 Q E
instance {C : Addr} {m : Str} {sp : Sp} {dvs : List V} {E : XK} {t : TA} : Step (tMeth C m sp dvs E te t σ H Q) (te σ H fun x H1 => MethN C m sp dvs E t σ Q x H1) := ⟨id⟩
theorem r_methC {p C dx : Addr} {m : Str} {fs : List (Str × V)} {sp : Sp} {dvs : List V} {E : XK} {t : TA} (h : H p = some (.ins C dx fs)) (l : fs.lookup m = none) (q : t σ H fun vs H2 => sp (.ref p :: (vs ++ dvs)) H2 Q E) : MethN C m sp dvs E t σ Q (.ref p) H := ⟨p, dx, fs, rfl, h, l, q⟩
instance {T : String} {r : V → List V → Hp → VK → Prop} : Step (tBM0 K T r te σ H Q) (te σ H fun x H1 => tyV K T x H1 ∧ r x [] H1 Q) := ⟨id⟩
instance {T : String} {r : V → List V → Hp → VK → Prop} {t : TA} : Step (tBM K T r te t σ H Q) (te σ H fun x H1 => tyV K T x H1 ∧ t σ H1 fun xs H2 => r x xs H2 Q) := ⟨id⟩
theorem r_isiO {x : V} {C : Addr} {t : Value} {k : Bool} (h : TyX K H x t) (e : PySem.W.kitOne K t (.ref C) = some k) (q : Q (.bl k) H) : rIsi K [x, .ref C] H Q := ⟨x, .ref C, t, .ref C, k, rfl, .own C, h, e, q⟩
theorem r_isiC {x : V} {C : Addr} {n : String} {k : Bool} (h : TyX K H x (.ref C)) (e : PySem.W.kitOne K (.ref C) (.type n) = some k) (q : Q (.bl k) H) : rIsi K [x, .ty n] H Q := ⟨x, .ty n, .ref C, .type n, k, rfl, .ty n, h, e, q⟩
theorem ty_ins {p C dx : Addr} {fs : List (Str × V)} (i : C8.InsC K C) (h : H p = some (.ins C dx fs)) : TyX K H (.ref p) (.ref C) := .base (.ins h i.cl i.ha i.hn i.htk i.hm)
end
/-- while, by a word of a measure and the state -/
theorem while_it {c : TT} {tb : TS} {D : Ends} {σ : L2.St} {H : Hp} (Pv : Nat → L2.St → Hp → Prop) {m0 : Nat} (h0 : Pv m0 σ H)
    (hs : ∀ m σ H, Pv m σ H → c σ H fun b H1 => if b = true then ∃ N : L2.St → Hp → Prop, (∀ σ' H', N σ' H' → ∃ m', m' < m ∧ Pv m' σ' H') ∧ tb { D with nx := N, ct := N, bk := D.nx } σ H1 else D.nx σ H1) : tWhile c tb D σ H := ⟨Pv, ⟨m0, h0⟩, hs⟩
/-- .. a turn is taken -/
theorem r_turn {Pv : Nat → L2.St → Hp → Prop} {tb : TS} {D : Ends} {σ : L2.St} {H : Hp} {m : Nat} (h : tb { D with nx := fun σ' H' => ∃ m', m' < m ∧ Pv m' σ' H', ct := fun σ' H' => ∃ m', m' < m ∧ Pv m' σ' H', bk := D.nx } σ H) :
    ∃ N : L2.St → Hp → Prop, (∀ σ' H', N σ' H' → ∃ m', m' < m ∧ Pv m' σ' H') ∧ tb { D with nx := N, ct := N, bk := D.nx } σ H := ⟨fun σ' H' => ∃ m', m' < m ∧ Pv m' σ' H', fun _ _ h => h, h⟩
end PW
namespace PW
open PySem PySem.Spec PyProof.Rows L2
section
variable {H : Hp} {Q : VK} {K : PySem.W.Frag} {p b : Addr} {xs zs : List V} {y : V} {i : Int} {R : Prop}
theorem r_tyL (h : SqL K H p xs) (q : R) : tyV K "list" (.ref p) H ∧ R := ⟨Or.inl ⟨rfl, xs, h⟩, q⟩
theorem r_append (h : H p = some (.lst xs)) (l : xs.length < sizeLine) (q : Q .non (upd H p (.lst (xs ++ [y])))) : rAppend (.ref p) [y] H Q := ⟨p, xs, y, rfl, rfl, h, l, q⟩
theorem r_pop (h : H p = some (.lst xs)) (e : xs[xs.length - 1]? = some y) (q : Q y (upd H p (.lst xs.dropLast))) : rPop (.ref p) [] H Q := ⟨p, xs, y, rfl, rfl, h, e, q⟩
theorem r_insert (h : H p = some (.lst xs)) (l : xs.length < sizeLine) (h0 : 0 ≤ i) (h1 : i < 2 ^ 63) (q : Q .non (upd H p (.lst (xs.take i.toNat ++ [y] ++ xs.drop i.toNat)))) :
    ∃ (l : Addr) (ys : List V) (j : Int) (z : V), V.ref p = .ref l ∧ [V.int i, y] = [.int j, z] ∧ H l = some (.lst ys) ∧ ys.length < sizeLine ∧ 0 ≤ j ∧ j < 2 ^ 63 ∧ Q .non (upd H l (.lst (ys.take j.toNat ++ [z] ++ ys.drop j.toNat))) := ⟨p, xs, i, y, rfl, rfl, h, l, h0, h1, q⟩
theorem r_cat (h : H p = some (.lst xs)) (h2 : H b = some (.lst zs)) (l : xs.length + zs.length ≤ sizeLine) (q : ∀ r, H r = none → Q (.ref r) (upd H r (.lst (xs ++ zs)))) : rCat (.ref p) (.ref b) H Q := ⟨p, b, xs, zs, rfl, rfl, h, h2, l, q⟩
theorem r_sum {ns : List Int} (h : SqL K H p (ns.map V.int)) (q : Q (.int ns.sum) H) : rSum K [.ref p] H Q := ⟨p, ns, rfl, h, q⟩
end
end PW
namespace PW
open PySem PySem.Spec PyProof.Rows L2
theorem Ex.tupN {K : PySem.W.Frag} {p r : Addr} {o : HO} {H : Hp} {xs : List V} (h : H r = none) (q : SqT K H p xs) : SqT K (L2.upd H r o) p xs := (Ex.new h).tup q
theorem Ex.lstN {K : PySem.W.Frag} {p r : Addr} {o : HO} {H : Hp} {xs : List V} (h : H r = none) (q : SqL K H p xs) : SqL K (L2.upd H r o) p xs := (Ex.new h).lst q
end PW
namespace PW
open PySem PySem.Spec PyProof.Rows L2
theorem cx_K {CX : CXT} {P : Program} {w : World} {K : PySem.W.Frag} {mg : Str → Option Value} {base : Heap} {N : List Str} {qual : Str} {scope : Scope} {f : Addr} {cdv : Value} {A : Around} {outer : List Env} {s : Shared} {H : Hp} {E : XK} : (cxOf CX P w K mg base N qual scope f cdv A outer s H E).K = K := rfl
theorem nox_K {CX : CXT} {P : Program} {w : World} {K : PySem.W.Frag} {mg : Str → Option Value} {base : Heap} {N : List Str} {qual : Str} {scope : Scope} {f : Addr} {cdv : Value} {A : Around} {outer : List Env} {s : Shared} {H : Hp} {E : XK} : (cxOf CX P w K mg base N qual scope f cdv A outer s H E).nox.K = K := rfl
end PW
namespace PW
open PySem PySem.Spec PyProof.Rows L2
section
variable {X : Cx} {K : PySem.W.Frag}
theorem ix_seqK (h : X.K = K) : IxR X (rIx K) := by
  subst h
  exact ix_seq
theorem ix_listK (h : X.K = K) : IxR X (rIxL K) := by
  subst h
  exact ix_list
theorem ix_tupK (h : X.K = K) : IxR X (rIxT K) := by
  subst h
  exact ix_tup
end
end PW
namespace PW
open PySem PySem.Spec PyProof.Rows L2
theorem r_forP {J : It} {g : TG} {tb : TS} {D : Ends} {σ : L2.St} {H : Hp} (P : L2.St → Hp → Prop) (hq : ∀ σ' H', P σ' H' → D.nx σ' H') (h : ∀ N : L2.St → Hp → Prop, (∀ σ' H', P σ' H' → N σ' H') → ForW J g tb { D with nx := N } σ H) : ForW J g tb D σ H := h D.nx hq
theorem r_ifSP {t : TT} {s1 s2 : TS} {D : Ends} {σ : L2.St} {H : Hp} (P : L2.St → Hp → Prop) (hq : ∀ σ' H', P σ' H' → D.nx σ' H') (h : ∀ N : L2.St → Hp → Prop, (∀ σ' H', P σ' H' → N σ' H') → tIfS t s1 s2 { D with nx := N } σ H) : tIfS t s1 s2 D σ H := h D.nx hq
end PW
local macro_rules | `(tactic| walk_at "lst") => `(tactic| first | with_reducible assumption | (with_reducible exact L2.SqT.of L2.upd_same) | (with_reducible exact L2.SqL.of L2.upd_same) | ((with_reducible refine' PW.Ex.tupN ?h ?q); (case h => with_reducible assumption); (case q => walk_at "lst")) | ((with_reducible refine' PW.Ex.lstN ?h ?q); (case h => with_reducible assumption); (case q => walk_at "lst")) | ((with_reducible refine' L2.SqL.of ?h); (case h => walk_at "hp")) | ((with_reducible refine' L2.SqT.of ?h); (case h => walk_at "hp")))
local macro_rules | `(tactic| walk_at "K") => `(tactic| try simp only [PW.nox_K, PW.cx_K])
local macro_rules | `(tactic| walk_at "hp") => `(tactic| first | with_reducible assumption | (with_reducible exact L2.upd_same) | ((with_reducible refine' (L2.upd_ne ?n).trans ?h); (case' n => walk_at "ne"); (case' h => walk_at "hp")))
local macro_rules | `(tactic| walk_at "ne") => `(tactic| first | with_reducible assumption | (with_reducible exact Ne.symm (by with_reducible assumption)) | (with_reducible exact L2.ne_of_none (by with_reducible assumption) (by with_reducible assumption)) | (with_reducible exact Ne.symm (L2.ne_of_none (by with_reducible assumption) (by with_reducible assumption))) | exact PW.ne_ofK (by with_reducible assumption) (by with_reducible assumption) (by rfl))
local macro_rules | `(tactic| walk_at "g1") => `(tactic| first
  | refine PW.Step.imp ?_
  | ((with_reducible refine' PW.r_I ?h ?_); (case h => walk_at "cond"))
  | ((with_reducible refine' PW.r_ixL ?h ?a ?_); (case h => walk_at "lst"); (case a => first | rfl | exact PW.atI0))
  | ((with_reducible refine' PW.r_ixT ?h ?a ?_); (case h => walk_at "lst"); (case a => first | rfl | exact PW.atI0))
  | ((with_reducible refine' PW.r_setL ?h ?a ?_); (case h => walk_at "hp"); (case a => rfl))
  | ((with_reducible refine' PW.r_lst1 ?h ?_); (case h => first | decide | (simp only [List.length_cons, List.length_nil]; omega)))
  | ((with_reducible refine' PW.r_ifT' ?e ?_); (case e => with_reducible exact PW.dec_self))
  | ((with_reducible refine' PW.r_ifF' ?e ?_); (case e => exact PW.dec_kind rfl))
  | ((with_reducible refine' PW.r_ifF' ?e ?_); (case e => with_reducible exact PW.ndec_self))
  | ((with_reducible refine' PW.r_ifT' ?e ?_); (case e => exact PW.ndec_kind rfl))
  | ((with_reducible refine' PW.r_ifT' ?e ?_); (case e => decide))
  | ((with_reducible refine' PW.r_ifF' ?e ?_); (case e => decide))
  | ((with_reducible refine' PW.r_cLenL ?h ?_); (case h => walk_at "lst"))
  | ((with_reducible refine' PW.r_cLenT ?h ?_); (case h => walk_at "lst"))
  | ((with_reducible refine' PW.r_cLenS ?h ?_); (case h => walk_at "size"))
  | ((with_reducible refine' PW.r_addS ?h ?_); (case h => walk_at "size"))
  | ((with_reducible refine' PW.r_slL ?h ?_); (case h => walk_at "lst"))
  | ((with_reducible refine' PW.r_slS ?h ?_); (case h => walk_at "size"))
  | ((with_reducible refine' PW.r_gtup ?h ?l ?_); (case h => walk_at "lst"); (case l => rfl))
  | ((with_reducible refine' PW.r_isi ?h ?e ?_); (case h => walk_at "ty"); (case e => walk_at "kit"))
  | ((with_reducible refine' PW.r_isiT2 ?ht ?h ?e1 ?e2 ?_); (case ht => walk_at "hp"); (case h => walk_at "ty"); (case e1 => walk_at "kit"); (case e2 => walk_at "kit"))
  | ((with_reducible refine' PW.r_ixqL ?h ?a ?_); (case h => walk_at "lst"); (case a => first | rfl | exact PW.atI0))
  | ((with_reducible refine' PW.r_ixqT ?h ?a ?_); (case h => walk_at "lst"); (case a => first | rfl | exact PW.atI0))
  | ((with_reducible refine' PW.r_inT ?h ?a ?b ?_); (case h => walk_at "lst"); (case a => rfl); (case b => rfl))
  | ((with_reducible refine' PW.r_inL ?h ?a ?b ?_); (case h => walk_at "lst"); (case a => rfl); (case b => rfl))
  | ((with_reducible refine' PW.r_ninT ?h ?a ?b ?_); (case h => walk_at "lst"); (case a => rfl); (case b => rfl))
  | ((with_reducible refine' PW.r_ninL ?h ?a ?b ?_); (case h => walk_at "lst"); (case a => rfl); (case b => rfl))
  | ((with_reducible refine' PW.rng1 ?h1 ?h2 ?_); (case h1 => omega); (case h2 => omega))
  | ((with_reducible refine' PW.rng2 ?h1 ?h2 ?h3 ?h4 ?_); (case h1 => omega); (case h2 => omega); (case h3 => omega); (case h4 => omega))
  | ((with_reducible refine' PW.r_rep ?h ?a ?b ?c ?_); (case h => walk_at "hp"); (case a => omega); (case b => omega); (case c => walk_at "len"))
  | (with_reducible refine' PW.r_and3 rfl rfl ?_)
  | ((with_reducible refine' PW.wkL ?h ?_); (case h => walk_at "lst"))
  | ((with_reducible refine' PW.wkT ?h ?_); (case h => walk_at "lst"))
  | ((with_reducible refine' PW.wkE ?h ?_); (case h => walk_at "lst"))
  | ((with_reducible refine' PW.r_cListL ?h ?_); (case h => walk_at "lst"))
  | ((with_reducible refine' PW.r_cListT ?h ?_); (case h => walk_at "lst"))
  | ((with_reducible refine' PW.r_cTupleL ?h ?_); (case h => walk_at "lst"))
  | ((with_reducible refine' PW.r_fld ?h ?c ?n ?l ?_); (case h => walk_at "hp"); (case c => first | with_reducible assumption | assumption); (case n => first | with_reducible assumption | assumption); (case l => rfl))
  | ((with_reducible refine' PW.r_methC ?h ?l ?_); (case h => walk_at "hp"); (case l => rfl))
  | ((with_reducible refine' PW.r_rev ?h ?_); (case h => walk_at "lst"))
  | ((with_reducible refine' PW.r_eqEL ?h ?a ?_); (case h => walk_at "lst"); (case a => walk_at "lst"))
  | ((with_reducible refine' PW.r_eqET ?h ?a ?_); (case h => walk_at "lst"); (case a => walk_at "lst"))
  | ((with_reducible refine' PW.r_neET ?h ?a ?_); (case h => walk_at "lst"); (case a => walk_at "lst"))
  | ((with_reducible refine' PW.r_tyL ?h ?_); (case h => walk_at "lst"))
  | ((with_reducible refine' PW.r_sfld ?h ?c ?n ?l ?_); (case h => walk_at "hp"); (case c => first | with_reducible assumption | assumption); (case n => first | with_reducible assumption | assumption); (case l => exact Nat.le_of_ble_eq_true rfl))
  | ((with_reducible refine' PW.r_append ?h ?l ?_); (case h => walk_at "hp"); (case l => walk_at "len"))
  | ((with_reducible refine' PW.r_isiO ?h ?e ?_); (case h => walk_at "ty"); (case e => first | with_reducible assumption | assumption))
  | ((with_reducible refine' PW.r_isiC ?h ?e ?_); (case h => walk_at "ty"); (case e => first | with_reducible assumption | assumption)))
local macro_rules | `(tactic| walk_at "go") => `(tactic| repeat (walk_at "g1"))
local macro_rules | `(tactic| walk_at "cond") => `(tactic| first | with_reducible assumption | omega | ((with_reducible refine PW.cmx ?_ ?_ ?_ ?_) <;> omega) | ((with_reducible refine PW.cdw ?_ ?_) <;> omega) | ((with_reducible refine PW.cdw2 ?_ ?_) <;> with_reducible assumption) | ((with_reducible refine PW.cpow ?_ ?_ ?_ ?_) <;> omega))
local macro_rules | `(tactic| walk_at "size") => `(tactic| first | with_reducible assumption | exact Nat.le_trans (by with_reducible assumption) (by decide))
local macro_rules | `(tactic| walk_at "ty") => `(tactic| first | with_reducible assumption | exact .base (.int _) | exact .base (.str _) | exact .base (.bl _) | exact .base .non | exact .base (.lst (by walk_at "hp")) | exact .base (.tup (by walk_at "hp")) | assumption)
local macro_rules | `(tactic| walk_at "kit") => `(tactic| first | exact PW.kb_NoneType_bool | exact PW.kb_NoneType_int | exact PW.kb_NoneType_str | exact PW.kb_NoneType_list | exact PW.kb_NoneType_tuple | exact PW.kb_NoneType_dict | exact PW.kb_bool_bool | exact PW.kb_bool_int | exact PW.kb_bool_str | exact PW.kb_bool_list | exact PW.kb_bool_tuple | exact PW.kb_bool_dict | exact PW.kb_int_bool | exact PW.kb_int_int | exact PW.kb_int_str | exact PW.kb_int_list | exact PW.kb_int_tuple | exact PW.kb_int_dict | exact PW.kb_str_bool | exact PW.kb_str_int | exact PW.kb_str_str | exact PW.kb_str_list | exact PW.kb_str_tuple | exact PW.kb_str_dict | exact PW.kb_list_bool | exact PW.kb_list_int | exact PW.kb_list_str | exact PW.kb_list_list | exact PW.kb_list_tuple | exact PW.kb_list_dict | exact PW.kb_tuple_bool | exact PW.kb_tuple_int | exact PW.kb_tuple_str | exact PW.kb_tuple_list | exact PW.kb_tuple_tuple | exact PW.kb_tuple_dict)
local macro_rules | `(tactic| walk_at "len") => `(tactic| first | decide | (refine PW.len_ok ?_; simp only [List.length_cons, List.length_nil]; omega) | (simp only [List.length_cons, List.length_nil]; omega))
namespace PW
open PySem PySem.Spec PyProof.Rows L2
/-! ### the text by places -/
def top (i : Nat) : Stmt := PySem.Challenge.pw_powerwish_k23_parts_of_conditions.main.body.getD i (.Pass ⟨0, 0, 0, 0⟩)
abbrev s_parts_of : Stmt := top 1
abbrev n_parts_of : List Str := ["term"]
abbrev p_parts_of : List Str := ["term"]
theorem sc_parts_of : FnScope n_parts_of p_parts_of (defScope s_parts_of) := ⟨rfl, rfl, rfl, by decide +kernel, rfl, by decide +kernel, by decide +kernel⟩
abbrev s_names_within : Stmt := top 2
abbrev n_names_within : List Str := ["term", "found", "part"]
abbrev p_names_within : List Str := ["term"]
theorem sc_names_within : FnScope n_names_within p_names_within (defScope s_names_within) := ⟨rfl, rfl, rfl, by decide +kernel, rfl, by decide +kernel, by decide +kernel⟩
abbrev s_comparisons : Stmt := top 4
abbrev n_comparisons : List Str := ["condition"]
abbrev p_comparisons : List Str := ["condition"]
theorem sc_comparisons : FnScope n_comparisons p_comparisons (defScope s_comparisons) := ⟨rfl, rfl, rfl, by decide +kernel, rfl, by decide +kernel, by decide +kernel⟩
abbrev s_terms_of : Stmt := top 5
abbrev n_terms_of : List Str := ["comparison"]
abbrev p_terms_of : List Str := ["comparison"]
theorem sc_terms_of : FnScope n_terms_of p_terms_of (defScope s_terms_of) := ⟨rfl, rfl, rfl, by decide +kernel, rfl, by decide +kernel, by decide +kernel⟩
abbrev s_condition_names : Stmt := top 6
abbrev n_condition_names : List Str := ["condition", "found", "comparison", "term"]
abbrev p_condition_names : List Str := ["condition"]
theorem sc_condition_names : FnScope n_condition_names p_condition_names (defScope s_condition_names) := ⟨rfl, rfl, rfl, by decide +kernel, rfl, by decide +kernel, by decide +kernel⟩
abbrev s_used_names : Stmt := top 7
abbrev n_used_names : List Str := ["condition"]
abbrev p_used_names : List Str := ["condition"]
theorem sc_used_names : FnScope n_used_names p_used_names (defScope s_used_names) := ⟨rfl, rfl, rfl, by decide +kernel, rfl, by decide +kernel, by decide +kernel⟩
abbrev s__law_pull : Stmt := top 9
abbrev n__law_pull : List Str := ["_law_bag_here", "_law_many_z", "_law_cell", "_law_got", "_law_seed"]
abbrev p__law_pull : List Str := ["_law_bag_here", "_law_many_z"]
theorem sc__law_pull : FnScope n__law_pull p__law_pull (defScope s__law_pull) := ⟨rfl, rfl, rfl, by decide +kernel, rfl, by decide +kernel, by decide +kernel⟩
abbrev s__law_of : Stmt := top 10
abbrev n__law_of : List Str := ["_law_bag_here", "_law_some"]
abbrev p__law_of : List Str := ["_law_bag_here", "_law_some"]
theorem sc__law_of : FnScope n__law_of p__law_of (defScope s__law_of) := ⟨rfl, rfl, rfl, by decide +kernel, rfl, by decide +kernel, by decide +kernel⟩
abbrev s__law_same : Stmt := top 11
abbrev n__law_same : List Str := ["_law_found", "_law_due", "_law_one_z", "_law_other_z"]
abbrev p__law_same : List Str := ["_law_found", "_law_due"]
theorem sc__law_same : FnScope n__law_same p__law_same (defScope s__law_same) := ⟨rfl, rfl, rfl, by decide +kernel, rfl, by decide +kernel, by decide +kernel⟩
abbrev s__law_mixed : Stmt := top 12
abbrev n__law_mixed : List Str := ["_law_bag_here", "_law_some", "_law_found", "_law_one_z"]
abbrev p__law_mixed : List Str := ["_law_bag_here", "_law_some"]
theorem sc__law_mixed : FnScope n__law_mixed p__law_mixed (defScope s__law_mixed) := ⟨rfl, rfl, rfl, by decide +kernel, rfl, by decide +kernel, by decide +kernel⟩
abbrev s__law_bag : Stmt := top 13
abbrev n__law_bag : List Str := ["_law_script"]
abbrev p__law_bag : List Str := ["_law_script"]
theorem sc__law_bag : FnScope n__law_bag p__law_bag (defScope s__law_bag) := ⟨rfl, rfl, rfl, by decide +kernel, rfl, by decide +kernel, by decide +kernel⟩
abbrev s__law_letters : Stmt := top 14
abbrev n__law_letters : List Str := []
abbrev p__law_letters : List Str := []
theorem sc__law_letters : FnScope n__law_letters p__law_letters (defScope s__law_letters) := ⟨rfl, rfl, rfl, by decide +kernel, rfl, by decide +kernel, by decide +kernel⟩
abbrev s__law_is_name : Stmt := top 15
abbrev n__law_is_name : List Str := ["_law_text_z", "_law_good", "_law_sign_z"]
abbrev p__law_is_name : List Str := ["_law_text_z"]
theorem sc__law_is_name : FnScope n__law_is_name p__law_is_name (defScope s__law_is_name) := ⟨rfl, rfl, rfl, by decide +kernel, rfl, by decide +kernel, by decide +kernel⟩
abbrev s__law_names : Stmt := top 16
abbrev n__law_names : List Str := ["_law_bag_here", "_law_many_z", "_law_size", "_law_letters_here", "_law_at_z", "_law_first", "_law_step", "_law_stem", "_law_found", "_law_k", "_law_one_z"]
abbrev p__law_names : List Str := ["_law_bag_here", "_law_many_z"]
theorem sc__law_names : FnScope n__law_names p__law_names (defScope s__law_names) := ⟨rfl, rfl, rfl, by decide +kernel, rfl, by decide +kernel, by decide +kernel⟩
abbrev s__law_leaf : Stmt := top 17
abbrev n__law_leaf : List Str := ["_law_bag_here", "_law_names_z", "_law_number_z"]
abbrev p__law_leaf : List Str := ["_law_bag_here", "_law_names_z"]
theorem sc__law_leaf : FnScope n__law_leaf p__law_leaf (defScope s__law_leaf) := ⟨rfl, rfl, rfl, by decide +kernel, rfl, by decide +kernel, by decide +kernel⟩
abbrev s__law_term : Stmt := top 18
abbrev n__law_term : List Str := ["_law_bag_here", "_law_names_z", "_law_calls_z", "_law_depth", "_law_way", "_law_one_z"]
abbrev p__law_term : List Str := ["_law_bag_here", "_law_names_z", "_law_calls_z", "_law_depth"]
theorem sc__law_term : FnScope n__law_term p__law_term (defScope s__law_term) := ⟨rfl, rfl, rfl, by decide +kernel, rfl, by decide +kernel, by decide +kernel⟩
abbrev s__law_inner : Stmt := top 19
abbrev n__law_inner : List Str := ["_law_term_z", "_law_word_z"]
abbrev p__law_inner : List Str := ["_law_term_z"]
theorem sc__law_inner : FnScope n__law_inner p__law_inner (defScope s__law_inner) := ⟨rfl, rfl, rfl, by decide +kernel, rfl, by decide +kernel, by decide +kernel⟩
abbrev s__law_words : Stmt := top 20
abbrev n__law_words : List Str := ["_law_term_z", "_law_kind_z", "_law_found", "_law_one_z"]
abbrev p__law_words : List Str := ["_law_term_z", "_law_kind_z"]
theorem sc__law_words : FnScope n__law_words p__law_words (defScope s__law_words) := ⟨rfl, rfl, rfl, by decide +kernel, rfl, by decide +kernel, by decide +kernel⟩
abbrev s__law_distinct : Stmt := top 21
abbrev n__law_distinct : List Str := ["_law_some", "_law_found", "_law_one_z", "_law_name_z"]
abbrev p__law_distinct : List Str := ["_law_some"]
theorem sc__law_distinct : FnScope n__law_distinct p__law_distinct (defScope s__law_distinct) := ⟨rfl, rfl, rfl, by decide +kernel, rfl, by decide +kernel, by decide +kernel⟩
abbrev s__law_compare : Stmt := top 22
abbrev n__law_compare : List Str := ["_law_bag_here", "_law_names_z", "_law_calls_z", "_law_depth", "_law_one_z", "_law_other_z", "_law_modulus"]
abbrev p__law_compare : List Str := ["_law_bag_here", "_law_names_z", "_law_calls_z", "_law_depth"]
theorem sc__law_compare : FnScope n__law_compare p__law_compare (defScope s__law_compare) := ⟨rfl, rfl, rfl, by decide +kernel, rfl, by decide +kernel, by decide +kernel⟩
abbrev s__law_tree : Stmt := top 23
abbrev n__law_tree : List Str := ["_law_bag_here", "_law_atoms_here", "_law_depth", "_law_way", "_law_one_z"]
abbrev p__law_tree : List Str := ["_law_bag_here", "_law_atoms_here", "_law_depth"]
theorem sc__law_tree : FnScope n__law_tree p__law_tree (defScope s__law_tree) := ⟨rfl, rfl, rfl, by decide +kernel, rfl, by decide +kernel, by decide +kernel⟩
abbrev s__law_atoms : Stmt := top 24
abbrev n__law_atoms : List Str := ["_law_condition_z"]
abbrev p__law_atoms : List Str := ["_law_condition_z"]
theorem sc__law_atoms : FnScope n__law_atoms p__law_atoms (defScope s__law_atoms) := ⟨rfl, rfl, rfl, by decide +kernel, rfl, by decide +kernel, by decide +kernel⟩
abbrev s__law_condition_words : Stmt := top 25
abbrev n__law_condition_words : List Str := ["_law_condition_z", "_law_kind_z", "_law_found", "_law_atom"]
abbrev p__law_condition_words : List Str := ["_law_condition_z", "_law_kind_z"]
theorem sc__law_condition_words : FnScope n__law_condition_words p__law_condition_words (defScope s__law_condition_words) := ⟨rfl, rfl, rfl, by decide +kernel, rfl, by decide +kernel, by decide +kernel⟩
abbrev s_law : Stmt := top 26
abbrev n_law : List Str := ["_law_script", "_law_bag_here", "_law_turn", "_law_names_z", "_law_atoms_here", "_law_condition_z", "_law_shown", "_law_due", "_law_again", "_law_found", "_law_k"]
abbrev p_law : List Str := ["_law_script"]
theorem sc_law : FnScope n_law p_law (defScope s_law) := ⟨rfl, rfl, rfl, by decide +kernel, rfl, by decide +kernel, by decide +kernel⟩
/-! ### what the top has made -/
structure Txt (K : PySem.W.Frag) (mg : Str → Option Value) : Prop where
  g_parts_of : mg "parts_of" = some (.ref (He.ga K "parts_of"))
  g_names_within : mg "names_within" = some (.ref (He.ga K "names_within"))
  g_comparisons : mg "comparisons" = some (.ref (He.ga K "comparisons"))
  g_terms_of : mg "terms_of" = some (.ref (He.ga K "terms_of"))
  g_condition_names : mg "condition_names" = some (.ref (He.ga K "condition_names"))
  g_used_names : mg "used_names" = some (.ref (He.ga K "used_names"))
  g__law_pull : mg "_law_pull" = some (.ref (He.ga K "_law_pull"))
  g__law_of : mg "_law_of" = some (.ref (He.ga K "_law_of"))
  g__law_same : mg "_law_same" = some (.ref (He.ga K "_law_same"))
  g__law_mixed : mg "_law_mixed" = some (.ref (He.ga K "_law_mixed"))
  g__law_bag : mg "_law_bag" = some (.ref (He.ga K "_law_bag"))
  g__law_letters : mg "_law_letters" = some (.ref (He.ga K "_law_letters"))
  g__law_is_name : mg "_law_is_name" = some (.ref (He.ga K "_law_is_name"))
  g__law_names : mg "_law_names" = some (.ref (He.ga K "_law_names"))
  g__law_leaf : mg "_law_leaf" = some (.ref (He.ga K "_law_leaf"))
  g__law_term : mg "_law_term" = some (.ref (He.ga K "_law_term"))
  g__law_inner : mg "_law_inner" = some (.ref (He.ga K "_law_inner"))
  g__law_words : mg "_law_words" = some (.ref (He.ga K "_law_words"))
  g__law_distinct : mg "_law_distinct" = some (.ref (He.ga K "_law_distinct"))
  g__law_compare : mg "_law_compare" = some (.ref (He.ga K "_law_compare"))
  g__law_tree : mg "_law_tree" = some (.ref (He.ga K "_law_tree"))
  g__law_atoms : mg "_law_atoms" = some (.ref (He.ga K "_law_atoms"))
  g__law_condition_words : mg "_law_condition_words" = some (.ref (He.ga K "_law_condition_words"))
  g_law : mg "law" = some (.ref (He.ga K "law"))
  f_list : mg "list" = none
  f_sorted : mg "sorted" = none
  f_set : mg "set" = none
  f_int : mg "int" = none
  f_len : mg "len" = none
  f_isinstance : mg "isinstance" = none
  f_tuple : mg "tuple" = none
  f_all : mg "all" = none
  f_bool : mg "bool" = none
  f_str : mg "str" = none
  f_zip : mg "zip" = none
  f_range : mg "range" = none
  f_repr : mg "repr" = none
  d_parts_of : FunD K "parts_of" "parts_of" (defArgs s_parts_of) (defBody s_parts_of) (defScope s_parts_of) [] [] (He.fAd K ("parts_of", none)) (fdOf K (He.fAd K ("parts_of", none)))
  d_names_within : FunD K "names_within" "names_within" (defArgs s_names_within) (defBody s_names_within) (defScope s_names_within) [] [] (He.fAd K ("names_within", none)) (fdOf K (He.fAd K ("names_within", none)))
  d_comparisons : FunD K "comparisons" "comparisons" (defArgs s_comparisons) (defBody s_comparisons) (defScope s_comparisons) [] [] (He.fAd K ("comparisons", none)) (fdOf K (He.fAd K ("comparisons", none)))
  d_terms_of : FunD K "terms_of" "terms_of" (defArgs s_terms_of) (defBody s_terms_of) (defScope s_terms_of) [] [] (He.fAd K ("terms_of", none)) (fdOf K (He.fAd K ("terms_of", none)))
  d_condition_names : FunD K "condition_names" "condition_names" (defArgs s_condition_names) (defBody s_condition_names) (defScope s_condition_names) [] [] (He.fAd K ("condition_names", none)) (fdOf K (He.fAd K ("condition_names", none)))
  d_used_names : FunD K "used_names" "used_names" (defArgs s_used_names) (defBody s_used_names) (defScope s_used_names) [] [] (He.fAd K ("used_names", none)) (fdOf K (He.fAd K ("used_names", none)))
  d__law_pull : FunD K "_law_pull" "_law_pull" (defArgs s__law_pull) (defBody s__law_pull) (defScope s__law_pull) [] [] (He.fAd K ("_law_pull", none)) (fdOf K (He.fAd K ("_law_pull", none)))
  d__law_of : FunD K "_law_of" "_law_of" (defArgs s__law_of) (defBody s__law_of) (defScope s__law_of) [] [] (He.fAd K ("_law_of", none)) (fdOf K (He.fAd K ("_law_of", none)))
  d__law_same : FunD K "_law_same" "_law_same" (defArgs s__law_same) (defBody s__law_same) (defScope s__law_same) [] [] (He.fAd K ("_law_same", none)) (fdOf K (He.fAd K ("_law_same", none)))
  d__law_mixed : FunD K "_law_mixed" "_law_mixed" (defArgs s__law_mixed) (defBody s__law_mixed) (defScope s__law_mixed) [] [] (He.fAd K ("_law_mixed", none)) (fdOf K (He.fAd K ("_law_mixed", none)))
  d__law_bag : FunD K "_law_bag" "_law_bag" (defArgs s__law_bag) (defBody s__law_bag) (defScope s__law_bag) [] [] (He.fAd K ("_law_bag", none)) (fdOf K (He.fAd K ("_law_bag", none)))
  d__law_letters : FunD K "_law_letters" "_law_letters" (defArgs s__law_letters) (defBody s__law_letters) (defScope s__law_letters) [] [] (He.fAd K ("_law_letters", none)) (fdOf K (He.fAd K ("_law_letters", none)))
  d__law_is_name : FunD K "_law_is_name" "_law_is_name" (defArgs s__law_is_name) (defBody s__law_is_name) (defScope s__law_is_name) [] [] (He.fAd K ("_law_is_name", none)) (fdOf K (He.fAd K ("_law_is_name", none)))
  d__law_names : FunD K "_law_names" "_law_names" (defArgs s__law_names) (defBody s__law_names) (defScope s__law_names) [] [] (He.fAd K ("_law_names", none)) (fdOf K (He.fAd K ("_law_names", none)))
  d__law_leaf : FunD K "_law_leaf" "_law_leaf" (defArgs s__law_leaf) (defBody s__law_leaf) (defScope s__law_leaf) [] [] (He.fAd K ("_law_leaf", none)) (fdOf K (He.fAd K ("_law_leaf", none)))
  d__law_term : FunD K "_law_term" "_law_term" (defArgs s__law_term) (defBody s__law_term) (defScope s__law_term) [] [] (He.fAd K ("_law_term", none)) (fdOf K (He.fAd K ("_law_term", none)))
  d__law_inner : FunD K "_law_inner" "_law_inner" (defArgs s__law_inner) (defBody s__law_inner) (defScope s__law_inner) [] [] (He.fAd K ("_law_inner", none)) (fdOf K (He.fAd K ("_law_inner", none)))
  d__law_words : FunD K "_law_words" "_law_words" (defArgs s__law_words) (defBody s__law_words) (defScope s__law_words) [] [] (He.fAd K ("_law_words", none)) (fdOf K (He.fAd K ("_law_words", none)))
  d__law_distinct : FunD K "_law_distinct" "_law_distinct" (defArgs s__law_distinct) (defBody s__law_distinct) (defScope s__law_distinct) [] [] (He.fAd K ("_law_distinct", none)) (fdOf K (He.fAd K ("_law_distinct", none)))
  d__law_compare : FunD K "_law_compare" "_law_compare" (defArgs s__law_compare) (defBody s__law_compare) (defScope s__law_compare) [] [] (He.fAd K ("_law_compare", none)) (fdOf K (He.fAd K ("_law_compare", none)))
  d__law_tree : FunD K "_law_tree" "_law_tree" (defArgs s__law_tree) (defBody s__law_tree) (defScope s__law_tree) [] [] (He.fAd K ("_law_tree", none)) (fdOf K (He.fAd K ("_law_tree", none)))
  d__law_atoms : FunD K "_law_atoms" "_law_atoms" (defArgs s__law_atoms) (defBody s__law_atoms) (defScope s__law_atoms) [] [] (He.fAd K ("_law_atoms", none)) (fdOf K (He.fAd K ("_law_atoms", none)))
  d__law_condition_words : FunD K "_law_condition_words" "_law_condition_words" (defArgs s__law_condition_words) (defBody s__law_condition_words) (defScope s__law_condition_words) [] [] (He.fAd K ("_law_condition_words", none)) (fdOf K (He.fAd K ("_law_condition_words", none)))
  d_law : FunD K "law" "law" (defArgs s_law) (defBody s_law) (defScope s_law) [] [] (He.fAd K ("law", none)) (fdOf K (He.fAd K ("law", none)))
section
variable {K : PySem.W.Frag} {mg : Str → Option Value}
theorem b_parts_of (T : Txt K mg) : Binds K (fdOf K (He.fAd K ("parts_of", none))) p_parts_of [] := FunD.bindsN (ps := p_parts_of) T.d_parts_of fun _ _ _ _ _ _ us hl => match us, hl with | [_], _ => rfl
theorem b_names_within (T : Txt K mg) : Binds K (fdOf K (He.fAd K ("names_within", none))) p_names_within [] := FunD.bindsN (ps := p_names_within) T.d_names_within fun _ _ _ _ _ _ us hl => match us, hl with | [_], _ => rfl
theorem b_comparisons (T : Txt K mg) : Binds K (fdOf K (He.fAd K ("comparisons", none))) p_comparisons [] := FunD.bindsN (ps := p_comparisons) T.d_comparisons fun _ _ _ _ _ _ us hl => match us, hl with | [_], _ => rfl
theorem b_terms_of (T : Txt K mg) : Binds K (fdOf K (He.fAd K ("terms_of", none))) p_terms_of [] := FunD.bindsN (ps := p_terms_of) T.d_terms_of fun _ _ _ _ _ _ us hl => match us, hl with | [_], _ => rfl
theorem b_condition_names (T : Txt K mg) : Binds K (fdOf K (He.fAd K ("condition_names", none))) p_condition_names [] := FunD.bindsN (ps := p_condition_names) T.d_condition_names fun _ _ _ _ _ _ us hl => match us, hl with | [_], _ => rfl
theorem b_used_names (T : Txt K mg) : Binds K (fdOf K (He.fAd K ("used_names", none))) p_used_names [] := FunD.bindsN (ps := p_used_names) T.d_used_names fun _ _ _ _ _ _ us hl => match us, hl with | [_], _ => rfl
theorem b__law_pull (T : Txt K mg) : Binds K (fdOf K (He.fAd K ("_law_pull", none))) p__law_pull [] := FunD.bindsN (ps := p__law_pull) T.d__law_pull fun _ _ _ _ _ _ us hl => match us, hl with | [_, _], _ => rfl
theorem b__law_of (T : Txt K mg) : Binds K (fdOf K (He.fAd K ("_law_of", none))) p__law_of [] := FunD.bindsN (ps := p__law_of) T.d__law_of fun _ _ _ _ _ _ us hl => match us, hl with | [_, _], _ => rfl
theorem b__law_same (T : Txt K mg) : Binds K (fdOf K (He.fAd K ("_law_same", none))) p__law_same [] := FunD.bindsN (ps := p__law_same) T.d__law_same fun _ _ _ _ _ _ us hl => match us, hl with | [_, _], _ => rfl
theorem b__law_mixed (T : Txt K mg) : Binds K (fdOf K (He.fAd K ("_law_mixed", none))) p__law_mixed [] := FunD.bindsN (ps := p__law_mixed) T.d__law_mixed fun _ _ _ _ _ _ us hl => match us, hl with | [_, _], _ => rfl
theorem b__law_bag (T : Txt K mg) : Binds K (fdOf K (He.fAd K ("_law_bag", none))) p__law_bag [] := FunD.bindsN (ps := p__law_bag) T.d__law_bag fun _ _ _ _ _ _ us hl => match us, hl with | [_], _ => rfl
theorem b__law_letters (T : Txt K mg) : Binds K (fdOf K (He.fAd K ("_law_letters", none))) p__law_letters [] := FunD.bindsN (ps := p__law_letters) T.d__law_letters fun _ _ _ _ _ _ us hl => match us, hl with | [], _ => rfl
theorem b__law_is_name (T : Txt K mg) : Binds K (fdOf K (He.fAd K ("_law_is_name", none))) p__law_is_name [] := FunD.bindsN (ps := p__law_is_name) T.d__law_is_name fun _ _ _ _ _ _ us hl => match us, hl with | [_], _ => rfl
theorem b__law_names (T : Txt K mg) : Binds K (fdOf K (He.fAd K ("_law_names", none))) p__law_names [] := FunD.bindsN (ps := p__law_names) T.d__law_names fun _ _ _ _ _ _ us hl => match us, hl with | [_, _], _ => rfl
theorem b__law_leaf (T : Txt K mg) : Binds K (fdOf K (He.fAd K ("_law_leaf", none))) p__law_leaf [] := FunD.bindsN (ps := p__law_leaf) T.d__law_leaf fun _ _ _ _ _ _ us hl => match us, hl with | [_, _], _ => rfl
theorem b__law_term (T : Txt K mg) : Binds K (fdOf K (He.fAd K ("_law_term", none))) p__law_term [] := FunD.bindsN (ps := p__law_term) T.d__law_term fun _ _ _ _ _ _ us hl => match us, hl with | [_, _, _, _], _ => rfl
theorem b__law_inner (T : Txt K mg) : Binds K (fdOf K (He.fAd K ("_law_inner", none))) p__law_inner [] := FunD.bindsN (ps := p__law_inner) T.d__law_inner fun _ _ _ _ _ _ us hl => match us, hl with | [_], _ => rfl
theorem b__law_words (T : Txt K mg) : Binds K (fdOf K (He.fAd K ("_law_words", none))) p__law_words [] := FunD.bindsN (ps := p__law_words) T.d__law_words fun _ _ _ _ _ _ us hl => match us, hl with | [_, _], _ => rfl
theorem b__law_distinct (T : Txt K mg) : Binds K (fdOf K (He.fAd K ("_law_distinct", none))) p__law_distinct [] := FunD.bindsN (ps := p__law_distinct) T.d__law_distinct fun _ _ _ _ _ _ us hl => match us, hl with | [_], _ => rfl
theorem b__law_compare (T : Txt K mg) : Binds K (fdOf K (He.fAd K ("_law_compare", none))) p__law_compare [] := FunD.bindsN (ps := p__law_compare) T.d__law_compare fun _ _ _ _ _ _ us hl => match us, hl with | [_, _, _, _], _ => rfl
theorem b__law_tree (T : Txt K mg) : Binds K (fdOf K (He.fAd K ("_law_tree", none))) p__law_tree [] := FunD.bindsN (ps := p__law_tree) T.d__law_tree fun _ _ _ _ _ _ us hl => match us, hl with | [_, _, _], _ => rfl
theorem b__law_atoms (T : Txt K mg) : Binds K (fdOf K (He.fAd K ("_law_atoms", none))) p__law_atoms [] := FunD.bindsN (ps := p__law_atoms) T.d__law_atoms fun _ _ _ _ _ _ us hl => match us, hl with | [_], _ => rfl
theorem b__law_condition_words (T : Txt K mg) : Binds K (fdOf K (He.fAd K ("_law_condition_words", none))) p__law_condition_words [] := FunD.bindsN (ps := p__law_condition_words) T.d__law_condition_words fun _ _ _ _ _ _ us hl => match us, hl with | [_, _], _ => rfl
theorem b_law (T : Txt K mg) : Binds K (fdOf K (He.fAd K ("law", none))) p_law [] := FunD.bindsN (ps := p_law) T.d_law fun _ _ _ _ _ _ us hl => match us, hl with | [_], _ => rfl
end
end PW
/-! ### defs that are called where no repr is under way: repr of tuples within tuples -/
namespace PW
open PySem PySem.Spec PyProof.Rows L2
/-- a def's promise where no guarded call is under way -/
structure FnOkG (P : Program) (w : World) (K : PySem.W.Frag) (mg : Str → Option Value) (base : Heap) (CX : CXT) (k : Nat) (f : Addr) (fd : FuncData) (ps : List Str) (sp : Sp) : Prop where
  len : ∀ vs H Q E, sp vs H Q E → vs.length = ps.length
  run : ∀ (A : Around) (outer : List Env) (s : Shared) (H : Hp) (args : Args) (us : List Value) (vs : List V) (Q : VK) (E : XK), A.guards = some [] → Room k A → Env0 P w K mg base A outer s H → BindsTo s fd args (ps.zip us) → Vals vs us → sp vs H Q E →
    codeAny (model P w) A (.call (.ref f) args) (CR CX outer P w H s Q E) s
section
variable {P : Program} {w : World} {K : PySem.W.Frag} {mg : Str → Option Value} {base : Heap} {x qual : Str} {params : Arguments} {body : List Stmt} {scope : Scope} {dvs : List V} {kws : List (Str × V)} {f : Addr} {fd : FuncData}
theorem FunD.okG {CX : CXT} {N ps : List Str} {k : Nat} {sp : Sp} (F : FunD K x qual params body scope dvs kws f fd) (S : FnScope N ps scope) (len : ∀ vs H Q E, sp vs H Q E → vs.length = ps.length)
    (hbody : ∀ (cdv : Value) (A : Around) (outer : List Env) (s : Shared) (H : Hp) (vs : List V) (Q : VK) (E : XK), A.guards = some [] → Room k (A.deeper (envOfC qual scope s.heap.objs.size f cdv)) → sp vs H Q E →
      ∃ t, PSs (cxOf CX P w K mg base N qual scope f cdv A outer s H E) body t ∧ t { nx := fun _ H' => Q .non H', rt := Q } (start N vs) H) : FnOkG P w K mg base CX (k + 1) f fd ps sp := by
  obtain ⟨oc, od, dV, kV, doc, pm, an, cdv, ct, osl, rfl, lk, hcd, _, _⟩ := F.ex
  exact ⟨len, fun A outer s H args us vs Q E hg hr e0 hb r hsp => LamX.run_ofS lk hcd S hr e0 hb r (len _ _ _ _ hsp) fun hr' => hbody cdv A outer s H vs Q E hg hr' hsp⟩
end
/-- the heap at the law's call: of what the head left, the script alone may be told, where the written part does not hold it -/
def scrH (K : PySem.W.Frag) (a : Addr) (ob : Obj) (xs : List V) : Hp := fun b => if b = a ∧ K.lookup a = none then some (.frz ob (.lst xs)) else none
theorem scrH_ins {K : PySem.W.Frag} {a b : Addr} {ob : Obj} {xs : List V} {u : HO} (h : scrH K a ob xs b = some u) : (b = a ∧ K.lookup a = none) ∧ u = .frz ob (.lst xs) := by
  unfold scrH at h
  split at h
  · rename_i c
    exact ⟨c, (Option.some.inj h).symm⟩
  · cases h
theorem scrH_none {K : PySem.W.Frag} {a b : Addr} {ob : Obj} {xs : List V} (h : ¬ (b = a ∧ K.lookup a = none)) : scrH K a ob xs b = none := if_neg h
theorem scrH_at {K : PySem.W.Frag} {a : Addr} {ob : Obj} {xs : List V} (h : K.lookup a = none) : scrH K a ob xs a = some (.frz ob (.lst xs)) := if_pos ⟨rfl, h⟩
theorem scrH_only {K : PySem.W.Frag} {a : Addr} {ob : Obj} {xs : List V} : Only (scrH K a ob xs) := fun b => by
  cases e : scrH K a ob xs b with
  | none => exact .inl rfl
  | some u => exact .inr ⟨ob, xs, by rw [(scrH_ins e).2]⟩
section
variable {P : Program} {w : World} {K : PySem.W.Frag} {mg mb : Str → Option Value} {CX : CXT} {k : Nat} {fa a : Addr} {fd : FuncData} {x : Str} {sp : Sp} {s : Shared} {vs : List Value} {ns : List Int}
/-- the law's call at the head's end, by a promise for where no repr is under way -/
theorem lawG_call (KX : K.In s.heap) (hns : s.heap.Ns mainGlobals mg) (hb : s.heap.Ns builtinsNs mb) (hbb : ∀ x : Str, x ≠ "__name__" → mb x = bootBuiltins x) (hlim : s.heap.NoLimit) (hg : s.gens = #[])
    (ha : s.heap.get? a = some { cls := .type "list", data := .seq vs.toArray }) (hi : IntsAre vs ns) (hl : ns.length ≤ sizeLine) (hr : Room k callerA)
    (F : ∀ base : Heap, K.In base → base.Ns mainGlobals mg → FnOkG P w K mg base CX k fa fd [x] sp) (hbind : ∀ (s : Shared) (u : Value), BindsTo s fd ⟨[u], []⟩ [(x, u)])
    (hsp : ∀ H : Hp, Only H → SqL K H a (ns.map V.int) → sp [.ref a] H (fun v _ => v = .bl true) fun _ _ _ => False)
    (hCX : ∀ H e s', CX [] H s (fun _ _ _ => False) e s' → False) :
    codeAny (model P w) callerA (.call (.ref fa) ⟨[.ref a], []⟩) (fun r s' => r = .ok (.ret (.bool true)) ∧ OldK s.heap s'.heap ∧ s'.os = s.os ∧ AllBare s'.gens) s := by
  have rv := vals_ints hi
  generalize eO : ({ cls := .type "list", data := .seq vs.toArray } : Obj) = ob at ha
  generalize eH : scrH K a ob (ns.map V.int) = H
  -- what the top holds is kept beside the script
  have old : ∀ {b : Addr} {o : Obj}, s.heap.get? b = some o → ((∃ es ep, o.data = .dict es ep) ∨ K.lookup b = some o) → (hidT s.heap H).get? b = some o := fun {b o} e c => hidT_get e (by
    subst eH
    refine scrH_none ?_
    rintro ⟨rfl, n⟩
    rcases c with ⟨es, ep, c⟩ | c
    · have e2 := Option.some.inj (e.symm.trans ha)
      subst e2
      subst eO
      have c' : Data.seq vs.toArray _ = Data.dict es ep := c
      cases c'
    · cases n.symm.trans c)
  have ns' : ∀ {b : Addr} {m : Str → Option Value}, s.heap.Ns b m → (hidT s.heap H).Ns b m := fun {b m} z => by
    obtain ⟨o, es, ep, e, d, r⟩ := z
    exact ⟨o, es, ep, old e (.inl ⟨es, ep, d⟩), d, r⟩
  have kb : K.In (hidT s.heap H) := fun b o e => old (KX b o e) (.inr e)
  obtain ⟨ml, l1, l2⟩ := hlim
  have mo : Mod K mg (hidT s.heap H) := ⟨kb, ns' hns, ⟨mb, ns' hb, hbb⟩, ml, ns' l1, l2⟩
  have hL : SqL K H a (ns.map V.int) := by
    cases q : K.lookup a with
    | none =>
      refine .inl (.inr ⟨ob, ?_⟩)
      subst eH
      exact scrH_at q
    | some o =>
      have e2 := Option.some.inj ((KX a o q).symm.trans ha)
      subst e2
      subst eO
      refine .inr ⟨_, vs.toArray, _, q, rfl, rfl, rfl, ?_, by simpa using rv⟩
      rw [List.size_toArray, hi.length]
      exact hl
  have ok : HOk P w H s.heap := fun b u e => by
    subst eH
    obtain ⟨⟨rfl, _⟩, rfl⟩ := scrH_ins e
    subst eO
    refine ⟨ha, ?_, vs, _, rv, ha⟩
    rw [List.length_map]
    exact hl
  have e0 : Env0 P w K mg (hidT s.heap H) callerA [] s H := ⟨rfl, mo, fun b o e => of_hidT e, Nat.le_of_eq (hidT_size _ _), trivial, (fun b z => by cases z), ok, .of_eq hg⟩
  have hO : Only H := by
    subst eH
    exact scrH_only
  refine codeAny_mono ((F _ kb (ns' hns)).run callerA [] s H _ [.ref a] [.ref a] _ _ rfl hr e0 (hbind s (.ref a)) (.cons rfl .nil) (hsp H hO hL)) fun r s' z => ?_
  match r, z with
  | .error e, z => exact (hCX H e s' z).elim
  | .ok .next, z => exact False.elim z
  | .ok .brk, z => exact False.elim z
  | .ok .cont, z => exact False.elim z
  | .ok (.ret u), z =>
    obtain ⟨v, H', os, bare, un, hok', r', q⟩ := z
    have q : v = .bl true := q
    subst q
    cases (show u = Value.bool true from r')
    refine ⟨rfl, OldK.of_keep fun b o e => ?_, os, bare⟩
    rcases hO b with n | ⟨o1, xs, n⟩
    · exact un.keep b o e n (fun z => by cases z) (fun z => by cases z)
    · have k1 := (ok b _ n).1
      rw [e] at k1
      cases k1
      exact (hok' b _ (un.frzs b o _ n)).1
end
theorem walk_ofEG {l : PySem.W.OpenLaw} {n k : Nat} {q : Program} {loose : List Str} {XP : (Str → Option Value) → Heap → Prop} {YP : World → Heap → Prop} {d : DefRec} {CX : CXT} {x : Str}
    (hn : l.most = some n) (hn2 : n ≤ sizeLine) (hdf : d.params.defaults = []) (hr : Room k callerA)
    (F : ∀ (w : World) (mg : Str → Option Value) (fa : Addr) (h : Heap), YP w h → h.Ns mainGlobals mg → mg d.name = some (.ref fa) →
      ∃ (K : PySem.W.Frag) (fd : FuncData) (sp : Sp), K.In h ∧ (∀ (s : Shared) (u : Value), BindsTo s fd ⟨[u], []⟩ [(x, u)]) ∧
        (∀ (H : Hp) (a : Addr) (ns : List Int), ns.length ≤ n → Only H → SqL K H a (ns.map V.int) → sp [.ref a] H (fun v _ => v = .bl true) fun _ _ _ => False) ∧
        ∀ base : Heap, K.In base → base.Ns mainGlobals mg → FnOkG l.prog w K mg base CX k fa fd [x] sp)
    (hCX : ∀ (H : Hp) (s : Shared) (e : Value) (s' : Shared), CX [] H s (fun _ _ _ => False) e s' → False) :
    PySem.W.WalkO q loose XP YP l.row.toRowW d [] (fun f vs => PySem.call f vs) := by
  refine Att.attach_call hn hdf fun w s₀ s₁ mg mb fa o pm cd doc a vs ns G Y ho hd hcd hmg hobj hints hlen hg => ?_
  obtain ⟨K, fd, sp, KX, hb, hsp, hF⟩ := F w mg fa _ Y G.T.g hmg
  exact lawG_call KX G.T.g G.T.b G.T.builtins G.T.nolimit hg hobj hints (Nat.le_trans hlen hn2) hr hF hb (fun H hO hS => hsp H a ns hlen hO hS) fun H e s' => hCX H s₁ e s'
/-! ### data in the heap, shown -/
/-- repr(x) of such a datum -/
def cReprD (K : PySem.W.Frag) : List V → Hp → VK → Prop := fun xs H Q => ∃ (p : Addr) (d : PyData), xs = [.ref p] ∧ Dp K H (.ref p) d ∧ d.showable = true ∧ d.hasDict = false ∧ d.shown.length ≤ sizeLine ∧ d.depth ≤ 60 ∧ Q (.str d.shown) H
theorem call_reprD {X : Cx} (hg : X.A.guards = some []) (hu : X.A.units + 64 < cLine) : CallR X (.builtin "repr") (cReprD X.K) := by
  intro pins s σ H xs us Q I r h
  obtain ⟨p, d, rfl, hd, h1, h2, h3, h4, q⟩ := h
  obtain ⟨u, rfl, ru⟩ := vals1 r
  obtain ⟨as, hr⟩ := Dp.reads I d _ u hd ru
  cases (show u = Value.ref p from ru)
  exact repr_of_reads' hr h1 (PyData.noDict_hsm h2) hg (by omega) (fun _ _ e => e) (fun h' t tk k => ⟨.str d.shown, H, I.kept k, ⟨t, rfl⟩, q⟩) h3
end PW
/-! ### != [], str of an int or a text -/
namespace PW
open PySem PySem.Spec PyProof.Rows L2 PySem.SeqAt
section
variable {X : Cx}
/-- str of an int or of a text -/
def cStrOr : List V → Hp → VK → Prop := fun xs H Q => (∃ i, xs = [.int i] ∧ i.natAbs.log2 < 1920 ∧ Q (.str (toString i)) H) ∨ ∃ a, xs = [.str a] ∧ Q (.str a) H
theorem call_strT : CallR X (.type "str") (fun xs H Q => ∃ a, xs = [.str a] ∧ Q (.str a) H) := fun pins s σ H xs us Q I r h => by
  obtain ⟨z, rfl, q⟩ := h
  obtain ⟨u, rfl, t, rfl⟩ := vals1 r
  exact PySem.P.str_of_str ⟨.str z, H, I, ⟨_, rfl⟩, q⟩
theorem call_strOr : CallR X (.type "str") cStrOr := fun pins s σ H xs us Q I r h => h.elim (call_str_int pins s σ H xs us Q I r) (call_strT pins s σ H xs us Q I r)
theorem r_strI {i : Int} {H : Hp} {Q : VK} (h : i.natAbs.log2 < 1920) (q : Q (.str (toString i)) H) : cStrOr [.int i] H Q := .inl ⟨i, rfl, h, q⟩
theorem r_strS {z : Str} {H : Hp} {Q : VK} (q : Q (.str z) H) : cStrOr [.str z] H Q := .inr ⟨z, rfl, q⟩
theorem r_ixS {z : Str} {i : Int} {c : Nat} {H : Hp} {Q : VK} (hz : z.length ≤ sizeLine) (h : atI z.cps.toList i = some c) (q : Q (.str ⟨#[c]⟩) H) : rIxS (.str z) (.int i) H Q := ⟨z, i, c, rfl, rfl, hz, h, q⟩
theorem eqv_strs {ns : List Str} : PyData.eqv (.list (ns.map .str)) (.list []) = ns.isEmpty := by
  cases ns <;> rfl
theorem dp_strs {K : PySem.W.Frag} {H : Hp} {a : Addr} {ns : List Str} (h : SqL K H a (ns.map V.str)) : Dp K H (.ref a) (.list (ns.map .str)) := by
  refine .lst h ?_
  clear h
  induction ns with
  | nil => exact .nil
  | cons x r ih => exact .cons (.str x) ih
theorem shaped_strs {ns : List Str} (h : ∀ z ∈ ns, PyData.strOk z = true) : SeqAt.shaped (.list (ns.map .str)) = true := by
  have h1 : PyData.canLayAll0 (ns.map .str) = true := by
    induction ns with
    | nil => rfl
    | cons x r ih =>
      simp only [List.map_cons, PyData.canLayAll0, PyData.canLay0]
      rw [h x List.mem_cons_self, ih fun z hz => h z (List.mem_cons_of_mem _ hz)]
      rfl
  have h2 : PyData.depthAll (ns.map .str) ≤ 0 := by
    clear h h1
    induction ns with
    | nil => exact Nat.le_refl _
    | cons x r ih =>
      simp only [List.map_cons, PyData.depthAll, PyData.depth]
      omega
  unfold SeqAt.shaped
  simp only [PyData.canLay0, PyData.depth]
  rw [h1, Bool.true_and]
  exact decide_eq_true (by omega)
/-- ns != [] -/
theorem r_neNs {K : PySem.W.Frag} {H : Hp} {a b : Addr} {ns : List Str} {Q : VK} (h : SqL K H a (ns.map V.str)) (ok : ∀ z ∈ ns, PyData.strOk z = true) (h2 : SqL K H b []) (q : Q (.bl (!ns.isEmpty)) H) : rNeD K (.ref a) (.ref b) H Q :=
  ⟨_, .list [], dp_strs h, .lst h2 .nil, shaped_strs ok, by decide +kernel, by rw [eqv_strs]; exact q⟩
end
end PW
/-! ### sets of texts: set(list of texts), sorted(set) -/
namespace PW
open PySem PySem.Spec PyProof.Rows L2
/-- the set at a holds the texts l, once each -/
def TxAt (P : Program) (w : World) (h : Heap) (a : Addr) (l : List Str) : Prop :=
  ∃ D : Froz.SD, h.get? a = some (Froz.sObj "set" D) ∧ Froz.TxOk P w D l ∧ Ris D.2.2.place.toList ∧ (w.params.followText "set-order" = true ∨ D.2.2.led = true) ∧ l.Nodup
def SetS (P : Program) (w : World) (a : Addr) (l : List Str) : HO := .ext fun h => TxAt P w h a l
/-- one more text -/
def putS (l : List Str) (k : Str) : List Str := if k ∈ l then l else k :: l
theorem putS_len (l : List Str) (k : Str) : (putS l k).length ≤ l.length + 1 := by
  unfold putS
  split
  · exact Nat.le_succ _
  · exact Nat.le_refl _
theorem putS_mem {l : List Str} {k x : Str} : x ∈ putS l k ↔ x ∈ l ∨ x = k := by
  unfold putS
  split
  · rename_i h
    exact ⟨.inl, fun z => z.elim id fun e => e ▸ h⟩
  · rw [List.mem_cons]
    exact Or.comm
def runS (ks : List Str) : List Str := ks.foldl putS []
theorem fold_mem {x : Str} : ∀ (ks l : List Str), x ∈ ks.foldl putS l ↔ x ∈ l ∨ x ∈ ks
  | [], l => by simp
  | k :: r, l => by
    rw [List.foldl_cons, fold_mem r, putS_mem, List.mem_cons, or_assoc]
theorem runS_mem {ks : List Str} {x : Str} : x ∈ runS ks ↔ x ∈ ks := by
  unfold runS
  rw [fold_mem]
  simp
theorem fold_len : ∀ (ks l : List Str), (ks.foldl putS l).length ≤ l.length + ks.length
  | [], l => Nat.le_refl _
  | k :: r, l => by
    have h1 := fold_len r (putS l k)
    have h2 := putS_len l k
    rw [List.foldl_cons, List.length_cons]
    omega
theorem runS_len (ks : List Str) : (runS ks).length ≤ ks.length := by
  have := fold_len ks []
  simpa [runS] using this
theorem runS_snoc (ks : List Str) (k : Str) : runS (ks ++ [k]) = putS (runS ks) k := by
  unfold runS
  rw [List.foldl_append]
  rfl
/-- a list that holds all of l and is as long is l in some order -/
theorem perm_all {α : Type} [BEq α] [LawfulBEq α] : ∀ (l ks : List α), l.Nodup → (∀ x ∈ l, x ∈ ks) → ks.length = l.length → ks.Perm l
  | [], ks, _, _, e => by
    rw [List.length_eq_zero_iff.mp e]
  | x :: l, ks, d, h, e => by
    obtain ⟨d1, d2⟩ := List.nodup_cons.mp d
    have hx := h x List.mem_cons_self
    have p := List.perm_cons_erase hx
    refine p.trans ((perm_all l (ks.erase x) d2 (fun y hy => ?_) ?_).cons x)
    · exact (List.mem_erase_of_ne fun z => d1 (by rw [← z]; exact hy)).mpr (h y (List.mem_cons_of_mem _ hy))
    · rw [List.length_erase_of_mem hx, e]
      rfl
section
variable {P : Program} {w : World}
theorem tail_led {ep : Nat} {es : Array (Int × Value)} {t2 : SetTable} {b : Bool} : (Froz.tailTx ep es t2 b).2.2.led = t2.led := by
  unfold Froz.tailTx
  split
  · exact relayAll_led _ _ _
  · rfl
theorem tail_ris {ep : Nat} {es : Array (Int × Value)} {t2 : SetTable} {b : Bool} (r : Ris t2.place.toList) : Ris (Froz.tailTx ep es t2 b).2.2.place.toList := by
  unfold Froz.tailTx
  split
  · exact relayAll_ris _ _ _
  · exact r
theorem addTx_led {h : Int} {v : Value} {D : Froz.SD} : (Froz.addTx h v D).2.2.led = D.2.2.led := by
  unfold Froz.addTx
  rw [tail_led]
  split <;> exact layNew_led _ _ _ _
theorem addTx_ris {h : Int} {v : Value} {D : Froz.SD} (r : Ris D.2.2.place.toList) : Ris (Froz.addTx h v D).2.2.place.toList := by
  unfold Froz.addTx
  refine tail_ris ?_
  split <;> exact layNew_ris _ _ _ _ r
theorem TxAt.at {h h' : Heap} {a : Addr} {l : List Str} (R : TxAt P w h a l) (k : ∀ o, h.get? a = some o → h'.get? a = some o) : TxAt P w h' a l := by
  obtain ⟨D, e, r⟩ := R
  exact ⟨D, k _ e, r⟩
variable {A : Around} {E : Value → Shared → Prop} {s : Shared} {a : Addr} {l : List Str}
theorem txAt_add {k : Str} {u : Tok} {Q : Bool → Shared → Prop} (R : TxAt P w s.heap a l) (hb : l.length + 1 < scanBound)
    (h : ∀ b h', Heap.SameBut a s.heap h' → TxAt P w h' a (putS l k) → Q b { s with heap := h' }) : wpAny (model P w) A (setAddHashed a (.str k u) (hashStr w k)) Q E s := by
  obtain ⟨D, ho, F, r, ld, nd⟩ := R
  by_cases hk : k ∈ l
  · have e : putS l k = l := if_pos hk
    rw [e] at h
    obtain ⟨x, hx, px⟩ := (F.mem k).mp hk
    have hz : D.1.size < scanBound := by
      have := F.sz
      omega
    unfold setAddHashed setAddHashedIn
    refine wpAny_holding (wpAny_bind (wpAny_setState_of ho rfl F.fit ?_))
    dsimp only
    rw [byScan_of rfl hz F.el]
    simp only [↓reduceIte]
    unfold setAddByScan
    refine wpAny_bind (wpAny_bind (wpAny_rule (wpAny_bind (wpAny_setScan_of (knd := strKind P w) (k := k) (Froz.is_str k u) ho rfl F.fit F.el ?_))))
    cases hf : List.findIdx? (fun e => (strKind P w).is k e.2) D.1.toList with
    | none =>
      have c := List.findIdx?_eq_none_iff.mp hf x hx
      rw [px] at c
      cases c
    | some j => exact wpAny_pure (wpAny_pure (h _ s.heap (Heap.SameBut.refl a s.heap) ⟨D, ho, F, r, ld, nd⟩))
  · have e : putS l k = k :: l := if_neg hk
    rw [e] at h
    refine Froz.add_x ho F hk hb (h _ _ (Heap.SameBut.update _ a _) ⟨_, Froz.get_upd _ ho rfl, Froz.add_ok u F, addTx_ris r, ?_, List.nodup_cons.mpr ⟨hk, nd⟩⟩)
    rw [addTx_led]
    exact ld
end
section
variable {P : Program} {w : World} {A : Around} {R : Result → Shared → Prop} {I : Addr} {fp wr : List Addr} {G : Array GenState → Array GenState → Prop} {n : Nat} {Pv : Nat → Value → Prop} {St : Nat → Shared → Prop}
/-- the loop of set.update over texts -/
theorem set_loopS (W : WalksS P w A.in1 I fp wr G n Pv St) (S : Addr) (hSf : S ∉ fp) (ks : List Str) (hn : ks.length = n) (hv : ∀ i v, Pv i v → ∃ k t, ks[i]? = some k ∧ v = .str k t) (hb : n + 1 < scanBound) :
    ∀ (m i : Nat) (s : Shared), n - i = m → i ≤ n → St i s → TxAt P w s.heap S (runS (ks.take i)) →
      (∀ s', Moved (S :: wr) G s s' → TxAt P w s'.heap S (runS ks) → R (.ok (.ret .none)) s') →
      codeAny (model P w) A (.builtin "set.update.loop" ⟨[.ref S, .ref I], []⟩) R s := by
  have hSw : S ∉ wr := fun h => hSf (W.sub _ h)
  have more : ∀ b ∈ wr, b ∈ S :: wr := fun b hb => List.mem_cons_of_mem _ hb
  intro m
  induction m with
  | zero =>
    intro i s hk hi hst hS hR
    obtain rfl : i = n := by omega
    rw [← hn, List.take_length] at hS
    refine codeAny_builtin F.entry_set_update_loop ?_
    rw [Around.under_plainId F.plain_set_update_loop _]
    show wpAny _ A.in1 (pyNext (.ref I) >>= _) _ _ s
    refine wpAny_bind (W.done s _ _ hst fun s' hm => ?_)
    show wpAny _ A.in1 (ret Value.none) _ _ s'
    exact wpAny_pure (hR s' (hm.mono more) (hS.at (hm.heap S · hSw)))
  | succ m ih =>
    intro i s hk hi hst hS hR
    have hlt : i < n := by omega
    refine codeAny_builtin F.entry_set_update_loop ?_
    rw [Around.under_plainId F.plain_set_update_loop _]
    show wpAny _ A.in1 (pyNext (.ref I) >>= _) _ _ s
    refine wpAny_bind (W.item i s _ _ hlt hst fun v s' hP hst' hm => ?_)
    obtain ⟨k, t, ek, rfl⟩ := hv i v hP
    show wpAny _ A.in1 (holding [Value.str k t] (setAdd S (.str k t)) >>= _) _ _ s'
    refine wpAny_bind (wpAny_holding ?_)
    unfold setAdd
    refine wpAny_holding (wpAny_bind ((strKind P w).pyHash (k := k) (Froz.is_str k t) ?_))
    have hl1 := runS_len (ks.take i)
    have hl2 := List.length_take_le i ks
    refine txAt_add (s := { s' with toks := s'.toks + 1 }) (hS.at (hm.heap S · hSw)) (by omega) fun b h' sb hT => ?_
    have e : ks.take (i + 1) = ks.take i ++ [k] := by rw [List.take_succ, ek] <;> rfl
    rw [← runS_snoc, ← e] at hT
    refine wpAny_pure ⟨plainId_quiet F.plain_set_update_loop _, ih (i + 1) _ (by omega) hlt (W.frame _ s' _ _ hst' (Nat.le_succ _) fun b hb o e => ?_) hT fun s'' hm2 hT2 => ?_⟩
    · exact (sb.2 b fun z : b = S => hSf (z ▸ hb)).trans e
    · refine hR s'' (Moved.trans W.gtrans ((hm.mono more).then_heap (Nat.le_succ _) fun b o hb e => ?_) hm2) hT2
      exact (sb.2 b fun z : b = S => hb (z ▸ List.mem_cons_self)).trans e
end
end PW
/-! ### sorted(list of texts) of any length -/
namespace PW
open PySem PySem.Spec PyProof.Rows L2
section
variable {X : Cx}
def cSortA (K : PySem.W.Frag) : List V → Hp → VK → Prop := fun vs H Q => ∃ (a : Addr) (ks : List Str), vs = [V.ref a] ∧ SqL K H a (ks.map V.str) ∧ ∀ (ys : List Str) (p : Addr), ys.Perm ks → sortedS ys = true → H p = none → Q (.ref p) (upd H p (.lst (ys.map V.str)))
theorem cr_sortedA : CallR X (.builtin "sorted") (cSortA X.K) := by
  intro pins s σ H vs us Q I r h
  obtain ⟨a, ks, rfl, hs, q⟩ := h
  obtain ⟨its, rv, hl, hz⟩ := I.list hs
  rw [Vals.ref1 r]
  have hn := rv.length
  refine sorted_strsAny hl.isList rv.strs (by rw [← hn]; exact hz) fun out ys h1 h2 h3 => ?_
  obtain ⟨ep, he⟩ := sortedAll_at s.heap its out
  have hlen : (ys.map V.str).length ≤ sizeLine := by
    rw [List.length_map] at hz ⊢
    rw [h2.length_eq]
    exact hz
  exact ⟨.ref _, upd H (s.heap.objs.size + 1) (.lst (ys.map V.str)), I.laid (t' := s.toks) (fun _ _ => sortedAll_old) (Nat.le_succ _) ⟨hlen, out.toList, ep, vals_of_strs h1, he⟩, rfl, q ys _ h2 h3 (I.hok.fresh (Nat.le_succ _))⟩
end
end PW
/-! ### the calls set(list of texts), sorted(set of texts) -/
namespace PW
open PySem PySem.Spec PyProof.Rows L2
section
variable {P : Program} {w : World} {A : Around} {E : Value → Shared → Prop} {s : Shared}
/-- an empty set, its order told -/
def bare0 (w : World) : Obj := { cls := .type "set", dict := none, data := .set #[] 0 (.fresh 0 0 (!w.params.followText "set-order")) }
theorem bare_tx {h : Heap} : TxAt P w (h.push (bare0 w)) h.objs.size [] :=
  ⟨(#[], 0, .fresh 0 0 (!w.params.followText "set-order")), Heap.get?_push_size _ rfl, Froz.TxOk.nil rfl, List.Pairwise.nil, by
    show _ ∨ (!w.params.followText "set-order") = true
    cases w.params.followText "set-order"
    · exact .inr rfl
    · exact .inl rfl, List.Pairwise.nil⟩
theorem set_newS (v : Value) {Q : Value → Shared → Prop} (h : Q (.ref s.heap.objs.size) { s with heap := s.heap.push (bare0 w) }) :
    codeAny (model P w) A (.call (.builtin "set.__new__") ⟨[.type "set", v], []⟩) (wants Q E) s := by
  refine codeAny_of_tree ?_
  show wpAny _ A.in1 (do checkBuiltinCall "set.__new__" ⟨[.type "set", v], []⟩; again (.builtin "set.__new__" ⟨[.type "set", v], []⟩)) _ _ s
  refine wpAny_bind (wpAny_of_eq (F.newCall_set_1 v) (wpAny_pure ⟨plainId_quiet F.plain_set_new _, codeAny_builtin F.entry_set_new ?_⟩))
  rw [Around.under_plainId F.plain_set_new _]
  have hs := sub_set_self
  unfold bare0 at h
  unfold Builtin.«set.__new__» Builtin.Frozenset.newClass
  obtain ⟨h0, h1, h2, h3, h4⟩ := s
  dsimp only
  wp_walk
  refine wpAny_askSetting (wpAny_pure ?_)
  dsimp only
  simp only [newObj]
  exact wpAny_bind (wpAny_alloc (wpAny_pure (wpAny_pure h)))
/-- set(l) of a list of texts -/
theorem set_ofS {l : Addr} {items : Array Value} {ks : List Str} {Q : Value → Shared → Prop} (hh : A.handled = none) (hl : s.heap.IsList l items) (hi : StrsAre items.toList ks) (hb : items.size + 1 < scanBound)
    (h : ∀ (h' : Heap) (tk : Nat), TxAt P w h' s.heap.objs.size (runS ks) → (∀ b o, b < s.heap.objs.size → s.heap.get? b = some o → h'.get? b = some o) → Q (.ref s.heap.objs.size) { s with heap := h', toks := tk }) :
    wpAny (model P w) A (call (.type "set") [.ref l]) Q E s := by
  obtain ⟨c, tl, hmro⟩ := F.called_set.mro
  have hmade := F.called_set.made
  have hsub := F.called_set.sub
  refine wpAny_call (codeAny_of_tree ?_)
  show wpAny _ _ (callAny (.type "set") _) _ _ _
  refine wpAny_pure ⟨Code.quiet_builtin _ (by decide +kernel), codeAny_builtin F.entry_type_call ?_⟩
  rw [Around.under_plain (weight_type_call_type "set" [.ref l] []) rfl]
  have h1 := F.called_set.notType
  have h2 := F.called_set.canCreate
  have hct := F.typeCall_set_1 (.ref l)
  repeat (any_goals (first | assumption | wp_step))
  refine codeAny_mono (set_newS (.ref l) (E := E) (Q := fun u s1 => u = .ref s.heap.objs.size ∧ s1 = { s with heap := s.heap.push (bare0 w) }) ⟨rfl, rfl⟩) fun r s1 hr => ?_
  match r, hr with
  | .error e, hr => exact hr
  | .ok (.ret u), hr =>
    obtain ⟨rfl, rfl⟩ := hr
    have hS : (s.heap.push (bare0 w)).get? s.heap.objs.size = some (bare0 w) := Heap.get?_push_size _ rfl
    have hT : Shared.TypeIs { s with heap := s.heap.push (bare0 w) } (.ref s.heap.objs.size) "set" := ⟨_, hS, rfl⟩
    have hli := F.called_set.init.lookup
    have hbi := F.called_set.init.bind (.ref s.heap.objs.size)
    repeat (any_goals (first | assumption | wp_step))
    refine codeAny_mono (codeAny_call_builtin (R := wants (fun r s2 => r = .none ∧ ∃ h' tk, s2 = { s with heap := h', toks := tk } ∧ TxAt P w h' s.heap.objs.size (runS ks) ∧ (∀ b o, b < s.heap.objs.size → s.heap.get? b = some o → h'.get? b = some o)) E)
      F.called_set.init.plain F.entry_set_init (check_set_init_1 hT ?_)) fun r2 s2 hr2 => ?_
    · obtain ⟨ol, hol, hcl, nl, hdl⟩ := hl
      obtain ⟨ocls, odict, odata, oslots⟩ := ol
      simp only at hcl hdl
      subst hcl
      subst hdl
      have hol' : (s.heap.push (bare0 w)).get? l = some { cls := .type "list", dict := odict, data := .seq items nl, slots := oslots } := Heap.get?_push_of_some _ hol
      have hsls := F.sub_list_set
      have hslf := F.sub_list_frozenset
      have hne : (Value.type "list" == Value.type "dict") = false := by decide
      have hl1 : (s.heap.push (bare0 w)).IsList l items := ⟨_, hol', rfl, nl, rfl⟩
      unfold Builtin.«set.__init__» noKeywords Builtin.Frozenset.updateFrom
      generalize hPI : pyIter = PI
      wp_walk
      subst hPI
      refine wpAny_pyIter_list hl1 ?_
      refine wpAny_bind (wpAny_runValue ?_)
      have hlS : l < s.heap.objs.size := Heap.lt_size hol
      have hsz : (s.heap.push (bare0 w)).objs.size = s.heap.objs.size + 1 := Heap.size_push ..
      have hneI : l ≠ (s.heap.push (bare0 w)).objs.size := by
        rw [hsz]
        exact Nat.ne_of_lt (Nat.lt_succ_of_lt hlS)
      have hSf : s.heap.objs.size ∉ [(s.heap.push (bare0 w)).objs.size, l] := by
        simp only [List.mem_cons, List.not_mem_nil, or_false, not_or]
        rw [hsz]
        exact ⟨Nat.ne_of_lt (Nat.lt_succ_self _), Nat.ne_of_gt hlS⟩
      have hkn : ks.length = items.size := by
        rw [← hi.length, Array.length_toList]
      have hh3 : A.in1.in1.in1.handled = none := by simp [hh]
      refine set_loopS ((Walks.list hh3 _ l hneI items).toS) s.heap.objs.size hSf ks hkn (fun i v hv => ?_) hb (items.size - 0) 0 _ (by omega) (Nat.zero_le _) ⟨⟨_, Heap.get?_push_size _ rfl, rfl, rfl⟩, hl1.push _⟩ (bare_tx.at fun o e => Heap.get?_push_of_some _ e) fun s' hm hT' => ?_
      · have hv' : items.toList[i]? = some v := by rw [Array.getElem?_toList]; exact hv
        obtain ⟨y, tk, e1, e2⟩ := hi.item i v hv'
        exact ⟨y, tk, e2, e1⟩
      · obtain ⟨h', g', d', tk', os'⟩ := s'
        have eg : g' = s.gens := hm.gens
        have ed : d' = s.drawn := hm.drawn
        have eo : os' = s.os := hm.os
        subst eg
        subst ed
        subst eo
        show wpAny _ _ _ _ _ _
        refine wpAny_pure ?_
        show wpAny _ _ (ret Value.none) _ _ _
        refine wpAny_pure ⟨rfl, h', tk', rfl, hT', fun b o hb e => ?_⟩
        refine hm.heap b o ?_ (Heap.get?_push_of_some _ (Heap.get?_push_of_some _ e))
        simp only [List.mem_cons, List.not_mem_nil, or_false, not_or]
        rw [hsz]
        exact ⟨Nat.ne_of_lt hb, Nat.ne_of_lt (Nat.lt_succ_of_lt hb)⟩
    · match r2, hr2 with
      | .error e, hr2 => exact hr2
      | .ok (.ret u), hr2 =>
        obtain ⟨rfl, h', tk, rfl, hT', hk'⟩ := hr2
        repeat (any_goals (first | assumption | wp_step))
        exact h _ _ hT' hk'
      | .ok .next, hr2 => exact hr2.elim
      | .ok .brk, hr2 => exact hr2.elim
      | .ok .cont, hr2 => exact hr2.elim
  | .ok .next, hr => exact hr.elim
  | .ok .brk, hr => exact hr.elim
  | .ok .cont, hr => exact hr.elim
/-- sorted(a) of a set of fewer than 64 texts -/
theorem sorted_ofS {a : Addr} {l : List Str} {Q : Value → Shared → Prop} (R : TxAt P w s.heap a l) (hh : A.handled = none) (h64 : l.length < 64)
    (hQ : ∀ s' p (out : Array Value) (c : Nat) (ys : List Str), (∀ b o, s.heap.get? b = some o → s'.heap.get? b = some o) → s'.gens = s.gens → s'.os = s.os → s.heap.objs.size ≤ p →
      s'.heap.get? p = some (seqObj "list" out c) → StrsAre out.toList ys → ys.Perm l → sortedS ys = true → Q (.ref p) s') :
    wpAny (model P w) A (call (.builtin "sorted") [.ref a]) Q E s := by
  obtain ⟨D, ho, TF, r, ld, nd⟩ := R
  have hz : D.1.size = l.length := TF.sz
  have big : D.1.size < scanBound := by
    rw [hz]
    exact Nat.lt_trans h64 (by decide)
  refine Calls.call_function_entry kind_sorted plain_sorted entry_sorted (args_sorted1 _) ?_
  unfold Builtin.«sorted»
  refine wpAny_bind (m := checkCount "sorted" 1 1 _) (wpAny_pure ?_)
  refine wpAny_bind (collect_set (A := A.in1) hh ⟨_, ho, rfl, rfl⟩ TF.fit big r ld fun s1 vs k1 hz1 g1 o1 pm => ?_)
  have hvl : vs.length = l.length := by rw [pm.length_eq, List.length_map, Array.length_toList, hz]
  have allS : ∀ v ∈ vs, ∃ k u, v = Value.str k u := fun v hv => by
    obtain ⟨e, he, q⟩ := List.mem_map.mp (pm.mem_iff.mp hv)
    obtain ⟨⟨k, h1, _⟩, _⟩ := TF.el e he
    obtain ⟨u, hu⟩ := Value.isStrOf_shape (x := k) (v := e.2) h1
    exact ⟨k, u, by rw [← q]; exact hu⟩
  have hS : StrsAre vs (vs.map strOf) := strsAre_map vs allS
  have pk : (vs.map strOf).Perm l := perm_all l _ nd (fun x hx => by
    obtain ⟨e, he, q⟩ := (TF.mem x).mp hx
    obtain ⟨u, hu⟩ := Value.isStrOf_shape (x := x) (v := e.2) q
    exact List.mem_map.mpr ⟨e.2, pm.mem_iff.mpr (List.mem_map.mpr ⟨e, he, rfl⟩), by rw [hu]; rfl⟩) (by rw [List.length_map, hvl])
  refine wpAny_bind (wpAny_newList ?_ (by rw [hvl, sizeLine_eq]; omega))
  have hoL : (s1.heap.push (seqObj "list" vs.toArray 0)).get? s1.heap.objs.size = some (seqObj "list" vs.toArray 0) := Heap.get?_push_size _ rfl
  refine wpAny_bind (wpAny_holding (wpAny_call_entry slot_list_sort ⟨_, hoL, rfl⟩ entry_list_sort
    (list_sort_treeK strKind_oneLt hoL hS.keysOf (fun v1 v2 rest e => keyKind_strs (by rw [← e]; exact hS)) (by rw [hvl]; exact h64) fun st' hp hs => ⟨_, rfl, ?_⟩) (args_list_sort _)))
  obtain ⟨ys, f1, f2, f3⟩ := sorted_out_str hS hp hs
  obtain ⟨c, hc⟩ := sortedHeap_at (vs := vs) (out := (arrOf st').map (·.2)) hoL
  refine wpAny_pure ⟨_, rfl, hQ _ s1.heap.objs.size _ c ys (fun b u e => ?_) g1 o1 hz1 hc f1 (f2.trans pk) f3⟩
  have q := k1 b u e
  have hlt := Heap.lt_size q
  refine (sortedHeap_old (Nat.ne_of_lt hlt) ?_).trans (Heap.get?_push_of_some _ q)
  rw [size_push']
  exact Nat.lt_succ_of_lt hlt
end
section
variable {X : Cx}
/-- set(xs) -/
def cSetS (P : Program) (w : World) (K : PySem.W.Frag) : List V → Hp → VK → Prop := fun xs H Q => ∃ (a : Addr) (ks : List Str), xs = [.ref a] ∧ SqL K H a (ks.map V.str) ∧ ks.length < 4000 ∧ ∀ p, H p = none → Q (.ref p) (upd H p (SetS P w p (runS ks)))
theorem cr_setS (hc : X.calm = true) : CallR X (.type "set") (cSetS X.prog X.w X.K) := by
  intro pins s σ H vs us Q I r h
  obtain ⟨a, ks, rfl, hs, hb, q⟩ := h
  obtain ⟨its, rv, hl, _⟩ := I.list hs
  rw [Vals.ref1 r]
  have hn := rv.length
  rw [List.length_map] at hn
  refine set_ofS (ks := ks) (I.ok.hd hc) hl.isList rv.strs (by rw [List.size_toArray, ← hn]; exact Nat.lt_of_le_of_lt hb (by decide)) fun h' tk hT hk => ?_
  exact ⟨.ref s.heap.objs.size, upd H s.heap.objs.size (SetS X.prog X.w s.heap.objs.size (runS ks)), I.laid (t' := tk) (fun b u e => hk b u (Heap.lt_size e) e) (Nat.le_refl _)
    ⟨hT, ⟨_, hT.choose_spec.1⟩, fun h1 h2 z k => z.at k⟩, rfl, q _ (I.hok.fresh (Nat.le_refl _))⟩
/-- sorted(set) -/
def cSortedS (P : Program) (w : World) : List V → Hp → VK → Prop := fun xs H Q => ∃ (a : Addr) (l : List Str), xs = [.ref a] ∧ H a = some (SetS P w a l) ∧ l.length < 64 ∧ ∀ ys p, ys.Perm l → sortedS ys = true → H p = none → Q (.ref p) (upd H p (.lst (ys.map V.str)))
theorem cr_sortedSet (hc : X.calm = true) : CallR X (.builtin "sorted") (cSortedS X.prog X.w) := by
  intro pins s σ H vs us Q I r h
  obtain ⟨a, l, rfl, ha, h64, q⟩ := h
  rw [Vals.ref1 r]
  refine sorted_ofS (I.hok a _ ha).1 (I.ok.hd hc) h64 fun s' p out c ys k g o hp hg hi hp2 hs => ?_
  have hlen : (ys.map V.str).length ≤ sizeLine := by
    rw [List.length_map, hp2.length_eq, sizeLine_eq]
    omega
  have hn : H p = none := I.hok.fresh hp
  have J : Inv X pins σ (upd H p (.lst (ys.map V.str))) { s with heap := s'.heap, gens := s'.gens, drawn := s'.drawn, toks := s'.toks } :=
    I.call (ch := []) (Un.laid k hp hn) (I.hok.laid k hp ⟨hlen, out.toList, c, vals_of_strs hi, hg⟩) (by rw [g]; exact I.bare) (fun _ z => nomatch z)
  have e : s' = { s with heap := s'.heap, gens := s'.gens, drawn := s'.drawn, toks := s'.toks } := by
    cases s'
    cases s
    cases o
    rfl
  rw [e]
  exact ⟨.ref p, _, J, rfl, q ys p hp2 hs hn⟩
end
end PW
/-! ### the draws -/
namespace PW
open PySem PySem.Spec PyProof.Rows L2
/-- all but b stays -/
def ExB (b : Addr) (H H' : Hp) : Prop := ∀ a o, a ≠ b → H a = some o → H' a = some o
theorem ExB.refl {b : Addr} {H : Hp} : ExB b H H := fun _ _ _ h => h
theorem ExB.trans {b : Addr} {H H1 H2 : Hp} (x : ExB b H H1) (y : ExB b H1 H2) : ExB b H H2 := fun a o n h => y a o n (x a o n h)
theorem ExB.upd {b : Addr} {H H1 : Hp} {o : HO} (x : ExB b H H1) : ExB b H (L2.upd H1 b o) := fun a u n h => by
  rw [upd_ne n]
  exact x a u n h
structure BagAt (H : Hp) (b c : Addr) : Prop where
  ex : ∃ (cells : List Int) (i g s : Int), H b = some (.lst [.ref c, .int i, .int g, .int s]) ∧ H c = some (.lst (cells.map V.int)) ∧ 0 ≤ i ∧ 0 ≤ g ∧ 0 ≤ s ∧ s < 2147483549
theorem bag_ne {H : Hp} {b c : Addr} {cells : List Int} {i g s : Int} (h : H b = some (.lst [.ref c, .int i, .int g, .int s])) (h2 : H c = some (.lst (cells.map V.int))) : c ≠ b := by
  intro e
  subst e
  rw [h] at h2
  injection h2 with h2
  injection h2 with h2
  cases cells with
  | nil => cases h2
  | cons z r =>
    rw [List.map_cons] at h2
    injection h2 with h3
    cases h3
theorem BagAt.upd {H : Hp} {b c : Addr} {cells : List Int} {i g s i' g' s' : Int} (h : H b = some (.lst [.ref c, .int i, .int g, .int s])) (h2 : H c = some (.lst (cells.map V.int))) (a1 : 0 ≤ i') (a2 : 0 ≤ g') (a3 : 0 ≤ s') (a4 : s' < 2147483549) :
    BagAt (L2.upd H b (.lst [.ref c, .int i', .int g', .int s'])) b c :=
  ⟨cells, i', g', s', upd_same, by rw [upd_ne (bag_ne h h2)]; exact h2, a1, a2, a3, a4⟩
theorem atI_ints {xs : List Int} {i : Int} (h0 : 0 ≤ i) (h : i < (xs.length : Int)) : ∃ z, atI (xs.map V.int) i = some (.int z) := by
  have hl : i.toNat < xs.length := by omega
  have e : i = (i.toNat : Int) := by omega
  have h2 : atI (xs.map V.int) (i.toNat : Int) = some (.int xs[i.toNat]) := atI_nat (by rw [List.getElem?_map, List.getElem?_eq_getElem hl]; rfl)
  exact ⟨_, by rw [← e] at h2; exact h2⟩
theorem BagAt.objs {H : Hp} {b c : Addr} (h : BagAt H b c) : (∃ o, H b = some o) ∧ (∃ o, H c = some o) ∧ c ≠ b := by
  obtain ⟨cells, i, g, s, h1, h2, _⟩ := h
  exact ⟨⟨_, h1⟩, ⟨_, h2⟩, bag_ne h1 h2⟩
/-- where the two lists of the bag stay -/
theorem BagAt.keep {H H' : Hp} {b c : Addr} (h : BagAt H b c) (e1 : ∀ o, H b = some o → H' b = some o) (e2 : ∀ o, H c = some o → H' c = some o) : BagAt H' b c := by
  obtain ⟨cells, i, g, s, h1, h2, r⟩ := h
  exact ⟨cells, i, g, s, e1 _ h1, e2 _ h2, r⟩
theorem BagAt.put {H : Hp} {b c D : Addr} {o : HO} (h : BagAt H b c) (n1 : b ≠ D) (n2 : c ≠ D) : BagAt (L2.upd H D o) b c := h.keep (fun o e => by rw [upd_ne n1]; exact e) fun o e => by rw [upd_ne n2]; exact e
theorem BagAt.grow {H H' : Hp} {b c : Addr} (h : BagAt H b c) (e : ∀ a o, H a = some o → H' a = some o) : BagAt H' b c := h.keep (fun o q => e _ o q) fun o q => e _ o q
theorem BagAt.ne {H : Hp} {b c D : Addr} (h : BagAt H b c) (hD : H D = none) : b ≠ D ∧ c ≠ D := by
  obtain ⟨⟨o, h1⟩, ⟨o2, h2⟩, _⟩ := h.objs
  exact ⟨ne_of_none h1 hD, ne_of_none h2 hD⟩
theorem BagAt.new {H : Hp} {b c D : Addr} {o : HO} (h : BagAt H b c) (hD : H D = none) : BagAt (L2.upd H D o) b c := h.put (h.ne hD).1 (h.ne hD).2
def spPull : Sp := fun vs H Q _ => ∃ (b c : Addr) (m : Int), vs = [.ref b, .int m] ∧ BagAt H b c ∧ 0 < m ∧ m.natAbs.log2 < 9000 ∧ ∀ r H', 0 ≤ r → r < m → BagAt H' b c → ExB b H H' → Q (.int r) H'
section
variable {P : Program} {w : World} {K : PySem.W.Frag} {mg : Str → Option Value} {base : Heap}
theorem ok__law_pull (T : Txt K mg) : FnOk P w K mg base CX0 1 (He.ga K "_law_pull") (fdOf K (He.ga K "_law_pull")) p__law_pull spPull := by
  refine FunD.ok T.d__law_pull sc__law_pull (fun vs H Q E h => ?_) (fun cdv A outer s H vs Q E hr h => ?_)
  · obtain ⟨b, c, m, rfl, _⟩ := h
    rfl
  · obtain ⟨b, c, m, rfl, ⟨cells, i, g, z, hb, hc, hi, hg, hz, hz2⟩, hm, hm9, hQ⟩ := h
    have hcb := bag_ne hb hc
    refine ⟨_, PSs.nox ((pss_cons (ps_if (PW.pt (pw_and (pt_cmpR op_eq (pe_ix ix_list (pv 0) pe_int (fun _ _ => rfl)) pe_int (nomark _)) (pw_and1 (pt_cmpR op_lt (pe_ix ix_list (pv 0) pe_int (fun _ _ => rfl)) (pe_callB call_lenN (by rfl) T.f_len (by decide +kernel) (pa_cons (pe_ix ix_list (pv 0) pe_int (fun _ _ => rfl)) pa_nil)) (nomark _)))))
      (pss_cons (ps_set (i := 2) sc__law_pull.nd rfl (Or.inl rfl) (pe_ix ix_list (pe_ix ix_list (pv 0) pe_int (fun _ _ => rfl)) (pe_ix ix_list (pv 0) pe_int (fun _ _ => rfl)) (fun _ _ => rfl)))
        (pss_cons (ps_asg (pe_op op_add (pe_ix ix_list (pv 0) pe_int (fun _ _ => rfl)) pe_int) (pg_sub (pv 0) pe_int set_list))
        (pss_one (ps_if (pt_cmpR op_ge (pv 2) (pe_op op_pow pe_int pe_int) (nomark _))
          (pss_one (ps_asg (pv 2) (pg_sub (pv 0) pe_int set_list)))
          (pss_one (ps_asg (pe_op op_mod (pe_callTy call_intN (by rfl) T.f_int (by decide +kernel) (pa_cons (pe_op op_add (pe_op op_add (pe_op op_mulX (pe_ix ix_list (pv 0) pe_int (fun _ _ => rfl)) pe_int) (pe_op op_mulX (pe_op op_mod (pe_callTy call_intN (by rfl) T.f_int (by decide +kernel) (pa_cons (pv 2) pa_nil)) pe_int) pe_int)) pe_int) pa_nil)) pe_int) (pg_sub (pv 0) pe_int set_list)))))))
      pss_nil)
    (pss_cons (ps_if (pt_cmpR op_gt (pe_ix ix_list (pv 0) pe_int (fun _ _ => rfl)) pe_int (nomark _))
      (pss_cons (ps_set (i := 3) sc__law_pull.nd rfl (Or.inl rfl) (pe_op op_mod (pe_callTy call_intN (by rfl) T.f_int (by decide +kernel) (pa_cons (pe_ix ix_list (pv 0) pe_int (fun _ _ => rfl)) pa_nil)) (pv 1)))
        (pss_cons (ps_asg (pe_op op_fdivW (pe_ix ix_list (pv 0) pe_int (fun _ _ => rfl)) (pv 1)) (pg_sub (pv 0) pe_int set_list))
        (pss_one (ps_ret (pv 3)))))
      pss_nil)
    (pss_cons (ps_set (i := 4) sc__law_pull.nd rfl (Or.inl rfl) (pe_ix ix_list (pv 0) pe_int (fun _ _ => rfl)))
    (pss_cons (ps_asg (pe_op op_mod (pe_callTy call_intN (by rfl) T.f_int (by decide +kernel) (pa_cons (pe_op op_add (pe_op op_add (pe_op op_mulX (pv 4) (pv 4)) (pe_op op_mulX (pv 4) pe_int)) pe_int) pa_nil)) pe_int) (pg_sub (pv 0) pe_int set_list))
    (pss_one (ps_ret (pe_op op_mod (pe_callTy call_intN (by rfl) T.f_int (by decide +kernel) (pa_cons (pe_op op_add (pe_op op_fdivW (pe_ix ix_list (pv 0) pe_int (fun _ _ => rfl)) pe_int) (pe_op op_mulX (pe_op op_mod (pe_callTy call_intN (by rfl) T.f_int (by decide +kernel) (pa_cons (pe_ix ix_list (pv 0) pe_int (fun _ _ => rfl)) pa_nil)) pe_int) pe_int)) pa_nil)) (pv 1))))))))), ?_⟩
    show tSeq _ _ _ [some (V.ref b), some (V.int m), none, none, none] H
    walk_at "K"
    refine r_seqP (fun σ' H' => ∃ (x : Option V) (i g z : Int), σ' = [some (V.ref b), some (V.int m), x, none, none] ∧ H' b = some (.lst [.ref c, .int i, .int g, .int z]) ∧ H' c = some (.lst (cells.map V.int)) ∧ 0 ≤ i ∧ 0 ≤ g ∧ 0 ≤ z ∧ z < 2147483549 ∧ ExB b H H') ?_ ?_
    · clear hb hc hi hg hz hz2 i g z
      rintro σ' H' ⟨x, i, g, z, rfl, hb, hc, hi, hg, hz, hz2, hx⟩
      refine r_seqP (fun σ2 H2 => σ2 = [some (V.ref b), some (V.int m), x, none, none] ∧ H2 = H') ?_ ?_
      · rintro σ2 H2 ⟨rfl, rfl⟩
        walk_at "go"
        refine hQ _ _ (Int.emod_nonneg _ (by omega)) (Int.emod_lt_of_pos _ hm) (BagAt.upd hb hc hi hg (Int.emod_nonneg _ (by decide)) (Int.emod_lt_of_pos _ (by decide))) (ExB.upd hx)
      · intro N hN
        walk_at "go"
        refine r_if2 (fun e => ?_) (fun e => ?_)
        · have hg1 : 0 < g := by simpa using e
          walk_at "go"
          refine hQ _ _ (Int.emod_nonneg _ (by omega)) (Int.emod_lt_of_pos _ hm) (BagAt.upd hb hc hi (Int.ediv_nonneg hg (by omega)) hz hz2) (ExB.upd hx)
        · walk_at "go"
          exact hN _ _ ⟨rfl, rfl⟩
    · intro N hN
      walk_at "go"
      refine r_if2 (fun e => ?_) (fun e => ?_)
      · walk_at "go"
        refine r_if2 (fun e2 => ?_) (fun e2 => ?_)
        · have hlt : i < (cells.length : Int) := by simpa using e2
          obtain ⟨y, hy⟩ := atI_ints hi hlt
          walk_at "go"
          refine r_ixL (SqL.of hc) hy ?_
          walk_at "go"
          refine r_if2 (fun e3 => ?_) (fun e3 => ?_)
          · have h1 := of_decide_eq_true e3
            have h2 : (0 : Int) < 10 ^ Int.toNat 18 := by decide
            walk_at "go"
            refine hN _ _ ⟨some (.int y), i + 1, y, z, rfl, upd_same, (upd_ne hcb).trans ((upd_ne hcb).trans hc), by omega, by omega, hz, hz2, ExB.upd (ExB.upd ExB.refl)⟩
          · walk_at "go"
            refine hN _ _ ⟨some (.int y), i + 1, g, _, rfl, upd_same, (upd_ne hcb).trans ((upd_ne hcb).trans hc), by omega, hg, Int.emod_nonneg _ (by decide), Int.emod_lt_of_pos _ (by decide), ExB.upd (ExB.upd ExB.refl)⟩
        · walk_at "go"
          exact hN _ _ ⟨none, i, g, z, rfl, hb, hc, hi, hg, hz, hz2, ExB.refl⟩
      · walk_at "go"
        exact hN _ _ ⟨none, i, g, z, rfl, hb, hc, hi, hg, hz, hz2, ExB.refl⟩
end
end PW
namespace PW
open PySem PySem.Spec PyProof.Rows L2
/-- what is drawn from: a list, a tuple, a text -/
def SeqV (K : PySem.W.Frag) (H : Hp) (b : Addr) (s : V) (xs : List V) : Prop :=
  (∃ p, s = .ref p ∧ p ≠ b ∧ (H p = some (.lst xs) ∨ SqT K H p xs)) ∨ ∃ z : Str, s = .str z ∧ z.length ≤ sizeLine ∧ xs = z.cps.toList.map fun c => .str ⟨#[c]⟩
def spOf (K : PySem.W.Frag) : Sp := fun vs H Q _ => ∃ (b c : Addr) (s : V) (xs : List V), vs = [.ref b, s] ∧ BagAt H b c ∧ SeqV K H b s xs ∧ 0 < xs.length ∧ xs.length ≤ sizeLine ∧ ∀ v H', v ∈ xs → BagAt H' b c → ExB b H H' → Q v H'
theorem ExB.tup {K : PySem.W.Frag} {b p : Addr} {H H' : Hp} {xs : List V} (e : ExB b H H') (n : p ≠ b) (h : SqT K H p xs) : SqT K H' p xs := by
  rcases h with (h | ⟨o, h⟩) | h
  · exact .inl (.inl (e _ _ n h))
  · exact .inl (.inr ⟨o, e _ _ n h⟩)
  · exact .inr h
theorem seqLog {n : Nat} (h : n ≤ sizeLine) : ((n : Nat) : Int).natAbs.log2 < 9000 := by
  have h2 : n ≤ 2 ^ 24 := h
  have h3 : (n : Int).natAbs < 2 ^ 25 := by
    rw [Int.natAbs_natCast]
    exact Nat.lt_of_le_of_lt h2 (by decide)
  exact Nat.lt_trans (PySem.Flt.log2_lt_of (by decide) h3) (by decide)
section
variable {P : Program} {w : World} {K : PySem.W.Frag} {mg : Str → Option Value} {base : Heap}
theorem ok__law_of {k : Nat} (T : Txt K mg) (G__law_pull : FnOk P w K mg base CX0 k (He.ga K "_law_pull") (fdOf K (He.ga K "_law_pull")) p__law_pull spPull) : FnOk P w K mg base CX0 (k + 1) (He.ga K "_law_of") (fdOf K (He.ga K "_law_of")) p__law_of (spOf K) := by
  refine FunD.ok T.d__law_of sc__law_of (fun vs H Q E h => ?_) (fun cdv A outer s H vs Q E hr h => ?_)
  · obtain ⟨b, c, s, xs, rfl, _⟩ := h
    rfl
  · obtain ⟨b, c, q, xs, rfl, hb, hs, h0, hl, hQ⟩ := h
    refine ⟨_, PSs.nox ((pss_one (ps_ret (pe_ix ix_seq (pv 1) (pe_call G__law_pull hr rfl T.g__law_pull T.d__law_pull.kp (b__law_pull T) .nil pass0 (pa_cons (pv 0) (pa_cons (pe_callB call_lenN (by rfl) T.f_len (by decide +kernel) (pa_cons (pv 1) pa_nil)) pa_nil))) (fun _ _ => rfl))))), ?_⟩
    show tRet _ _ [some (V.ref b), some q] H
    walk_at "K"
    have hlen : ∀ R : VK, R (.int (xs.length : Nat)) H → cLen K [q] H R := fun R hR => by
      rcases hs with ⟨p, rfl, hp, hp2 | hp2⟩ | ⟨z, rfl, hz, e⟩
      · exact r_cLenL (SqL.of hp2) hR
      · exact r_cLenT hp2 hR
      · refine r_cLenS hz ?_
        have e2 : xs.length = z.length := by rw [e, List.length_map]; rfl
        rw [← e2]
        exact hR
    walk_at "go"
    refine hlen _ ?_
    walk_at "go"
    refine ⟨b, c, (xs.length : Nat), rfl, hb, by omega, seqLog hl, fun r H' r0 r1 hb' hx => ?_⟩
    rcases hs with ⟨p, rfl, hp, hp2 | hp2⟩ | ⟨z, rfl, hz, e⟩
    · obtain ⟨v, hv, ha⟩ := atI_mem r0 r1
      exact r_ixqL (SqL.of (hx _ _ hp hp2)) ha (hQ v H' hv hb' hx)
    · obtain ⟨v, hv, ha⟩ := atI_mem r0 r1
      exact r_ixqT (ExB.tup hx hp hp2) ha (hQ v H' hv hb' hx)
    · have e2 : xs.length = z.cps.toList.length := by rw [e, List.length_map]
      rw [e2] at r1
      obtain ⟨v, hv, ha⟩ := atI_mem r0 r1
      exact r_ixqS hz ha (hQ _ H' (by rw [e]; exact List.mem_map.mpr ⟨v, hv, rfl⟩) hb' hx)
end
end PW
namespace PW
open PySem PySem.Spec PyProof.Rows L2
theorem cutV_ints (ns : List Int) (lo hi : Option Int) : ∃ cells : List Int, cutV (ns.map V.int) lo hi = cells.map V.int := by
  unfold cutV
  rw [← List.map_drop, ← List.map_take]
  exact ⟨_, rfl⟩
/-- a new bag -/
def spBag (K : PySem.W.Frag) : Sp := fun vs H Q _ => ∃ (a : Addr) (ns : List Int), vs = [.ref a] ∧ SqL K H a (ns.map V.int) ∧ ns.length ≤ 63 ∧ ∀ b c H', H b = none → H c = none → BagAt H' b c → (∀ a o, H a = some o → H' a = some o) → Q (.ref b) H'
section
variable {P : Program} {w : World} {K : PySem.W.Frag} {mg : Str → Option Value} {base : Heap}
theorem ok__law_bag (T : Txt K mg) : FnOk P w K mg base CX0 1 (He.ga K "_law_bag") (fdOf K (He.ga K "_law_bag")) p__law_bag (spBag K) := by
  refine FunD.ok T.d__law_bag sc__law_bag (fun vs H Q E h => ?_) (fun cdv A outer s H vs Q E hr h => ?_)
  · obtain ⟨a, ns, rfl, _⟩ := h
    rfl
  · obtain ⟨a, ns, rfl, ha, hl, hQ⟩ := h
    refine ⟨_, PSs.nox ((pss_one (ps_ret (pe_lst (pa_cons (pe_callTy call_listN (by rfl) T.f_list (by decide +kernel) (pa_cons (pe_slice sl_list (pv 0) po_none (po_some pe_int)) pa_nil)) (pa_cons pe_int (pa_cons pe_int (pa_cons pe_int pa_nil)))))))), ?_⟩
    show tRet _ _ [some (V.ref a)] H
    walk_at "K"
    walk_at "go"
    intro l hl1
    walk_at "go"
    intro c hc
    walk_at "go"
    intro b hb
    have hcl : c ≠ l := Ne.symm (ne_of_none upd_same hc)
    have hb2 : (L2.upd H l (.lst (cutV (ns.map V.int) none (some 63)))) b = none := Same.free (H' := L2.upd (L2.upd H l (.lst (cutV (ns.map V.int) none (some 63)))) c (.lst (cutV (ns.map V.int) none (some 63)))) (fun x o e => by rw [upd_ne (ne_of_none e hc)]; exact e) hb
    have hb3 : H b = none := Same.free (H' := L2.upd H l (.lst (cutV (ns.map V.int) none (some 63)))) (fun x o e => by rw [upd_ne (ne_of_none e hl1)]; exact e) hb2
    have hbc : c ≠ b := ne_of_none upd_same hb
    obtain ⟨cells, e⟩ := cutV_ints ns none (some 63)
    have hc3 : H c = none := Same.free (H' := L2.upd H l (.lst (cutV (ns.map V.int) none (some 63)))) (fun x o e => by rw [upd_ne (ne_of_none e hl1)]; exact e) hc
    refine hQ b c _ hb3 hc3 ⟨cells, 0, 0, 5618, upd_same, (upd_ne hbc).trans ?_, by decide, by decide, by decide, by decide⟩ fun x o ex => ?_
    · rw [e]
      exact upd_same
    · rw [upd_ne (ne_of_none ex hb3), upd_ne (ne_of_none ex hc3), upd_ne (ne_of_none ex hl1)]
      exact ex
end
end PW
namespace PW
open PySem PySem.Spec PyProof.Rows L2
def spLetters : Sp := fun vs H Q _ => vs = [] ∧ Q (.str "abcdefghijklmnopqrstuvwxyz") H
section
variable {P : Program} {w : World} {K : PySem.W.Frag} {mg : Str → Option Value} {base : Heap}
theorem ok__law_letters (T : Txt K mg) : FnOk P w K mg base CX0 1 (He.ga K "_law_letters") (fdOf K (He.ga K "_law_letters")) p__law_letters spLetters := by
  refine FunD.ok T.d__law_letters sc__law_letters (fun vs H Q E h => ?_) (fun cdv A outer s H vs Q E hr h => ?_)
  · obtain ⟨rfl, _⟩ := h
    rfl
  · obtain ⟨rfl, hQ⟩ := h
    exact ⟨_, PSs.nox ((pss_one (ps_ret pe_str))), hQ⟩
end
end PW
namespace PW
open PySem PySem.Spec PyProof.Rows L2
/-- alike to depth n, part by part -/
def Sm (K : PySem.W.Frag) : Nat → Hp → V → V → Prop
  | 0, _, x, y => x = y ∧ flatV x = true
  | n + 1, H, x, y => (x = y ∧ flatV x = true) ∨ ∃ (p q : Addr) (xs ys : List V), x = .ref p ∧ y = .ref q ∧ ((H p = some (.lst xs) ∧ H q = some (.lst ys)) ∨ (H p = some (.tup xs) ∧ H q = some (.tup ys))) ∧
      xs.length = ys.length ∧ xs.length ≤ 100000 ∧ ∀ (i : Nat) u v, xs[i]? = some u → ys[i]? = some v → Sm K n H u v
theorem Sm.mono {K : PySem.W.Frag} : ∀ {n : Nat} {H H' : Hp} {x y : V}, Ex H H' → Sm K n H x y → Sm K n H' x y
  | 0, _, _, _, _, _, h => h
  | n + 1, H, H', x, y, e, h => by
    rcases h with h | ⟨p, q, xs, ys, h1, h2, h3, h4, h5, h6⟩
    · exact .inl h
    · refine .inr ⟨p, q, xs, ys, h1, h2, ?_, h4, h5, fun i u v hu hv => Sm.mono e (h6 i u v hu hv)⟩
      rcases h3 with h3 | h3
      · exact .inl ⟨e _ _ h3.1, e _ _ h3.2⟩
      · exact .inr ⟨e _ _ h3.1, e _ _ h3.2⟩
theorem Sm.flat {K : PySem.W.Frag} {n : Nat} {H : Hp} {x : V} (h : flatV x = true) : Sm K n H x x := by
  cases n with
  | zero => exact ⟨rfl, h⟩
  | succ n => exact .inl ⟨rfl, h⟩
theorem Sm.flats {K : PySem.W.Frag} {n : Nat} {H : Hp} {p q : Addr} {xs : List V} (hp : H p = some (.lst xs)) (hq : H q = some (.lst xs)) (hl : xs.length ≤ 100000) (hf : ∀ v ∈ xs, flatV v = true) : Sm K (n + 1) H (.ref p) (.ref q) :=
  .inr ⟨p, q, xs, xs, rfl, rfl, .inl ⟨hp, hq⟩, rfl, hl, fun i u v hu hv => by
    rw [hu] at hv
    injection hv with hv
    subst hv
    exact Sm.flat (hf u (List.mem_of_getElem? hu))⟩
def spSame (K : PySem.W.Frag) (n : Nat) : Sp := fun vs H Q _ => ∃ x y, vs = [x, y] ∧ Sm K n H x y ∧ ∀ H', Ex H H' → Q (.bl true) H'
section
variable {P : Program} {w : World} {K : PySem.W.Frag} {mg : Str → Option Value} {base : Heap}
def spNo : Sp := fun _ _ _ _ => False
theorem fnOk_no {CX : CXT} {k : Nat} {f : Addr} {fd : FuncData} {ps : List Str} : FnOk P w K mg base CX k f fd ps spNo := ⟨fun _ _ _ _ h => h.elim, fun _ _ _ _ _ _ _ _ _ _ _ _ _ h => h.elim⟩
theorem ok1__law_same {k n : Nat} {spj : Sp} (T : Txt K mg) (hj : n = 0 ∨ ∃ j, n = j + 1 ∧ spj = spSame K j) (G__law_same : FnOk P w K mg base CX0 k (He.ga K "_law_same") (fdOf K (He.ga K "_law_same")) p__law_same spj) :
    FnOk P w K mg base CX0 (k + 1) (He.ga K "_law_same") (fdOf K (He.ga K "_law_same")) p__law_same (spSame K n) := by
  refine FunD.ok T.d__law_same sc__law_same (fun vs H Q E h => ?_) (fun cdv A outer s H vs Q E hr h => ?_)
  · obtain ⟨x, y, rfl, _⟩ := h
    rfl
  · obtain ⟨x, y, rfl, hs, hQ⟩ := h
    refine ⟨_, PSs.nox ((pss_cons (ps_if (pt_val (pe_callB call_isiT (by rfl) T.f_isinstance (by decide +kernel) (pa_cons (pv 1) (pa_cons (pe_tup (pa_cons (pe_bltn (v := .ty "list") (u := .type "list") (by rfl) T.f_list (by decide +kernel) rfl) (pa_cons (pe_bltn (v := .ty "tuple") (u := .type "tuple") (by rfl) T.f_tuple (by decide +kernel) rfl) pa_nil))) pa_nil))))
      (pss_cons (ps_if (PW.pt (pw_or (pt_cmpR op_ne (pe_callB call_isi (by rfl) T.f_isinstance (by decide +kernel) (pa_cons (pv 0) (pa_cons (pe_bltn (v := .ty "list") (u := .type "list") (by rfl) T.f_list (by decide +kernel) rfl) pa_nil))) (pe_callB call_isi (by rfl) T.f_isinstance (by decide +kernel) (pa_cons (pv 1) (pa_cons (pe_bltn (v := .ty "list") (u := .type "list") (by rfl) T.f_list (by decide +kernel) rfl) pa_nil))) (nomark _)) (pw_or1 (pt_cmpR op_ne (pe_callB call_isi (by rfl) T.f_isinstance (by decide +kernel) (pa_cons (pv 0) (pa_cons (pe_bltn (v := .ty "tuple") (u := .type "tuple") (by rfl) T.f_tuple (by decide +kernel) rfl) pa_nil))) (pe_callB call_isi (by rfl) T.f_isinstance (by decide +kernel) (pa_cons (pv 1) (pa_cons (pe_bltn (v := .ty "tuple") (u := .type "tuple") (by rfl) T.f_tuple (by decide +kernel) rfl) pa_nil))) (nomark _)))))
          (pss_one (ps_ret pe_bl))
          pss_nil)
        (pss_one (ps_ret (pe_and (pe_cmpR op_eq (pe_callB call_lenN (by rfl) T.f_len (by decide +kernel) (pa_cons (pv 0) pa_nil)) (pe_callB call_lenN (by rfl) T.f_len (by decide +kernel) (pa_cons (pv 1) pa_nil)) (nomark _)) (pe_one (pe_callB (cr_all rfl) (by rfl) T.f_all (by decide +kernel) (pa_cons (pe_lc (own := [("_law_one_z", 2), ("_law_other_z", 3)]) (g := (gTup K 2 (gCons (gName 2) (gCons (gName 3) gNil)))) rfl sc__law_same.nd (RZ.pi_zipA (by rfl) T.f_zip (pa_cons (pv 0) (pa_cons (pv 1) pa_nil))) (blkOk_by (own := [("_law_one_z", 2), ("_law_other_z", 3)]) (N := n__law_same) (sc := defScope s__law_same) (by decide +kernel)) (fun _ _ _ _ _ => by (refine' PW.pg_tupX (K := K) ?a1 ?b1 ?c1 ?d1 ?h1; (case a1 => rfl); (case b1 => rfl); (case c1 => rfl); (case d1 => rfl); refine' PW.pgs_consX ?a2 ?b2 ?h2; (case a2 => rfl); (case b2 => (refine PW.pg_nameX 2 ?_ ?_ ?_ ?_; exact sc__law_same.nd; rfl; (first | exact Or.inl rfl | exact Or.inr rfl); (first | exact Or.inl rfl | exact Or.inr rfl))); refine' PW.pgs_consX ?a3 ?b3 ?h3; (case a3 => rfl); (case b3 => (refine PW.pg_nameX 3 ?_ ?_ ?_ ?_; exact sc__law_same.nd; rfl; (first | exact Or.inl rfl | exact Or.inr rfl); (first | exact Or.inl rfl | exact Or.inr rfl))); exact pgs_nil)) (fun _ _ _ _ _ => pts_nil) (fun _ _ _ _ _ => (pe_call G__law_same hr rfl T.g__law_same T.d__law_same.kp (b__law_same T) .nil pass0 (pa_cons (pv 2) (pa_cons (pv 3) pa_nil))))) pa_nil)))))))
      pss_nil)
    (pss_cons (ps_if (PW.pt (pw_or (pt_cmp (pc_isN (pv 1)) rfl) (pw_or1 (pt_cmp (pc_isN (pv 0)) rfl))))
      (pss_one (ps_ret (pe_and (pe_cmp (pc_isN (pv 1)) rfl) (pe_one (pe_cmp (pc_isN (pv 0)) rfl)))))
      pss_nil)
    (pss_cons (ps_if (PW.pt (pw_or (pt_cmpR op_ne (pe_callB call_isi (by rfl) T.f_isinstance (by decide +kernel) (pa_cons (pv 0) (pa_cons (pe_bltn (v := .ty "bool") (u := .type "bool") (by rfl) T.f_bool (by decide +kernel) rfl) pa_nil))) (pe_callB call_isi (by rfl) T.f_isinstance (by decide +kernel) (pa_cons (pv 1) (pa_cons (pe_bltn (v := .ty "bool") (u := .type "bool") (by rfl) T.f_bool (by decide +kernel) rfl) pa_nil))) (nomark _)) (pw_or1 (pt_cmpR op_ne (pe_callB call_isi (by rfl) T.f_isinstance (by decide +kernel) (pa_cons (pv 0) (pa_cons (pe_bltn (v := .ty "int") (u := .type "int") (by rfl) T.f_int (by decide +kernel) rfl) pa_nil))) (pe_callB call_isi (by rfl) T.f_isinstance (by decide +kernel) (pa_cons (pv 1) (pa_cons (pe_bltn (v := .ty "int") (u := .type "int") (by rfl) T.f_int (by decide +kernel) rfl) pa_nil))) (nomark _)))))
      (pss_one (ps_ret pe_bl))
      pss_nil)
    (pss_one (ps_ret (pe_and (pe_cmpR op_eq (pe_callB call_isi (by rfl) T.f_isinstance (by decide +kernel) (pa_cons (pv 0) (pa_cons (pe_bltn (v := .ty "str") (u := .type "str") (by rfl) T.f_str (by decide +kernel) rfl) pa_nil))) (pe_callB call_isi (by rfl) T.f_isinstance (by decide +kernel) (pa_cons (pv 1) (pa_cons (pe_bltn (v := .ty "str") (u := .type "str") (by rfl) T.f_str (by decide +kernel) rfl) pa_nil))) (nomark _)) (pe_one (pe_cmpR op_eq (pv 0) (pv 1) (nomark _)))))))))), ?_⟩
    show tSeq _ _ _ [some x, some y, none, none] H
    walk_at "K"
    by_cases hf : x = y ∧ flatV x = true
    · obtain ⟨rfl, hf⟩ := hf
      cases x with
      | non =>
        walk_at "go"
        intro p hp
        walk_at "go"
        exact hQ _ (Ex.new hp)
      | bl b =>
        walk_at "go"
        intro p hp
        walk_at "go"
        exact hQ _ (Ex.new hp)
      | int i =>
        walk_at "go"
        intro p hp
        walk_at "go"
        exact hQ _ (Ex.new hp)
      | str z =>
        walk_at "go"
        intro p hp
        walk_at "go"
        exact hQ _ (Ex.new hp)
      | _ => cases hf
    · cases n with
      | zero => exact absurd hs hf
      | succ n =>
        rcases hs with hs | ⟨p, q, xs, ys, rfl, rfl, hpq, hl, hl2, hit⟩
        · exact absurd hs hf
        · have j0 : ∃ j, n + 1 = j + 1 ∧ spj = spSame K j := hj.elim (fun z => nomatch z) id
          obtain ⟨j, ej, rfl⟩ := j0
          have ej2 : j = n := by omega
          subst ej2
          have comp : ∀ (J : It) (G : Hp → Prop) (H1 : Hp) (D : Addr) (Qd : Hp → Prop), Walk J xs.length G (YPair (fun i => xs[i]?) (fun i => ys[i]?)) → Ex H H1 → (∀ H', Ex H1 H' → G H') → H1 D = none → (∀ H' bs, Ex H H' → H' D = some (.lst ((List.replicate bs true).map V.bl)) → Qd H') →
              LcW J (gTup K 2 (gCons (gName 2) (gCons (gName 3) gNil))) tYes (tCall (spSame K j) [] E0 (tCons (tVar 2) (tCons (tVar 3) tNil))) [2, 3] [some (.ref p), some (.ref q), none, none] H1 D Qd := by
            intro J G H1 D Qd w x1 hG hD hR
            refine lc_grow w (σw := [some (.ref p), some (.ref q), none, none]) rfl (fun _ _ v => v = .bl true) hD hl2 hG (fun _ _ _ _ _ e => e) ?_ ?_
            · rintro i x H2 H3 acc R2 hi x2 ha ⟨T2, u, v, rfl, hT2, rfl, hu, hv⟩ hR2
              walk_at "go"
              refine ⟨rfl, ?_⟩
              walk_at "go"
              exact ⟨u, v, rfl, Sm.mono ((x1.trans x2).trans (Ex.new hT2)) (hit i u v hu hv), fun H4 x4 => hR2 _ _ rfl ((Ex.new hT2).trans x4)⟩
            · intro H2 acc x2 ha hlen hb
              refine hR H2 acc.length (x1.trans x2) ?_
              rw [ha, ← all_true (fun i v e => hb i v e)]
          rcases hpq with ⟨hp1, hq1⟩ | ⟨hp1, hq1⟩
          · walk_at "go"
            intro t ht
            have e1 := (Ex.new (o := .tup [V.ty "list", V.ty "tuple"]) ht) _ _ hp1
            have e2 := (Ex.new (o := .tup [V.ty "list", V.ty "tuple"]) ht) _ _ hq1
            walk_at "go"
            refine r_ifT' (decide_eq_true (by rw [hl])) ?_
            walk_at "go"
            refine ⟨p, q, xs, ys, rfl, Or.inl ⟨SqL.of e1, SqL.of e2, fun D hD => ?_⟩⟩
            refine comp _ _ _ D _ (walk_zip (by rw [← hl, Nat.min_self])) (Ex.new ht) (fun H' x => ⟨SqL.of (x _ _ e1), SqL.of (x _ _ e2)⟩) hD fun H' bs x hb => ?_
            walk_at "go"
            refine r_all (SqL.of hb) ?_
            rw [replicate_all]
            exact hQ _ x
          · walk_at "go"
            intro t ht
            have e1 := (Ex.new (o := .tup [V.ty "list", V.ty "tuple"]) ht) _ _ hp1
            have e2 := (Ex.new (o := .tup [V.ty "list", V.ty "tuple"]) ht) _ _ hq1
            walk_at "go"
            refine r_ifT' (decide_eq_true (by rw [hl])) ?_
            walk_at "go"
            refine ⟨p, q, xs, ys, rfl, Or.inr ⟨SqT.of e1, SqT.of e2, fun D hD => ?_⟩⟩
            refine comp _ _ _ D _ (walk_zipT (by rw [← hl, Nat.min_self])) (Ex.new ht) (fun H' x => ⟨SqT.of (x _ _ e1), SqT.of (x _ _ e2)⟩) hD fun H' bs x hb => ?_
            walk_at "go"
            refine r_all (SqL.of hb) ?_
            rw [replicate_all]
            exact hQ _ x
theorem ok__law_same (T : Txt K mg) : ∀ n : Nat, FnOk P w K mg base CX0 (n + 1) (He.ga K "_law_same") (fdOf K (He.ga K "_law_same")) p__law_same (spSame K n)
  | 0 => ok1__law_same T (.inl rfl) (fnOk_no (k := 0))
  | n + 1 => ok1__law_same T (.inr ⟨n, rfl, rfl⟩) (ok__law_same T n)
end
end PW
namespace PW
open PySem PySem.Spec PyProof.Rows L2
/-- the letters -/
def lettersZ : Str := "abcdefghijklmnopqrstuvwxyz"
def reservedV : List V := [.str "len", .str "mod", .str "and", .str "or", .str "not", .str "true"]
def allLet (z : Str) : Bool := (z.cps.toList.map fun c => decide (c ∈ lettersZ.cps.toList)).all id
/-- whether a text is a name -/
def isNameZ (z : Str) : Bool := decide (1 ≤ (z.length : Int)) && (decide ((z.length : Int) ≤ 6) && (!inV (.str z) reservedV && allLet z))
def isNameV : V → Bool
  | .str z => isNameZ z
  | _ => false
def spIsName (K : PySem.W.Frag) : Sp := fun vs H Q _ => ∃ x, vs = [x] ∧ ((∃ z, x = .str z ∧ z.length ≤ 100000) ∨ ∃ n, isNameV x = false ∧ TyX K H x (.type n) ∧ kitB n "str" = some false) ∧ ∀ H', Ex H H' → Q (.bl (isNameV x)) H'
def spLawIsName : Sp := fun vs H Q _ => ∃ z : Str, vs = [.str z] ∧ z.length ≤ 100000 ∧ ∀ H', Ex H H' → Q (.bl (isNameZ z)) H'
theorem size_le {z : Str} (h : z.length ≤ 100000) : z.length ≤ sizeLine := Nat.le_trans h (by decide)
section
variable {P : Program} {w : World} {K : PySem.W.Frag} {mg : Str → Option Value} {base : Heap}
theorem str_walk {te : TE} {vs : List Nat} {σ σw : L2.St} {H1 : Hp} {D : Addr} {Qd : Hp → Prop} {z : Str} {i : Nat} {f : Nat → V} (τ : Nat → L2.St) (hz : z.length ≤ 100000) (hw : wipe σ vs = σw) (hτ : ∀ c, σw.set i (some (.str ⟨#[c]⟩)) = τ c) (hv : ∀ c, wipe (τ c) vs = σw) (hD : H1 D = none)
    (hs : ∀ c H (R : VK), Ex H1 H → (∀ H4, Ex H H4 → R (f c) H4) → te (τ c) H R) (hd : ∀ H, Ex H1 H → H D = some (.lst (z.cps.toList.map f)) → Qd H) : LcW (Its z) (gName i) tYes te vs σ H1 D Qd := by
  refine lc_grow walk_str hw (fun i _ v => ∃ c, z.cps.toList[i]? = some c ∧ v = f c) hD hz (fun _ _ => trivial) (fun _ _ _ _ _ e => e) ?_ ?_
  · rintro j x H H' acc R hj x1 ha ⟨rfl, c, hc, rfl⟩ hR
    show wipe (σw.set i (some (.str ⟨#[c]⟩))) vs = σw ∧ te (σw.set i (some (.str ⟨#[c]⟩))) _ R
    rw [hτ]
    exact ⟨hv c, hs c _ R x1 fun H4 x4 => hR _ _ ⟨c, by rw [← hc]; simp, rfl⟩ x4⟩
  · intro H acc x1 ha hl hE
    refine hd H x1 ?_
    rw [ha, acc_map (l := z.cps.toList) (f := f) (by rw [hl]; rfl) fun i v e => hE i v e]
theorem ok__law_is_name {k : Nat} (T : Txt K mg) (G__law_letters : FnOk P w K mg base CX0 k (He.ga K "_law_letters") (fdOf K (He.ga K "_law_letters")) p__law_letters spLetters) :
    FnOk P w K mg base CX0 (k + 1) (He.ga K "_law_is_name") (fdOf K (He.ga K "_law_is_name")) p__law_is_name spLawIsName := by
  refine FunD.ok T.d__law_is_name sc__law_is_name (fun vs H Q E h => ?_) (fun cdv A outer s H vs Q E hr h => ?_)
  · obtain ⟨z, rfl, _⟩ := h
    rfl
  · obtain ⟨z, rfl, hz, hQ⟩ := h
    have hz2 := size_le hz
    refine ⟨_, PSs.nox ((pss_cons (ps_set (i := 1) sc__law_is_name.nd rfl (Or.inl rfl) (pe_and (pe_chain op_le op_le pe_int (pe_callB call_lenN (by rfl) T.f_len (by decide +kernel) (pa_cons (pv 0) pa_nil)) pe_int) (pe_one (pe_cmpR op_notIn_seq (pv 0) (pe_lst (pa_cons pe_str (pa_cons pe_str (pa_cons pe_str (pa_cons pe_str (pa_cons pe_str (pa_cons pe_str pa_nil))))))) rfl))))
    (pss_one (ps_ret (pe_and (pv 1) (pe_one (pe_callB (cr_all rfl) (by rfl) T.f_all (by decide +kernel) (pa_cons (pe_lc (own := [("_law_sign_z", 2)]) rfl sc__law_is_name.nd (pi_str (pv 0)) (blkOk_by (own := [("_law_sign_z", 2)]) (N := n__law_is_name) (sc := defScope s__law_is_name) (by decide +kernel)) (fun _ _ _ _ _ => (pg_name (i := 2) sc__law_is_name.nd rfl (Or.inl rfl) (hf := by first | exact Or.inl rfl | exact Or.inr rfl))) (fun _ _ _ _ _ => pts_nil) (fun _ _ _ _ _ => (pe_cmpR op_inS (pv 2) (pe_call0 G__law_letters hr rfl T.g__law_letters T.d__law_letters.kp (b__law_letters T) .nil pass0) rfl))) pa_nil)))))))), ?_⟩
    show tSeq _ _ _ [some (V.str z), none, none] H
    walk_at "K"
    refine r_seqP (fun σ' H' => σ' = [some (V.str z), some (.bl (decide (1 ≤ (z.length : Int)) && (decide ((z.length : Int) ≤ 6) && !inV (.str z) reservedV))), none] ∧ Ex H H') ?_ ?_
    · rintro σ' H' ⟨rfl, x⟩
      have fin : ∀ b : Bool, isNameZ z = b → ∀ H2, Ex H H2 → Q (.bl b) H2 := fun b e H2 x2 => by
        rw [← e]
        exact hQ H2 x2
      walk_at "go"
      refine r_if2 (fun e => ?_) (fun e => ?_)
      · walk_at "go"
        intro D hD
        refine str_walk (f := fun c => .bl (decide (c ∈ lettersZ.cps.toList))) (fun c => [some (V.str z), some (.bl (decide (1 ≤ (z.length : Int)) && (decide ((z.length : Int) ≤ 6) && !inV (.str z) reservedV))), some (.str ⟨#[c]⟩)]) hz rfl (fun _ => rfl) (fun _ => rfl) hD (fun c H2 R x2 hR => ?_) (fun H2 x2 ha => ?_)
        · walk_at "go"
          refine ⟨rfl, ?_⟩
          walk_at "go"
          exact hR _ (Ex.refl _)
        · walk_at "go"
          refine r_all (bs := z.cps.toList.map fun c => decide (c ∈ lettersZ.cps.toList)) (SqL.of (by rw [ha, List.map_map]; rfl)) ?_
          refine fin _ ?_ _ (x.trans x2)
          simp only [Bool.and_eq_true] at e
          unfold isNameZ allLet
          rw [e.1, e.2.1, e.2.2, Bool.true_and, Bool.true_and, Bool.true_and]
      · refine fin _ ?_ _ x
        unfold isNameZ
        rw [← Bool.and_assoc, ← Bool.and_assoc, Bool.and_assoc (decide (1 ≤ (z.length : Int))), e, Bool.false_and]
    · intro N hN
      walk_at "go"
      refine r_if2 (fun e => ?_) (fun e => ?_)
      · walk_at "go"
        refine r_if2 (fun e2 => ?_) (fun e2 => ?_)
        · walk_at "go"
          intro p hp
          walk_at "go"
          refine hN _ _ ⟨?_, Ex.new hp⟩
          rw [e, e2, Bool.true_and, Bool.true_and]
          rfl
        · walk_at "go"
          refine hN _ _ ⟨?_, Ex.refl _⟩
          rw [e2, Bool.false_and, Bool.and_false]
      · walk_at "go"
        refine hN _ _ ⟨?_, Ex.refl _⟩
        rw [e, Bool.false_and]
end
end PW
/-! ### terms: their texts, their levels, how they lie in the heap -/
namespace PW
open PySem PySem.Spec PyProof.Rows L2
inductive Tm where
  | num (i : Int)
  | nam (z : Str)
  | add (a b : Tm)
  | sub (a b : Tm)
  | tim (i : Int) (a : Tm)
  | pow (a : Tm)
  | len (a : Tm)
  | quo (a : Tm) (i : Int)
  | cal (f : Str) (as : List Tm)
/-- the signs of a number -/
def numC (i : Int) : List Nat := if i < 0 then 45 :: TL.numL i.natAbs else TL.numL i.natAbs
namespace Tm
mutual
def dep : Tm → Nat
  | .num _ => 1
  | .nam _ => 1
  | .add a b => 1 + max (dep a) (dep b)
  | .sub a b => 1 + max (dep a) (dep b)
  | .tim _ a => 1 + dep a
  | .pow a => 1 + dep a
  | .len a => 1 + dep a
  | .quo a _ => 1 + dep a
  | .cal _ as => 1 + deps as
def deps : List Tm → Nat
  | [] => 0
  | a :: r => max (dep a) (deps r)
end
mutual
/-- the signs of a term's text -/
def tx : Tm → List Nat
  | .num i => numC i
  | .nam z => TL.tl z
  | .add a b => 40 :: (tx a ++ (32 :: 43 :: 32 :: (tx b ++ [41])))
  | .sub a b => 40 :: (tx a ++ (32 :: 45 :: 32 :: (tx b ++ [41])))
  | .tim i a => numC i ++ (42 :: tx a)
  | .pow a => 50 :: 94 :: tx a
  | .len a => 108 :: 101 :: 110 :: 40 :: (tx a ++ [41])
  | .quo a i => 40 :: (tx a ++ (32 :: 47 :: 47 :: 32 :: (numC i ++ [41])))
  | .cal f as => TL.tl f ++ (40 :: (txs as ++ [41]))
def txs : List Tm → List Nat
  | [] => []
  | a :: r => tx a ++ txr r
def txr : List Tm → List Nat
  | [] => []
  | a :: r => 44 :: 32 :: (tx a ++ txr r)
end
/-- a term's text -/
def txt (t : Tm) : Str := ⟨t.tx.toArray⟩
/-- the terms directly inside -/
def parts : Tm → List Tm
  | .num _ => []
  | .nam _ => []
  | .add a b => [a, b]
  | .sub a b => [a, b]
  | .tim _ a => [a]
  | .pow a => [a]
  | .len a => [a]
  | .quo a _ => [a]
  | .cal _ as => as
mutual
/-- a bound of a term's size -/
def cost : Tm → Nat
  | .num _ => 1
  | .nam z => 1 + z.length
  | .add a b => 1 + cost a + cost b
  | .sub a b => 1 + cost a + cost b
  | .tim _ a => 1 + cost a
  | .pow a => 1 + cost a
  | .len a => 1 + cost a
  | .quo a _ => 1 + cost a
  | .cal f as => 1 + f.length + costs as
def costs : List Tm → Nat
  | [] => 0
  | a :: r => cost a + costs r
end
mutual
/-- names are names, ints are below n, m, q -/
def ok (n m q : Nat) : Tm → Prop
  | .num i => i.natAbs < n
  | .nam z => isNameZ z = true
  | .add a b => ok n m q a ∧ ok n m q b
  | .sub a b => ok n m q a ∧ ok n m q b
  | .tim i a => i.natAbs < m ∧ ok n m q a
  | .pow a => ok n m q a
  | .len a => ok n m q a
  | .quo a i => (1 ≤ i ∧ i < (q : Nat)) ∧ ok n m q a
  | .cal f as => isNameZ f = true ∧ as.length ≤ 3 ∧ oks n m q as
def oks (n m q : Nat) : List Tm → Prop
  | [] => True
  | a :: r => ok n m q a ∧ oks n m q r
end
mutual
/-- a term as a datum -/
def pd : Tm → PyData
  | .num i => .tuple [.str "number", .int i]
  | .nam z => .tuple [.str "name", .str z]
  | .add a b => .tuple [.str "add", pd a, pd b]
  | .sub a b => .tuple [.str "subtract", pd a, pd b]
  | .tim i a => .tuple [.str "times", .int i, pd a]
  | .pow a => .tuple [.str "power", pd a]
  | .len a => .tuple [.str "length", pd a]
  | .quo a i => .tuple [.str "quotient", pd a, .int i]
  | .cal f as => .tuple [.str "call", .str f, .tuple (pds as)]
def pds : List Tm → List PyData
  | [] => []
  | a :: r => pd a :: pds r
end
theorem oks_mem {n m q : Nat} : ∀ {as : List Tm}, oks n m q as ↔ ∀ a ∈ as, ok n m q a
  | [] => by simp [oks]
  | a :: r => by
    simp only [oks, List.mem_cons, forall_eq_or_imp]
    rw [oks_mem]
theorem pds_map : ∀ {as : List Tm}, pds as = as.map pd
  | [] => rfl
  | a :: r => by
    simp only [pds, List.map_cons]
    rw [pds_map]
theorem dep_pos (t : Tm) : 1 ≤ t.dep := by
  cases t <;> (unfold dep; omega)
theorem deps_le {as : List Tm} {n : Nat} : deps as ≤ n ↔ ∀ a ∈ as, a.dep ≤ n := by
  induction as with
  | nil => simp [deps]
  | cons a r ih =>
    simp only [deps, List.mem_cons, forall_eq_or_imp]
    rw [← ih]
    omega
theorem dep_parts {t : Tm} {n : Nat} (h : t.dep ≤ n + 1) : ∀ a ∈ t.parts, a.dep ≤ n := by
  cases t with
  | num i => intro a ha; exact nomatch ha
  | nam z => intro a ha; exact nomatch ha
  | add x y =>
    intro a ha
    simp only [dep] at h
    simp only [parts, List.mem_cons, List.not_mem_nil, or_false] at ha
    rcases ha with rfl | rfl <;> omega
  | sub x y =>
    intro a ha
    simp only [dep] at h
    simp only [parts, List.mem_cons, List.not_mem_nil, or_false] at ha
    rcases ha with rfl | rfl <;> omega
  | cal f as =>
    simp only [dep] at h
    exact deps_le.mp (show deps as ≤ n by omega)
  | _ =>
    intro a ha
    simp only [dep] at h
    simp only [parts, List.mem_cons, List.not_mem_nil, or_false] at ha
    subst ha
    omega
theorem deps_eq (t : Tm) : t.dep = 1 + deps t.parts := by
  cases t <;> simp [dep, parts, deps]
/-- the word at a term's head -/
def word : Tm → Str
  | .num _ => "number"
  | .nam _ => "name"
  | .add _ _ => "add"
  | .sub _ _ => "subtract"
  | .tim _ _ => "times"
  | .pow _ => "power"
  | .len _ => "length"
  | .quo _ _ => "quotient"
  | .cal _ _ => "call"
end Tm
/-- the tuple of a term: R tells its parts -/
def TmRow (K : PySem.W.Frag) (H : Hp) (R : V → Tm → Prop) (xs : List V) : Tm → Prop
  | .num i => xs = [.str "number", .int i]
  | .nam z => xs = [.str "name", .str z]
  | .add a b => ∃ x y, xs = [.str "add", x, y] ∧ R x a ∧ R y b
  | .sub a b => ∃ x y, xs = [.str "subtract", x, y] ∧ R x a ∧ R y b
  | .tim i a => ∃ x, xs = [.str "times", .int i, x] ∧ R x a
  | .pow a => ∃ x, xs = [.str "power", x] ∧ R x a
  | .len a => ∃ x, xs = [.str "length", x] ∧ R x a
  | .quo a i => ∃ x, xs = [.str "quotient", x, .int i] ∧ R x a
  | .cal f as => ∃ q ys, xs = [.str "call", .str f, .ref q] ∧ H q = some (.tup ys) ∧ Paired R ys as
/-- v is the term t, of at most d levels -/
def IsTm (K : PySem.W.Frag) (H : Hp) : Nat → V → Tm → Prop
  | 0, _, _ => False
  | d + 1, v, t => ∃ p xs, v = .ref p ∧ H p = some (.tup xs) ∧ TmRow K H (IsTm K H d) xs t
theorem TmRow.imp {K : PySem.W.Frag} {H H' : Hp} {R R' : V → Tm → Prop} {xs : List V} {t : Tm} (e : ∀ {p ys}, H p = some (.tup ys) → H' p = some (.tup ys)) (h : ∀ x a, R x a → R' x a) (r : TmRow K H R xs t) : TmRow K H' R' xs t := by
  cases t with
  | num i => exact r
  | nam z => exact r
  | add a b => obtain ⟨x, y, e1, e2, e3⟩ := r; exact ⟨x, y, e1, h _ _ e2, h _ _ e3⟩
  | sub a b => obtain ⟨x, y, e1, e2, e3⟩ := r; exact ⟨x, y, e1, h _ _ e2, h _ _ e3⟩
  | cal f as => obtain ⟨q, ys, e1, e2, e3⟩ := r; exact ⟨q, ys, e1, e e2, L2.Paired.mapP e3 h⟩
  | _ => obtain ⟨x, e1, e2⟩ := r; exact ⟨x, e1, h _ _ e2⟩
theorem IsTm.ex {K : PySem.W.Frag} {H H' : Hp} (x : Ex H H') : ∀ {d : Nat} {v : V} {t : Tm}, IsTm K H d v t → IsTm K H' d v t
  | 0, _, _, h => h.elim
  | d + 1, v, t, h => by
    obtain ⟨p, xs, e, h1, h2⟩ := h
    exact ⟨p, xs, e, x _ _ h1, h2.imp (fun q => x _ _ q) fun _ _ z => IsTm.ex x z⟩
theorem IsTm.up {K : PySem.W.Frag} {H : Hp} : ∀ {d d' : Nat} {v : V} {t : Tm}, d ≤ d' → IsTm K H d v t → IsTm K H d' v t
  | 0, _, _, _, _, h => h.elim
  | d + 1, 0, _, _, e, _ => absurd e (by omega)
  | d + 1, d' + 1, v, t, e, h => by
    obtain ⟨p, xs, e1, h1, h2⟩ := h
    exact ⟨p, xs, e1, h1, h2.imp id fun _ _ z => IsTm.up (by omega) z⟩
theorem pr_len {α β : Type} {F : α → β → Prop} {xs : List α} {ys : List β} (h : Paired F xs ys) : xs.length = ys.length := Paired.length h
theorem pr_get {α β : Type} {F : α → β → Prop} : ∀ {xs : List α} {ys : List β} {i : Nat} {x : α}, Paired F xs ys → xs[i]? = some x → ∃ y, ys[i]? = some y ∧ F x y
  | _, _, _, _, .nil, h => by cases h
  | _, _, 0, _, .cons r _, h => ⟨_, rfl, by
    injection h with h
    subst h
    exact r⟩
  | _, _, i + 1, _, .cons _ t, h => pr_get (i := i) t h
theorem deps_paired {R : V → Tm → Prop} {d : Nat} (h : ∀ v t, R v t → t.dep ≤ d) : ∀ {ys : List V} {as : List Tm}, Paired R ys as → Tm.deps as ≤ d
  | _, _, .nil => by simp [Tm.deps]
  | _, _, .cons a b => by
    have h1 := h _ _ a
    have h2 := deps_paired h b
    simp only [Tm.deps]
    omega
theorem IsTm.depth {K : PySem.W.Frag} {H : Hp} : ∀ {d : Nat} {v : V} {t : Tm}, IsTm K H d v t → t.dep ≤ d
  | 0, _, _, h => h.elim
  | d + 1, v, t, h => by
    obtain ⟨p, xs, e1, h1, h2⟩ := h
    cases t with
    | num i => simp only [Tm.dep]; omega
    | nam i => simp only [Tm.dep]; omega
    | add a b =>
      obtain ⟨x, y, _, e2, e3⟩ := h2
      have := IsTm.depth e2
      have := IsTm.depth e3
      simp only [Tm.dep]
      omega
    | sub a b =>
      obtain ⟨x, y, _, e2, e3⟩ := h2
      have := IsTm.depth e2
      have := IsTm.depth e3
      simp only [Tm.dep]
      omega
    | cal f as =>
      obtain ⟨q, ys, _, _, e3⟩ := h2
      have hd : Tm.deps as ≤ d := deps_paired (fun _ _ z => IsTm.depth z) e3
      simp only [Tm.dep]
      omega
    | _ =>
      obtain ⟨x, _, e2⟩ := h2
      have := IsTm.depth e2
      simp only [Tm.dep]
      omega
/-- a new tuple is a term -/
theorem IsTm.mk {K : PySem.W.Frag} {H : Hp} {d : Nat} {p : Addr} {xs : List V} {t : Tm} (h : H p = some (.tup xs)) (r : TmRow K H (IsTm K H d) xs t) : IsTm K H (d + 1) (.ref p) t := ⟨p, xs, rfl, h, r⟩
theorem tl_iS (i : Int) : TL.tl (Str.ofString (toString i)) = numC i := by
  unfold numC
  cases i with
  | ofNat n =>
    rw [if_neg (by show ¬ (n : Int) < 0; omega)]
    exact TL.tl_num n
  | negSucc n =>
    rw [if_pos (Int.negSucc_lt_zero n)]
    have e : toString (Int.negSucc n) = "-" ++ Nat.repr (n + 1) := rfl
    have e2 := TL.tl_num (n + 1)
    have e3 : toString ((n + 1 : Nat) : Int) = Nat.repr (n + 1) := rfl
    rw [e3] at e2
    rw [e, Str.ofString_eq_toList]
    rw [Str.ofString_eq_toList] at e2
    show (("-" ++ Nat.repr (n + 1)).toList.map Char.toNat) = _
    have e4 : (Nat.repr (n + 1)).toList.map Char.toNat = TL.numL (n + 1) := e2
    rw [String.toList_append, List.map_append, e4]
    rfl
theorem numC_len {i : Int} {k : Nat} (hk : 0 < k) (h : i.natAbs < 10 ^ k) : (numC i).length ≤ k + 1 := by
  have := TL.numL_len hk h
  unfold numC
  split
  · show (TL.numL i.natAbs).length + 1 ≤ k + 1
    omega
  · omega
theorem numC_ne (i : Int) : numC i ≠ [] := by
  unfold numC
  split
  · exact List.cons_ne_nil _ _
  · exact TL.numL_ne _
end PW
/-! ### terms as data; bounds of their texts -/
namespace PW
open PySem PySem.Spec PyProof.Rows L2
theorem lettersZ_tl : TL.tl lettersZ = [97, 98, 99, 100, 101, 102, 103, 104, 105, 106, 107, 108, 109, 110, 111, 112, 113, 114, 115, 116, 117, 118, 119, 120, 121, 122] := by decide +kernel
theorem mem_letters {c : Nat} : c ∈ lettersZ.cps.toList ↔ 97 ≤ c ∧ c ≤ 122 := by
  rw [show lettersZ.cps.toList = _ from lettersZ_tl]
  constructor
  · intro h
    simp only [List.mem_cons, List.not_mem_nil, or_false] at h
    omega
  · rintro ⟨h1, h2⟩
    simp only [List.mem_cons, List.not_mem_nil, or_false]
    omega
theorem allLet_iff {z : Str} : allLet z = true ↔ ∀ c ∈ TL.tl z, 97 ≤ c ∧ c ≤ 122 := by
  unfold allLet
  rw [List.all_map, List.all_eq_true]
  constructor
  · intro h c hc
    exact mem_letters.mp (of_decide_eq_true (h c hc))
  · intro h c hc
    exact decide_eq_true (mem_letters.mpr (h c hc))
structure IsNm (z : Str) : Prop where
  l1 : 1 ≤ z.length
  l6 : z.length ≤ 6
  let_ : ∀ c ∈ TL.tl z, 97 ≤ c ∧ c ≤ 122
  res : inV (.str z) reservedV = false
theorem isNm_iff {z : Str} : isNameZ z = true ↔ IsNm z := by
  unfold isNameZ
  simp only [Bool.and_eq_true, decide_eq_true_eq, Bool.not_eq_true']
  constructor
  · rintro ⟨h1, h2, h3, h4⟩
    exact ⟨by omega, by omega, allLet_iff.mp h4, h3⟩
  · rintro ⟨h1, h2, h3, h4⟩
    exact ⟨by omega, by omega, h4, allLet_iff.mpr h3⟩
theorem nm_repr {z : Str} (h : IsNm z) : (reprText z).length ≤ 10 * z.length + 2 := StrLaws.reprText_len z fun c hc => by
  have := (h.let_ c hc).2
  exact Nat.lt_of_le_of_lt this (by decide)
theorem IsTm.dat {K : PySem.W.Frag} {H : Hp} : ∀ {d : Nat} {v : V} {t : Tm}, IsTm K H d v t → Dp K H v t.pd
  | 0, _, _, h => h.elim
  | d + 1, v, t, h => by
    obtain ⟨p, xs, rfl, h1, h2⟩ := h
    cases t with
    | num i =>
      have h2 : xs = _ := h2
      subst h2
      simp only [Tm.pd]
      exact .tup (SqT.of h1) (.cons (.str _) (.cons (.int _) .nil))
    | nam z =>
      have h2 : xs = _ := h2
      subst h2
      simp only [Tm.pd]
      exact .tup (SqT.of h1) (.cons (.str _) (.cons (.str _) .nil))
    | add a b =>
      obtain ⟨x, y, rfl, e2, e3⟩ := h2
      simp only [Tm.pd]
      exact .tup (SqT.of h1) (.cons (.str _) (.cons (IsTm.dat e2) (.cons (IsTm.dat e3) .nil)))
    | sub a b =>
      obtain ⟨x, y, rfl, e2, e3⟩ := h2
      simp only [Tm.pd]
      exact .tup (SqT.of h1) (.cons (.str _) (.cons (IsTm.dat e2) (.cons (IsTm.dat e3) .nil)))
    | tim i a =>
      obtain ⟨x, rfl, e2⟩ := h2
      simp only [Tm.pd]
      exact .tup (SqT.of h1) (.cons (.str _) (.cons (.int _) (.cons (IsTm.dat e2) .nil)))
    | pow a =>
      obtain ⟨x, rfl, e2⟩ := h2
      simp only [Tm.pd]
      exact .tup (SqT.of h1) (.cons (.str _) (.cons (IsTm.dat e2) .nil))
    | len a =>
      obtain ⟨x, rfl, e2⟩ := h2
      simp only [Tm.pd]
      exact .tup (SqT.of h1) (.cons (.str _) (.cons (IsTm.dat e2) .nil))
    | quo a i =>
      obtain ⟨x, rfl, e2⟩ := h2
      simp only [Tm.pd]
      exact .tup (SqT.of h1) (.cons (.str _) (.cons (IsTm.dat e2) (.cons (.int _) .nil)))
    | cal f as =>
      obtain ⟨q, ys, rfl, e2, e3⟩ := h2
      simp only [Tm.pd]
      refine .tup (SqT.of h1) (.cons (.str _) (.cons (.str _) (.cons (.tup (SqT.of e2) ?_) .nil)))
      have go : ∀ {ys : List V} {as : List Tm}, Paired (IsTm K H d) ys as → DpAll K H ys (Tm.pds as) := by
        intro ys as z
        induction z with
        | nil => exact .nil
        | cons a b ih => exact .cons (IsTm.dat a) ih
      exact go e3
namespace Tm
mutual
theorem pd_dict : ∀ t : Tm, t.pd.hasDict = false
  | .num _ => by simp [pd, PyData.hasDict, PyData.hasDictAll]
  | .nam _ => by simp [pd, PyData.hasDict, PyData.hasDictAll]
  | .add a b => by simp [pd, PyData.hasDict, PyData.hasDictAll, pd_dict a, pd_dict b]
  | .sub a b => by simp [pd, PyData.hasDict, PyData.hasDictAll, pd_dict a, pd_dict b]
  | .tim _ a => by simp [pd, PyData.hasDict, PyData.hasDictAll, pd_dict a]
  | .pow a => by simp [pd, PyData.hasDict, PyData.hasDictAll, pd_dict a]
  | .len a => by simp [pd, PyData.hasDict, PyData.hasDictAll, pd_dict a]
  | .quo a _ => by simp [pd, PyData.hasDict, PyData.hasDictAll, pd_dict a]
  | .cal _ as => by simp [pd, PyData.hasDict, PyData.hasDictAll, pds_dict as]
theorem pds_dict : ∀ as : List Tm, PyData.hasDictAll (pds as) = false
  | [] => rfl
  | a :: r => by simp [pds, PyData.hasDictAll, pd_dict a, pds_dict r]
end
mutual
theorem pd_depth : ∀ t : Tm, t.pd.depth ≤ 2 * t.dep
  | .num _ => by simp [pd, PyData.depth, PyData.depthAll, dep]
  | .nam _ => by simp [pd, PyData.depth, PyData.depthAll, dep]
  | .add a b => by
    have := pd_depth a
    have := pd_depth b
    simp only [pd, PyData.depth, PyData.depthAll, dep]
    omega
  | .sub a b => by
    have := pd_depth a
    have := pd_depth b
    simp only [pd, PyData.depth, PyData.depthAll, dep]
    omega
  | .tim _ a => by
    have := pd_depth a
    simp only [pd, PyData.depth, PyData.depthAll, dep]
    omega
  | .pow a => by
    have := pd_depth a
    simp only [pd, PyData.depth, PyData.depthAll, dep]
    omega
  | .len a => by
    have := pd_depth a
    simp only [pd, PyData.depth, PyData.depthAll, dep]
    omega
  | .quo a _ => by
    have := pd_depth a
    simp only [pd, PyData.depth, PyData.depthAll, dep]
    omega
  | .cal _ as => by
    have := pds_depth as
    simp only [pd, PyData.depth, PyData.depthAll, dep]
    omega
theorem pds_depth : ∀ as : List Tm, PyData.depthAll (pds as) ≤ 2 * deps as
  | [] => by simp [pds, PyData.depthAll, deps]
  | a :: r => by
    have := pd_depth a
    have := pds_depth r
    simp only [pds, PyData.depthAll, deps]
    omega
end
end Tm
theorem log_small {i : Int} {n : Nat} (h : i.natAbs < n) (hn : n ≤ 10 ^ 10) : i.natAbs.log2 < 1920 := by
  by_cases h0 : i.natAbs = 0
  · rw [h0]; decide
  · exact (Nat.log2_lt h0).mpr (Nat.lt_of_lt_of_le (Nat.lt_of_lt_of_le h hn) (by
      have : (10 : Nat) ^ 10 ≤ 2 ^ 40 := by decide
      exact Nat.le_trans this (Nat.pow_le_pow_right (by decide) (by decide))))
theorem shown_int {i : Int} (h : i.natAbs < 10 ^ 10) : (PyData.int i).shown.length ≤ 11 := by
  simp only [PyData.shown]
  rw [PySem.ofString_length]
  exact int_text_length_le10 (by decide) h
theorem shown_tup (ds : List PyData) : (PyData.tuple ds).shown.length ≤ piled (PyData.shownAll ds) + 2 := by
  simp only [PyData.shown]
  unfold tupleText
  rw [Str.length_append, Str.length_append]
  have l1 : ("(" : Str).length = 1 := by decide +kernel
  have l2 : (Str.ofString (if ((PyData.shownAll ds).length == 1) = true then ",)" else ")")).length ≤ 2 := by
    split <;> decide +kernel
  by_cases h : PyData.shownAll ds = []
  · rw [h]
    decide +kernel
  · have := join_length_add _ h
    have l3 : (if ((PyData.shownAll ds).length == 1) = true then Str.ofString ",)" else Str.ofString ")").length ≤ 2 := by
      split <;> decide +kernel
    omega
structure TmB (n m q : Nat) : Prop where
  n : n ≤ 10 ^ 10
  m : m ≤ 10 ^ 10
  q : q ≤ 10 ^ 10
namespace Tm
variable {n m q : Nat}
mutual
theorem showable (B : TmB n m q) : ∀ t : Tm, t.ok n m q → t.pd.showable = true
  | .num i, h => by
    have h : i.natAbs < n := by simpa only [ok] using h
    simp [pd, PyData.showable, PyData.showableAll, log_small h B.n]
  | .nam _, _ => by simp [pd, PyData.showable, PyData.showableAll]
  | .add a b, h => by
    have h : ok n m q a ∧ ok n m q b := by simpa only [ok] using h
    simp [pd, PyData.showable, PyData.showableAll, showable B a h.1, showable B b h.2]
  | .sub a b, h => by
    have h : ok n m q a ∧ ok n m q b := by simpa only [ok] using h
    simp [pd, PyData.showable, PyData.showableAll, showable B a h.1, showable B b h.2]
  | .tim i a, h => by
    have h : i.natAbs < m ∧ ok n m q a := by simpa only [ok] using h
    simp [pd, PyData.showable, PyData.showableAll, log_small h.1 B.m, showable B a h.2]
  | .pow a, h => by
    have h : ok n m q a := by simpa only [ok] using h
    simp [pd, PyData.showable, PyData.showableAll, showable B a h]
  | .len a, h => by
    have h : ok n m q a := by simpa only [ok] using h
    simp [pd, PyData.showable, PyData.showableAll, showable B a h]
  | .quo a i, h => by
    have h : (1 ≤ i ∧ i < (q : Nat)) ∧ ok n m q a := by simpa only [ok] using h
    simp [pd, PyData.showable, PyData.showableAll, log_small (show i.natAbs < q by omega) B.q, showable B a h.2]
  | .cal f as, h => by
    have h : isNameZ f = true ∧ as.length ≤ 3 ∧ oks n m q as := by simpa only [ok] using h
    simp [pd, PyData.showable, PyData.showableAll, showables B as h.2.2]
theorem showables (B : TmB n m q) : ∀ as : List Tm, oks n m q as → PyData.showableAll (pds as) = true
  | [], _ => rfl
  | a :: r, h => by
    have h : ok n m q a ∧ oks n m q r := by simpa only [oks] using h
    simp [pds, PyData.showableAll, showable B a h.1, showables B r h.2]
end
theorem w_len {z : Str} {n : Nat} (h : (reprText z).length ≤ n := by decide +kernel) : (PyData.str z).shown.length ≤ n := by
  simp only [PyData.shown]
  exact h
mutual
theorem shown_len (B : TmB n m q) : ∀ t : Tm, t.ok n m q → t.pd.shown.length ≤ 48 * t.cost
  | .num i, h => by
    have h : i.natAbs < n := by simpa only [ok] using h
    have h1 := shown_int (Nat.lt_of_lt_of_le h B.n)
    have h2 := w_len (z := "number") (n := 8)
    have h3 := shown_tup [.str "number", .int i]
    simp only [pd, PyData.shownAll, piled_cons, piled_nil, cost] at h3 ⊢
    omega
  | .nam z, h => by
    have h : isNameZ z = true := by simpa only [ok] using h
    have h1 := nm_repr (isNm_iff.mp h)
    have h4 := w_len (z := z) h1
    have h2 := w_len (z := "name") (n := 6)
    have h3 := shown_tup [.str "name", .str z]
    simp only [pd, PyData.shownAll, piled_cons, piled_nil, cost] at h3 ⊢
    omega
  | .add a b, h => by
    have h : ok n m q a ∧ ok n m q b := by simpa only [ok] using h
    have h1 := shown_len B a h.1
    have h4 := shown_len B b h.2
    have h2 := w_len (z := "add") (n := 5)
    have h3 := shown_tup [.str "add", a.pd, b.pd]
    simp only [pd, PyData.shownAll, piled_cons, piled_nil, cost] at h3 ⊢
    omega
  | .sub a b, h => by
    have h : ok n m q a ∧ ok n m q b := by simpa only [ok] using h
    have h1 := shown_len B a h.1
    have h4 := shown_len B b h.2
    have h2 := w_len (z := "subtract") (n := 10)
    have h3 := shown_tup [.str "subtract", a.pd, b.pd]
    simp only [pd, PyData.shownAll, piled_cons, piled_nil, cost] at h3 ⊢
    omega
  | .tim i a, h => by
    have h : i.natAbs < m ∧ ok n m q a := by simpa only [ok] using h
    have h1 := shown_int (Nat.lt_of_lt_of_le h.1 B.m)
    have h4 := shown_len B a h.2
    have h2 := w_len (z := "times") (n := 7)
    have h3 := shown_tup [.str "times", .int i, a.pd]
    simp only [pd, PyData.shownAll, piled_cons, piled_nil, cost] at h3 ⊢
    omega
  | .pow a, h => by
    have h : ok n m q a := by simpa only [ok] using h
    have h4 := shown_len B a h
    have h2 := w_len (z := "power") (n := 7)
    have h3 := shown_tup [.str "power", a.pd]
    simp only [pd, PyData.shownAll, piled_cons, piled_nil, cost] at h3 ⊢
    omega
  | .len a, h => by
    have h : ok n m q a := by simpa only [ok] using h
    have h4 := shown_len B a h
    have h2 := w_len (z := "length") (n := 8)
    have h3 := shown_tup [.str "length", a.pd]
    simp only [pd, PyData.shownAll, piled_cons, piled_nil, cost] at h3 ⊢
    omega
  | .quo a i, h => by
    have h : (1 ≤ i ∧ i < (q : Nat)) ∧ ok n m q a := by simpa only [ok] using h
    have h1 := shown_int (Nat.lt_of_lt_of_le (show i.natAbs < q by omega) B.q)
    have h4 := shown_len B a h.2
    have h2 := w_len (z := "quotient") (n := 10)
    have h3 := shown_tup [.str "quotient", a.pd, .int i]
    simp only [pd, PyData.shownAll, piled_cons, piled_nil, cost] at h3 ⊢
    omega
  | .cal f as, h => by
    have h : isNameZ f = true ∧ as.length ≤ 3 ∧ oks n m q as := by simpa only [ok] using h
    have h1 := w_len (z := f) (nm_repr (isNm_iff.mp h.1))
    have h4 := showns_len B as h.2.2
    have h2 := w_len (z := "call") (n := 6)
    have h5 := shown_tup (pds as)
    have h3 := shown_tup [.str "call", .str f, .tuple (pds as)]
    simp only [pd, PyData.shownAll, piled_cons, piled_nil, cost] at h3 ⊢
    omega
theorem showns_len (B : TmB n m q) : ∀ as : List Tm, oks n m q as → piled (PyData.shownAll (pds as)) ≤ 48 * costs as + 2 * as.length
  | [], _ => by simp [pds, PyData.shownAll, piled_nil]
  | a :: r, h => by
    have h : ok n m q a ∧ oks n m q r := by simpa only [oks] using h
    have h1 := shown_len B a h.1
    have h2 := showns_len B r h.2
    simp only [pds, PyData.shownAll, piled_cons, costs, List.length_cons]
    omega
end
theorem numC_le {i : Int} {n : Nat} (h : i.natAbs < n) (hn : n ≤ 10 ^ 10) : (numC i).length ≤ 11 := numC_len (by decide) (Nat.lt_of_lt_of_le h hn)
mutual
theorem tx_len (B : TmB n m q) : ∀ t : Tm, t.ok n m q → t.tx.length ≤ 20 * t.cost
  | .num i, h => by
    have h : i.natAbs < n := by simpa only [ok] using h
    have := numC_le h B.n
    simp only [tx, cost]
    omega
  | .nam z, h => by
    have e := TL.len_tl z
    simp only [tx, cost]
    omega
  | .add a b, h => by
    have h : ok n m q a ∧ ok n m q b := by simpa only [ok] using h
    have h1 := tx_len B a h.1
    have h4 := tx_len B b h.2
    simp only [tx, cost, List.length_cons, List.length_append, List.length_nil]
    omega
  | .sub a b, h => by
    have h : ok n m q a ∧ ok n m q b := by simpa only [ok] using h
    have h1 := tx_len B a h.1
    have h4 := tx_len B b h.2
    simp only [tx, cost, List.length_cons, List.length_append, List.length_nil]
    omega
  | .tim i a, h => by
    have h : i.natAbs < m ∧ ok n m q a := by simpa only [ok] using h
    have h1 := numC_le h.1 B.m
    have h4 := tx_len B a h.2
    simp only [tx, cost, List.length_cons, List.length_append, List.length_nil]
    omega
  | .pow a, h => by
    have h : ok n m q a := by simpa only [ok] using h
    have h4 := tx_len B a h
    simp only [tx, cost, List.length_cons, List.length_append, List.length_nil]
    omega
  | .len a, h => by
    have h : ok n m q a := by simpa only [ok] using h
    have h4 := tx_len B a h
    simp only [tx, cost, List.length_cons, List.length_append, List.length_nil]
    omega
  | .quo a i, h => by
    have h : (1 ≤ i ∧ i < (q : Nat)) ∧ ok n m q a := by simpa only [ok] using h
    have h1 := numC_le (show i.natAbs < q by omega) B.q
    have h4 := tx_len B a h.2
    simp only [tx, cost, List.length_cons, List.length_append, List.length_nil]
    omega
  | .cal f as, h => by
    have h : isNameZ f = true ∧ as.length ≤ 3 ∧ oks n m q as := by simpa only [ok] using h
    have e := TL.len_tl f
    have h4 := txr_len B as h.2.2
    have h5 : (txs as).length ≤ (txr as).length := by
      cases as with
      | nil => simp [txs, txr]
      | cons a r =>
        simp only [txs, txr, List.length_cons, List.length_append]
        omega
    simp only [tx, cost, List.length_cons, List.length_append, List.length_nil]
    omega
theorem txr_len (B : TmB n m q) : ∀ as : List Tm, oks n m q as → (txr as).length ≤ 20 * costs as + 2 * as.length
  | [], _ => by simp [txr]
  | a :: r, h => by
    have h : ok n m q a ∧ oks n m q r := by simpa only [oks] using h
    have h1 := tx_len B a h.1
    have h2 := txr_len B r h.2
    simp only [txr, costs, List.length_cons, List.length_append]
    omega
end
end Tm
end PW
/-! ### texts by their signs -/
namespace PW
open PySem PySem.Spec PyProof.Rows L2
theorem tl_cut (z : Str) (i j : Nat) : TL.tl (cutS z (some (i : Int)) (some (j : Int))) = ((TL.tl z).drop i).take (j - i) := by
  unfold cutS
  show ((z.cps.toList.drop (HT.sIx z.length 0 (some (i : Int)))).take (HT.sIx z.length z.length (some (j : Int)) - HT.sIx z.length 0 (some (i : Int)))) = _
  rw [HT.sIx_nat, HT.sIx_nat]
  have e : z.length = z.cps.toList.length := TL.len_tl z
  show (z.cps.toList.drop _).take _ = (z.cps.toList.drop i).take (j - i)
  generalize z.cps.toList = l at e
  by_cases h : i ≤ l.length
  · rw [show min i z.length = i by omega]
    by_cases h2 : j ≤ l.length
    · rw [show min j z.length = j by omega]
    · rw [show min j z.length = l.length by omega]
      rw [List.take_of_length_le (by rw [List.length_drop]; omega), List.take_of_length_le (by rw [List.length_drop]; omega)]
  · rw [show min i z.length = l.length by omega]
    rw [List.drop_eq_nil_of_le (Nat.le_refl _), List.drop_eq_nil_of_le (show l.length ≤ i by omega)]
    simp
theorem tl_cut0 (z : Str) (j : Nat) : TL.tl (cutS z none (some (j : Int))) = (TL.tl z).take j := by
  unfold cutS
  show ((z.cps.toList.drop (HT.sIx z.length 0 none)).take (HT.sIx z.length z.length (some (j : Int)) - HT.sIx z.length 0 none)) = _
  rw [HT.sIx_nat, HT.sIx_none]
  have e : z.length = z.cps.toList.length := TL.len_tl z
  show (z.cps.toList.drop 0).take (min j z.length - 0) = z.cps.toList.take j
  generalize z.cps.toList = l at e
  rw [List.drop_zero, Nat.sub_zero]
  by_cases h2 : j ≤ l.length
  · rw [show min j z.length = j by omega]
  · rw [show min j z.length = l.length by omega, List.take_of_length_le (Nat.le_refl _), List.take_of_length_le (by omega)]
theorem tl_cut1 (z : Str) (i : Nat) : TL.tl (cutS z (some (i : Int)) none) = (TL.tl z).drop i := by
  unfold cutS
  show ((z.cps.toList.drop (HT.sIx z.length 0 (some (i : Int)))).take (HT.sIx z.length z.length none - HT.sIx z.length 0 (some (i : Int)))) = _
  rw [HT.sIx_nat, HT.sIx_none]
  have e : z.length = z.cps.toList.length := TL.len_tl z
  show (z.cps.toList.drop (min i z.length)).take (z.length - min i z.length) = z.cps.toList.drop i
  generalize z.cps.toList = l at e
  by_cases h : i ≤ l.length
  · rw [show min i z.length = i by omega, List.take_of_length_le (by rw [List.length_drop]; omega)]
  · rw [show min i z.length = l.length by omega, List.drop_eq_nil_of_le (Nat.le_refl _), List.drop_eq_nil_of_le (show l.length ≤ i by omega)]
    simp
theorem len_eq (z : Str) : z.length = (TL.tl z).length := TL.len_tl z
theorem joinL_nil : ∀ ps : List (List Nat), TL.joinL [] ps = ps.flatten
  | [] => rfl
  | [p] => by simp [TL.joinL]
  | p :: q :: r => by
    show p ++ ([] ++ TL.joinL [] (q :: r)) = _
    rw [joinL_nil (q :: r)]
    simp
/-- letters alone -/
def LetS (z : Str) : Prop := ∀ c ∈ TL.tl z, 97 ≤ c ∧ c ≤ 122
theorem tl_joinE {ys : List Str} : TL.tl (Txt.join (Str.ofString "") ys) = (ys.map TL.tl).flatten := by
  rw [TL.join_eq, TL.tl_join, show TL.tl (Str.ofString "") = [] by decide +kernel, joinL_nil]
theorem join_let {ys : List Str} (h : ∀ z ∈ ys, LetS z) : LetS (Txt.join (Str.ofString "") ys) := fun c hc => by
  rw [tl_joinE, List.mem_flatten] at hc
  obtain ⟨l, hl, hc⟩ := hc
  obtain ⟨z, hz, rfl⟩ := List.mem_map.mp hl
  exact h z hz c hc
theorem join_one {ys : List Str} (h : ∀ z ∈ ys, z.length = 1) : (Txt.join (Str.ofString "") ys).length = ys.length := by
  rw [len_eq, tl_joinE]
  induction ys with
  | nil => rfl
  | cons y r ih =>
    have h1 := h y List.mem_cons_self
    rw [len_eq] at h1
    rw [List.map_cons, List.flatten_cons, List.length_append, ih fun z hz => h z (List.mem_cons_of_mem _ hz), h1, List.length_cons]
    omega
theorem eqV_str {a b : Str} : eqV (.str a) (.str b) = true ↔ b = a := by
  show (a == b) = true ↔ b = a
  rw [beq_iff_eq]
  exact eq_comm
theorem res_iff {z : Str} : inV (.str z) reservedV = true ↔ z = "len" ∨ z = "mod" ∨ z = "and" ∨ z = "or" ∨ z = "not" ∨ z = "true" := by
  unfold inV reservedV
  simp only [List.any_cons, List.any_nil, Bool.or_false, Bool.or_eq_true, eqV_str]
/-- a drawn text of letters is a name, or is one with a letter more -/
theorem fix_nm {z : Str} (h1 : 1 ≤ z.length) (h6 : z.length ≤ 6) (hl : LetS z) : IsNm (if isNameZ z = true then z else z ++ "q") := by
  by_cases h : isNameZ z = true
  · rw [if_pos h]
    exact isNm_iff.mp h
  · rw [if_neg h]
    have hr : inV (.str z) reservedV = true := by
      cases e : inV (.str z) reservedV with
      | true => rfl
      | false => exact absurd (isNm_iff.mpr ⟨h1, h6, hl, e⟩) h
    refine isNm_iff.mp ?_
    rcases res_iff.mp hr with rfl | rfl | rfl | rfl | rfl | rfl <;> decide +kernel
end PW
/-! ### the heap without the bag -/
namespace PW
open PySem PySem.Spec PyProof.Rows L2
theorem Ex.tb {b : Addr} {H H' : Hp} (x : Ex H H') : ExB b H H' := fun a o _ h => x a o h
theorem ExB.hd {b : Addr} {H H' : Hp} (x : ExB b H H') : Ex (PW.hide H b) (PW.hide H' b) := fun a o h => by
  have na : a ≠ b := fun z => by
    rw [z, hide_same] at h
    cases h
  rw [hide_ne na] at h ⊢
  exact x a o na h
theorem hide_new {H : Hp} {b p : Addr} {o : HO} {u : HO} (hb : H b = some u) (hp : H p = none) : hide (L2.upd H p o) b p = some o := by
  have n : p ≠ b := fun z => by
    rw [z, hb] at hp
    cases hp
  rw [hide_ne n, upd_same]
theorem BagAt.some {H : Hp} {b c : Addr} (h : BagAt H b c) : ∃ u, H b = some u := h.objs.1
end PW
/-! ### names, leaves, terms as the laws draw them -/
namespace PW
open PySem PySem.Spec PyProof.Rows L2
structure NmL (H : Hp) (l : Addr) (ns : List Str) : Prop where
  at_ : H l = some (.lst (ns.map V.str))
  ok : ∀ z ∈ ns, IsNm z
theorem NmL.ex {H H' : Hp} {l : Addr} {ns : List Str} (x : Ex H H') (h : NmL H l ns) : NmL H' l ns := ⟨x _ _ h.at_, h.ok⟩
def spLNames : Sp := fun vs H Q _ => ∃ b c m, vs = [.ref b, .int m] ∧ BagAt H b c ∧ 0 ≤ m ∧ m ≤ 10 ∧ ∀ l ns H', NmL (hide H' b) l ns → ns.length = m.toNat → BagAt H' b c → ExB b H H' → Q (.ref l) H'
section
variable {P : Program} {w : World} {K : PySem.W.Frag} {mg : Str → Option Value} {base : Heap}
theorem ok__law_names {k : Nat} (T : Txt K mg)
    (G__law_pull : FnOk P w K mg base CX0 k (He.ga K "_law_pull") (fdOf K (He.ga K "_law_pull")) p__law_pull (spPull))
    (G__law_of : FnOk P w K mg base CX0 k (He.ga K "_law_of") (fdOf K (He.ga K "_law_of")) p__law_of (spOf K))
    (G__law_letters : FnOk P w K mg base CX0 k (He.ga K "_law_letters") (fdOf K (He.ga K "_law_letters")) p__law_letters (spLetters))
    (G__law_is_name : FnOk P w K mg base CX0 k (He.ga K "_law_is_name") (fdOf K (He.ga K "_law_is_name")) p__law_is_name (spLawIsName)) : FnOk P w K mg base CX0 (k + 1) (He.ga K "_law_names") (fdOf K (He.ga K "_law_names")) p__law_names (spLNames) := by
  refine FunD.ok T.d__law_names sc__law_names (fun vs H Q E h => ?_) (fun cdv A outer s H vs Q E hr h => ?_)
  · obtain ⟨b, c, m, rfl, _⟩ := h
    rfl
  · obtain ⟨b, c, m, rfl, hB, hm0, hm1, hQ⟩ := h
    refine ⟨_, PSs.nox ((pss_cons (ps_asg (pe_tup (pa_cons (pe_call G__law_pull hr rfl T.g__law_pull T.d__law_pull.kp (b__law_pull T) .nil pass0 (pa_cons (pv 0) (pa_cons pe_int pa_nil))) (pa_cons (pe_call0 G__law_letters hr rfl T.g__law_letters T.d__law_letters.kp (b__law_letters T) .nil pass0) pa_nil))) (pg_tup rfl (pgs_cons (pg_name (i := 2) sc__law_names.nd rfl (Or.inl rfl) (hf := by first | exact Or.inl rfl | exact Or.inr rfl)) (pgs_cons (pg_name (i := 3) sc__law_names.nd rfl (Or.inr rfl) (hf := by first | exact Or.inl rfl | exact Or.inr rfl)) pgs_nil))))
    (pss_cons (ps_asg (pe_tup (pa_cons (pe_call G__law_pull hr rfl T.g__law_pull T.d__law_pull.kp (b__law_pull T) .nil pass0 (pa_cons (pv 0) (pa_cons (pe_op op_add (pv 2) pe_int) pa_nil))) (pa_cons (pe_call G__law_pull hr rfl T.g__law_pull T.d__law_pull.kp (b__law_pull T) .nil pass0 (pa_cons (pv 0) (pa_cons pe_int pa_nil))) (pa_cons (pe_call G__law_of hr rfl T.g__law_of T.d__law_of.kp (b__law_of T) .nil pass0 (pa_cons (pv 0) (pa_cons (pe_lst (pa_cons pe_int (pa_cons pe_int (pa_cons pe_int (pa_cons pe_int pa_nil))))) pa_nil))) pa_nil)))) (pg_tup rfl (pgs_cons (pg_name (i := 4) sc__law_names.nd rfl (Or.inr rfl) (hf := by first | exact Or.inl rfl | exact Or.inr rfl)) (pgs_cons (pg_name (i := 5) sc__law_names.nd rfl (Or.inr rfl) (hf := by first | exact Or.inl rfl | exact Or.inr rfl)) (pgs_cons (pg_name (i := 6) sc__law_names.nd rfl (Or.inr rfl) (hf := by first | exact Or.inl rfl | exact Or.inr rfl)) pgs_nil)))))
    (pss_cons (ps_set (i := 7) sc__law_names.nd rfl (Or.inr rfl) (pe_join pe_str (pe_lc (own := [("_law_k", 9)]) rfl sc__law_names.nd (pi_range1 rfl T.f_range (pa_cons (pv 2) pa_nil)) (blkOk_by (own := [("_law_k", 9)]) (N := n__law_names) (sc := defScope s__law_names) (by decide +kernel)) (fun _ _ _ _ _ => (pg_name (i := 9) sc__law_names.nd rfl (Or.inl rfl) (hf := by first | exact Or.inl rfl | exact Or.inr rfl))) (fun _ _ _ _ _ => pts_nil) (fun _ _ _ _ _ => (pe_call G__law_of hr rfl T.g__law_of T.d__law_of.kp (b__law_of T) .nil pass0 (pa_cons (pv 0) (pa_cons (pv 3) pa_nil)))))))
    (pss_cons (ps_setLc (i := 8) (own := [("_law_k", 9)]) rfl sc__law_names.nd rfl rfl (sw_true rfl rfl rfl (by decide +kernel)) (pi_range1 rfl T.f_range (pa_cons (pv 1) pa_nil)) (blkOk_by (own := [("_law_k", 9)]) (N := n__law_names) (sc := defScope s__law_names) (by decide +kernel)) (fun _ _ _ _ _ => (pg_name (i := 9) sc__law_names.nd rfl (Or.inl rfl) (hf := by first | exact Or.inl rfl | exact Or.inr rfl))) (fun _ _ _ _ _ => pts_nil) (fun _ _ _ _ _ => (pe_op op_addSN (pe_op op_addSN (pe_slice sl_str (pv 7) po_none (po_some (pv 4))) (pe_ix ix_str (pv 3) (pe_op op_mod (pe_callTy call_intN (by rfl) T.f_int (by decide +kernel) (pa_cons (pe_op op_add (pv 5) (pe_op op_mulX (pv 6) (pv 9))) pa_nil)) pe_int) (fun _ _ => rfl))) (pe_slice sl_str (pv 7) (po_some (pv 4)) po_none))))
    (pss_one (ps_ret (pe_lc (own := [("_law_one_z", 10)]) rfl sc__law_names.nd (pi_list (pv 8)) (blkOk_by (own := [("_law_one_z", 10)]) (N := n__law_names) (sc := defScope s__law_names) (by decide +kernel)) (fun _ _ _ _ _ => (pg_name (i := 10) sc__law_names.nd rfl (Or.inl rfl) (hf := by first | exact Or.inl rfl | exact Or.inr rfl))) (fun _ _ _ _ _ => pts_nil) (fun _ _ _ _ _ => (pe_ifExp (pt_val (pe_call G__law_is_name hr rfl T.g__law_is_name T.d__law_is_name.kp (b__law_is_name T) .nil pass0 (pa_cons (pv 10) pa_nil))) (pv 10) (pe_op op_addSN (pv 10) pe_str))))))))))), ?_⟩
    show tSeq _ _ _ [some (V.ref b), some (V.int m), none, none, none, none, none, none, none, none, none] H
    walk_at "K"
    walk_at "go"
    refine ⟨b, c, 6, rfl, hB, by decide, by decide, fun r H1 r0 r1 hB1 x1 => ?_⟩
    walk_at "go"
    refine ⟨rfl, ?_⟩
    walk_at "go"
    intro p hp
    have hB1' := hB1.new (o := .tup [V.int r, .str lettersZ]) hp
    have x1' := x1.trans (Ex.new (o := .tup [V.int r, .str lettersZ]) hp).tb
    walk_at "go"
    refine ⟨b, c, r + 1, rfl, hB1', by omega, log_ok (by omega) (by omega), fun at_ H2 a0 a1 hB2 x2 => ?_⟩
    walk_at "go"
    refine ⟨b, c, 26, rfl, hB2, by decide, by decide, fun fi H3 f0 f1 hB3 x3 => ?_⟩
    walk_at "go"
    intro l1 hl1
    walk_at "go"
    refine ⟨b, c, .ref l1, _, rfl, hB3.new hl1, Or.inl ⟨l1, rfl, (hB3.ne hl1).1.symm, Or.inl upd_same⟩, by walk_at "len", by walk_at "len", fun v4 H4 hv4 hB4 x4 => ?_⟩
    obtain ⟨st, rfl, st0, st1⟩ : ∃ st : Int, v4 = .int st ∧ 1 ≤ st ∧ st ≤ 7 := by
      simp only [List.mem_cons, List.not_mem_nil, or_false] at hv4
      rcases hv4 with rfl | rfl | rfl | rfl
      all_goals exact ⟨_, rfl, by decide, by decide⟩
    walk_at "go"
    intro p2 hp2
    have hB5 := hB4.new (o := .tup [V.int at_, V.int fi, V.int st]) hp2
    have x5 := ((((x1'.trans x2).trans x3).trans (Ex.new hl1).tb).trans x4).trans (Ex.new (o := .tup [V.int at_, V.int fi, V.int st]) hp2).tb
    clear x1 x1' x2 x3 x4 hB1 hB1' hB2 hB3 hB4
    walk_at "go"
    generalize L2.upd H4 p2 (.tup [V.int at_, V.int fi, V.int st]) = H5 at hB5 x5 ⊢
    clear hp2 hl1 hp hv4
    intro D hD
    have nD := hB5.ne hD
    refine lc_inv walk_range (σw := [some (V.ref b), some (V.int m), some (V.int r), some (V.str lettersZ), some (V.int at_), some (V.int fi), some (V.int st), none, none, none, none]) rfl (fun H => BagAt H b c ∧ ExB b H5 H) (fun _ v => ∃ s : Str, v = .str s ∧ (s.length = 1 ∧ LetS s)) hD (by omega) ⟨hB5.new hD, (Ex.new hD).tb⟩ (fun _ _ => trivial) ?_ ?_
    · rintro j x H6 H7 acc R hj ⟨hB6, x6⟩ hacc ⟨rfl, rfl⟩ hR
      walk_at "go"
      refine ⟨rfl, ?_⟩
      walk_at "go"
      refine ⟨b, c, .str lettersZ, _, rfl, hB6, Or.inr ⟨lettersZ, rfl, by decide, rfl⟩, by decide, by decide, fun v H7 hv hB7 x7 => ?_⟩
      obtain ⟨d, hd, rfl⟩ := List.mem_map.mp hv
      refine hR _ H7 ⟨_, rfl, rfl, fun e he => ?_⟩ (x7 D _ nD.1.symm hacc) ⟨hB7.put nD.1 nD.2, fun q o n ho => ?_⟩
      · have he : e ∈ [d] := he
        rw [List.mem_singleton.mp he]
        exact mem_letters.mp hd
      · rw [upd_ne (ne_of_none ho hD)]
        exact x7 q o n (x6 q o n ho)
    · rintro H6 acc ⟨hB6, x6⟩ hacc hlen hE
      obtain ⟨ys, rfl, hl2, hy⟩ := acc_exists (g := V.str) (p := fun s => s.length = 1 ∧ LetS s) hE
      have hy1 := sum_le (k := 1) (l := ys) fun z hz => Nat.le_of_eq (hy z hz).1
      have e0 : (Str.ofString "").length = 0 := by decide
      walk_at "go"
      refine ⟨_, D, ys, rfl, rfl, Or.inl (SqL.of hacc), by rw [e0]; omega, ?_⟩
      have k1 : (Txt.join (Str.ofString "") ys).length = r.toNat := by
        rw [join_one fun z hz => (hy z hz).1, hl2]
        exact hlen
      have k2 : LetS (Txt.join (Str.ofString "") ys) := join_let fun z hz => (hy z hz).2
      generalize Txt.join (Str.ofString "") ys = stem at k1 k2 ⊢
      have x7 := x5.trans x6
      clear x5 x6 hy hy1 hE hlen hl2 hacc hD nD hB5
      walk_at "go"
      intro D2 hD2
      obtain ⟨na, rfl⟩ : ∃ na : Nat, at_ = na := ⟨at_.toNat, by omega⟩
      have hstem : stem.length ≤ 100000 := by omega
      have hsl : stem.length ≤ sizeLine := size_le hstem
      refine lc_grow walk_range (σw := [some (V.ref b), some (V.int m), some (V.int r), some (V.str lettersZ), some (V.int (na : Int)), some (V.int fi), some (V.int st), some (V.str stem), none, none, none]) rfl (fun _ _ v => ∃ s : Str, v = .str s ∧ (1 ≤ s.length ∧ s.length ≤ 6 ∧ LetS s)) hD2 (by omega) (fun _ _ => trivial) (fun _ _ _ _ _ e => e) ?_ ?_
      · rintro j x H7 H8 acc2 R hj x8 hacc2 ⟨rfl, rfl⟩ hR
        walk_at "go"
        refine ⟨rfl, ?_⟩
        walk_at "go"
        have hk : 0 ≤ (fi + st * (0 + (j : Int))) % 26 ∧ (fi + st * (0 + (j : Int))) % 26 < 26 := ⟨Int.emod_nonneg _ (by decide), Int.emod_lt_of_pos _ (by decide)⟩
        generalize (fi + st * (0 + (j : Int))) % 26 = q at hk ⊢
        obtain ⟨nq, rfl⟩ : ∃ nq : Nat, q = nq := ⟨q.toNat, by omega⟩
        obtain ⟨d, hd⟩ : ∃ d, lettersZ.cps.toList[nq]? = some d := ⟨_, List.getElem?_eq_getElem (show nq < lettersZ.cps.toList.length from by rw [show lettersZ.cps.toList.length = 26 by decide +kernel]; omega)⟩
        have hdl := mem_letters.mp (List.mem_of_getElem? hd)
        refine r_ixS (by decide) (atI_nat hd) ?_
        have l1 := cutS_len stem none (some (na : Int))
        have l2 : (⟨#[d]⟩ : Str).length = 1 := rfl
        refine r_addS (by rw [l2]; exact Nat.le_trans (show _ ≤ 100000 by omega) (by decide)) ?_
        walk_at "go"
        have l3 := cutS_len stem (some (na : Int)) none
        refine r_addS (by rw [add_len, l2]; exact Nat.le_trans (show _ ≤ 100000 by omega) (by decide)) ?_
        have e1 := tl_cut0 stem na
        have e2 := tl_cut1 stem na
        have e3 := len_eq stem
        refine hR _ _ ⟨_, rfl, ?_, ?_, ?_⟩ (Ex.refl _)
        · rw [add_len, add_len, l2]
          omega
        · rw [add_len, add_len, l2, len_eq, len_eq, e1, e2, List.length_take, List.length_drop]
          omega
        · intro e he
          rw [TL.tl_append, TL.tl_append, e1, e2] at he
          rcases List.mem_append.mp he with he | he
          · rcases List.mem_append.mp he with he | he
            · exact k2 e (List.mem_of_mem_take he)
            · have he : e ∈ [d] := he
              rw [List.mem_singleton.mp he]
              exact hdl
          · exact k2 e (List.mem_of_mem_drop he)
      · rintro H7 acc2 x8 hacc2 hlen2 hE2
        obtain ⟨zs, rfl, hz2, hz⟩ := acc_exists (g := V.str) (p := fun s => 1 ≤ s.length ∧ s.length ≤ 6 ∧ LetS s) hE2
        have hB7 := hB6.grow x8
        have x9 := x7.trans x8.tb
        walk_at "go"
        intro D3 hD3
        refine lc_grow (walk_list (xs := zs.map V.str)) (σw := [some (V.ref b), some (V.int m), some (V.int r), some (V.str lettersZ), some (V.int (na : Int)), some (V.int fi), some (V.int st), some (V.str stem), some (V.ref D2), none, none]) rfl (fun i _ v => ∃ s : Str, v = .str s ∧ IsNm s) hD3 (by rw [List.length_map]; omega) (fun H' e => SqL.of (e _ _ hacc2)) (fun _ _ _ _ _ e => e) ?_ ?_
        · rintro j x H8 H9 acc3 R hj x10 hacc3 ⟨rfl, hx⟩ hR
          rw [List.getElem?_map] at hx
          obtain ⟨s, hs, rfl⟩ := Option.map_eq_some_iff.mp hx
          have hs2 := hz s (List.mem_of_getElem? hs)
          walk_at "go"
          refine ⟨rfl, ?_⟩
          walk_at "go"
          refine ⟨s, rfl, by omega, fun H10 x11 => ?_⟩
          walk_at "go"
          have hf := fix_nm hs2.1 hs2.2.1 hs2.2.2
          refine r_if2 (fun e => ?_) (fun e => ?_)
          · rw [if_pos e] at hf
            walk_at "go"
            exact hR _ _ ⟨s, rfl, hf⟩ x11
          · rw [if_neg (by rw [e]; exact Bool.false_ne_true)] at hf
            walk_at "go"
            refine r_addS ?_ ?_
            · have l4 : (Str.ofString "q").length = 1 := by decide +kernel
              rw [l4]
              exact Nat.le_trans (show _ ≤ 100000 by omega) (by decide)
            · exact hR _ _ ⟨_, rfl, hf⟩ x11
        · rintro H8 acc3 x10 hacc3 hlen3 hE3
          obtain ⟨ns, rfl, hn2, hn⟩ := acc_exists (g := V.str) (p := IsNm) hE3
          have hB8 := hB7.grow x10
          obtain ⟨ub, hub⟩ := hB7.some
          have nb : D3 ≠ b := fun z => by
            rw [z, hub] at hD3
            cases hD3
          refine hQ D3 ns H8 ⟨by rw [hide_ne nb]; exact hacc3, hn⟩ ?_ hB8 (x9.trans x10.tb)
          rw [hn2, hlen3, List.length_map, hz2, hlen2]
end
end PW
/-! ### the names of a term -/
namespace PW
open PySem PySem.Spec PyProof.Rows L2
namespace Tm
mutual
/-- the names of a term, in the order of its text -/
def nms : Tm → List Str
  | .num _ => []
  | .nam z => [z]
  | .add a b => nms a ++ nms b
  | .sub a b => nms a ++ nms b
  | .tim _ a => nms a
  | .pow a => nms a
  | .len a => nms a
  | .quo a _ => nms a
  | .cal _ as => nmss as
def nmss : List Tm → List Str
  | [] => []
  | a :: r => nms a ++ nmss r
end
theorem nmss_take {l : List Tm} : ∀ {k : Nat}, (nmss (l.take k)).length ≤ (nmss l).length := by
  induction l with
  | nil => intro k; simp
  | cons a r ih =>
    intro k
    cases k with
    | zero => simp [nmss]
    | succ k =>
      have := ih (k := k)
      simp only [List.take_succ_cons, nmss, List.length_append]
      omega
theorem nms_parts {t : Tm} (h : t.word ≠ "name") : t.nms = nmss t.parts := by
  cases t with
  | nam z => exact absurd rfl h
  | _ => simp [nms, nmss, parts]
mutual
theorem nms_ok {n m q : Nat} : ∀ {t : Tm}, t.ok n m q → ∀ z ∈ t.nms, isNameZ z = true
  | .num _, _, z, hz => by
    rw [nms] at hz
    exact nomatch hz
  | .nam y, h, z, hz => by
    rw [nms, List.mem_singleton] at hz
    subst hz
    rw [ok] at h
    exact h
  | .add a b, h, z, hz => by
    rw [nms, List.mem_append] at hz
    rw [ok] at h
    exact hz.elim (nms_ok h.1 z) (nms_ok h.2 z)
  | .sub a b, h, z, hz => by
    rw [nms, List.mem_append] at hz
    rw [ok] at h
    exact hz.elim (nms_ok h.1 z) (nms_ok h.2 z)
  | .tim _ a, h, z, hz => by
    rw [nms] at hz
    rw [ok] at h
    exact nms_ok h.2 z hz
  | .pow a, h, z, hz => by
    rw [nms] at hz
    rw [ok] at h
    exact nms_ok h z hz
  | .len a, h, z, hz => by
    rw [nms] at hz
    rw [ok] at h
    exact nms_ok h z hz
  | .quo a _, h, z, hz => by
    rw [nms] at hz
    rw [ok] at h
    exact nms_ok h.2 z hz
  | .cal _ as, h, z, hz => by
    rw [nms] at hz
    rw [ok] at h
    exact nmss_ok h.2.2 z hz
theorem nmss_ok {n m q : Nat} : ∀ {as : List Tm}, oks n m q as → ∀ z ∈ nmss as, isNameZ z = true
  | [], _, z, hz => by
    rw [nmss] at hz
    exact nomatch hz
  | a :: r, h, z, hz => by
    rw [nmss, List.mem_append] at hz
    rw [oks] at h
    exact hz.elim (nms_ok h.1 z) (nmss_ok h.2 z)
end
end Tm
end PW
/-! ### leaves and terms drawn -/
namespace PW
open PySem PySem.Spec PyProof.Rows L2
abbrev Tm.okT (t : Tm) : Prop := t.ok (10 ^ 9) 100 100
theorem tmb : TmB (10 ^ 9) 100 100 := ⟨by decide, by decide, by decide⟩
theorem nm_ok {ns : List Str} (h : ∀ z ∈ ns, IsNm z) : ∀ z ∈ ns, PyData.strOk z = true := fun z hz => by
  unfold PyData.strOk
  rw [Array.all_eq_true']
  intro c hc
  have := ((h z hz).let_ c (by simpa [TL.tl] using hc)).2
  exact decide_eq_true (by omega)
theorem tm_new {K : PySem.W.Frag} {H : Hp} {b p : Addr} {xs : List V} {d : Nat} {t : Tm} {u : HO} (hb : H b = some u) (hp : H p = none) (r : TmRow K (hide H b) (IsTm K (hide H b) d) xs t) : IsTm K (hide (L2.upd H p (.tup xs)) b) (d + 1) (.ref p) t := by
  have x : Ex (hide H b) (hide (L2.upd H p (.tup xs)) b) := (Ex.new hp).hides b
  exact IsTm.mk (hide_new hb hp) (r.imp (fun q => x _ _ q) fun _ _ z => z.ex x)
def spLLeaf (K : PySem.W.Frag) : Sp := fun vs H Q _ => ∃ b c l ns, vs = [.ref b, .ref l] ∧ BagAt H b c ∧ NmL (hide H b) l ns ∧ ns.length ≤ 1000 ∧ ∀ v t H', IsTm K (hide H' b) 1 v t → t.okT → (t.cost ≤ 7 ∧ t.nms.length ≤ 1) → BagAt H' b c → ExB b H H' → Q v H'
theorem num_ok {i : Int} (h : i.natAbs < 10 ^ 9) : (Tm.num i).okT := by
  simp only [Tm.okT, Tm.ok]
  exact h
theorem nam_ok {z : Str} (h : IsNm z) : (Tm.nam z).okT := by
  simp only [Tm.okT, Tm.ok]
  exact isNm_iff.mpr h
section
variable {P : Program} {w : World} {K : PySem.W.Frag} {mg : Str → Option Value} {base : Heap}
theorem ok__law_leaf {k : Nat} (T : Txt K mg)
    (G__law_pull : FnOk P w K mg base CX0 k (He.ga K "_law_pull") (fdOf K (He.ga K "_law_pull")) p__law_pull (spPull))
    (G__law_of : FnOk P w K mg base CX0 k (He.ga K "_law_of") (fdOf K (He.ga K "_law_of")) p__law_of (spOf K)) : FnOk P w K mg base CX0 (k + 1) (He.ga K "_law_leaf") (fdOf K (He.ga K "_law_leaf")) p__law_leaf (spLLeaf K) := by
  refine FunD.ok T.d__law_leaf sc__law_leaf (fun vs H Q E h => ?_) (fun cdv A outer s H vs Q E hr h => ?_)
  · obtain ⟨b, c, l, ns, rfl, _⟩ := h
    rfl
  · obtain ⟨b, c, l, ns, rfl, hB, hN, hn, hQ⟩ := h
    have e9 : (10 : Int) ^ Int.toNat 9 = 1000000000 := by decide
    have e6 : (10 : Int) ^ Int.toNat 6 = 1000000 := by decide
    refine ⟨_, PSs.nox ((pss_cons (ps_set (i := 2) sc__law_leaf.nd rfl (Or.inl rfl) (pe_call G__law_of hr rfl T.g__law_of T.d__law_of.kp (b__law_of T) .nil pass0 (pa_cons (pv 0) (pa_cons (pe_lst (pa_cons pe_int (pa_cons pe_int (pa_cons pe_int (pa_cons (pe_op op_sub (pe_call G__law_pull hr rfl T.g__law_pull T.d__law_pull.kp (b__law_pull T) .nil pass0 (pa_cons (pv 0) (pa_cons pe_int pa_nil))) pe_int) (pa_cons (pe_call G__law_pull hr rfl T.g__law_pull T.d__law_pull.kp (b__law_pull T) .nil pass0 (pa_cons (pv 0) (pa_cons (pe_op op_pow pe_int pe_int) pa_nil))) (pa_cons (pe_op op_sub pe_int (pe_call G__law_pull hr rfl T.g__law_pull T.d__law_pull.kp (b__law_pull T) .nil pass0 (pa_cons (pv 0) (pa_cons (pe_op op_pow pe_int pe_int) pa_nil)))) pa_nil))))))) pa_nil))))
    (pss_one (ps_ret (pe_ifExp (PW.pt (pw_and (pt_cmpR (op_neD hr.units) (pv 1) (pe_lst pa_nil) (nomark _)) (pw_and1 (pt_cmpR op_gt (pe_call G__law_pull hr rfl T.g__law_pull T.d__law_pull.kp (b__law_pull T) .nil pass0 (pa_cons (pv 0) (pa_cons pe_int pa_nil))) pe_int (nomark _))))) (pe_tup (pa_cons pe_str (pa_cons (pe_call G__law_of hr rfl T.g__law_of T.d__law_of.kp (b__law_of T) .nil pass0 (pa_cons (pv 0) (pa_cons (pv 1) pa_nil))) pa_nil))) (pe_tup (pa_cons pe_str (pa_cons (pv 2) pa_nil)))))))), ?_⟩
    show tSeq _ _ _ [some (V.ref b), some (V.ref l), none] H
    walk_at "K"
    walk_at "go"
    refine ⟨b, c, 40, rfl, hB, by decide, by decide, fun r1 H1 r10 r11 hB1 x1 => ?_⟩
    walk_at "go"
    refine ⟨b, c, _, rfl, hB1, by decide, by decide, fun r2 H2 r20 r21 hB2 x2 => ?_⟩
    rw [e9] at r21
    walk_at "go"
    refine ⟨b, c, _, rfl, hB2, by decide, by decide, fun r3 H3 r30 r31 hB3 x3 => ?_⟩
    rw [e6] at r31
    walk_at "go"
    intro m hm
    walk_at "go"
    refine ⟨b, c, .ref m, _, rfl, hB3.new hm, Or.inl ⟨m, rfl, (hB3.ne hm).1.symm, Or.inl upd_same⟩, by walk_at "len", by walk_at "len", fun v4 H4 hv4 hB4 x4 => ?_⟩
    obtain ⟨i, rfl, hi⟩ : ∃ i : Int, v4 = .int i ∧ i.natAbs < 10 ^ 9 := by
      simp only [List.mem_cons, List.not_mem_nil, or_false] at hv4
      rcases hv4 with rfl | rfl | rfl | rfl | rfl | rfl
      all_goals exact ⟨_, rfl, by omega⟩
    have xx := (((x1.trans x2).trans x3).trans (Ex.new (o := .lst [V.int 0, V.int 1, V.int 2, V.int (r1 - 20), V.int r2, V.int (0 - r3)]) hm).tb).trans x4
    have hN4 := hN.ex xx.hd
    clear x1 x2 x3 x4 hB1 hB2 hB3 hv4 hm
    have hfin : ∀ H5, BagAt H5 b c → ExB b H H5 → ∀ p, H5 p = none → Q (.ref p) (L2.upd H5 p (.tup [V.str "number", .int i])) := fun H5 hB5 x5 p hp => by
      obtain ⟨u, hu⟩ := hB5.some
      exact hQ _ (.num i) _ (tm_new (d := 0) hu hp rfl) (num_ok hi) (by simp [Tm.cost, Tm.nms]) (hB5.new hp) (x5.trans (Ex.new hp).tb)
    walk_at "go"
    intro m2 hm2
    walk_at "go"
    have hB5 := hB4.new (o := .lst []) hm2
    have x5 := xx.trans (Ex.new (o := .lst []) hm2).tb
    have hN5 := hN4.ex ((Ex.new (o := .lst []) hm2).hides b)
    have hl5 := Ex.hide _ b _ _ hN5.at_
    refine r_neNs (SqL.of hl5) (nm_ok hN.ok) (SqL.of upd_same) ?_
    walk_at "go"
    refine r_if2 (fun e => ?_) (fun e => ?_)
    · walk_at "go"
      refine ⟨b, c, 3, rfl, hB5, by decide, by decide, fun r6 H6 r60 r61 hB6 x6 => ?_⟩
      have x7 := x5.trans x6
      have hN6 := hN5.ex x6.hd
      walk_at "go"
      refine r_if2 (fun e2 => ?_) (fun e2 => ?_)
      · walk_at "go"
        have hne : ns ≠ [] := fun z => by
          subst z
          cases e
        have hl6 := Ex.hide _ b _ _ hN6.at_
        obtain ⟨u, hu⟩ := hB6.some
        have nlb : l ≠ b := fun z => by
          have e3 := hN6.at_
          rw [z, hide_same] at e3
          cases e3
        have hpos : 0 < ns.length := List.length_pos_iff.mpr hne
        refine ⟨b, c, .ref l, _, rfl, hB6, Or.inl ⟨l, rfl, nlb, Or.inl hl6⟩, by rw [List.length_map]; exact hpos, by rw [List.length_map]; exact Nat.le_trans hn (by decide), fun v7 H7 hv7 hB7 x8 => ?_⟩
        obtain ⟨z, hz, rfl⟩ := List.mem_map.mp hv7
        walk_at "go"
        intro p hp
        obtain ⟨u7, hu7⟩ := hB7.some
        have hzn := hN.ok z hz
        exact hQ _ (.nam z) _ (tm_new (d := 0) hu7 hp rfl) (nam_ok hzn) (by have := hzn.l6; simp only [Tm.cost, Tm.nms, List.length_singleton]; omega) (hB7.new hp) ((x7.trans x8).trans (Ex.new hp).tb)
      · walk_at "go"
        intro p hp
        exact hfin H6 hB6 x7 p hp
    · walk_at "go"
      intro p hp
      exact hfin _ hB5 x5 p hp
def spLTerm (K : PySem.W.Frag) (n : Nat) : Sp := fun vs H Q _ => ∃ b c l l2 ns cs dd, vs = [.ref b, .ref l, .ref l2, .int dd] ∧ BagAt H b c ∧ NmL (hide H b) l ns ∧ NmL (hide H b) l2 cs ∧ ns.length ≤ 1000 ∧ cs.length ≤ 1000 ∧ dd ≤ (n : Int) + 1 ∧
  ∀ v t H', IsTm K (hide H' b) (max 1 dd.toNat) v t → t.okT → (t.cost ≤ 8 * 3 ^ (max 1 dd.toNat) ∧ t.nms.length < 2 ^ (max 1 dd.toNat)) → BagAt H' b c → ExB b H H' → Q v H'
end
theorem cost3 {c m : Nat} (hm : 2 ≤ m) (hc : c ≤ 14 + 16 * 3 ^ (m - 1)) : c ≤ 8 * 3 ^ m := by
  obtain ⟨j, rfl⟩ : ∃ j, m = j + 2 := ⟨m - 2, by omega⟩
  have e : j + 2 - 1 = j + 1 := by omega
  rw [e] at hc
  have p : 0 < 3 ^ j := Nat.pow_pos (by decide)
  rw [show (3 : Nat) ^ (j + 1) = 3 ^ j * 3 from Nat.pow_succ ..] at hc
  rw [show (3 : Nat) ^ (j + 2) = 3 ^ j * 3 * 3 by rw [Nat.pow_succ, Nat.pow_succ]]
  generalize 3 ^ j = y at *
  omega
theorem cut3 {x y : V} {a e : Tm} {R : V → Tm → Prop} (h1 : R x a) (h2 : R y e) (k : Int) (k0 : 0 ≤ k) (k1 : k < 4) : Paired R (cutV [x, y, x] none (some k)) ([a, e, a].take k.toNat) := by
  have : k = 0 ∨ k = 1 ∨ k = 2 ∨ k = 3 := by omega
  rcases this with rfl | rfl | rfl | rfl
  · exact .nil
  · exact .cons h1 .nil
  · exact .cons h1 (.cons h2 .nil)
  · exact .cons h1 (.cons h2 (.cons h1 .nil))
theorem take3 {a e : Tm} {n m q : Nat} (ha : a.ok n m q) (he : e.ok n m q) (k : Nat) : Tm.oks n m q ([a, e, a].take k) := by
  rw [Tm.oks_mem]
  intro z hz
  have hz := List.mem_of_mem_take hz
  simp only [List.mem_cons, List.not_mem_nil, or_false] at hz
  rcases hz with rfl | rfl | rfl <;> assumption
theorem costs_take {l : List Tm} : ∀ {k : Nat}, Tm.costs (l.take k) ≤ Tm.costs l := by
  induction l with
  | nil => intro k; simp
  | cons a r ih =>
    intro k
    cases k with
    | zero => simp [Tm.costs]
    | succ k =>
      have := ih (k := k)
      simp only [List.take_succ_cons, Tm.costs]
      omega
section
variable {P : Program} {w : World} {K : PySem.W.Frag} {mg : Str → Option Value} {base : Heap}
theorem ok1__law_term {k n : Nat} {spj : Sp} (T : Txt K mg) (hj : n = 0 ∨ ∃ j, n = j + 1 ∧ spj = spLTerm K j)
    (G__law_pull : FnOk P w K mg base CX0 k (He.ga K "_law_pull") (fdOf K (He.ga K "_law_pull")) p__law_pull (spPull))
    (G__law_of : FnOk P w K mg base CX0 k (He.ga K "_law_of") (fdOf K (He.ga K "_law_of")) p__law_of (spOf K))
    (G__law_leaf : FnOk P w K mg base CX0 k (He.ga K "_law_leaf") (fdOf K (He.ga K "_law_leaf")) p__law_leaf (spLLeaf K))
    (G__law_term : FnOk P w K mg base CX0 k (He.ga K "_law_term") (fdOf K (He.ga K "_law_term")) p__law_term (spj)) : FnOk P w K mg base CX0 (k + 1) (He.ga K "_law_term") (fdOf K (He.ga K "_law_term")) p__law_term (spLTerm K n) := by
  refine FunD.ok T.d__law_term sc__law_term (fun vs H Q E h => ?_) (fun cdv A outer s H vs Q E hr h => ?_)
  · obtain ⟨b, c, l, l2, ns, cs, dd, rfl, _⟩ := h
    rfl
  · obtain ⟨b, c, l, l2, ns, cs, dd, rfl, hB, hN, hC, hn, hcn, hdn, hQ⟩ := h
    refine ⟨_, PSs.nox ((pss_cons (ps_set (i := 4) sc__law_term.nd rfl (Or.inl rfl) (pe_call G__law_pull hr rfl T.g__law_pull T.d__law_pull.kp (b__law_pull T) .nil pass0 (pa_cons (pv 0) (pa_cons pe_int pa_nil))))
    (pss_cons (ps_if (PW.pt (pw_or (pt_cmpR op_lt (pv 3) pe_int (nomark _)) (pw_or1 (pt_cmpR op_eq (pv 4) pe_int (nomark _)))))
      (pss_one (ps_ret (pe_call G__law_leaf hr rfl T.g__law_leaf T.d__law_leaf.kp (b__law_leaf T) .nil pass0 (pa_cons (pv 0) (pa_cons (pv 1) pa_nil)))))
      pss_nil)
    (pss_cons (ps_set (i := 5) sc__law_term.nd rfl (Or.inl rfl) (pe_call G__law_term hr rfl T.g__law_term T.d__law_term.kp (b__law_term T) .nil pass0 (pa_cons (pv 0) (pa_cons (pv 1) (pa_cons (pv 2) (pa_cons (pe_op op_sub (pv 3) pe_int) pa_nil))))))
    (pss_cons (ps_if (pt_cmpR op_lt (pv 4) pe_int (nomark _))
      (pss_one (ps_ret (pe_tup (pa_cons (pe_ix ix_list (pe_lst (pa_cons pe_str (pa_cons pe_str (pa_cons pe_str pa_nil)))) (pe_op op_sub (pv 4) pe_int) (fun _ _ => rfl)) (pa_cons (pv 5) (pa_cons (pe_call G__law_term hr rfl T.g__law_term T.d__law_term.kp (b__law_term T) .nil pass0 (pa_cons (pv 0) (pa_cons (pv 1) (pa_cons (pv 2) (pa_cons (pe_op op_sub (pe_op op_sub (pv 3) pe_int) (pe_call G__law_pull hr rfl T.g__law_pull T.d__law_pull.kp (b__law_pull T) .nil pass0 (pa_cons (pv 0) (pa_cons pe_int pa_nil)))) pa_nil))))) pa_nil))))))
      pss_nil)
    (pss_cons (ps_if (pt_cmpR op_eq (pv 4) pe_int (nomark _))
      (pss_one (ps_ret (pe_tup (pa_cons pe_str (pa_cons (pe_op op_sub (pe_call G__law_pull hr rfl T.g__law_pull T.d__law_pull.kp (b__law_pull T) .nil pass0 (pa_cons (pv 0) (pa_cons pe_int pa_nil))) pe_int) (pa_cons (pv 5) pa_nil))))))
      pss_nil)
    (pss_cons (ps_if (pt_cmpR op_eq (pv 4) pe_int (nomark _))
      (pss_one (ps_ret (pe_tup (pa_cons pe_str (pa_cons (pv 5) pa_nil)))))
      pss_nil)
    (pss_cons (ps_if (pt_cmpR op_eq (pv 4) pe_int (nomark _))
      (pss_one (ps_ret (pe_tup (pa_cons pe_str (pa_cons (pv 5) pa_nil)))))
      pss_nil)
    (pss_cons (ps_if (PW.pt (pw_or (pt_cmpR op_eq (pv 4) pe_int (nomark _)) (pw_or1 (pt_cmpR (PW.op_eqE hr.units0) (pv 2) (pe_lst pa_nil) (nomark _)))))
      (pss_one (ps_ret (pe_tup (pa_cons pe_str (pa_cons (pv 5) (pa_cons (pe_op op_add pe_int (pe_call G__law_pull hr rfl T.g__law_pull T.d__law_pull.kp (b__law_pull T) .nil pass0 (pa_cons (pv 0) (pa_cons pe_int pa_nil)))) pa_nil))))))
      pss_nil)
    (pss_one (ps_ret (pe_tup (pa_cons pe_str (pa_cons (pe_call G__law_of hr rfl T.g__law_of T.d__law_of.kp (b__law_of T) .nil pass0 (pa_cons (pv 0) (pa_cons (pv 2) pa_nil))) (pa_cons (pe_callTy call_tupleN (by rfl) T.f_tuple (by decide +kernel) (pa_cons (pe_slice sl_list (pe_lst (pa_cons (pv 5) (pa_cons (pe_call G__law_leaf hr rfl T.g__law_leaf T.d__law_leaf.kp (b__law_leaf T) .nil pass0 (pa_cons (pv 0) (pa_cons (pv 1) pa_nil))) (pa_cons (pv 5) pa_nil)))) po_none (po_some (pe_call G__law_pull hr rfl T.g__law_pull T.d__law_pull.kp (b__law_pull T) .nil pass0 (pa_cons (pv 0) (pa_cons pe_int pa_nil))))) pa_nil)) pa_nil))))))))))))))), ?_⟩
    show tSeq _ _ _ [some (V.ref b), some (V.ref l), some (V.ref l2), some (V.int dd), none, none] H
    walk_at "K"
    have leaf : ∀ H1, BagAt H1 b c → ExB b H H1 → spLLeaf K [.ref b, .ref l] H1 Q (fun _ _ _ => False) := fun H1 hB1 x1 =>
      ⟨b, c, l, ns, rfl, hB1, hN.ex x1.hd, hn, fun v t H' h1 h2 h3 h4 x => hQ v t H' (h1.up (Nat.le_max_left ..)) h2 (by
        have : (3 : Nat) ^ 1 ≤ 3 ^ (max 1 dd.toNat) := Nat.pow_le_pow_right (by decide) (Nat.le_max_left ..)
        have : (2 : Nat) ^ 1 ≤ 2 ^ (max 1 dd.toNat) := Nat.pow_le_pow_right (by decide) (Nat.le_max_left ..)
        omega) h4 (x1.trans x)⟩
    walk_at "go"
    refine ⟨b, c, 9, rfl, hB, by decide, by decide, fun way H1 w0 w1 hB1 x1 => ?_⟩
    have hN1 := hN.ex x1.hd
    have hC1 := hC.ex x1.hd
    walk_at "go"
    refine r_if2 (fun e => ?_) (fun e => ?_)
    · walk_at "go"
      exact leaf H1 hB1 x1
    · have hd2 : ¬ dd < 2 := of_decide_eq_false e
      walk_at "go"
      refine r_if2 (fun e2 => ?_) (fun e2 => ?_)
      · walk_at "go"
        exact leaf H1 hB1 x1
      · have hw0 : ¬ way = 0 := fun z => of_decide_eq_false e2 (by rw [z])
        obtain ⟨j, rfl, rfl⟩ : ∃ j, n = j + 1 ∧ spj = spLTerm K j := hj.elim (fun z => by omega) id
        walk_at "go"
        refine ⟨b, c, l, l2, ns, cs, _, rfl, hB1, hN1, hC1, hn, hcn, by omega, fun v1 t1 H2 hv1 ok1 co1 hB2 x2 => ?_⟩
        obtain ⟨m, rfl⟩ : ∃ m : Nat, dd = (m : Int) + 2 := ⟨(dd - 2).toNat, by omega⟩
        have em : max 1 ((m : Int) + 2 - 1).toNat = m + 1 := by omega
        have eM : max 1 ((m : Int) + 2).toNat = m + 2 := by omega
        rw [em] at hv1 co1
        rw [eM] at hQ
        obtain ⟨co1, nm1⟩ := co1
        have pw2 : (2 : Nat) ^ (m + 2) = 2 ^ (m + 1) * 2 := Nat.pow_succ ..
        have pw1 : 1 ≤ (2 : Nat) ^ (m + 1) := Nat.pow_pos (by decide)
        have x12 := x1.trans x2
        have hN2 := hN1.ex x2.hd
        have hC2 := hC1.ex x2.hd
        have fin : ∀ (xs : List V) (t : Tm) (H3 : Hp), BagAt H3 b c → ExB b H H3 → TmRow K (hide H3 b) (IsTm K (hide H3 b) (m + 1)) xs t → t.okT → (t.cost ≤ 14 + 16 * 3 ^ (m + 1) ∧ t.nms.length < 2 ^ (m + 2)) → ∀ p, H3 p = none → Q (.ref p) (L2.upd H3 p (.tup xs)) := fun xs t H3 hB3 x3 r ok co p hp => by
          obtain ⟨u, hu⟩ := hB3.some
          exact hQ _ t _ (tm_new hu hp r) ok ⟨cost3 (m := m + 2) (by omega) co.1, co.2⟩ (hB3.new hp) (x3.trans (Ex.new hp).tb)
        clear leaf hQ hN1 hC1 hB1 x1 e e2
        walk_at "go"
        refine r_if2 (fun e => ?_) (fun e => ?_)
        · have hw4 : way < 4 := of_decide_eq_true e
          walk_at "go"
          intro l3 hl3
          have hB3 := hB2.new (o := .lst [V.str "add", V.str "add", V.str "subtract"]) hl3
          have x3 := (Ex.new (o := .lst [V.str "add", V.str "add", V.str "subtract"]) hl3).tb (b := b)
          have hv3 := hv1.ex x3.hd
          walk_at "go"
          obtain ⟨wd, hat, hwd⟩ : ∃ wd : Str, atI [V.str "add", V.str "add", V.str "subtract"] (way - 1) = some (.str wd) ∧ (wd = "add" ∨ wd = "subtract") := by
            have : way = 1 ∨ way = 2 ∨ way = 3 := by omega
            rcases this with rfl | rfl | rfl
            · exact ⟨"add", rfl, .inl rfl⟩
            · exact ⟨"add", rfl, .inl rfl⟩
            · exact ⟨"subtract", rfl, .inr rfl⟩
          refine r_ixL (SqL.of upd_same) hat ?_
          walk_at "go"
          refine ⟨b, c, 2, rfl, hB3, by decide, by decide, fun r4 H4 r40 r41 hB4 x4 => ?_⟩
          have hv4 := hv3.ex x4.hd
          walk_at "go"
          refine ⟨b, c, l, l2, ns, cs, _, rfl, hB4, (hN2.ex x3.hd).ex x4.hd, (hC2.ex x3.hd).ex x4.hd, hn, hcn, by omega, fun v5 t5 H5 hv5 ok5 co5 hB5 x5 => ?_⟩
          have e5 : max 1 ((m : Int) + 2 - 1 - r4).toNat ≤ m + 1 := by omega
          have p5 : (3 : Nat) ^ (max 1 ((m : Int) + 2 - 1 - r4).toNat) ≤ 3 ^ (m + 1) := Nat.pow_le_pow_right (by decide) e5
          have q5 : (2 : Nat) ^ (max 1 ((m : Int) + 2 - 1 - r4).toNat) ≤ 2 ^ (m + 1) := Nat.pow_le_pow_right (by decide) e5
          obtain ⟨co5, nm5⟩ := co5
          have hx5 := hv5.up e5
          have hy5 := hv4.ex x5.hd
          walk_at "go"
          refine fin _ (if wd = "add" then .add t1 t5 else .sub t1 t5) H5 hB5 (((x12.trans x3).trans x4).trans x5) ?_ ?_ ?_
          · rcases hwd with rfl | rfl
            · exact ⟨_, _, rfl, hy5, hx5⟩
            · rw [if_neg (by decide +kernel)]
              exact ⟨_, _, rfl, hy5, hx5⟩
          · rcases hwd with rfl | rfl
            · show (Tm.add t1 t5).okT
              simp only [Tm.okT, Tm.ok]
              exact ⟨ok1, ok5⟩
            · rw [if_neg (by decide +kernel)]
              simp only [Tm.okT, Tm.ok]
              exact ⟨ok1, ok5⟩
          · rcases hwd with rfl | rfl
            · show (Tm.add t1 t5).cost ≤ _ ∧ (Tm.add t1 t5).nms.length < _
              simp only [Tm.cost, Tm.nms, List.length_append]
              omega
            · rw [if_neg (by decide +kernel)]
              simp only [Tm.cost, Tm.nms, List.length_append]
              omega
        · have hw4 : ¬ way < 4 := of_decide_eq_false e
          walk_at "go"
          refine r_if2 (fun e => ?_) (fun e => ?_)
          · walk_at "go"
            refine ⟨b, c, 199, rfl, hB2, by decide, by decide, fun r4 H4 r40 r41 hB4 x4 => ?_⟩
            walk_at "go"
            refine fin _ (.tim (r4 - 99) t1) H4 hB4 (x12.trans x4) ⟨_, rfl, hv1.ex x4.hd⟩ ?_ ?_
            · simp only [Tm.okT, Tm.ok]
              exact ⟨by omega, ok1⟩
            · simp only [Tm.cost, Tm.nms]
              omega
          · walk_at "go"
            refine r_if2 (fun e => ?_) (fun e => ?_)
            · walk_at "go"
              refine fin _ (.pow t1) H2 hB2 x12 ⟨_, rfl, hv1⟩ ?_ ?_
              · simp only [Tm.okT, Tm.ok]
                exact ok1
              · simp only [Tm.cost, Tm.nms]
                omega
            · walk_at "go"
              refine r_if2 (fun e => ?_) (fun e => ?_)
              · walk_at "go"
                refine fin _ (.len t1) H2 hB2 x12 ⟨_, rfl, hv1⟩ ?_ ?_
                · simp only [Tm.okT, Tm.ok]
                  exact ok1
                · simp only [Tm.cost, Tm.nms]
                  omega
              · have quo : ∀ H3, BagAt H3 b c → ExB b H2 H3 → spPull [.ref b, .int 99] H3 (fun y H4 => (∃ r : Int, y = .int r ∧ 0 ≤ r ∧ r < 99 ∧ BagAt H4 b c ∧ ExB b H2 H4)) (fun _ _ _ => False) := fun H3 hB3 x3 =>
                  ⟨b, c, 99, rfl, hB3, by decide, by decide, fun r H4 r0 r1 hB4 x4 => ⟨r, rfl, r0, r1, hB4, x3.trans x4⟩⟩
                have qfin : ∀ (r : Int) (H4 : Hp), 0 ≤ r → r < 99 → BagAt H4 b c → ExB b H2 H4 → ∀ p, H4 p = none → Q (.ref p) (L2.upd H4 p (.tup [V.str "quotient", v1, .int (1 + r)])) := fun r H4 r0 r1 hB4 x4 p hp => by
                  refine fin _ (.quo t1 (1 + r)) H4 hB4 (x12.trans x4) ⟨_, rfl, hv1.ex x4.hd⟩ ?_ ?_ p hp
                  · simp only [Tm.okT, Tm.ok]
                    exact ⟨⟨by omega, by omega⟩, ok1⟩
                  · simp only [Tm.cost, Tm.nms]
                    omega
                clear quo
                walk_at "go"
                refine r_if2 (fun e => ?_) (fun e => ?_)
                · walk_at "go"
                  refine ⟨b, c, 99, rfl, hB2, by decide, by decide, fun r H4 r0 r1 hB4 x4 => ?_⟩
                  walk_at "go"
                  intro p hp
                  exact qfin r H4 r0 r1 hB4 x4 p hp
                · walk_at "go"
                  intro m2 hm2
                  have hB3 := hB2.new (o := .lst []) hm2
                  have x3 := (Ex.new (o := .lst []) hm2).tb (b := b)
                  have hC3 := hC2.ex x3.hd
                  have hl3 := Ex.hide _ b _ _ hC3.at_
                  walk_at "go"
                  refine r_if2 (fun e => ?_) (fun e => ?_)
                  · walk_at "go"
                    refine ⟨b, c, 99, rfl, hB3, by decide, by decide, fun r H4 r0 r1 hB4 x4 => ?_⟩
                    walk_at "go"
                    intro p hp
                    exact qfin r H4 r0 r1 hB4 (x3.trans x4) p hp
                  · have hne : cs ≠ [] := fun z => by
                      subst z
                      cases e
                    have nlb : l2 ≠ b := fun z => by
                      have e3 := hC3.at_
                      rw [z, hide_same] at e3
                      cases e3
                    walk_at "go"
                    refine ⟨b, c, .ref l2, _, rfl, hB3, Or.inl ⟨l2, rfl, nlb, Or.inl hl3⟩, by rw [List.length_map]; exact List.length_pos_iff.mpr hne, by rw [List.length_map]; exact Nat.le_trans hcn (by decide), fun v4 H4 hv4 hB4 x4 => ?_⟩
                    obtain ⟨f, hf, rfl⟩ := List.mem_map.mp hv4
                    have hfn := hC.ok f hf
                    have x34 := x3.trans x4
                    walk_at "go"
                    refine ⟨b, c, l, ns, rfl, hB4, hN2.ex x34.hd, hn, fun v5 t5 H5 hv5 ok5 co5 hB5 x5 => ?_⟩
                    have x35 := x34.trans x5
                    walk_at "go"
                    intro l6 hl6
                    have hB6 := hB5.new (o := .lst [v1, v5, v1]) hl6
                    have x6 := (Ex.new (o := .lst [v1, v5, v1]) hl6).tb (b := b)
                    walk_at "go"
                    refine ⟨b, c, 4, rfl, hB6, by decide, by decide, fun r7 H7 r70 r71 hB7 x7 => ?_⟩
                    have nl6 := hB5.ne hl6
                    have hl7 := x7 _ _ nl6.1.symm (upd_same (H := H5) (a := l6) (o := .lst [v1, v5, v1]))
                    walk_at "go"
                    intro l8 hl8
                    walk_at "go"
                    intro q hq
                    walk_at "go"
                    have hB8 := hB7.new (o := .lst (cutV [v1, v5, v1] none (some r7))) hl8
                    have x8 := (Ex.new (o := .lst (cutV [v1, v5, v1] none (some r7))) hl8).tb (b := b)
                    have hB9 := hB8.new (o := .tup (cutV [v1, v5, v1] none (some r7))) hq
                    have x9 := (Ex.new (o := .tup (cutV [v1, v5, v1] none (some r7))) hq).tb (b := b)
                    obtain ⟨u8, hu8⟩ := hB8.some
                    have hq9 := hide_new (o := .tup (cutV [v1, v5, v1] none (some r7))) hu8 hq
                    have y1 := hv1.ex (((((x35.trans x6).trans x7).trans x8).trans x9).hd)
                    have y5 := (hv5.up (show 1 ≤ m + 1 by omega)).ex ((((x6.trans x7).trans x8).trans x9).hd)
                    refine fin _ (.cal f ([t1, t5, t1].take r7.toNat)) _ hB9 (((((x12.trans x35).trans x6).trans x7).trans x8).trans x9) ⟨q, _, rfl, hq9, cut3 y1 y5 r7 r70 r71⟩ ?_ ?_
                    · simp only [Tm.okT, Tm.ok]
                      exact ⟨isNm_iff.mpr hfn, by rw [List.length_take]; exact Nat.min_le_right _ _, take3 ok1 ok5 _⟩
                    · have h1 := costs_take (l := [t1, t5, t1]) (k := r7.toNat)
                      have h6 := hfn.l6
                      have h2 := Tm.nmss_take (l := [t1, t5, t1]) (k := r7.toNat)
                      obtain ⟨co5, nm5⟩ := co5
                      simp only [Tm.costs] at h1
                      simp only [Tm.nmss, List.length_append, List.length_nil] at h2
                      simp only [Tm.cost, Tm.nms]
                      omega
theorem ok__law_term {k : Nat} (T : Txt K mg)
    (G__law_pull : FnOk P w K mg base CX0 k (He.ga K "_law_pull") (fdOf K (He.ga K "_law_pull")) p__law_pull (spPull))
    (G__law_of : FnOk P w K mg base CX0 k (He.ga K "_law_of") (fdOf K (He.ga K "_law_of")) p__law_of (spOf K))
    (G__law_leaf : FnOk P w K mg base CX0 k (He.ga K "_law_leaf") (fdOf K (He.ga K "_law_leaf")) p__law_leaf (spLLeaf K)) : ∀ n, FnOk P w K mg base CX0 (k + n + 1) (He.ga K "_law_term") (fdOf K (He.ga K "_law_term")) p__law_term (spLTerm K n)
  | 0 => ok1__law_term (spj := spNo) T (.inl rfl) G__law_pull G__law_of G__law_leaf fnOk_no
  | n + 1 => ok1__law_term T (.inr ⟨n, rfl, rfl⟩) (G__law_pull.mono (by omega)) (G__law_of.mono (by omega)) (G__law_leaf.mono (by omega)) (ok__law_term T G__law_pull G__law_of G__law_leaf n)
end
end PW
/-! ### conditions -/
namespace PW
open PySem PySem.Spec PyProof.Rows L2
inductive Cd where
  | tru
  | neg (c : Cd)
  | con (a b : Cd)
  | dis (a b : Cd)
  | less (s t : Tm)
  | equ (s t : Tm)
  | res (t : Tm) (m r : Int)
namespace Cd
def dep : Cd → Nat
  | .neg c => 1 + dep c
  | .con a b => 1 + max (dep a) (dep b)
  | .dis a b => 1 + max (dep a) (dep b)
  | _ => 1
/-- the comparisons, in the order of the text -/
def atoms : Cd → List Cd
  | .tru => []
  | .neg c => atoms c
  | .con a b => atoms a ++ atoms b
  | .dis a b => atoms a ++ atoms b
  | .less s t => [.less s t]
  | .equ s t => [.equ s t]
  | .res t m r => [.res t m r]
/-- the terms of a comparison -/
def tms : Cd → List Tm
  | .less s t => [s, t]
  | .equ s t => [s, t]
  | .res t _ _ => [t]
  | _ => []
def isAtom : Cd → Bool
  | .less _ _ => true
  | .equ _ _ => true
  | .res _ _ _ => true
  | _ => false
def word : Cd → Str
  | .tru => "true"
  | .neg _ => "not"
  | .con _ _ => "and"
  | .dis _ _ => "or"
  | .less _ _ => "less"
  | .equ _ _ => "equal"
  | .res _ _ _ => "rest"
def cost : Cd → Nat
  | .tru => 1
  | .neg c => 1 + cost c
  | .con a b => 1 + cost a + cost b
  | .dis a b => 1 + cost a + cost b
  | .less s t => 1 + s.cost + t.cost
  | .equ s t => 1 + s.cost + t.cost
  | .res t _ _ => 1 + t.cost
def ok : Cd → Prop
  | .tru => True
  | .neg c => ok c
  | .con a b => ok a ∧ ok b
  | .dis a b => ok a ∧ ok b
  | .less s t => s.okT ∧ t.okT
  | .equ s t => s.okT ∧ t.okT
  | .res t m r => t.okT ∧ 2 ≤ m ∧ m ≤ 12 ∧ 0 ≤ r ∧ r < m
def pd : Cd → PyData
  | .tru => .tuple [.str "true"]
  | .neg c => .tuple [.str "not", pd c]
  | .con a b => .tuple [.str "and", pd a, pd b]
  | .dis a b => .tuple [.str "or", pd a, pd b]
  | .less s t => .tuple [.str "less", s.pd, t.pd]
  | .equ s t => .tuple [.str "equal", s.pd, t.pd]
  | .res t m r => .tuple [.str "rest", t.pd, .int m, .int r]
/-- levels of all terms are at most n -/
def tdep (n : Nat) : Cd → Prop
  | .tru => True
  | .neg c => tdep n c
  | .con a b => tdep n a ∧ tdep n b
  | .dis a b => tdep n a ∧ tdep n b
  | .less s t => s.dep ≤ n ∧ t.dep ≤ n
  | .equ s t => s.dep ≤ n ∧ t.dep ≤ n
  | .res t _ _ => t.dep ≤ n
theorem dep_pos (c : Cd) : 1 ≤ c.dep := by
  cases c <;> (unfold dep; omega)
theorem cost_pos (c : Cd) : 1 ≤ c.cost := by
  cases c <;> (unfold cost; omega)
theorem pd_dict : ∀ c : Cd, c.pd.hasDict = false
  | .tru => rfl
  | .neg c => by simp [pd, PyData.hasDict, PyData.hasDictAll, pd_dict c]
  | .con a b => by simp [pd, PyData.hasDict, PyData.hasDictAll, pd_dict a, pd_dict b]
  | .dis a b => by simp [pd, PyData.hasDict, PyData.hasDictAll, pd_dict a, pd_dict b]
  | .less s t => by simp [pd, PyData.hasDict, PyData.hasDictAll, Tm.pd_dict]
  | .equ s t => by simp [pd, PyData.hasDict, PyData.hasDictAll, Tm.pd_dict]
  | .res t m r => by simp [pd, PyData.hasDict, PyData.hasDictAll, Tm.pd_dict]
theorem pd_depth {n : Nat} : ∀ c : Cd, c.tdep n → c.pd.depth ≤ c.dep + 2 * n
  | .tru, _ => by simp [pd, PyData.depth, PyData.depthAll, dep]
  | .neg c, h => by
    have := pd_depth c h
    simp only [pd, PyData.depth, PyData.depthAll, dep]
    omega
  | .con a b, h => by
    have := pd_depth a h.1
    have := pd_depth b h.2
    simp only [pd, PyData.depth, PyData.depthAll, dep]
    omega
  | .dis a b, h => by
    have := pd_depth a h.1
    have := pd_depth b h.2
    simp only [pd, PyData.depth, PyData.depthAll, dep]
    omega
  | .less s t, h => by
    have := Tm.pd_depth s
    have := Tm.pd_depth t
    have := h.1
    have := h.2
    simp only [pd, PyData.depth, PyData.depthAll, dep]
    omega
  | .equ s t, h => by
    have := Tm.pd_depth s
    have := Tm.pd_depth t
    have := h.1
    have := h.2
    simp only [pd, PyData.depth, PyData.depthAll, dep]
    omega
  | .res t m r, h => by
    have := Tm.pd_depth t
    have h : t.dep ≤ n := h
    simp only [pd, PyData.depth, PyData.depthAll, dep]
    omega
theorem showable : ∀ c : Cd, c.ok → c.pd.showable = true
  | .tru, _ => by decide
  | .neg c, h => by
    have := showable c h
    simp [pd, PyData.showable, PyData.showableAll, this]
  | .con a b, h => by
    have := showable a h.1
    have := showable b h.2
    simp [pd, PyData.showable, PyData.showableAll, *]
  | .dis a b, h => by
    have := showable a h.1
    have := showable b h.2
    simp [pd, PyData.showable, PyData.showableAll, *]
  | .less s t, h => by
    have := Tm.showable tmb s h.1
    have := Tm.showable tmb t h.2
    simp [pd, PyData.showable, PyData.showableAll, *]
  | .equ s t, h => by
    have := Tm.showable tmb s h.1
    have := Tm.showable tmb t h.2
    simp [pd, PyData.showable, PyData.showableAll, *]
  | .res t m r, h => by
    obtain ⟨h1, h2, h3, h4, h5⟩ := h
    have := Tm.showable tmb t h1
    have := log_small (show m.natAbs < 100 by omega) (by decide)
    have := log_small (show r.natAbs < 100 by omega) (by decide)
    simp [pd, PyData.showable, PyData.showableAll, *]
theorem shown_len : ∀ c : Cd, c.ok → c.pd.shown.length ≤ 48 * c.cost
  | .tru, _ => by
    have h3 := shown_tup [.str "true"]
    have h2 := Tm.w_len (z := "true") (n := 6)
    simp only [pd, PyData.shownAll, piled_cons, piled_nil, cost] at h3 ⊢
    omega
  | .neg c, h => by
    have := shown_len c h
    have h3 := shown_tup [.str "not", c.pd]
    have h2 := Tm.w_len (z := "not") (n := 6)
    simp only [pd, PyData.shownAll, piled_cons, piled_nil, cost] at h3 ⊢
    omega
  | .con a b, h => by
    have := shown_len a h.1
    have := shown_len b h.2
    have h3 := shown_tup [.str "and", a.pd, b.pd]
    have h2 := Tm.w_len (z := "and") (n := 6)
    simp only [pd, PyData.shownAll, piled_cons, piled_nil, cost] at h3 ⊢
    omega
  | .dis a b, h => by
    have := shown_len a h.1
    have := shown_len b h.2
    have h3 := shown_tup [.str "or", a.pd, b.pd]
    have h2 := Tm.w_len (z := "or") (n := 6)
    simp only [pd, PyData.shownAll, piled_cons, piled_nil, cost] at h3 ⊢
    omega
  | .less s t, h => by
    have := Tm.shown_len tmb s h.1
    have := Tm.shown_len tmb t h.2
    have h3 := shown_tup [.str "less", s.pd, t.pd]
    have h2 := Tm.w_len (z := "less") (n := 6)
    simp only [pd, PyData.shownAll, piled_cons, piled_nil, cost] at h3 ⊢
    omega
  | .equ s t, h => by
    have := Tm.shown_len tmb s h.1
    have := Tm.shown_len tmb t h.2
    have h3 := shown_tup [.str "equal", s.pd, t.pd]
    have h2 := Tm.w_len (z := "equal") (n := 7)
    simp only [pd, PyData.shownAll, piled_cons, piled_nil, cost] at h3 ⊢
    omega
  | .res t m r, h => by
    obtain ⟨h1, h2, h3, h4, h5⟩ := h
    have := Tm.shown_len tmb t h1
    have i1 := shown_int (show m.natAbs < 10 ^ 10 by omega)
    have i2 := shown_int (show r.natAbs < 10 ^ 10 by omega)
    have h3 := shown_tup [.str "rest", t.pd, .int m, .int r]
    have h2 := Tm.w_len (z := "rest") (n := 6)
    simp only [pd, PyData.shownAll, piled_cons, piled_nil, cost] at h3 ⊢
    omega
theorem atoms_atom : ∀ c : Cd, ∀ a ∈ c.atoms, a.isAtom = true
  | .tru, a, h => nomatch h
  | .neg c, a, h => atoms_atom c a h
  | .con x y, a, h => (List.mem_append.mp h).elim (atoms_atom x a) (atoms_atom y a)
  | .dis x y, a, h => (List.mem_append.mp h).elim (atoms_atom x a) (atoms_atom y a)
  | .less s t, a, h => by
    rw [List.mem_singleton.mp h]
    rfl
  | .equ s t, a, h => by
    rw [List.mem_singleton.mp h]
    rfl
  | .res t m r, a, h => by
    rw [List.mem_singleton.mp h]
    rfl
end Cd
/-- the tuple of a condition -/
def CdRow (R : V → Cd → Prop) (S : V → Tm → Prop) (xs : List V) : Cd → Prop
  | .tru => xs = [.str "true"]
  | .neg c => ∃ x, xs = [.str "not", x] ∧ R x c
  | .con a b => ∃ x y, xs = [.str "and", x, y] ∧ R x a ∧ R y b
  | .dis a b => ∃ x y, xs = [.str "or", x, y] ∧ R x a ∧ R y b
  | .less s t => ∃ x y, xs = [.str "less", x, y] ∧ S x s ∧ S y t
  | .equ s t => ∃ x y, xs = [.str "equal", x, y] ∧ S x s ∧ S y t
  | .res t m r => ∃ x, xs = [.str "rest", x, .int m, .int r] ∧ S x t
/-- v is the condition c, of at most d levels, its terms of at most e -/
def IsCd (K : PySem.W.Frag) (H : Hp) (e : Nat) : Nat → V → Cd → Prop
  | 0, _, _ => False
  | d + 1, v, c => ∃ p xs, v = .ref p ∧ H p = some (.tup xs) ∧ CdRow (IsCd K H e d) (IsTm K H e) xs c
theorem CdRow.imp {R R' : V → Cd → Prop} {S S' : V → Tm → Prop} {xs : List V} {c : Cd} (h : ∀ x a, R x a → R' x a) (g : ∀ x a, S x a → S' x a) (r : CdRow R S xs c) : CdRow R' S' xs c := by
  cases c with
  | tru => exact r
  | neg c => obtain ⟨x, e, e1⟩ := r; exact ⟨x, e, h _ _ e1⟩
  | con a b => obtain ⟨x, y, e, e1, e2⟩ := r; exact ⟨x, y, e, h _ _ e1, h _ _ e2⟩
  | dis a b => obtain ⟨x, y, e, e1, e2⟩ := r; exact ⟨x, y, e, h _ _ e1, h _ _ e2⟩
  | less a b => obtain ⟨x, y, e, e1, e2⟩ := r; exact ⟨x, y, e, g _ _ e1, g _ _ e2⟩
  | equ a b => obtain ⟨x, y, e, e1, e2⟩ := r; exact ⟨x, y, e, g _ _ e1, g _ _ e2⟩
  | res t m r2 => obtain ⟨x, e, e1⟩ := r; exact ⟨x, e, g _ _ e1⟩
theorem CdRow.head {R : V → Cd → Prop} {S : V → Tm → Prop} {xs : List V} {c : Cd} (h : CdRow R S xs c) : ∃ r, xs = .str c.word :: r := by
  cases c with
  | tru => exact ⟨_, h⟩
  | neg c => obtain ⟨x, e, _⟩ := h; exact ⟨_, e⟩
  | res t m r => obtain ⟨x, e, _⟩ := h; exact ⟨_, e⟩
  | _ => obtain ⟨x, y, e, _⟩ := h; exact ⟨_, e⟩
theorem IsCd.ex {K : PySem.W.Frag} {H H' : Hp} {e : Nat} (x : Ex H H') : ∀ {d : Nat} {v : V} {c : Cd}, IsCd K H e d v c → IsCd K H' e d v c
  | 0, _, _, h => h.elim
  | d + 1, v, c, h => by
    obtain ⟨p, xs, e, h1, h2⟩ := h
    exact ⟨p, xs, e, x _ _ h1, h2.imp (fun _ _ z => IsCd.ex x z) fun _ _ z => z.ex x⟩
theorem IsCd.up {K : PySem.W.Frag} {H : Hp} {e e' : Nat} (he : e ≤ e') : ∀ {d d' : Nat} {v : V} {c : Cd}, d ≤ d' → IsCd K H e d v c → IsCd K H e' d' v c
  | 0, _, _, _, _, h => h.elim
  | d + 1, 0, _, _, z, _ => absurd z (by omega)
  | d + 1, d' + 1, v, c, z, h => by
    obtain ⟨p, xs, e1, h1, h2⟩ := h
    exact ⟨p, xs, e1, h1, h2.imp (fun _ _ z => IsCd.up he (by omega) z) fun _ _ z => z.up he⟩
theorem IsCd.mk {K : PySem.W.Frag} {H : Hp} {e d : Nat} {p : Addr} {xs : List V} {c : Cd} (h : H p = some (.tup xs)) (r : CdRow (IsCd K H e d) (IsTm K H e) xs c) : IsCd K H e (d + 1) (.ref p) c := ⟨p, xs, rfl, h, r⟩
theorem IsCd.ref {K : PySem.W.Frag} {H : Hp} {e : Nat} : ∀ {d : Nat} {v : V} {c : Cd}, IsCd K H e d v c → ∃ p, v = .ref p
  | 0, _, _, h => h.elim
  | _ + 1, _, _, ⟨p, _, e, _⟩ => ⟨p, e⟩
theorem IsCd.depth {K : PySem.W.Frag} {H : Hp} {e : Nat} : ∀ {d : Nat} {v : V} {c : Cd}, IsCd K H e d v c → c.dep ≤ d
  | 0, _, _, h => h.elim
  | d + 1, v, c, h => by
    obtain ⟨p, xs, e1, h1, h2⟩ := h
    cases c with
    | neg c =>
      obtain ⟨x, _, e2⟩ := h2
      have := IsCd.depth e2
      simp only [Cd.dep]
      omega
    | con a b =>
      obtain ⟨x, y, _, e2, e3⟩ := h2
      have := IsCd.depth e2
      have := IsCd.depth e3
      simp only [Cd.dep]
      omega
    | dis a b =>
      obtain ⟨x, y, _, e2, e3⟩ := h2
      have := IsCd.depth e2
      have := IsCd.depth e3
      simp only [Cd.dep]
      omega
    | _ =>
      simp only [Cd.dep]
      omega
theorem IsCd.tdep {K : PySem.W.Frag} {H : Hp} {e : Nat} : ∀ {d : Nat} {v : V} {c : Cd}, IsCd K H e d v c → c.tdep e
  | 0, _, _, h => h.elim
  | d + 1, v, c, h => by
    obtain ⟨p, xs, e1, h1, h2⟩ := h
    cases c with
    | tru => trivial
    | neg c =>
      obtain ⟨x, _, e2⟩ := h2
      exact IsCd.tdep (c := c) e2
    | con a b =>
      obtain ⟨x, y, _, e2, e3⟩ := h2
      exact ⟨IsCd.tdep e2, IsCd.tdep e3⟩
    | dis a b =>
      obtain ⟨x, y, _, e2, e3⟩ := h2
      exact ⟨IsCd.tdep e2, IsCd.tdep e3⟩
    | less a b =>
      obtain ⟨x, y, _, e2, e3⟩ := h2
      exact ⟨e2.depth, e3.depth⟩
    | equ a b =>
      obtain ⟨x, y, _, e2, e3⟩ := h2
      exact ⟨e2.depth, e3.depth⟩
    | res t m r =>
      obtain ⟨x, _, e2⟩ := h2
      exact e2.depth
theorem IsCd.dat {K : PySem.W.Frag} {H : Hp} {e : Nat} : ∀ {d : Nat} {v : V} {c : Cd}, IsCd K H e d v c → Dp K H v c.pd
  | 0, _, _, h => h.elim
  | d + 1, v, c, h => by
    obtain ⟨p, xs, rfl, h1, h2⟩ := h
    cases c with
    | tru =>
      have h2 : xs = _ := h2
      subst h2
      exact .tup (SqT.of h1) (.cons (.str _) .nil)
    | neg c =>
      obtain ⟨x, rfl, e2⟩ := h2
      exact .tup (SqT.of h1) (.cons (.str _) (.cons (IsCd.dat e2) .nil))
    | con a b =>
      obtain ⟨x, y, rfl, e2, e3⟩ := h2
      exact .tup (SqT.of h1) (.cons (.str _) (.cons (IsCd.dat e2) (.cons (IsCd.dat e3) .nil)))
    | dis a b =>
      obtain ⟨x, y, rfl, e2, e3⟩ := h2
      exact .tup (SqT.of h1) (.cons (.str _) (.cons (IsCd.dat e2) (.cons (IsCd.dat e3) .nil)))
    | less a b =>
      obtain ⟨x, y, rfl, e2, e3⟩ := h2
      exact .tup (SqT.of h1) (.cons (.str _) (.cons e2.dat (.cons e3.dat .nil)))
    | equ a b =>
      obtain ⟨x, y, rfl, e2, e3⟩ := h2
      exact .tup (SqT.of h1) (.cons (.str _) (.cons e2.dat (.cons e3.dat .nil)))
    | res t m r =>
      obtain ⟨x, rfl, e2⟩ := h2
      exact .tup (SqT.of h1) (.cons (.str _) (.cons e2.dat (.cons (.int _) (.cons (.int _) .nil))))
def Cd.anms (a : Cd) : List Str := Tm.nmss a.tms
/-- the names of some comparisons -/
def cnmss : List Cd → List Str
  | [] => []
  | a :: r => a.anms ++ cnmss r
def Cd.cnms (c : Cd) : List Str := cnmss c.atoms
theorem cnmss_get {as : List Cd} {i : Nat} {a : Cd} (h : as[i]? = some a) : cnmss (as.take (i + 1)) = cnmss (as.take i) ++ a.anms := by
  induction as generalizing i with
  | nil => cases h
  | cons b r ih =>
    cases i with
    | zero =>
      injection h with h
      subst h
      simp [cnmss]
    | succ i =>
      have := ih (i := i) (by simpa using h)
      simp only [List.take_succ_cons, cnmss, this, List.append_assoc]
theorem cnmss_take {l : List Cd} : ∀ {k : Nat}, (cnmss (l.take k)).length ≤ (cnmss l).length := by
  induction l with
  | nil => intro k; simp
  | cons a r ih =>
    intro k
    cases k with
    | zero => simp [cnmss]
    | succ k =>
      have := ih (k := k)
      simp only [List.take_succ_cons, cnmss, List.length_append]
      omega
end PW
/-! ### conditions as the laws draw them -/
namespace PW
open PySem PySem.Spec PyProof.Rows L2
theorem cd_new {K : PySem.W.Frag} {H : Hp} {b p : Addr} {xs : List V} {e d : Nat} {c : Cd} {u : HO} (hb : H b = some u) (hp : H p = none) (r : CdRow (IsCd K (hide H b) e d) (IsTm K (hide H b) e) xs c) : IsCd K (hide (L2.upd H p (.tup xs)) b) e (d + 1) (.ref p) c := by
  have x : Ex (hide H b) (hide (L2.upd H p (.tup xs)) b) := (Ex.new hp).hides b
  exact IsCd.mk (hide_new hb hp) (r.imp (fun _ _ z => z.ex x) fun _ _ z => z.ex x)
def spLCmp (K : PySem.W.Frag) (n : Nat) : Sp := fun vs H Q _ => ∃ b c l l2 ns cs dd, vs = [.ref b, .ref l, .ref l2, .int dd] ∧ BagAt H b c ∧ NmL (hide H b) l ns ∧ NmL (hide H b) l2 cs ∧ ns.length ≤ 1000 ∧ cs.length ≤ 1000 ∧ dd ≤ (n : Int) + 1 ∧
  ∀ v a H', IsCd K (hide H' b) (n + 1) 1 v a → a.ok → a.isAtom = true → a.cost ≤ 1 + 16 * 3 ^ (n + 1) → a.anms.length + 2 ≤ 2 * 2 ^ (n + 1) → BagAt H' b c → ExB b H H' → Q v H'
section
variable {P : Program} {w : World} {K : PySem.W.Frag} {mg : Str → Option Value} {base : Heap}
theorem ok__law_compare {k n : Nat} (T : Txt K mg)
    (G__law_pull : FnOk P w K mg base CX0 k (He.ga K "_law_pull") (fdOf K (He.ga K "_law_pull")) p__law_pull (spPull))
    (G__law_of : FnOk P w K mg base CX0 k (He.ga K "_law_of") (fdOf K (He.ga K "_law_of")) p__law_of (spOf K))
    (G__law_term : FnOk P w K mg base CX0 k (He.ga K "_law_term") (fdOf K (He.ga K "_law_term")) p__law_term (spLTerm K n)) : FnOk P w K mg base CX0 (k + 1) (He.ga K "_law_compare") (fdOf K (He.ga K "_law_compare")) p__law_compare (spLCmp K n) := by
  refine FunD.ok T.d__law_compare sc__law_compare (fun vs H Q E h => ?_) (fun cdv A outer s H vs Q E hr h => ?_)
  · obtain ⟨b, c, l, l2, ns, cs, dd, rfl, _⟩ := h
    rfl
  · obtain ⟨b, c, l, l2, ns, cs, dd, rfl, hB, hN, hC, hn, hcn, hdn, hQ⟩ := h
    refine ⟨_, PSs.nox ((pss_cons (ps_par (i := 4) (j := 5) (by rfl) sc__law_compare.nd rfl rfl (by decide) rfl rfl (pa_cons (pe_call G__law_term hr rfl T.g__law_term T.d__law_term.kp (b__law_term T) .nil pass0 (pa_cons (pv 0) (pa_cons (pv 1) (pa_cons (pv 2) (pa_cons (pv 3) pa_nil))))) (pa_cons (pe_call G__law_term hr rfl T.g__law_term T.d__law_term.kp (b__law_term T) .nil pass0 (pa_cons (pv 0) (pa_cons (pv 1) (pa_cons (pv 2) (pa_cons (pv 3) pa_nil))))) pa_nil)) (by rfl))
    (pss_cons (ps_set (i := 6) sc__law_compare.nd rfl (Or.inl rfl) (pe_op op_add pe_int (pe_call G__law_pull hr rfl T.g__law_pull T.d__law_pull.kp (b__law_pull T) .nil pass0 (pa_cons (pv 0) (pa_cons pe_int pa_nil)))))
    (pss_one (ps_ret (pe_call G__law_of hr rfl T.g__law_of T.d__law_of.kp (b__law_of T) .nil pass0 (pa_cons (pv 0) (pa_cons (pe_lst (pa_cons (pe_tup (pa_cons pe_str (pa_cons (pv 4) (pa_cons (pv 5) pa_nil)))) (pa_cons (pe_tup (pa_cons pe_str (pa_cons (pv 4) (pa_cons (pv 5) pa_nil)))) (pa_cons (pe_tup (pa_cons pe_str (pa_cons (pv 4) (pa_cons (pv 6) (pa_cons (pe_call G__law_pull hr rfl T.g__law_pull T.d__law_pull.kp (b__law_pull T) .nil pass0 (pa_cons (pv 0) (pa_cons (pv 6) pa_nil))) pa_nil))))) pa_nil)))) pa_nil)))))))), ?_⟩
    show tSeq _ _ _ [some (V.ref b), some (V.ref l), some (V.ref l2), some (V.int dd), none, none, none] H
    walk_at "K"
    have le : max 1 dd.toNat ≤ n + 1 := by omega
    have c3 : 8 * 3 ^ (max 1 dd.toNat) ≤ 8 * 3 ^ (n + 1) := Nat.mul_le_mul_left 8 (Nat.pow_le_pow_right (by decide) le)
    have c2 : (2 : Nat) ^ (max 1 dd.toNat) ≤ 2 ^ (n + 1) := Nat.pow_le_pow_right (by decide) le
    walk_at "go"
    refine ⟨b, c, l, l2, ns, cs, dd, rfl, hB, hN, hC, hn, hcn, hdn, fun v1 t1 H1 h1 ok1 co1 hB1 x1 => ?_⟩
    replace h1 := h1.up le
    walk_at "go"
    refine ⟨b, c, l, l2, ns, cs, dd, rfl, hB1, hN.ex x1.hd, hC.ex x1.hd, hn, hcn, hdn, fun v2 t2 H2 h2 ok2 co2 hB2 x2 => ?_⟩
    replace h2 := h2.up le
    replace h1 := h1.ex x2.hd
    have x12 := x1.trans x2
    clear hB1 x1 x2
    walk_at "go"
    refine ⟨b, c, 11, rfl, hB2, by decide, by decide, fun m H3 m0 m1 hB3 x3 => ?_⟩
    replace h1 := h1.ex x3.hd
    replace h2 := h2.ex x3.hd
    have x13 := x12.trans x3
    clear hB2 x3 x12
    walk_at "go"
    intro p1 hp1
    obtain ⟨u, hu⟩ := hB3.some
    have a1 : IsCd K _ (n + 1) 1 (.ref p1) (.less t1 t2) := cd_new (d := 0) hu hp1 ⟨v1, v2, rfl, h1, h2⟩
    have y1 := Ex.new (o := .tup [V.str "less", v1, v2]) hp1
    replace hB3 := hB3.new (o := .tup [V.str "less", v1, v2]) hp1
    replace h1 := h1.ex (y1.hides b)
    replace h2 := h2.ex (y1.hides b)
    have x14 := x13.trans y1.tb
    clear hu hp1 y1 x13
    walk_at "go"
    intro p2 hp2
    obtain ⟨u, hu⟩ := hB3.some
    have a2 : IsCd K _ (n + 1) 1 (.ref p2) (.equ t1 t2) := cd_new (d := 0) hu hp2 ⟨v1, v2, rfl, h1, h2⟩
    have y1 := Ex.new (o := .tup [V.str "equal", v1, v2]) hp2
    replace hB3 := hB3.new (o := .tup [V.str "equal", v1, v2]) hp2
    replace h1 := h1.ex (y1.hides b)
    replace a1 := a1.ex (y1.hides b)
    have x15 := x14.trans y1.tb
    clear hu hp2 y1 x14
    walk_at "go"
    refine ⟨b, c, _, rfl, hB3, by omega, Nat.lt_trans (log_small (n := 2000) (by omega) (by decide)) (by decide), fun r H4 r0 r1 hB4 x4 => ?_⟩
    replace h1 := h1.ex x4.hd
    replace a1 := a1.ex x4.hd
    replace a2 := a2.ex x4.hd
    have x16 := x15.trans x4
    clear hB3 x4 x15
    walk_at "go"
    intro p3 hp3
    obtain ⟨u, hu⟩ := hB4.some
    have a3 : IsCd K _ (n + 1) 1 (.ref p3) (.res t1 (2 + m) r) := cd_new (d := 0) hu hp3 ⟨v1, rfl, h1⟩
    have y1 := Ex.new (o := .tup [V.str "rest", v1, .int (2 + m), .int r]) hp3
    replace hB4 := hB4.new (o := .tup [V.str "rest", v1, .int (2 + m), .int r]) hp3
    replace a1 := a1.ex (y1.hides b)
    replace a2 := a2.ex (y1.hides b)
    have x17 := x16.trans y1.tb
    clear hu hp3 y1 x16
    walk_at "go"
    intro q hq
    have y1 := Ex.new (o := .lst [V.ref p1, V.ref p2, V.ref p3]) hq
    have hqb := (hB4.ne hq).1.symm
    replace hB4 := hB4.new (o := .lst [V.ref p1, V.ref p2, V.ref p3]) hq
    replace a1 := a1.ex (y1.hides b)
    replace a2 := a2.ex (y1.hides b)
    replace a3 := a3.ex (y1.hides b)
    have x18 := x17.trans y1.tb
    walk_at "go"
    refine ⟨b, c, .ref q, _, rfl, hB4, Or.inl ⟨q, rfl, hqb, Or.inl upd_same⟩, by walk_at "len", by walk_at "len", fun v H5 hv hB5 x5 => ?_⟩
    replace a1 := a1.ex x5.hd
    replace a2 := a2.ex x5.hd
    replace a3 := a3.ex x5.hd
    have x19 := x18.trans x5
    simp only [List.mem_cons, List.not_mem_nil, or_false] at hv
    rcases hv with rfl | rfl | rfl
    · exact hQ _ _ _ a1 ⟨ok1, ok2⟩ rfl (by simp only [Cd.cost]; omega) (by simp only [Cd.anms, Cd.tms, Tm.nmss, List.length_append, List.length_nil]; omega) hB5 x19
    · exact hQ _ _ _ a2 ⟨ok1, ok2⟩ rfl (by simp only [Cd.cost]; omega) (by simp only [Cd.anms, Cd.tms, Tm.nmss, List.length_append, List.length_nil]; omega) hB5 x19
    · exact hQ _ _ _ a3 ⟨ok1, by omega, by omega, r0, r1⟩ rfl (by simp only [Cd.cost]; omega) (by simp only [Cd.anms, Cd.tms, Tm.nmss, List.length_append, List.length_nil]; omega) hB5 x19
end
end PW
/-! ### the terms inside, the levels -/
namespace PW
open PySem PySem.Spec PyProof.Rows L2
def spLInner (K : PySem.W.Frag) : Sp := fun vs H Q _ => ∃ v t d, vs = [v] ∧ IsTm K H (d + 1) v t ∧ ∀ l ys H', Ex H H' → H l = none → H' l = some (.lst ys) → Paired (IsTm K H d) ys t.parts → Q (.ref l) H'
section
variable {P : Program} {w : World} {K : PySem.W.Frag} {mg : Str → Option Value} {base : Heap}
theorem ok__law_inner (T : Txt K mg) : FnOk P w K mg base CX0 (1) (He.ga K "_law_inner") (fdOf K (He.ga K "_law_inner")) p__law_inner (spLInner K) := by
  refine FunD.ok T.d__law_inner sc__law_inner (fun vs H Q E h => ?_) (fun cdv A outer s H vs Q E hr h => ?_)
  · obtain ⟨v, t, d, rfl, _⟩ := h
    rfl
  · obtain ⟨v, t, d, rfl, ht, hQ⟩ := h
    refine ⟨_, PSs.nox ((pss_cons (ps_set (i := 1) sc__law_inner.nd rfl (Or.inl rfl) (pe_ix ix_seq (pv 0) pe_int (fun _ _ => rfl)))
    (pss_cons (ps_if (pt_cmpR op_in_seq (pv 1) (pe_lst (pa_cons pe_str (pa_cons pe_str pa_nil))) rfl)
      (pss_one (ps_ret (pe_lst pa_nil)))
      pss_nil)
    (pss_cons (ps_if (pt_cmpR op_eq (pv 1) pe_str (nomark _))
      (pss_one (ps_ret (pe_callTy call_listN (by rfl) T.f_list (by decide +kernel) (pa_cons (pe_ix ix_seq (pv 0) pe_int (fun _ _ => rfl)) pa_nil))))
      pss_nil)
    (pss_cons (ps_if (pt_cmpR op_eq (pv 1) pe_str (nomark _))
      (pss_one (ps_ret (pe_lst (pa_cons (pe_ix ix_seq (pv 0) pe_int (fun _ _ => rfl)) pa_nil))))
      pss_nil)
    (pss_one (ps_ret (pe_ifExp (pt_cmpR op_in_seq (pv 1) (pe_lst (pa_cons pe_str (pa_cons pe_str pa_nil))) rfl) (pe_lst (pa_cons (pe_ix ix_seq (pv 0) pe_int (fun _ _ => rfl)) (pa_cons (pe_ix ix_seq (pv 0) pe_int (fun _ _ => rfl)) pa_nil))) (pe_lst (pa_cons (pe_ix ix_seq (pv 0) pe_int (fun _ _ => rfl)) pa_nil)))))))))), ?_⟩
    show tSeq _ _ _ [some v, none] H
    walk_at "K"
    obtain ⟨p, xs, rfl, hs, row⟩ := ht
    cases t with
    | num i =>
      have row : xs = _ := row
      subst row
      walk_at "go"
      intro l hl
      walk_at "go"
      intro l2 hl2
      exact hQ l2 _ _ ((Ex.new hl).trans (Ex.new hl2)) (Ex.free (Ex.new hl) hl2) upd_same .nil
    | nam z =>
      have row : xs = _ := row
      subst row
      walk_at "go"
      intro l hl
      walk_at "go"
      intro l2 hl2
      exact hQ l2 _ _ ((Ex.new hl).trans (Ex.new hl2)) (Ex.free (Ex.new hl) hl2) upd_same .nil
    | cal f as =>
      obtain ⟨q, ys, rfl, hq, hys⟩ := row
      walk_at "go"
      intro l hl
      have hq2 := ((Ex.new (o := .lst [V.str "number", V.str "name"]) hl)) _ _ hq
      walk_at "go"
      intro l2 hl2
      exact hQ l2 _ _ ((Ex.new hl).trans (Ex.new hl2)) (Ex.free (Ex.new hl) hl2) upd_same hys
    | tim i a =>
      obtain ⟨x, rfl, hx⟩ := row
      walk_at "go"
      intro l hl
      walk_at "go"
      intro l2 hl2
      exact hQ l2 _ _ ((Ex.new hl).trans (Ex.new hl2)) (Ex.free (Ex.new hl) hl2) upd_same (.cons hx .nil)
    | pow a =>
      obtain ⟨x, rfl, hx⟩ := row
      walk_at "go"
      intro l hl
      walk_at "go"
      intro l2 hl2
      walk_at "go"
      intro l3 hl3
      have e := (Ex.new hl).trans (Ex.new (o := .lst [V.str "add", V.str "subtract"]) hl2)
      exact hQ l3 _ _ (e.trans (Ex.new hl3)) (Ex.free e hl3) upd_same (.cons hx .nil)
    | len a =>
      obtain ⟨x, rfl, hx⟩ := row
      walk_at "go"
      intro l hl
      walk_at "go"
      intro l2 hl2
      walk_at "go"
      intro l3 hl3
      have e := (Ex.new hl).trans (Ex.new (o := .lst [V.str "add", V.str "subtract"]) hl2)
      exact hQ l3 _ _ (e.trans (Ex.new hl3)) (Ex.free e hl3) upd_same (.cons hx .nil)
    | quo a i =>
      obtain ⟨x, rfl, hx⟩ := row
      walk_at "go"
      intro l hl
      walk_at "go"
      intro l2 hl2
      walk_at "go"
      intro l3 hl3
      have e := (Ex.new hl).trans (Ex.new (o := .lst [V.str "add", V.str "subtract"]) hl2)
      exact hQ l3 _ _ (e.trans (Ex.new hl3)) (Ex.free e hl3) upd_same (.cons hx .nil)
    | add a a2 =>
      obtain ⟨x, y, rfl, hx, hy⟩ := row
      walk_at "go"
      intro l hl
      walk_at "go"
      intro l2 hl2
      walk_at "go"
      intro l3 hl3
      have e := (Ex.new hl).trans (Ex.new (o := .lst [V.str "add", V.str "subtract"]) hl2)
      exact hQ l3 _ _ (e.trans (Ex.new hl3)) (Ex.free e hl3) upd_same (.cons hx (.cons hy .nil))
    | sub a a2 =>
      obtain ⟨x, y, rfl, hx, hy⟩ := row
      walk_at "go"
      intro l hl
      walk_at "go"
      intro l2 hl2
      walk_at "go"
      intro l3 hl3
      have e := (Ex.new hl).trans (Ex.new (o := .lst [V.str "add", V.str "subtract"]) hl2)
      exact hQ l3 _ _ (e.trans (Ex.new hl3)) (Ex.free e hl3) upd_same (.cons hx (.cons hy .nil))
end
end PW
/-! ### parts_of, names_within, names_in -/
namespace PW
open PySem PySem.Spec PyProof.Rows L2
/-- the texts of t's names, sorted, once each -/
def NmsS (t : Tm) (ys : List Str) : Prop := ys.Perm (runS t.nms) ∧ sortedS ys = true
def spParts (K : PySem.W.Frag) : Sp := fun vs H Q _ => ∃ p xs t R, vs = [.ref p] ∧ H p = some (.tup xs) ∧ TmRow K H R xs t ∧ ∀ l ys H', Ex H H' → H l = none → H' l = some (.lst ys) → Paired R ys t.parts → Q (.ref l) H'
def spNmsW (K : PySem.W.Frag) (n : Nat) : Sp := fun vs H Q _ => ∃ v t d, vs = [v] ∧ IsTm K H d v t ∧ t.dep ≤ n + 1 ∧ t.nms.length ≤ 100000 ∧ ∀ l H', Ex H H' → H l = none → H' l = some (.lst (t.nms.map V.str)) → Q (.ref l) H'
def spNmsIn (K : PySem.W.Frag) : Sp := fun vs H Q _ => ∃ v t d, vs = [v] ∧ IsTm K H d v t ∧ t.dep ≤ 17 ∧ t.nms.length < 64 ∧ ∀ l ys H', Ex H H' → H l = none → H' l = some (.lst (ys.map V.str)) → NmsS t ys → Q (.ref l) H'
theorem TmRow.head {K : PySem.W.Frag} {H : Hp} {R : V → Tm → Prop} {xs : List V} {t : Tm} (h : TmRow K H R xs t) : ∃ r, xs = .str t.word :: r := by
  cases t with
  | num i => exact ⟨_, h⟩
  | nam z => exact ⟨_, h⟩
  | add a b => obtain ⟨x, y, e, _⟩ := h; exact ⟨_, e⟩
  | sub a b => obtain ⟨x, y, e, _⟩ := h; exact ⟨_, e⟩
  | cal f as => obtain ⟨q, ys, e, _⟩ := h; exact ⟨_, e⟩
  | _ => obtain ⟨x, e, _⟩ := h; exact ⟨_, e⟩
theorem word_name {t : Tm} (h : t.word = "name") : ∃ z, t = .nam z := by
  cases t with
  | nam z => exact ⟨z, rfl⟩
  | _ => exact absurd h (by simp only [Tm.word]; decide +kernel)
theorem nmss_get {as : List Tm} {i : Nat} {a : Tm} (h : as[i]? = some a) : Tm.nmss (as.take (i + 1)) = Tm.nmss (as.take i) ++ a.nms := by
  induction as generalizing i with
  | nil => cases h
  | cons b r ih =>
    cases i with
    | zero =>
      injection h with h
      subst h
      simp [Tm.nmss]
    | succ i =>
      have := ih (i := i) (by simpa using h)
      simp only [List.take_succ_cons, Tm.nmss, this, List.append_assoc]
theorem IsTm.exF {K : PySem.W.Frag} {H H' : Hp} (x : Ex H H') {d : Nat} {ys : List V} {as : List Tm} (h : Paired (IsTm K H d) ys as) : Paired (IsTm K H' d) ys as := L2.Paired.mapP h fun _ _ z => z.ex x
section
variable {P : Program} {w : World} {K : PySem.W.Frag} {mg : Str → Option Value} {base : Heap}
theorem ok_parts_of (T : Txt K mg) : FnOk P w K mg base CX0 (1) (He.ga K "parts_of") (fdOf K (He.ga K "parts_of")) p_parts_of (spParts K) := by
  refine FunD.ok T.d_parts_of sc_parts_of (fun vs H Q E h => ?_) (fun cdv A outer s H vs Q E hr h => ?_)
  · obtain ⟨p, xs, t, R, rfl, _⟩ := h
    rfl
  · obtain ⟨p, xs, t, R, rfl, hs, row, hQ⟩ := h
    refine ⟨_, PSs.nox ((pss_cons (ps_if (pt_cmpR op_in_seq (pe_ix ix_seq (pv 0) pe_int (fun _ _ => rfl)) (pe_tup (pa_cons pe_str (pa_cons pe_str pa_nil))) rfl)
      (pss_one (ps_ret (pe_lst (pa_cons (pe_ix ix_seq (pv 0) pe_int (fun _ _ => rfl)) (pa_cons (pe_ix ix_seq (pv 0) pe_int (fun _ _ => rfl)) pa_nil)))))
      pss_nil)
    (pss_cons (ps_if (pt_cmpR op_in_seq (pe_ix ix_seq (pv 0) pe_int (fun _ _ => rfl)) (pe_tup (pa_cons pe_str (pa_cons pe_str (pa_cons pe_str pa_nil)))) rfl)
      (pss_one (ps_ret (pe_lst (pa_cons (pe_ix ix_seq (pv 0) pe_int (fun _ _ => rfl)) pa_nil))))
      pss_nil)
    (pss_cons (ps_if (pt_cmpR op_eq (pe_ix ix_seq (pv 0) pe_int (fun _ _ => rfl)) pe_str (nomark _))
      (pss_one (ps_ret (pe_lst (pa_cons (pe_ix ix_seq (pv 0) pe_int (fun _ _ => rfl)) pa_nil))))
      pss_nil)
    (pss_one (ps_ret (pe_ifExp (pt_cmpR op_eq (pe_ix ix_seq (pv 0) pe_int (fun _ _ => rfl)) pe_str (nomark _)) (pe_callTy call_listN (by rfl) T.f_list (by decide +kernel) (pa_cons (pe_ix ix_seq (pv 0) pe_int (fun _ _ => rfl)) pa_nil)) (pe_lst pa_nil)))))))), ?_⟩
    show tSeq _ _ _ [some (V.ref p)] H
    walk_at "K"
    cases t with
    | num i =>
      have row : xs = _ := row
      subst row
      walk_at "go"
      intro l hl
      walk_at "go"
      intro l2 hl2
      walk_at "go"
      intro l3 hl3
      have e := (Ex.new hl).trans (Ex.new (o := .tup [V.str "power", V.str "length", V.str "quotient"]) hl2)
      exact hQ l3 _ _ (e.trans (Ex.new hl3)) (Ex.free e hl3) upd_same .nil
    | nam z =>
      have row : xs = _ := row
      subst row
      walk_at "go"
      intro l hl
      walk_at "go"
      intro l2 hl2
      walk_at "go"
      intro l3 hl3
      have e := (Ex.new hl).trans (Ex.new (o := .tup [V.str "power", V.str "length", V.str "quotient"]) hl2)
      exact hQ l3 _ _ (e.trans (Ex.new hl3)) (Ex.free e hl3) upd_same .nil
    | cal f as =>
      obtain ⟨q, ys, rfl, hq, hys⟩ := row
      walk_at "go"
      intro l hl
      walk_at "go"
      intro l2 hl2
      have e := (Ex.new hl).trans (Ex.new (o := .tup [V.str "power", V.str "length", V.str "quotient"]) hl2)
      have hq2 := e _ _ hq
      walk_at "go"
      intro l3 hl3
      exact hQ l3 _ _ (e.trans (Ex.new hl3)) (Ex.free e hl3) upd_same hys
    | tim i a =>
      obtain ⟨x, rfl, hx⟩ := row
      walk_at "go"
      intro l hl
      walk_at "go"
      intro l2 hl2
      walk_at "go"
      intro l3 hl3
      have e := (Ex.new hl).trans (Ex.new (o := .tup [V.str "power", V.str "length", V.str "quotient"]) hl2)
      exact hQ l3 _ _ (e.trans (Ex.new hl3)) (Ex.free e hl3) upd_same (.cons hx .nil)
    | pow a =>
      obtain ⟨x, rfl, hx⟩ := row
      walk_at "go"
      intro l hl
      walk_at "go"
      intro l2 hl2
      walk_at "go"
      intro l3 hl3
      have e := (Ex.new hl).trans (Ex.new (o := .tup [V.str "power", V.str "length", V.str "quotient"]) hl2)
      exact hQ l3 _ _ (e.trans (Ex.new hl3)) (Ex.free e hl3) upd_same (.cons hx .nil)
    | len a =>
      obtain ⟨x, rfl, hx⟩ := row
      walk_at "go"
      intro l hl
      walk_at "go"
      intro l2 hl2
      walk_at "go"
      intro l3 hl3
      have e := (Ex.new hl).trans (Ex.new (o := .tup [V.str "power", V.str "length", V.str "quotient"]) hl2)
      exact hQ l3 _ _ (e.trans (Ex.new hl3)) (Ex.free e hl3) upd_same (.cons hx .nil)
    | quo a i =>
      obtain ⟨x, rfl, hx⟩ := row
      walk_at "go"
      intro l hl
      walk_at "go"
      intro l2 hl2
      walk_at "go"
      intro l3 hl3
      have e := (Ex.new hl).trans (Ex.new (o := .tup [V.str "power", V.str "length", V.str "quotient"]) hl2)
      exact hQ l3 _ _ (e.trans (Ex.new hl3)) (Ex.free e hl3) upd_same (.cons hx .nil)
    | add a a2 =>
      obtain ⟨x, y, rfl, hx, hy⟩ := row
      walk_at "go"
      intro l hl
      walk_at "go"
      intro l2 hl2
      exact hQ l2 _ _ ((Ex.new hl).trans (Ex.new hl2)) (Ex.free (Ex.new hl) hl2) upd_same (.cons hx (.cons hy .nil))
    | sub a a2 =>
      obtain ⟨x, y, rfl, hx, hy⟩ := row
      walk_at "go"
      intro l hl
      walk_at "go"
      intro l2 hl2
      exact hQ l2 _ _ ((Ex.new hl).trans (Ex.new hl2)) (Ex.free (Ex.new hl) hl2) upd_same (.cons hx (.cons hy .nil))
theorem ok1_names_within {k n : Nat} {spj : Sp} (T : Txt K mg) (hj : n = 0 ∨ ∃ j, n = j + 1 ∧ spj = spNmsW K j)
    (G_parts_of : FnOk P w K mg base CX0 k (He.ga K "parts_of") (fdOf K (He.ga K "parts_of")) p_parts_of (spParts K))
    (G_names_within : FnOk P w K mg base CX0 k (He.ga K "names_within") (fdOf K (He.ga K "names_within")) p_names_within (spj)) : FnOk P w K mg base CX0 (k + 1) (He.ga K "names_within") (fdOf K (He.ga K "names_within")) p_names_within (spNmsW K n) := by
  refine FunD.ok T.d_names_within sc_names_within (fun vs H Q E h => ?_) (fun cdv A outer s H vs Q E hr h => ?_)
  · obtain ⟨v, t, d, rfl, _⟩ := h
    rfl
  · obtain ⟨v, t, d, rfl, ht, hd, hn, hQ⟩ := h
    refine ⟨_, PSs.nox ((pss_cons (ps_if (pt_cmpR op_eq (pe_ix ix_seq (pv 0) pe_int (fun _ _ => rfl)) pe_str (nomark _))
      (pss_one (ps_ret (pe_lst (pa_cons (pe_ix ix_seq (pv 0) pe_int (fun _ _ => rfl)) pa_nil))))
      pss_nil)
    (pss_cons (ps_set (i := 1) sc_names_within.nd rfl (Or.inl rfl) (pe_lst pa_nil))
    (pss_cons (ps_for PassesOwn.never rfl (pi_list (pe_call G_parts_of hr rfl T.g_parts_of T.d_parts_of.kp (b_parts_of T) .nil pass0 (pa_cons (pv 0) pa_nil))) (pg_name (i := 2) sc_names_within.nd rfl (Or.inl rfl) (hf := by first | exact Or.inl rfl | exact Or.inr rfl))
      (pss_one (ps_aug (i := 1) sc_names_within.nd rfl (Or.inl rfl) (pe_call G_names_within hr rfl T.g_names_within T.d_names_within.kp (b_names_within T) .nil pass0 (pa_cons (pv 2) pa_nil)) iop_ext)))
    (pss_one (ps_ret (pv 1))))))), ?_⟩
    show tSeq _ _ _ [some v, none, none] H
    walk_at "K"
    obtain ⟨d, rfl⟩ : ∃ e, d = e + 1 := ⟨d - 1, by
      have := ht.depth
      have := t.dep_pos
      omega⟩
    obtain ⟨p, xs, rfl, hs, row⟩ := ht
    obtain ⟨r, er⟩ := row.head
    by_cases hw : t.word = "name"
    · obtain ⟨z, rfl⟩ := word_name hw
      have row : xs = _ := row
      subst row
      walk_at "go"
      intro l hl
      exact hQ l _ (Ex.new hl) hl upd_same
    · have hs2 := hs
      rw [er] at hs2
      walk_at "go"
      refine r_ifF' (decide_eq_false fun z => hw (V.str.inj z)) ?_
      walk_at "go"
      intro f hf
      walk_at "go"
      have x1 := Ex.new (o := .lst []) hf
      refine ⟨p, xs, t, IsTm K H d, rfl, x1 _ _ hs, row.imp (x1 _ _) fun _ _ z => z, fun l ys H1 x2 hl0 hl hys => ?_⟩
      have hne : l ≠ f := (ne_of_none upd_same hl0).symm
      have hf1 := x2 _ _ (upd_same (H := H) (a := f) (o := .lst []))
      have x12 := x1.trans x2
      clear x1 x2
      rw [Tm.nms_parts hw] at hn hQ
      have hlen := pr_len hys
      walk_at "go"
      refine for_it (walk_list (xs := ys)) (fun i σ H' => (∃ y2, σ = [some (.ref p), some (.ref f), y2]) ∧ Ex H H' ∧ H' l = some (.lst ys) ∧ H' f = some (.lst ((Tm.nmss (t.parts.take i)).map V.str))) ⟨⟨_, rfl⟩, x12, hl, hf1⟩ (fun i σ H' _ h => SqL.of h.2.2.1) ?_ ?_
      · rintro i x σ H2 H2' hi ⟨⟨y2, rfl⟩, x2, hl2, hf2⟩ ⟨rfl, hx⟩
        obtain ⟨a, ha, hv⟩ := pr_get hys hx
        have had := Tm.dep_parts hd a (List.mem_of_getElem? ha)
        obtain ⟨j, rfl, rfl⟩ : ∃ j, n = j + 1 ∧ spj = spNmsW K j := hj.elim (fun z => by
          have := a.dep_pos
          omega) id
        have e1 := nmss_get ha
        have h1 := Tm.nmss_take (l := t.parts) (k := i + 1)
        rw [e1, List.length_append] at h1
        walk_at "go"
        refine ⟨x, a, d, rfl, hv.ex x2, by omega, by omega, fun q H3 x3 hq0 hq => ?_⟩
        walk_at "go"
        refine ⟨f, q, _, _, rfl, rfl, x3 _ _ hf2, hq, by rw [List.length_map, List.length_map]; exact Nat.le_trans (Nat.le_trans h1 hn) (by decide), ?_⟩
        rw [← List.map_append, ← e1]
        walk_at "go"
        have x13 := x2.trans x3
        exact ⟨⟨_, rfl⟩, (fun b o hb => (upd_ne fun z => by rw [z, hf] at hb; cases hb).trans (x13 _ _ hb)), (upd_ne hne).trans (x3 _ _ hl2), upd_same⟩
      · rintro σ H2 ⟨⟨y2, rfl⟩, x2, hl2, hf2⟩
        walk_at "go"
        rw [hlen, List.take_length] at hf2
        exact hQ f H2 x2 hf hf2
theorem ok_names_within {k : Nat} (T : Txt K mg) (G_parts_of : FnOk P w K mg base CX0 (k) (He.ga K "parts_of") (fdOf K (He.ga K "parts_of")) p_parts_of (spParts K)) : ∀ n, FnOk P w K mg base CX0 (k + n + 1) (He.ga K "names_within") (fdOf K (He.ga K "names_within")) p_names_within (spNmsW K n)
  | 0 => ok1_names_within (spj := spNo) T (.inl rfl) G_parts_of fnOk_no
  | n + 1 => ok1_names_within T (.inr ⟨n, rfl, rfl⟩) (G_parts_of.mono (by omega)) (ok_names_within T G_parts_of n)
end
end PW
/-! ### texts in ascending order, once each -/
namespace PW
open PySem PySem.Spec PyProof.Rows L2
abbrev kyS (z : Str) : List Nat := z.cps.toList
theorem kyS_inj {x y : Str} (h : kyS x = kyS y) : x = y := by
  cases x
  cases y
  exact congrArg Str.mk (Array.toList_inj.mp h)
/-- ys: the texts of ks in ascending order, once each -/
def Asc (ys ks : List Str) : Prop := ys.Pairwise (fun a b => kyS a < kyS b) ∧ ∀ z, z ∈ ys ↔ z ∈ ks
theorem le_of_rise {x p : Str} (h : ltCps x.cps.toList p.cps.toList = false) : kyS p ≤ kyS x := by
  rw [ltCps_eq] at h
  exact List.not_lt.mp (of_decide_eq_false h)
theorem rise_pw : ∀ (l : List Str) (p : Str), risingS p l = true → (p :: l).Pairwise fun a b => kyS a ≤ kyS b
  | [], p, _ => List.pairwise_singleton _ _
  | x :: r, p, h => by
    have h : (!ltCps x.cps.toList p.cps.toList && risingS x r) = true := h
    rw [Bool.and_eq_true, Bool.not_eq_true'] at h
    have h1 := le_of_rise h.1
    have h2 := rise_pw r x h.2
    refine List.pairwise_cons.mpr ⟨fun y hy => ?_, h2⟩
    rcases List.mem_cons.mp hy with rfl | hy
    · exact h1
    · exact List.le_trans h1 ((List.pairwise_cons.mp h2).1 y hy)
theorem sorted_pw {l : List Str} (h : sortedS l = true) : l.Pairwise fun a b => kyS a ≤ kyS b := by
  cases l with
  | nil => exact .nil
  | cons x r => exact rise_pw r x h
theorem lt_of_leS {x y : Str} (h : kyS x ≤ kyS y) (n : x ≠ y) : kyS x < kyS y := by
  rcases Decidable.em (kyS x < kyS y) with h1 | h1
  · exact h1
  · exact absurd (kyS_inj (List.le_antisymm h (List.not_lt.mp h1))) n
theorem putS_nodup {l : List Str} {k : Str} (h : l.Nodup) : (putS l k).Nodup := by
  unfold putS
  split
  · exact h
  · rename_i n
    exact List.nodup_cons.mpr ⟨n, h⟩
theorem fold_nodup : ∀ (ks l : List Str), l.Nodup → (ks.foldl putS l).Nodup
  | [], _, h => h
  | k :: r, l, h => fold_nodup r _ (putS_nodup h)
theorem runS_nodup (ks : List Str) : (runS ks).Nodup := fold_nodup ks [] List.nodup_nil
/-- sorted(set(ks)) -/
theorem asc_set {ys ks : List Str} (p : ys.Perm (runS ks)) (s : sortedS ys = true) : Asc ys ks := by
  refine ⟨?_, fun z => p.mem_iff.trans runS_mem⟩
  have nd : ys.Pairwise fun a b => a ≠ b := p.nodup_iff.mpr (runS_nodup ks)
  exact List.Pairwise.imp₂ (fun a b h1 h2 => lt_of_leS h1 h2) (sorted_pw s) nd
theorem asc_eq : ∀ {ys zs ks : List Str}, Asc ys ks → Asc zs ks → ys = zs := by
  have go : ∀ ys zs : List Str, ys.Pairwise (fun a b => kyS a < kyS b) → zs.Pairwise (fun a b => kyS a < kyS b) → (∀ z, z ∈ ys ↔ z ∈ zs) → ys = zs := by
    intro ys
    induction ys with
    | nil =>
      intro zs _ _ h
      cases zs with
      | nil => rfl
      | cons z r => exact absurd ((h z).mpr List.mem_cons_self) (fun q => nomatch q)
    | cons y r ih =>
      intro zs h1 h2 h
      cases zs with
      | nil => exact absurd ((h y).mp List.mem_cons_self) (fun q => nomatch q)
      | cons z t =>
        obtain ⟨a1, a2⟩ := List.pairwise_cons.mp h1
        obtain ⟨b1, b2⟩ := List.pairwise_cons.mp h2
        have e : y = z := by
          rcases List.mem_cons.mp ((h y).mp List.mem_cons_self) with e | e
          · exact e
          · rcases List.mem_cons.mp ((h z).mpr List.mem_cons_self) with e2 | e2
            · exact e2.symm
            · exact absurd (List.lt_trans (b1 y e) (a1 z e2)) (List.lt_irrefl _)
        subst e
        rw [ih t a2 b2 fun x => ⟨fun hx => ?_, fun hx => ?_⟩]
        · rcases List.mem_cons.mp ((h x).mp (List.mem_cons_of_mem _ hx)) with e | e
          · subst e
            exact absurd (a1 x hx) (List.lt_irrefl _)
          · exact e
        · rcases List.mem_cons.mp ((h x).mpr (List.mem_cons_of_mem _ hx)) with e | e
          · subst e
            exact absurd (b1 x hx) (List.lt_irrefl _)
          · exact e
  exact fun {ys zs ks} h1 h2 => go _ _ h1.1 h2.1 fun z => (h1.2 z).trans (h2.2 z).symm
/-- one more text at the end, but for the same -/
def addS (l : List Str) (k : Str) : List Str := if l.getLast? = some k then l else l ++ [k]
theorem addS_run : ∀ (ys done acc : List Str), (done ++ ys).Pairwise (fun a b => kyS a ≤ kyS b) → acc.Pairwise (fun a b => kyS a < kyS b) → (∀ z, z ∈ acc ↔ z ∈ done) → acc.getLast? = done.getLast? →
    Asc (ys.foldl addS acc) (done ++ ys)
  | [], done, acc, _, h2, h3, _ => ⟨h2, fun z => by rw [List.append_nil]; exact h3 z⟩
  | y :: r, done, acc, h1, h2, h3, h4 => by
    have e : done ++ y :: r = (done ++ [y]) ++ r := by simp
    rw [e] at h1
    have hle : ∀ z ∈ acc, kyS z ≤ kyS y := fun z hz => by
      have q := (List.pairwise_append.mp h1).1
      exact (List.pairwise_append.mp q).2.2 z ((h3 z).mp hz) y List.mem_cons_self
    have key : Asc (r.foldl addS (addS acc y)) ((done ++ [y]) ++ r) := by
      refine addS_run r (done ++ [y]) (addS acc y) h1 ?_ ?_ ?_
      · unfold addS
        split
        · exact h2
        · rename_i n
          refine List.pairwise_append.mpr ⟨h2, List.pairwise_singleton _ _, fun a ha b hb => ?_⟩
          obtain rfl := List.mem_singleton.mp hb
          refine lt_of_leS (hle a ha) fun z => ?_
          subst z
          -- a is in acc and no larger: it is its last
          obtain ⟨c, hc⟩ : ∃ c, acc.getLast? = some c := by
            cases q : acc.getLast? with
            | some c => exact ⟨c, rfl⟩
            | none =>
              rw [List.getLast?_eq_none_iff.mp q] at ha
              exact nomatch ha
          have hcm : c ∈ acc := List.mem_of_getLast? hc
          obtain ⟨ini, hi⟩ := List.getLast?_eq_some_iff.mp hc
          rw [hi] at ha h2
          rcases List.mem_append.mp ha with q | q
          · have l1 := (List.pairwise_append.mp h2).2.2 a q c List.mem_cons_self
            exact absurd l1 (List.not_lt.mpr (hle c hcm))
          · rw [List.mem_singleton.mp q] at n
            exact n hc
      · intro z
        unfold addS
        split
        · rename_i n
          rw [List.mem_append, ← h3 z, List.mem_singleton]
          exact ⟨.inl, fun q => q.elim id fun e => e ▸ List.mem_of_getLast? n⟩
        · rw [List.mem_append, List.mem_append, h3 z]
      · unfold addS
        split
        · rename_i n
          rw [n, List.getLast?_append]
          rfl
        · rw [List.getLast?_append, List.getLast?_append]
          rfl
    rw [← e] at key
    exact key
theorem asc_run {ys ks : List Str} (p : ys.Perm ks) (s : sortedS ys = true) : Asc (ys.foldl addS []) ks := by
  have h := addS_run ys [] [] (sorted_pw s) .nil (fun z => Iff.rfl) rfl
  exact ⟨h.1, fun z => (h.2 z).trans (by rw [List.nil_append]; exact p.mem_iff)⟩
end PW
/-! ### the comparisons and names of conditions -/
namespace PW
open PySem PySem.Spec PyProof.Rows L2
theorem IsCd.atom {K : PySem.W.Frag} {H : Hp} {e : Nat} : ∀ {d : Nat} {v : V} {c : Cd}, c.isAtom = true → IsCd K H e d v c → IsCd K H e 1 v c
  | 0, _, _, _, h => h.elim
  | d + 1, v, c, ha, h => by
    obtain ⟨p, xs, e1, h1, h2⟩ := h
    refine ⟨p, xs, e1, h1, ?_⟩
    cases c with
    | tru => exact h2
    | less a b => exact h2
    | equ a b => exact h2
    | res t m r => exact h2
    | _ => cases ha
theorem prd_exC {K : PySem.W.Frag} {H H' : Hp} (x : Ex H H') {e d : Nat} {ys : List V} {as : List Cd} (h : Paired (IsCd K H e d) ys as) : Paired (IsCd K H' e d) ys as := L2.Paired.mapP h fun _ _ z => z.ex x
theorem prd_app {α β : Type} {F : α → β → Prop} : ∀ {xs xs' : List α} {ys ys' : List β}, Paired F xs ys → Paired F xs' ys' → Paired F (xs ++ xs') (ys ++ ys')
  | _, _, _, _, .nil, h => h
  | _, _, _, _, .cons a b, h => .cons a (prd_app b h)
def spCmps (K : PySem.W.Frag) (n : Nat) : Sp := fun vs H Q _ => ∃ v c e d H0, vs = [v] ∧ Ex H0 H ∧ IsCd K H0 e d v c ∧ c.dep ≤ n + 1 ∧ c.atoms.length ≤ 100000 ∧ ∀ l ys H', Ex H H' → H l = none → H' l = some (.lst ys) → Paired (IsCd K H0 e 1) ys c.atoms → Q (.ref l) H'
def spTOf (K : PySem.W.Frag) : Sp := fun vs H Q _ => ∃ v c e d H0, vs = [v] ∧ Ex H0 H ∧ IsCd K H0 e d v c ∧ c.isAtom = true ∧ ∀ l ys H', Ex H H' → H l = none → H' l = some (.lst ys) → Paired (IsTm K H0 e) ys c.tms → Q (.ref l) H'
def spCNms (K : PySem.W.Frag) : Sp := fun vs H Q _ => ∃ v c e d, vs = [v] ∧ IsCd K H e d v c ∧ c.dep ≤ 17 ∧ e ≤ 17 ∧ c.atoms.length ≤ 100000 ∧ c.cnms.length ≤ 100000 ∧ ∀ l H', Ex H H' → H l = none → H' l = some (.lst (c.cnms.map V.str)) → Q (.ref l) H'
def spUsed (K : PySem.W.Frag) : Sp := fun vs H Q _ => ∃ v c e d, vs = [v] ∧ IsCd K H e d v c ∧ c.dep ≤ 17 ∧ e ≤ 17 ∧ c.atoms.length ≤ 100000 ∧ c.cnms.length < 4000 ∧ (runS c.cnms).length < 64 ∧ ∀ l ys H', Ex H H' → H l = none → H' l = some (.lst (ys.map V.str)) → Asc ys c.cnms → Q (.ref l) H'
section
variable {P : Program} {w : World} {K : PySem.W.Frag} {mg : Str → Option Value} {base : Heap}
theorem ok1_comparisons {k n : Nat} {spj : Sp} (T : Txt K mg) (hj : n = 0 ∨ ∃ j, n = j + 1 ∧ spj = spCmps K j)
    (G_comparisons : FnOk P w K mg base CX0 k (He.ga K "comparisons") (fdOf K (He.ga K "comparisons")) p_comparisons (spj)) : FnOk P w K mg base CX0 (k + 1) (He.ga K "comparisons") (fdOf K (He.ga K "comparisons")) p_comparisons (spCmps K n) := by
  refine FunD.ok T.d_comparisons sc_comparisons (fun vs H Q E h => ?_) (fun cdv A outer s H vs Q E hr h => ?_)
  · obtain ⟨v, c, e, d, H0, rfl, _⟩ := h
    rfl
  · obtain ⟨v, c, e, d, H0, rfl, xh, hc, hd, hn, hQ⟩ := h
    refine ⟨_, PSs.nox ((pss_cons (ps_if (pt_cmpR op_eq (pe_ix ix_seq (pv 0) pe_int (fun _ _ => rfl)) pe_str (nomark _))
      (pss_one (ps_ret (pe_lst pa_nil)))
      pss_nil)
    (pss_cons (ps_if (pt_cmpR op_eq (pe_ix ix_seq (pv 0) pe_int (fun _ _ => rfl)) pe_str (nomark _))
      (pss_one (ps_ret (pe_call G_comparisons hr rfl T.g_comparisons T.d_comparisons.kp (b_comparisons T) .nil pass0 (pa_cons (pe_ix ix_seq (pv 0) pe_int (fun _ _ => rfl)) pa_nil))))
      pss_nil)
    (pss_cons (ps_if (pt_cmpR op_in_seq (pe_ix ix_seq (pv 0) pe_int (fun _ _ => rfl)) (pe_tup (pa_cons pe_str (pa_cons pe_str pa_nil))) rfl)
      (pss_one (ps_ret (pe_op op_cat (pe_call G_comparisons hr rfl T.g_comparisons T.d_comparisons.kp (b_comparisons T) .nil pass0 (pa_cons (pe_ix ix_seq (pv 0) pe_int (fun _ _ => rfl)) pa_nil)) (pe_call G_comparisons hr rfl T.g_comparisons T.d_comparisons.kp (b_comparisons T) .nil pass0 (pa_cons (pe_ix ix_seq (pv 0) pe_int (fun _ _ => rfl)) pa_nil)))))
      pss_nil)
    (pss_one (ps_ret (pe_lst (pa_cons (pv 0) pa_nil)))))))), ?_⟩
    show tSeq _ _ _ [some v] H
    walk_at "K"
    obtain ⟨d, rfl⟩ : ∃ e, d = e + 1 := ⟨d - 1, by
      have := hc.depth
      have := c.dep_pos
      omega⟩
    have hc0 := hc
    obtain ⟨p, xs, rfl, hs, row⟩ := hc
    replace hs := xh _ _ hs
    have leaf : c.isAtom = true → c.atoms = [c] → ∀ t, H t = none → ∀ l, (L2.upd H t (.tup [V.str "and", V.str "or"])) l = none → Q (.ref l) (L2.upd (L2.upd H t (.tup [V.str "and", V.str "or"])) l (.lst [V.ref p])) := fun ha e1 t ht l hl => by
      have x := (Ex.new (o := .tup [V.str "and", V.str "or"]) ht).trans (Ex.new (o := .lst [V.ref p]) hl)
      refine hQ l _ _ x (Ex.free (Ex.new ht) hl) upd_same ?_
      rw [e1]
      exact .cons (hc0.atom ha) .nil
    cases c with
    | tru =>
      have row : xs = _ := row
      subst row
      walk_at "go"
      intro l hl
      exact hQ l _ _ (Ex.new hl) hl upd_same .nil
    | neg c =>
      obtain ⟨x, rfl, hx⟩ := row
      simp only [Cd.dep] at hd
      have := c.dep_pos
      obtain ⟨j, rfl, rfl⟩ : ∃ j, n = j + 1 ∧ spj = spCmps K j := hj.elim (fun z => by omega) id
      walk_at "go"
      exact ⟨x, c, e, d, H0, rfl, xh, hx, by omega, hn, hQ⟩
    | less a b =>
      obtain ⟨x, y, rfl, _⟩ := id row
      walk_at "go"
      intro t ht
      walk_at "go"
      intro l hl
      exact leaf rfl rfl t ht l hl
    | equ a b =>
      obtain ⟨x, y, rfl, _⟩ := id row
      walk_at "go"
      intro t ht
      walk_at "go"
      intro l hl
      exact leaf rfl rfl t ht l hl
    | res a m r =>
      obtain ⟨x, rfl, _⟩ := id row
      walk_at "go"
      intro t ht
      walk_at "go"
      intro l hl
      exact leaf rfl rfl t ht l hl
    | con a b =>
      obtain ⟨x, y, rfl, hx, hy⟩ := row
      simp only [Cd.dep] at hd
      simp only [Cd.atoms, List.length_append] at hn
      have := a.dep_pos
      obtain ⟨j, rfl, rfl⟩ : ∃ j, n = j + 1 ∧ spj = spCmps K j := hj.elim (fun z => by omega) id
      walk_at "go"
      intro t ht
      have x0 := Ex.new (o := .tup [V.str "and", V.str "or"]) ht
      have hs0 := x0 _ _ hs
      walk_at "go"
      refine ⟨x, a, e, d, H0, rfl, xh.trans x0, hx, by omega, by omega, fun l1 y1 H1 x1 hl1 h1 p1 => ?_⟩
      have hs1 := x1 _ _ hs0
      walk_at "go"
      refine ⟨y, b, e, d, H0, rfl, xh.trans (x0.trans x1), hy, by omega, by omega, fun l2 y2 H2 x2 hl2 h2 p2 => ?_⟩
      walk_at "go"
      have e1 := pr_len p1
      have e2 := pr_len p2
      refine ⟨l1, l2, y1, y2, rfl, rfl, x2 _ _ h1, h2, Nat.le_trans (show _ ≤ 100000 by omega) (by decide), fun l hl => ?_⟩
      have x3 := Ex.new (o := .lst (y1 ++ y2)) hl
      have x02 := (x0.trans x1).trans x2
      exact hQ l _ _ (x02.trans x3) (Ex.free x02 hl) upd_same (prd_app p1 p2)
    | dis a b =>
      obtain ⟨x, y, rfl, hx, hy⟩ := row
      simp only [Cd.dep] at hd
      simp only [Cd.atoms, List.length_append] at hn
      have := a.dep_pos
      obtain ⟨j, rfl, rfl⟩ : ∃ j, n = j + 1 ∧ spj = spCmps K j := hj.elim (fun z => by omega) id
      walk_at "go"
      intro t ht
      have x0 := Ex.new (o := .tup [V.str "and", V.str "or"]) ht
      have hs0 := x0 _ _ hs
      walk_at "go"
      refine ⟨x, a, e, d, H0, rfl, xh.trans x0, hx, by omega, by omega, fun l1 y1 H1 x1 hl1 h1 p1 => ?_⟩
      have hs1 := x1 _ _ hs0
      walk_at "go"
      refine ⟨y, b, e, d, H0, rfl, xh.trans (x0.trans x1), hy, by omega, by omega, fun l2 y2 H2 x2 hl2 h2 p2 => ?_⟩
      walk_at "go"
      have e1 := pr_len p1
      have e2 := pr_len p2
      refine ⟨l1, l2, y1, y2, rfl, rfl, x2 _ _ h1, h2, Nat.le_trans (show _ ≤ 100000 by omega) (by decide), fun l hl => ?_⟩
      have x3 := Ex.new (o := .lst (y1 ++ y2)) hl
      have x02 := (x0.trans x1).trans x2
      exact hQ l _ _ (x02.trans x3) (Ex.free x02 hl) upd_same (prd_app p1 p2)
theorem ok_comparisons {k : Nat} (T : Txt K mg) : ∀ n, FnOk P w K mg base CX0 (k + n + 1) (He.ga K "comparisons") (fdOf K (He.ga K "comparisons")) p_comparisons (spCmps K n)
  | 0 => ok1_comparisons (spj := spNo) T (.inl rfl) fnOk_no
  | n + 1 => ok1_comparisons T (.inr ⟨n, rfl, rfl⟩) (ok_comparisons T n)
theorem ok_terms_of (T : Txt K mg) : FnOk P w K mg base CX0 (1) (He.ga K "terms_of") (fdOf K (He.ga K "terms_of")) p_terms_of (spTOf K) := by
  refine FunD.ok T.d_terms_of sc_terms_of (fun vs H Q E h => ?_) (fun cdv A outer s H vs Q E hr h => ?_)
  · obtain ⟨v, c, e, d, H0, rfl, _⟩ := h
    rfl
  · obtain ⟨v, c, e, d, H0, rfl, xh, hc, ha, hQ⟩ := h
    refine ⟨_, PSs.nox ((pss_one (ps_ret (pe_ifExp (pt_cmpR op_eq (pe_ix ix_seq (pv 0) pe_int (fun _ _ => rfl)) pe_str (nomark _)) (pe_lst (pa_cons (pe_ix ix_seq (pv 0) pe_int (fun _ _ => rfl)) pa_nil)) (pe_lst (pa_cons (pe_ix ix_seq (pv 0) pe_int (fun _ _ => rfl)) (pa_cons (pe_ix ix_seq (pv 0) pe_int (fun _ _ => rfl)) pa_nil))))))), ?_⟩
    show tRet _ _ [some v] H
    walk_at "K"
    obtain ⟨p, xs, rfl, hs, row⟩ := (hc.atom ha)
    replace hs := xh _ _ hs
    cases c with
    | less a b =>
      obtain ⟨x, y, rfl, hx, hy⟩ := row
      walk_at "go"
      intro l hl
      exact hQ l _ _ (Ex.new hl) hl upd_same (.cons hx (.cons hy .nil))
    | equ a b =>
      obtain ⟨x, y, rfl, hx, hy⟩ := row
      walk_at "go"
      intro l hl
      exact hQ l _ _ (Ex.new hl) hl upd_same (.cons hx (.cons hy .nil))
    | res a m r =>
      obtain ⟨x, rfl, hx⟩ := row
      walk_at "go"
      intro l hl
      exact hQ l _ _ (Ex.new hl) hl upd_same (.cons hx .nil)
    | _ => cases ha
theorem ok_condition_names {k : Nat} (T : Txt K mg)
    (G_comparisons : FnOk P w K mg base CX0 k (He.ga K "comparisons") (fdOf K (He.ga K "comparisons")) p_comparisons (spCmps K 16))
    (G_terms_of : FnOk P w K mg base CX0 k (He.ga K "terms_of") (fdOf K (He.ga K "terms_of")) p_terms_of (spTOf K))
    (G_names_within : FnOk P w K mg base CX0 k (He.ga K "names_within") (fdOf K (He.ga K "names_within")) p_names_within (spNmsW K 16)) : FnOk P w K mg base CX0 (k + 1) (He.ga K "condition_names") (fdOf K (He.ga K "condition_names")) p_condition_names (spCNms K) := by
  refine FunD.ok T.d_condition_names sc_condition_names (fun vs H Q E h => ?_) (fun cdv A outer s H vs Q E hr h => ?_)
  · obtain ⟨v, c, e, d, rfl, _⟩ := h
    rfl
  · obtain ⟨v, c, e, d, rfl, hc, hd, he, hn, hm, hQ⟩ := h
    refine ⟨_, PSs.nox ((pss_cons (ps_set (i := 1) sc_condition_names.nd rfl (Or.inl rfl) (pe_lst pa_nil))
    (pss_cons (ps_for PassesOwn.never rfl (pi_list (pe_call G_comparisons hr rfl T.g_comparisons T.d_comparisons.kp (b_comparisons T) .nil pass0 (pa_cons (pv 0) pa_nil))) (pg_name (i := 2) sc_condition_names.nd rfl (Or.inl rfl) (hf := by first | exact Or.inl rfl | exact Or.inr rfl))
      (pss_one (ps_for PassesOwn.never rfl (pi_list (pe_call G_terms_of hr rfl T.g_terms_of T.d_terms_of.kp (b_terms_of T) .nil pass0 (pa_cons (pv 2) pa_nil))) (pg_name (i := 3) sc_condition_names.nd rfl (Or.inl rfl) (hf := by first | exact Or.inl rfl | exact Or.inr rfl))
          (pss_one (ps_aug (i := 1) sc_condition_names.nd rfl (Or.inl rfl) (pe_call G_names_within hr rfl T.g_names_within T.d_names_within.kp (b_names_within T) .nil pass0 (pa_cons (pv 3) pa_nil)) iop_ext)))))
    (pss_one (ps_ret (pv 1)))))), ?_⟩
    show tSeq _ _ _ [some v, none, none, none] H
    walk_at "K"
    walk_at "go"
    intro f hf
    walk_at "go"
    have x1 := Ex.new (o := .lst []) hf
    refine ⟨v, c, e, d, H, rfl, x1, hc, hd, hn, fun l ys H1 x2 hl0 hl hys => ?_⟩
    have hne : l ≠ f := (ne_of_none upd_same hl0).symm
    have hf1 := x2 _ _ (upd_same (H := H) (a := f) (o := .lst []))
    have x12 := x1.trans x2
    have hlen := pr_len hys
    have keep : ∀ {H2 : Hp} {o : HO}, Ex H H2 → Ex H (L2.upd H2 f o) := fun x b u hb => (upd_ne fun z => by rw [z, hf] at hb; cases hb).trans (x _ _ hb)
    clear x1 x2
    walk_at "go"
    refine for_it (walk_list (xs := ys)) (fun i σ H' => (∃ y2 y3, σ = [some v, some (.ref f), y2, y3]) ∧ Ex H H' ∧ H' l = some (.lst ys) ∧ H' f = some (.lst ((cnmss (c.atoms.take i)).map V.str))) ⟨⟨_, _, rfl⟩, x12, hl, hf1⟩ (fun i σ H' _ h => SqL.of h.2.2.1) ?_ ?_
    · rintro i x σ H2 H2' hi ⟨⟨y2, y3, rfl⟩, x2, hl2, hf2⟩ ⟨rfl, hx⟩
      obtain ⟨a, ha, hv⟩ := pr_get hys hx
      have hat := c.atoms_atom a (List.mem_of_getElem? ha)
      have e1 := cnmss_get ha
      have h1 := cnmss_take (l := c.atoms) (k := i + 1)
      rw [e1, List.length_append] at h1
      have hcn : (cnmss c.atoms).length ≤ 100000 := hm
      walk_at "go"
      refine ⟨x, a, e, 1, H, rfl, x2, hv, hat, fun l3 zs H3 x3 hl30 hl3 hzs => ?_⟩
      have hne3 : l3 ≠ f := (ne_of_none hf2 hl30).symm
      have hll3 : l ≠ l3 := ne_of_none hl2 hl30
      have hlen3 := pr_len hzs
      walk_at "go"
      refine for_it (walk_list (xs := zs)) (fun i' σ H' => (∃ y3, σ = [some v, some (.ref f), some x, y3]) ∧ Ex H H' ∧ H' l = some (.lst ys) ∧ H' l3 = some (.lst zs) ∧ H' f = some (.lst ((cnmss (c.atoms.take i) ++ Tm.nmss (a.tms.take i')).map V.str))) ⟨⟨_, rfl⟩, x2.trans x3, x3 _ _ hl2, hl3, by
        have := x3 _ _ hf2
        simpa [Tm.nmss] using this⟩ (fun i σ H' _ h => SqL.of h.2.2.2.1) ?_ ?_
      · rintro i' z σ H4 H4' hi' ⟨⟨y3, rfl⟩, x4, hl4, hl34, hf4⟩ ⟨rfl, hz⟩
        obtain ⟨t, ht, htv⟩ := pr_get hzs hz
        have f1 := nmss_get ht
        have f2 := Tm.nmss_take (l := a.tms) (k := i' + 1)
        rw [f1, List.length_append] at f2
        have f3 : (Tm.nmss a.tms).length = a.anms.length := rfl
        have hdt := htv.depth
        walk_at "go"
        refine ⟨z, t, e, rfl, htv.ex x4, by omega, by omega, fun q H5 x5 hq0 hq => ?_⟩
        walk_at "go"
        refine ⟨f, q, _, _, rfl, rfl, x5 _ _ hf4, hq, ?_, ?_⟩
        · rw [List.length_map, List.length_map, List.length_append]
          exact Nat.le_trans (show _ ≤ 100000 by omega) (by decide)
        · walk_at "go"
          rw [← List.map_append, List.append_assoc, ← f1]
          exact ⟨⟨_, rfl⟩, keep (x4.trans x5), (upd_ne hne).trans (x5 _ _ hl4), (upd_ne hne3).trans (x5 _ _ hl34), upd_same⟩
      · rintro σ H4 ⟨⟨y3, rfl⟩, x4, hl4, hl34, hf4⟩
        walk_at "go"
        rw [hlen3, List.take_length] at hf4
        refine ⟨⟨_, _, rfl⟩, x4, hl4, ?_⟩
        rw [e1]
        exact hf4
    · rintro σ H2 ⟨⟨y2, y3, rfl⟩, x2, hl2, hf2⟩
      walk_at "go"
      rw [hlen, List.take_length] at hf2
      exact hQ f H2 x2 hf hf2
theorem ok_used_names {k : Nat} (T : Txt K mg)
    (G_condition_names : FnOk P w K mg base CX0 k (He.ga K "condition_names") (fdOf K (He.ga K "condition_names")) p_condition_names (spCNms K)) : FnOk P w K mg base CX0 (k + 1) (He.ga K "used_names") (fdOf K (He.ga K "used_names")) p_used_names (spUsed K) := by
  refine FunD.ok T.d_used_names sc_used_names (fun vs H Q E h => ?_) (fun cdv A outer s H vs Q E hr h => ?_)
  · obtain ⟨v, c, e, d, rfl, _⟩ := h
    rfl
  · obtain ⟨v, c, e, d, rfl, hc, hd, he, hn, hm, h64, hQ⟩ := h
    refine ⟨_, PSs.nox ((pss_one (ps_ret (pe_callB (PW.cr_sortedSet rfl) (by rfl) T.f_sorted (by decide +kernel) (pa_cons (pe_callTy (PW.cr_setS rfl) (by rfl) T.f_set (by decide +kernel) (pa_cons (pe_call G_condition_names hr rfl T.g_condition_names T.d_condition_names.kp (b_condition_names T) .nil pass0 (pa_cons (pv 0) pa_nil)) pa_nil)) pa_nil))))), ?_⟩
    show tRet _ _ [some v] H
    walk_at "K"
    walk_at "go"
    refine ⟨v, c, e, d, rfl, hc, hd, he, hn, by omega, fun l H1 x1 hl1 hl => ?_⟩
    walk_at "go"
    refine ⟨l, c.cnms, rfl, SqL.of hl, by omega, fun p hp => ?_⟩
    walk_at "go"
    refine ⟨p, runS c.cnms, rfl, upd_same, h64, fun ys q h1 h2 hq => ?_⟩
    have e := x1.trans (Ex.new (o := SetS P w p (runS c.cnms)) hp)
    exact hQ q ys _ (e.trans (Ex.new hq)) (Ex.free e hq) upd_same (asc_set h1 h2)
end
end PW
/-! ### trees of comparisons -/
namespace PW
open PySem PySem.Spec PyProof.Rows L2
namespace Tm
mutual
theorem lay {n m q : Nat} : ∀ t : Tm, t.ok n m q → t.pd.canLay0 = true
  | .num i, _ => by simp only [pd, PyData.canLay0, PyData.canLayAll0]; decide +kernel
  | .nam z, h => by
    have h : isNameZ z = true := by simpa only [ok] using h
    have hz := nm_ok (ns := [z]) (fun y hy => by rw [List.mem_singleton.mp hy]; exact isNm_iff.mp h) z List.mem_cons_self
    simp only [pd, PyData.canLay0, PyData.canLayAll0, hz]
    decide +kernel
  | .add a b, h => by
    have h : ok n m q a ∧ ok n m q b := by simpa only [ok] using h
    simp only [pd, PyData.canLay0, PyData.canLayAll0, lay a h.1, lay b h.2]
    decide +kernel
  | .sub a b, h => by
    have h : ok n m q a ∧ ok n m q b := by simpa only [ok] using h
    simp only [pd, PyData.canLay0, PyData.canLayAll0, lay a h.1, lay b h.2]
    decide +kernel
  | .tim i a, h => by
    have h : i.natAbs < m ∧ ok n m q a := by simpa only [ok] using h
    simp only [pd, PyData.canLay0, PyData.canLayAll0, lay a h.2]
    decide +kernel
  | .pow a, h => by
    have h : ok n m q a := by simpa only [ok] using h
    simp only [pd, PyData.canLay0, PyData.canLayAll0, lay a h]
    decide +kernel
  | .len a, h => by
    have h : ok n m q a := by simpa only [ok] using h
    simp only [pd, PyData.canLay0, PyData.canLayAll0, lay a h]
    decide +kernel
  | .quo a i, h => by
    have h : (1 ≤ i ∧ i < (q : Nat)) ∧ ok n m q a := by simpa only [ok] using h
    simp only [pd, PyData.canLay0, PyData.canLayAll0, lay a h.2]
    decide +kernel
  | .cal f as, h => by
    have h : isNameZ f = true ∧ as.length ≤ 3 ∧ oks n m q as := by simpa only [ok] using h
    have hz := nm_ok (ns := [f]) (fun y hy => by rw [List.mem_singleton.mp hy]; exact isNm_iff.mp h.1) f List.mem_cons_self
    simp only [pd, PyData.canLay0, PyData.canLayAll0, hz, lays as h.2.2]
    decide +kernel
theorem lays {n m q : Nat} : ∀ as : List Tm, oks n m q as → PyData.canLayAll0 (pds as) = true
  | [], _ => rfl
  | a :: r, h => by
    have h : ok n m q a ∧ oks n m q r := by simpa only [oks] using h
    simp only [pds, PyData.canLayAll0, lay a h.1, lays r h.2]
    rfl
end
end Tm
theorem Cd.lay : ∀ c : Cd, c.ok → c.pd.canLay0 = true
  | .tru, _ => by decide +kernel
  | .neg c, h => by
    simp only [Cd.pd, PyData.canLay0, PyData.canLayAll0, Cd.lay c h]
    decide +kernel
  | .con a b, h => by
    simp only [Cd.pd, PyData.canLay0, PyData.canLayAll0, Cd.lay a h.1, Cd.lay b h.2]
    decide +kernel
  | .dis a b, h => by
    simp only [Cd.pd, PyData.canLay0, PyData.canLayAll0, Cd.lay a h.1, Cd.lay b h.2]
    decide +kernel
  | .less s t, h => by
    simp only [Cd.pd, PyData.canLay0, PyData.canLayAll0, Tm.lay s h.1, Tm.lay t h.2]
    decide +kernel
  | .equ s t, h => by
    simp only [Cd.pd, PyData.canLay0, PyData.canLayAll0, Tm.lay s h.1, Tm.lay t h.2]
    decide +kernel
  | .res t m r, h => by
    simp only [Cd.pd, PyData.canLay0, PyData.canLayAll0, Tm.lay t h.1]
    decide +kernel
/-- a list of comparisons -/
structure AtL (K : PySem.W.Frag) (H : Hp) (e X : Nat) (l : Addr) (vs : List V) (as : List Cd) : Prop where
  at_ : H l = some (.lst vs)
  prd : Paired (IsCd K H e 1) vs as
  few : as.length ≤ 1000
  ok : ∀ a ∈ as, a.ok
  atm : ∀ a ∈ as, a.isAtom = true
  cst : ∀ a ∈ as, a.cost ≤ X
theorem AtL.ex {K : PySem.W.Frag} {H H' : Hp} {e X : Nat} {l : Addr} {vs : List V} {as : List Cd} (x : Ex H H') (h : AtL K H e X l vs as) : AtL K H' e X l vs as := ⟨x _ _ h.at_, prd_exC x h.prd, h.few, h.ok, h.atm, h.cst⟩
theorem dp_cds {K : PySem.W.Frag} {H : Hp} {e d : Nat} : ∀ {vs : List V} {as : List Cd}, Paired (IsCd K H e d) vs as → DpAll K H vs (as.map Cd.pd)
  | _, _, .nil => .nil
  | _, _, .cons a r => .cons a.dat (dp_cds r)
theorem shaped_cds {as : List Cd} {n : Nat} (ok : ∀ a ∈ as, a.ok) (hd : ∀ a ∈ as, a.dep ≤ 1 ∧ a.tdep n) (hn : n ≤ 20) : SeqAt.shaped (.list (as.map Cd.pd)) = true := by
  have h1 : PyData.canLayAll0 (as.map Cd.pd) = true := by
    clear hd
    induction as with
    | nil => rfl
    | cons a r ih =>
      simp only [List.map_cons, PyData.canLayAll0, Cd.lay a (ok a List.mem_cons_self), ih fun x hx => ok x (List.mem_cons_of_mem _ hx)]
      rfl
  have h2 : PyData.depthAll (as.map Cd.pd) ≤ 41 := by
    clear ok h1
    induction as with
    | nil => exact Nat.zero_le _
    | cons a r ih =>
      have q := hd a List.mem_cons_self
      have := Cd.pd_depth a q.2
      have := ih fun x hx => hd x (List.mem_cons_of_mem _ hx)
      simp only [List.map_cons, PyData.depthAll]
      omega
  unfold SeqAt.shaped
  simp only [PyData.canLay0, PyData.depth]
  rw [h1, Bool.true_and]
  exact decide_eq_true (by omega)
theorem eqv_cds {as : List Cd} : PyData.eqv (.list (as.map Cd.pd)) (.list []) = as.isEmpty := by
  cases as <;> rfl
theorem atom_dep {a : Cd} (h : a.isAtom = true) : a.dep = 1 := by
  cases a <;> first | rfl | cases h
theorem atom_atoms {a : Cd} (h : a.isAtom = true) : a.atoms = [a] := by
  cases a <;> first | rfl | cases h
def spLTree (K : PySem.W.Frag) (n : Nat) : Sp := fun vs H Q _ => ∃ b c l e X ws as dd, vs = [.ref b, .ref l, .int dd] ∧ BagAt H b c ∧ AtL K (hide H b) e X l ws as ∧ e ≤ 20 ∧ 1 ≤ X ∧ dd ≤ (n : Int) ∧
  ∀ v t H', IsCd K (hide H' b) e (dd.toNat + 1) v t → t.ok → (∀ a ∈ t.atoms, a ∈ as) → t.atoms.length ≤ 2 ^ dd.toNat → t.cost + 1 ≤ (X + 1) * 2 ^ dd.toNat → BagAt H' b c → ExB b H H' → Q v H'
section
variable {P : Program} {w : World} {K : PySem.W.Frag} {mg : Str → Option Value} {base : Heap}
theorem ok1__law_tree {k n : Nat} {spj : Sp} (T : Txt K mg) (hj : n = 0 ∨ ∃ j, n = j + 1 ∧ spj = spLTree K j)
    (G__law_pull : FnOk P w K mg base CX0 k (He.ga K "_law_pull") (fdOf K (He.ga K "_law_pull")) p__law_pull (spPull))
    (G__law_of : FnOk P w K mg base CX0 k (He.ga K "_law_of") (fdOf K (He.ga K "_law_of")) p__law_of (spOf K))
    (G__law_tree : FnOk P w K mg base CX0 k (He.ga K "_law_tree") (fdOf K (He.ga K "_law_tree")) p__law_tree (spj)) : FnOk P w K mg base CX0 (k + 1) (He.ga K "_law_tree") (fdOf K (He.ga K "_law_tree")) p__law_tree (spLTree K n) := by
  refine FunD.ok T.d__law_tree sc__law_tree (fun vs H Q E h => ?_) (fun cdv A outer s H vs Q E hr h => ?_)
  · obtain ⟨b, c, l, e, X, ws, as, dd, rfl, _⟩ := h
    rfl
  · obtain ⟨b, c, l, e, X, ws, as, dd, rfl, hB, hA, he, hX, hdn, hQ⟩ := h
    refine ⟨_, PSs.nox ((pss_cons (ps_set (i := 3) sc__law_tree.nd rfl (Or.inl rfl) (pe_call G__law_pull hr rfl T.g__law_pull T.d__law_pull.kp (b__law_pull T) .nil pass0 (pa_cons (pv 0) (pa_cons pe_int pa_nil))))
    (pss_cons (ps_if (PW.pt (pw_or (pt_cmpR op_lt (pv 2) pe_int (nomark _)) (pw_or1 (pt_cmpR op_eq (pv 3) pe_int (nomark _)))))
      (pss_one (ps_ret (pe_ifExp (PW.pt (pw_and (pt_cmpR (op_neD hr.units) (pv 1) (pe_lst pa_nil) (nomark _)) (pw_and1 (pt_cmpR op_gt (pe_call G__law_pull hr rfl T.g__law_pull T.d__law_pull.kp (b__law_pull T) .nil pass0 (pa_cons (pv 0) (pa_cons pe_int pa_nil))) pe_int (nomark _))))) (pe_call G__law_of hr rfl T.g__law_of T.d__law_of.kp (b__law_of T) .nil pass0 (pa_cons (pv 0) (pa_cons (pv 1) pa_nil))) (pe_tup (pa_cons pe_str pa_nil)))))
      pss_nil)
    (pss_cons (ps_set (i := 4) sc__law_tree.nd rfl (Or.inl rfl) (pe_call G__law_tree hr rfl T.g__law_tree T.d__law_tree.kp (b__law_tree T) .nil pass0 (pa_cons (pv 0) (pa_cons (pv 1) (pa_cons (pe_op op_sub (pv 2) pe_int) pa_nil)))))
    (pss_one (ps_ret (pe_ifExp (pt_cmpR op_eq (pv 3) pe_int (nomark _)) (pe_tup (pa_cons pe_str (pa_cons (pv 4) pa_nil))) (pe_tup (pa_cons (pe_ix ix_list (pe_lst (pa_cons pe_str (pa_cons pe_str pa_nil))) (pe_op op_mod (pe_callTy call_intN (by rfl) T.f_int (by decide +kernel) (pa_cons (pv 3) pa_nil)) pe_int) (fun _ _ => rfl)) (pa_cons (pv 4) (pa_cons (pe_call G__law_tree hr rfl T.g__law_tree T.d__law_tree.kp (b__law_tree T) .nil pass0 (pa_cons (pv 0) (pa_cons (pv 1) (pa_cons (pe_op op_sub (pv 2) pe_int) pa_nil)))) pa_nil))))))))))), ?_⟩
    show tSeq _ _ _ [some (V.ref b), some (V.ref l), some (V.int dd), none, none] H
    walk_at "K"
    have pw1 : 1 ≤ 2 ^ dd.toNat := Nat.pow_pos (by decide)
    have up : X + 1 ≤ (X + 1) * 2 ^ dd.toNat := Nat.le_mul_of_pos_right _ pw1
    have tru : ∀ H1, BagAt H1 b c → ExB b H H1 → ∀ p, H1 p = none → Q (.ref p) (L2.upd H1 p (.tup [V.str "true"])) := fun H1 hB1 x1 p hp => by
      obtain ⟨u, hu⟩ := hB1.some
      exact hQ _ .tru _ ((cd_new (c := .tru) (d := 0) hu hp (show _ = _ from rfl)).up (Nat.le_refl e) (by omega)) trivial (fun a h => nomatch h) (Nat.zero_le _) (by simp only [Cd.cost]; omega) (hB1.new hp) (x1.trans (Ex.new hp).tb)
    have nlb : l ≠ b := fun z => by
      have e3 := hA.at_
      rw [z, hide_same] at e3
      cases e3
    have pick : ∀ H2, BagAt H2 b c → ExB b H H2 → as.isEmpty = false → spOf K [.ref b, .ref l] H2 Q (fun _ _ _ => False) := fun H2 hB2 x2 hne => by
      have hA2 := hA.ex x2.hd
      have hl2 := Ex.hide _ b _ _ hA2.at_
      have hlen := pr_len hA.prd
      have hpos : 0 < as.length := by
        cases as with
        | nil => cases hne
        | cons a r => exact Nat.succ_pos _
      have hfew := hA.few
      refine ⟨b, c, .ref l, ws, rfl, hB2, Or.inl ⟨l, rfl, nlb, Or.inl hl2⟩, by omega, by rw [hlen]; exact Nat.le_trans hfew (by decide), fun v H4 hv hB4 x4 => ?_⟩
      obtain ⟨i, hi⟩ := List.mem_iff_getElem?.mp hv
      obtain ⟨a, ha, hva⟩ := pr_get (hA2.ex x4.hd).prd hi
      have ham := List.mem_of_getElem? ha
      have h1 := hA.cst a ham
      exact hQ v a H4 (hva.up (Nat.le_refl e) (by omega)) (hA.ok a ham) (fun y hy => by
        rw [atom_atoms (hA.atm a ham), List.mem_singleton] at hy
        rw [hy]
        exact ham) (by rw [atom_atoms (hA.atm a ham)]; exact pw1) (by omega) hB4 (x2.trans x4)
    walk_at "go"
    refine ⟨b, c, 6, rfl, hB, by decide, by decide, fun way H1 w0 w1 hB1 x1 => ?_⟩
    have hA1 := hA.ex x1.hd
    walk_at "go"
    refine r_if2 (fun e1 => ?_) (fun e1 => ?_)
    · walk_at "go"
      intro q hq
      have y := Ex.new (o := .lst []) hq
      have hA2 := hA1.ex ((Ex.hide H1 b).trans y)
      refine ⟨.list (as.map Cd.pd), .list [], .lst (SqL.of hA2.at_) (dp_cds hA2.prd), .lst (SqL.of upd_same) .nil, shaped_cds (n := e) hA.ok (fun a ha => ⟨Nat.le_of_eq (atom_dep (hA.atm a ha)), by
        obtain ⟨i, hi⟩ := List.mem_iff_getElem?.mp ha
        obtain ⟨v, hv⟩ : ∃ v, ws[i]? = some v := by
          have hlen := pr_len hA.prd
          have := (List.getElem?_eq_some_iff.mp hi).1
          exact ⟨_, List.getElem?_eq_getElem (by omega)⟩
        obtain ⟨a2, ha2, hva⟩ := pr_get hA.prd hv
        rw [hi] at ha2
        cases ha2
        exact hva.tdep⟩) he, by decide +kernel, ?_⟩
      rw [eqv_cds]
      have hB2 := hB1.new (o := .lst []) hq
      have x2 := x1.trans y.tb
      walk_at "go"
      refine r_if2 (fun z => ?_) (fun z => ?_)
      · have hne : as.isEmpty = false := by simpa using z
        walk_at "go"
        refine ⟨b, c, 9, rfl, hB2, by decide, by decide, fun r H3 r0 r1 hB3 x3 => ?_⟩
        walk_at "go"
        refine r_if2 (fun z => ?_) (fun z => ?_)
        · walk_at "go"
          exact pick H3 hB3 (x2.trans x3) hne
        · walk_at "go"
          intro p hp
          exact tru H3 hB3 (x2.trans x3) p hp
      · walk_at "go"
        intro p hp
        exact tru _ hB2 x2 p hp
    · have hd1 : ¬ dd < 1 := of_decide_eq_false e1
      walk_at "go"
      refine r_if2 (fun e2 => ?_) (fun e2 => ?_)
      · walk_at "go"
        intro q hq
        have y := Ex.new (o := .lst []) hq
        have hA2 := hA1.ex ((Ex.hide H1 b).trans y)
        refine ⟨.list (as.map Cd.pd), .list [], .lst (SqL.of hA2.at_) (dp_cds hA2.prd), .lst (SqL.of upd_same) .nil, shaped_cds (n := e) hA.ok (fun a ha => ⟨Nat.le_of_eq (atom_dep (hA.atm a ha)), by
          obtain ⟨i, hi⟩ := List.mem_iff_getElem?.mp ha
          obtain ⟨v, hv⟩ : ∃ v, ws[i]? = some v := by
            have hlen := pr_len hA.prd
            have := (List.getElem?_eq_some_iff.mp hi).1
            exact ⟨_, List.getElem?_eq_getElem (by omega)⟩
          obtain ⟨a2, ha2, hva⟩ := pr_get hA.prd hv
          rw [hi] at ha2
          cases ha2
          exact hva.tdep⟩) he, by decide +kernel, ?_⟩
        rw [eqv_cds]
        have hB2 := hB1.new (o := .lst []) hq
        have x2 := x1.trans y.tb
        walk_at "go"
        refine r_if2 (fun z => ?_) (fun z => ?_)
        · have hne : as.isEmpty = false := by simpa using z
          walk_at "go"
          refine ⟨b, c, 9, rfl, hB2, by decide, by decide, fun r H3 r0 r1 hB3 x3 => ?_⟩
          walk_at "go"
          refine r_if2 (fun z => ?_) (fun z => ?_)
          · walk_at "go"
            exact pick H3 hB3 (x2.trans x3) hne
          · walk_at "go"
            intro p hp
            exact tru H3 hB3 (x2.trans x3) p hp
        · walk_at "go"
          intro p hp
          exact tru _ hB2 x2 p hp
      · obtain ⟨j, rfl, rfl⟩ : ∃ j, n = j + 1 ∧ spj = spLTree K j := hj.elim (fun z => by omega) id
        obtain ⟨m, rfl⟩ : ∃ m : Nat, dd = (m : Int) + 1 := ⟨(dd - 1).toNat, by omega⟩
        clear tru pick
        have em : ((m : Int) + 1 - 1).toNat = m := by omega
        have eM : ((m : Int) + 1).toNat = m + 1 := by omega
        rw [eM] at hQ
        walk_at "go"
        refine ⟨b, c, l, e, X, ws, as, _, rfl, hB1, hA1, he, hX, by omega, fun v1 t1 H2 h1 ok1 as1 al1 co1 hB2 x2 => ?_⟩
        rw [em] at h1 al1 co1
        have hA2 := hA1.ex x2.hd
        have x12 := x1.trans x2
        have p1 : (2 : Nat) ^ (m + 1) = 2 ^ m * 2 := Nat.pow_succ ..
        have p2 : (X + 1) * 2 ^ (m + 1) = (X + 1) * 2 ^ m * 2 := by rw [p1, Nat.mul_assoc]
        have p3 : 1 ≤ 2 ^ m := Nat.pow_pos (by decide)
        walk_at "go"
        refine r_if2 (fun e3 => ?_) (fun e3 => ?_)
        · walk_at "go"
          intro p hp
          obtain ⟨u, hu⟩ := hB2.some
          exact hQ _ (.neg t1) _ (cd_new hu hp ⟨v1, rfl, h1⟩) ok1 as1 (by
            show t1.atoms.length ≤ _
            omega) (by
            simp only [Cd.cost]
            have := t1.cost_pos
            omega) (hB2.new hp) (x12.trans (Ex.new hp).tb)
        · walk_at "go"
          intro q hq
          have y := Ex.new (o := .lst [V.str "and", V.str "or"]) hq
          have hB3 := hB2.new (o := .lst [V.str "and", V.str "or"]) hq
          have hA3 := hA2.ex (y.hides b)
          have x13 := x12.trans y.tb
          replace h1 := h1.ex (y.hides b)
          clear hB2 hA2 x12
          walk_at "go"
          obtain ⟨wd, hat, hwd⟩ : ∃ wd : Str, atI [V.str "and", V.str "or"] (way % 2) = some (.str wd) ∧ (wd = "and" ∨ wd = "or") := by
            have : way % 2 = 0 ∨ way % 2 = 1 := by omega
            rcases this with z | z
            · rw [z]
              exact ⟨"and", rfl, .inl rfl⟩
            · rw [z]
              exact ⟨"or", rfl, .inr rfl⟩
          refine r_ixL (SqL.of upd_same) hat ?_
          walk_at "go"
          refine ⟨b, c, l, e, X, ws, as, _, rfl, hB3, hA3, he, hX, by omega, fun v2 t2 H4 h2 ok2 as2 al2 co2 hB4 x4 => ?_⟩
          rw [em] at h2 al2 co2
          replace h1 := h1.ex x4.hd
          have x14 := x13.trans x4
          walk_at "go"
          intro p hp
          obtain ⟨u, hu⟩ := hB4.some
          have hmem : ∀ a ∈ t1.atoms ++ t2.atoms, a ∈ as := fun a ha => (List.mem_append.mp ha).elim (as1 a) (as2 a)
          have hlen : (t1.atoms ++ t2.atoms).length ≤ 2 ^ (m + 1) := by
            rw [List.length_append]
            omega
          rcases hwd with rfl | rfl
          · exact hQ _ (.con t1 t2) _ (cd_new hu hp ⟨v1, v2, rfl, h1, h2⟩) ⟨ok1, ok2⟩ hmem hlen (by
              simp only [Cd.cost]
              omega) (hB4.new hp) (x14.trans (Ex.new hp).tb)
          · exact hQ _ (.dis t1 t2) _ (cd_new hu hp ⟨v1, v2, rfl, h1, h2⟩) ⟨ok1, ok2⟩ hmem hlen (by
              simp only [Cd.cost]
              omega) (hB4.new hp) (x14.trans (Ex.new hp).tb)
theorem ok__law_tree {k : Nat} (T : Txt K mg)
    (G__law_pull : FnOk P w K mg base CX0 k (He.ga K "_law_pull") (fdOf K (He.ga K "_law_pull")) p__law_pull (spPull))
    (G__law_of : FnOk P w K mg base CX0 k (He.ga K "_law_of") (fdOf K (He.ga K "_law_of")) p__law_of (spOf K)) : ∀ n, FnOk P w K mg base CX0 (k + n + 1) (He.ga K "_law_tree") (fdOf K (He.ga K "_law_tree")) p__law_tree (spLTree K n)
  | 0 => ok1__law_tree (spj := spNo) T (.inl rfl) G__law_pull G__law_of fnOk_no
  | n + 1 => ok1__law_tree T (.inr ⟨n, rfl, rfl⟩) (G__law_pull.mono (by omega)) (G__law_of.mono (by omega)) (ok__law_tree T G__law_pull G__law_of n)
end
end PW
/-! ### the law's own words -/
namespace PW
open PySem PySem.Spec PyProof.Rows L2
def ownN : Tm → List Str
  | .nam z => [z]
  | _ => []
theorem nms_all (t : Tm) : t.nms = ownN t ++ Tm.nmss t.parts := by
  cases t <;> simp [Tm.nms, Tm.nmss, Tm.parts, ownN]
/-- xs[len(xs) - 1:] -/
theorem cut_last (ys : List Str) : cutV (ys.map V.str) (some ((ys.length : Int) - 1)) none = ys.getLast?.toList.map V.str := by
  rcases List.eq_nil_or_concat ys with rfl | ⟨l, x, rfl⟩
  · rfl
  · rw [List.concat_eq_append]
    have e : (((l ++ [x]).length : Nat) : Int) - 1 = (l.length : Nat) := by
      rw [List.length_append, List.length_singleton]
      omega
    unfold cutV
    rw [e, HT.sIx_nat, HT.sIx_none, List.length_map, List.length_append, List.length_singleton, Nat.min_eq_left (Nat.le_succ _), List.map_append, List.drop_left' (List.length_map _), Nat.add_sub_cancel_left, List.getLast?_append]
    rfl
theorem eqv_lastS (ys : List Str) (x : Str) : PyData.eqv (.list (ys.getLast?.toList.map .str)) (.list [.str x]) = decide (ys.getLast? = some x) := by
  cases h : ys.getLast? with
  | none => rfl
  | some y =>
    show ((y == x) && true) = _
    rw [Bool.and_true]
    by_cases e : y = x
    · subst e
      simp
    · rw [decide_eq_false fun z => e (Option.some.inj z)]
      exact beq_eq_false_iff_ne.mpr e
def spLWords (K : PySem.W.Frag) (n : Nat) : Sp := fun vs H Q _ => ∃ v t d, vs = [v, .str "name"] ∧ IsTm K H d v t ∧ t.dep ≤ n + 1 ∧ t.nms.length ≤ 100000 ∧ ∀ l H', Ex H H' → H' l = some (.lst (t.nms.map V.str)) → Q (.ref l) H'
def spLDist (K : PySem.W.Frag) : Sp := fun vs H Q _ => ∃ a ks, vs = [.ref a] ∧ SqL K H a (ks.map V.str) ∧ ks.length ≤ 100000 ∧ (∀ z ∈ ks, PyData.strOk z = true) ∧ ∀ l ys H', Ex H H' → H' l = some (.lst (ys.map V.str)) → Asc ys ks → Q (.ref l) H'
section
variable {P : Program} {w : World} {K : PySem.W.Frag} {mg : Str → Option Value} {base : Heap}
theorem ok1__law_words {k n : Nat} {spj : Sp} (T : Txt K mg) (hj : n = 0 ∨ ∃ j, n = j + 1 ∧ spj = spLWords K j)
    (G__law_inner : FnOk P w K mg base CX0 k (He.ga K "_law_inner") (fdOf K (He.ga K "_law_inner")) p__law_inner (spLInner K))
    (G__law_words : FnOk P w K mg base CX0 k (He.ga K "_law_words") (fdOf K (He.ga K "_law_words")) p__law_words (spj)) : FnOk P w K mg base CX0 (k + 1) (He.ga K "_law_words") (fdOf K (He.ga K "_law_words")) p__law_words (spLWords K n) := by
  refine FunD.ok T.d__law_words sc__law_words (fun vs H Q E h => ?_) (fun cdv A outer s H vs Q E hr h => ?_)
  · obtain ⟨v, t, d, rfl, _⟩ := h
    rfl
  · obtain ⟨v, t, d, rfl, ht, hd, hn, hQ⟩ := h
    refine ⟨_, PSs.nox ((pss_cons (ps_set (i := 2) sc__law_words.nd rfl (Or.inl rfl) (pe_ifExp (pt_cmpR op_eq (pe_ix ix_seq (pv 0) pe_int (fun _ _ => rfl)) (pv 1) (nomark _)) (pe_lst (pa_cons (pe_ix ix_seq (pv 0) pe_int (fun _ _ => rfl)) pa_nil)) (pe_lst pa_nil)))
    (pss_cons (ps_for PassesOwn.never rfl (pi_list (pe_call G__law_inner hr rfl T.g__law_inner T.d__law_inner.kp (b__law_inner T) .nil pass0 (pa_cons (pv 0) pa_nil))) (pg_name (i := 3) sc__law_words.nd rfl (Or.inl rfl) (hf := by first | exact Or.inl rfl | exact Or.inr rfl))
      (pss_one (ps_set (i := 2) sc__law_words.nd rfl (Or.inl rfl) (pe_op op_cat (pv 2) (pe_call G__law_words hr rfl T.g__law_words T.d__law_words.kp (b__law_words T) .nil pass0 (pa_cons (pv 3) (pa_cons (pv 1) pa_nil)))))))
    (pss_one (ps_ret (pv 2)))))), ?_⟩
    show tSeq _ _ _ [some v, some (V.str "name"), none, none] H
    walk_at "K"
    obtain ⟨d, rfl⟩ : ∃ e, d = e + 1 := ⟨d - 1, by
      have := ht.depth
      have := t.dep_pos
      omega⟩
    have ht0 := ht
    obtain ⟨p, xs, rfl, hs, row⟩ := ht
    obtain ⟨r, er⟩ := row.head
    have rest : ∀ f H1, Ex H H1 → H1 f = some (.lst ((ownN t).map V.str)) → ∀ y3, tFor (iList K (tCall (spLInner K) [] E0 (tCons (tVar 0) tNil))) (gName 3)
          (tAsg (tOp rCat (tVar 2) (tCall spj [] E0 (tCons (tVar 3) (tCons (tVar 1) tNil)))) (gName 2)) { nx := tRet (tVar 2) { nx := fun x H' => Q V.non H', rt := Q }, rt := Q } [some (.ref p), some (.str "name"), some (.ref f), y3] H1 := fun f H1 x1 hf y3 => by
      walk_at "go"
      refine ⟨.ref p, t, d, rfl, ht0.ex x1, fun l ys H2 x2 hl0 hl hys => ?_⟩
      have hlen := pr_len hys
      have x12 := x1.trans x2
      have eN := nms_all t
      walk_at "go"
      refine for_it (walk_list (xs := ys)) (fun i σ H' => (∃ f y3, σ = [some (.ref p), some (.str "name"), some (.ref f), y3] ∧ H' f = some (.lst ((ownN t ++ Tm.nmss (t.parts.take i)).map V.str))) ∧ Ex H2 H') ⟨⟨f, _, rfl, by
        have := x2 _ _ hf
        simpa [Tm.nmss] using this⟩, Ex.refl _⟩ (fun i σ H' _ h => SqL.of (h.2 _ _ hl)) ?_ ?_
      · rintro i x σ H3 H3' hi ⟨⟨f, y3, rfl, hf3⟩, x3⟩ ⟨rfl, hx⟩
        obtain ⟨a, ha, hv⟩ := pr_get hys hx
        have had := Tm.dep_parts hd a (List.mem_of_getElem? ha)
        obtain ⟨j, rfl, rfl⟩ : ∃ j, n = j + 1 ∧ spj = spLWords K j := hj.elim (fun z => by
          have := a.dep_pos
          omega) id
        have e1 := nmss_get ha
        have h1 := Tm.nmss_take (l := t.parts) (k := i + 1)
        rw [e1, List.length_append] at h1
        rw [eN, List.length_append] at hn
        walk_at "go"
        refine ⟨x, a, d, rfl, hv.ex (x2.trans x3), by omega, by omega, fun q H4 x4 hq => ?_⟩
        walk_at "go"
        refine ⟨f, q, _, _, rfl, rfl, x4 _ _ hf3, hq, ?_, fun g hg => ?_⟩
        · rw [List.length_map, List.length_map, List.length_append]
          exact Nat.le_trans (show _ ≤ 100000 by omega) (by decide)
        · walk_at "go"
          rw [← List.map_append, List.append_assoc, ← e1]
          exact ⟨⟨g, _, rfl, upd_same⟩, (x3.trans x4).trans (Ex.new hg)⟩
      · rintro σ H3 ⟨⟨f, y3, rfl, hf3⟩, x3⟩
        rw [hlen, List.take_length, ← eN] at hf3
        walk_at "go"
        exact hQ f H3 (x12.trans x3) hf3
    by_cases hw : t.word = "name"
    · obtain ⟨z, rfl⟩ := word_name hw
      have row : xs = _ := row
      subst row
      walk_at "go"
      intro f hf
      exact rest f _ (Ex.new hf) upd_same none
    · have hs2 := hs
      rw [er] at hs2
      walk_at "go"
      refine r_ifF' (decide_eq_false fun z => hw (V.str.inj z)) ?_
      walk_at "go"
      intro f hf
      refine rest f _ (Ex.new hf) ?_ none
      cases t with
      | nam z => exact absurd rfl hw
      | _ => exact upd_same
theorem ok__law_words {k : Nat} (T : Txt K mg) (G__law_inner : FnOk P w K mg base CX0 (k) (He.ga K "_law_inner") (fdOf K (He.ga K "_law_inner")) p__law_inner (spLInner K)) : ∀ n, FnOk P w K mg base CX0 (k + n + 1) (He.ga K "_law_words") (fdOf K (He.ga K "_law_words")) p__law_words (spLWords K n)
  | 0 => ok1__law_words (spj := spNo) T (.inl rfl) G__law_inner fnOk_no
  | n + 1 => ok1__law_words T (.inr ⟨n, rfl, rfl⟩) (G__law_inner.mono (by omega)) (ok__law_words T G__law_inner n)
theorem ok__law_distinct (T : Txt K mg) : FnOk P w K mg base CX0 (1) (He.ga K "_law_distinct") (fdOf K (He.ga K "_law_distinct")) p__law_distinct (spLDist K) := by
  refine FunD.ok T.d__law_distinct sc__law_distinct (fun vs H Q E h => ?_) (fun cdv A outer s H vs Q E hr h => ?_)
  · obtain ⟨a, ks, rfl, _⟩ := h
    rfl
  · obtain ⟨a, ks, rfl, ha, hn, hok, hQ⟩ := h
    refine ⟨_, PSs.nox ((pss_cons (ps_set (i := 1) sc__law_distinct.nd rfl (Or.inl rfl) (pe_lst pa_nil))
    (pss_cons (ps_for PassesOwn.never rfl (pi_list (pe_callB PW.cr_sortedA (by rfl) T.f_sorted (by decide +kernel) (pa_cons (pe_lc (own := [("_law_name_z", 3)]) rfl sc__law_distinct.nd (pi_list (pv 0)) (blkOk_by (own := [("_law_name_z", 3)]) (N := n__law_distinct) (sc := defScope s__law_distinct) (by decide +kernel)) (fun _ _ _ _ _ => (pg_name (i := 3) sc__law_distinct.nd rfl (Or.inl rfl) (hf := by first | exact Or.inl rfl | exact Or.inr rfl))) (fun _ _ _ _ _ => pts_nil) (fun _ _ _ _ _ => (pe_callTy PW.call_strOr (by rfl) T.f_str (by decide +kernel) (pa_cons (pv 3) pa_nil)))) pa_nil))) (pg_name (i := 2) sc__law_distinct.nd rfl (Or.inl rfl) (hf := by first | exact Or.inl rfl | exact Or.inr rfl))
      (pss_one (ps_if (pt_cmpR (op_neD hr.units) (pe_slice sl_list (pv 1) (po_some (pe_op op_sub (pe_callB call_lenN (by rfl) T.f_len (by decide +kernel) (pa_cons (pv 1) pa_nil)) pe_int)) po_none) (pe_lst (pa_cons (pv 2) pa_nil)) (nomark _))
          (pss_one (ps_expr (pe_bm PySem.F.plainAttrs_list PySem.F.slot_list_append PySem.F.type_list_append mt_append (pv 1) (pa_cons (pv 2) pa_nil))))
          pss_nil)))
    (pss_one (ps_ret (pv 1)))))), ?_⟩
    show tSeq _ _ _ [some (V.ref a), none, none, none] H
    walk_at "K"
    walk_at "go"
    intro f hf
    walk_at "go"
    intro D hD
    have x0 := Ex.new (o := .lst []) hf
    refine lc_grow (walk_list (xs := ks.map V.str)) (σw := [some (.ref a), some (.ref f), none, none]) rfl (fun i _ v => ∃ z, ks[i]? = some z ∧ v = .str z) hD (by rw [List.length_map]; omega) (fun H' e => (x0.trans e).lst ha) (fun _ _ _ _ _ e => e) ?_ ?_
    · rintro i y H2 H3 acc R hi x2 hacc ⟨rfl, hy⟩ hR
      rw [List.getElem?_map] at hy
      obtain ⟨z, hz, rfl⟩ := Option.map_eq_some_iff.mp hy
      walk_at "go"
      refine ⟨rfl, ?_⟩
      walk_at "go"
      refine r_strS ?_
      exact hR _ _ ⟨z, hz, rfl⟩ (Ex.refl _)
    · rintro H2 acc x2 hacc hal hE
      rw [List.length_map] at hal
      have hacc2 : acc = ks.map V.str := acc_map hal hE
      subst hacc2
      have hf2 := x2 _ _ (upd_same (H := H) (a := f) (o := .lst []))
      have x02 := x0.trans x2
      clear x2
      walk_at "go"
      refine ⟨D, ks, rfl, SqL.of hacc, fun ys q hp hs hq => ?_⟩
      have hok2 : ∀ z ∈ ys, PyData.strOk z = true := fun z hz => hok z (hp.mem_iff.mp hz)
      have hfin := asc_run hp hs
      have hyl := hp.length_eq
      have hne : q ≠ f := (ne_of_none hf2 hq).symm
      walk_at "go"
      refine for_it (walk_list (xs := ys.map V.str)) (fun i σ H' => (∃ y2, σ = [some (.ref a), some (.ref f), y2, none]) ∧ Ex H H' ∧ H' q = some (.lst (ys.map V.str)) ∧ (∃ l, l = (ys.take i).foldl addS [] ∧ l.length ≤ i ∧ (∀ z ∈ l, z ∈ ys) ∧ H' f = some (.lst (l.map V.str)))) ⟨⟨_, rfl⟩, x02.trans (Ex.new hq), upd_same, [], rfl, Nat.le_refl _, (by intro z hz; exact nomatch hz), Ex.new hq _ _ hf2⟩ (fun i σ H' _ h => SqL.of h.2.2.1) ?_ ?_
      · rintro i x σ H3 H3' hi ⟨⟨y2, rfl⟩, x3, hq3, l, hl, hll, hlm, hf3⟩ ⟨rfl, hx⟩
        rw [List.length_map] at hi
        rw [List.getElem?_map] at hx
        obtain ⟨z, hz, rfl⟩ := Option.map_eq_some_iff.mp hx
        have e1 : (ys.take (i + 1)).foldl addS [] = addS l z := by
          rw [List.take_succ, hz, List.foldl_append, ← hl]
          rfl
        walk_at "go"
        intro p1 hp1
        rw [List.length_map, cut_last]
        have x4 := Ex.new (o := .lst (l.getLast?.toList.map V.str)) hp1
        walk_at "go"
        intro p2 hp2
        have x5 := Ex.new (o := .lst [V.str z]) hp2
        have hlo : ∀ y ∈ l.getLast?.toList, PyData.strOk y = true := fun y hy => hok2 y (hlm y (List.mem_of_getLast? (Option.mem_toList.mp hy)))
        have hzo : ∀ y ∈ [z], PyData.strOk y = true := fun y hy => by
          rw [List.mem_singleton.mp hy]
          exact hok2 z (List.mem_of_getElem? hz)
        refine ⟨_, .list [.str z], dp_strs (SqL.of (x5 _ _ upd_same)), dp_strs (ns := [z]) (SqL.of upd_same), shaped_strs hlo, shaped_strs (ns := [z]) hzo, ?_⟩
        rw [eqv_lastS]
        have x45 := x4.trans x5
        have hf5 := x45 _ _ hf3
        have hq5 := x45 _ _ hq3
        have x35 := x3.trans x45
        clear x4 x5 x45 hp1 hp2
        walk_at "go"
        refine r_if2 (fun e => ?_) (fun e => ?_)
        · have n : ¬ l.getLast? = some z := fun q => by
            rw [decide_eq_true q] at e
            cases e
          walk_at "go"
          refine r_append hf5 (Nat.lt_of_le_of_lt (show (l.map V.str).length ≤ 100000 by rw [List.length_map]; omega) (by decide)) ?_
          walk_at "go"
          refine ⟨⟨_, rfl⟩, fun b o hb => (upd_ne fun w => by rw [w, hf] at hb; cases hb).trans (x35 _ _ hb), (upd_ne hne).trans hq5, l ++ [z], ?_, ?_, ?_, ?_⟩
          · rw [e1, addS, if_neg n]
          · rw [List.length_append, List.length_singleton]
            omega
          · intro y hy
            rcases List.mem_append.mp hy with hy | hy
            · exact hlm y hy
            · rw [List.mem_singleton.mp hy]
              exact List.mem_of_getElem? hz
          · rw [List.map_append]
            exact upd_same
        · have n : l.getLast? = some z := by
            refine Decidable.byContradiction fun q => ?_
            rw [decide_eq_false q] at e
            cases e
          walk_at "go"
          exact ⟨⟨_, rfl⟩, x35, hq5, l, by rw [e1, addS, if_pos n], by omega, hlm, hf5⟩
      · rintro σ H3 ⟨⟨y2, rfl⟩, x3, hq3, l, hl, hll, hlm, hf3⟩
        walk_at "go"
        rw [List.length_map, List.take_length] at hl
        rw [← hl] at hfin
        exact hQ f l H3 x3 hf3 hfin
end
end PW
/-! ### the law's own comparisons and names of a condition -/
namespace PW
open PySem PySem.Spec PyProof.Rows L2
def spLCWords (K : PySem.W.Frag) : Sp := fun vs H Q _ => ∃ v c e d, vs = [v, .str "name"] ∧ IsCd K H e d v c ∧ c.dep ≤ 17 ∧ e ≤ 17 ∧ c.atoms.length ≤ 100000 ∧ c.cnms.length ≤ 100000 ∧ ∀ l H', Ex H H' → H' l = some (.lst (c.cnms.map V.str)) → Q (.ref l) H'
section
variable {P : Program} {w : World} {K : PySem.W.Frag} {mg : Str → Option Value} {base : Heap}
theorem ok1__law_atoms {k n : Nat} {spj : Sp} (T : Txt K mg) (hj : n = 0 ∨ ∃ j, n = j + 1 ∧ spj = spCmps K j)
    (G__law_atoms : FnOk P w K mg base CX0 k (He.ga K "_law_atoms") (fdOf K (He.ga K "_law_atoms")) p__law_atoms (spj)) : FnOk P w K mg base CX0 (k + 1) (He.ga K "_law_atoms") (fdOf K (He.ga K "_law_atoms")) p__law_atoms (spCmps K n) := by
  refine FunD.ok T.d__law_atoms sc__law_atoms (fun vs H Q E h => ?_) (fun cdv A outer s H vs Q E hr h => ?_)
  · obtain ⟨v, c, e, d, H0, rfl, _⟩ := h
    rfl
  · obtain ⟨v, c, e, d, H0, rfl, xh, hc, hd, hn, hQ⟩ := h
    refine ⟨_, PSs.nox ((pss_cons (ps_if (pt_cmpR op_eq (pe_ix ix_seq (pv 0) pe_int (fun _ _ => rfl)) pe_str (nomark _))
      (pss_one (ps_ret (pe_lst pa_nil)))
      pss_nil)
    (pss_cons (ps_if (pt_cmpR op_eq (pe_ix ix_seq (pv 0) pe_int (fun _ _ => rfl)) pe_str (nomark _))
      (pss_one (ps_ret (pe_call G__law_atoms hr rfl T.g__law_atoms T.d__law_atoms.kp (b__law_atoms T) .nil pass0 (pa_cons (pe_ix ix_seq (pv 0) pe_int (fun _ _ => rfl)) pa_nil))))
      pss_nil)
    (pss_one (ps_ret (pe_ifExp (pt_cmpR op_in_seq (pe_ix ix_seq (pv 0) pe_int (fun _ _ => rfl)) (pe_lst (pa_cons pe_str (pa_cons pe_str pa_nil))) rfl) (pe_op op_cat (pe_call G__law_atoms hr rfl T.g__law_atoms T.d__law_atoms.kp (b__law_atoms T) .nil pass0 (pa_cons (pe_ix ix_seq (pv 0) pe_int (fun _ _ => rfl)) pa_nil)) (pe_call G__law_atoms hr rfl T.g__law_atoms T.d__law_atoms.kp (b__law_atoms T) .nil pass0 (pa_cons (pe_ix ix_seq (pv 0) pe_int (fun _ _ => rfl)) pa_nil))) (pe_lst (pa_cons (pv 0) pa_nil)))))))), ?_⟩
    show tSeq _ _ _ [some v] H
    walk_at "K"
    obtain ⟨d, rfl⟩ : ∃ e, d = e + 1 := ⟨d - 1, by
      have := hc.depth
      have := c.dep_pos
      omega⟩
    have hc0 := hc
    obtain ⟨p, xs, rfl, hs, row⟩ := hc
    replace hs := xh _ _ hs
    have leaf : c.isAtom = true → c.atoms = [c] → ∀ t, H t = none → ∀ l, (L2.upd H t (.lst [V.str "and", V.str "or"])) l = none → Q (.ref l) (L2.upd (L2.upd H t (.lst [V.str "and", V.str "or"])) l (.lst [V.ref p])) := fun ha e1 t ht l hl => by
      have x := (Ex.new (o := .lst [V.str "and", V.str "or"]) ht).trans (Ex.new (o := .lst [V.ref p]) hl)
      refine hQ l _ _ x (Ex.free (Ex.new ht) hl) upd_same ?_
      rw [e1]
      exact .cons (hc0.atom ha) .nil
    cases c with
    | tru =>
      have row : xs = _ := row
      subst row
      walk_at "go"
      intro l hl
      exact hQ l _ _ (Ex.new hl) hl upd_same .nil
    | neg c =>
      obtain ⟨x, rfl, hx⟩ := row
      simp only [Cd.dep] at hd
      have := c.dep_pos
      obtain ⟨j, rfl, rfl⟩ : ∃ j, n = j + 1 ∧ spj = spCmps K j := hj.elim (fun z => by omega) id
      walk_at "go"
      exact ⟨x, c, e, d, H0, rfl, xh, hx, by omega, hn, hQ⟩
    | less a b =>
      obtain ⟨x, y, rfl, _⟩ := id row
      walk_at "go"
      intro t ht
      walk_at "go"
      intro l hl
      exact leaf rfl rfl t ht l hl
    | equ a b =>
      obtain ⟨x, y, rfl, _⟩ := id row
      walk_at "go"
      intro t ht
      walk_at "go"
      intro l hl
      exact leaf rfl rfl t ht l hl
    | res a m r =>
      obtain ⟨x, rfl, _⟩ := id row
      walk_at "go"
      intro t ht
      walk_at "go"
      intro l hl
      exact leaf rfl rfl t ht l hl
    | con a b =>
      obtain ⟨x, y, rfl, hx, hy⟩ := row
      simp only [Cd.dep] at hd
      simp only [Cd.atoms, List.length_append] at hn
      have := a.dep_pos
      obtain ⟨j, rfl, rfl⟩ : ∃ j, n = j + 1 ∧ spj = spCmps K j := hj.elim (fun z => by omega) id
      walk_at "go"
      intro t ht
      have x0 := Ex.new (o := .lst [V.str "and", V.str "or"]) ht
      have hs0 := x0 _ _ hs
      walk_at "go"
      refine ⟨x, a, e, d, H0, rfl, xh.trans x0, hx, by omega, by omega, fun l1 y1 H1 x1 hl1 h1 p1 => ?_⟩
      have hs1 := x1 _ _ hs0
      walk_at "go"
      refine ⟨y, b, e, d, H0, rfl, xh.trans (x0.trans x1), hy, by omega, by omega, fun l2 y2 H2 x2 hl2 h2 p2 => ?_⟩
      walk_at "go"
      have e1 := pr_len p1
      have e2 := pr_len p2
      refine ⟨l1, l2, y1, y2, rfl, rfl, x2 _ _ h1, h2, Nat.le_trans (show _ ≤ 100000 by omega) (by decide), fun l hl => ?_⟩
      have x3 := Ex.new (o := .lst (y1 ++ y2)) hl
      have x02 := (x0.trans x1).trans x2
      exact hQ l _ _ (x02.trans x3) (Ex.free x02 hl) upd_same (prd_app p1 p2)
    | dis a b =>
      obtain ⟨x, y, rfl, hx, hy⟩ := row
      simp only [Cd.dep] at hd
      simp only [Cd.atoms, List.length_append] at hn
      have := a.dep_pos
      obtain ⟨j, rfl, rfl⟩ : ∃ j, n = j + 1 ∧ spj = spCmps K j := hj.elim (fun z => by omega) id
      walk_at "go"
      intro t ht
      have x0 := Ex.new (o := .lst [V.str "and", V.str "or"]) ht
      have hs0 := x0 _ _ hs
      walk_at "go"
      refine ⟨x, a, e, d, H0, rfl, xh.trans x0, hx, by omega, by omega, fun l1 y1 H1 x1 hl1 h1 p1 => ?_⟩
      have hs1 := x1 _ _ hs0
      walk_at "go"
      refine ⟨y, b, e, d, H0, rfl, xh.trans (x0.trans x1), hy, by omega, by omega, fun l2 y2 H2 x2 hl2 h2 p2 => ?_⟩
      walk_at "go"
      have e1 := pr_len p1
      have e2 := pr_len p2
      refine ⟨l1, l2, y1, y2, rfl, rfl, x2 _ _ h1, h2, Nat.le_trans (show _ ≤ 100000 by omega) (by decide), fun l hl => ?_⟩
      have x3 := Ex.new (o := .lst (y1 ++ y2)) hl
      have x02 := (x0.trans x1).trans x2
      exact hQ l _ _ (x02.trans x3) (Ex.free x02 hl) upd_same (prd_app p1 p2)
theorem ok__law_atoms {k : Nat} (T : Txt K mg) : ∀ n, FnOk P w K mg base CX0 (k + n + 1) (He.ga K "_law_atoms") (fdOf K (He.ga K "_law_atoms")) p__law_atoms (spCmps K n)
  | 0 => ok1__law_atoms (spj := spNo) T (.inl rfl) fnOk_no
  | n + 1 => ok1__law_atoms T (.inr ⟨n, rfl, rfl⟩) (ok__law_atoms T n)
theorem ok__law_condition_words {k : Nat} (T : Txt K mg)
    (G__law_atoms : FnOk P w K mg base CX0 k (He.ga K "_law_atoms") (fdOf K (He.ga K "_law_atoms")) p__law_atoms (spCmps K 16))
    (G__law_words : FnOk P w K mg base CX0 k (He.ga K "_law_words") (fdOf K (He.ga K "_law_words")) p__law_words (spLWords K 16)) : FnOk P w K mg base CX0 (k + 1) (He.ga K "_law_condition_words") (fdOf K (He.ga K "_law_condition_words")) p__law_condition_words (spLCWords K) := by
  refine FunD.ok T.d__law_condition_words sc__law_condition_words (fun vs H Q E h => ?_) (fun cdv A outer s H vs Q E hr h => ?_)
  · obtain ⟨v, c, e, d, rfl, _⟩ := h
    rfl
  · obtain ⟨v, c, e, d, rfl, hc, hd, he, hn, hm, hQ⟩ := h
    refine ⟨_, PSs.nox ((pss_cons (ps_set (i := 2) sc__law_condition_words.nd rfl (Or.inl rfl) (pe_lst pa_nil))
    (pss_cons (ps_for PassesOwn.never rfl (pi_list (pe_call G__law_atoms hr rfl T.g__law_atoms T.d__law_atoms.kp (b__law_atoms T) .nil pass0 (pa_cons (pv 0) pa_nil))) (pg_name (i := 3) sc__law_condition_words.nd rfl (Or.inl rfl) (hf := by first | exact Or.inl rfl | exact Or.inr rfl))
      (pss_cons (ps_set (i := 2) sc__law_condition_words.nd rfl (Or.inl rfl) (pe_op op_cat (pv 2) (pe_call G__law_words hr rfl T.g__law_words T.d__law_words.kp (b__law_words T) .nil pass0 (pa_cons (pe_ix ix_seq (pv 3) pe_int (fun _ _ => rfl)) (pa_cons (pv 1) pa_nil)))))
        (pss_one (ps_if (pt_cmpR op_ne (pe_ix ix_seq (pv 3) pe_int (fun _ _ => rfl)) pe_str (nomark _))
          (pss_one (ps_set (i := 2) sc__law_condition_words.nd rfl (Or.inl rfl) (pe_op op_cat (pv 2) (pe_call G__law_words hr rfl T.g__law_words T.d__law_words.kp (b__law_words T) .nil pass0 (pa_cons (pe_ix ix_seq (pv 3) pe_int (fun _ _ => rfl)) (pa_cons (pv 1) pa_nil))))))
          pss_nil))))
    (pss_one (ps_ret (pv 2)))))), ?_⟩
    show tSeq _ _ _ [some v, some (V.str "name"), none, none] H
    walk_at "K"
    walk_at "go"
    intro f hf
    walk_at "go"
    have x1 := Ex.new (o := .lst []) hf
    refine ⟨v, c, e, d, H, rfl, x1, hc, hd, hn, fun l ys H1 x2 hl0 hl hys => ?_⟩
    have hf1 := x2 _ _ (upd_same (H := H) (a := f) (o := .lst []))
    have x12 := x1.trans x2
    have hlen := pr_len hys
    clear x1 x2
    walk_at "go"
    refine for_it (walk_list (xs := ys)) (fun i σ H' => (∃ f y3, σ = [some v, some (.str "name"), some (.ref f), y3] ∧ H' f = some (.lst ((cnmss (c.atoms.take i)).map V.str))) ∧ Ex H H' ∧ H' l = some (.lst ys)) ⟨⟨_, _, rfl, hf1⟩, x12, hl⟩ (fun i σ H' _ h => SqL.of h.2.2) ?_ ?_
    · rintro i x σ H2 H2' hi ⟨⟨f, y3, rfl, hf2⟩, x2, hl2⟩ ⟨rfl, hx⟩
      obtain ⟨a, ha, hv⟩ := pr_get hys hx
      have hat := c.atoms_atom a (List.mem_of_getElem? ha)
      have e1 := cnmss_get ha
      have h1 := cnmss_take (l := c.atoms) (k := i + 1)
      rw [e1, List.length_append] at h1
      have hcn : (cnmss c.atoms).length ≤ 100000 := hm
      rw [e1]
      obtain ⟨p, xs, rfl, hs, row⟩ := hv
      replace hs := x2 _ _ hs
      cases a with
      | less s t =>
        obtain ⟨x, y, rfl, hx, hy⟩ := row
        have hds := hx.depth
        have hdt := hy.depth
        have ea : (Cd.less s t).anms = s.nms ++ t.nms := by simp [Cd.anms, Cd.tms, Tm.nmss]
        rw [ea, List.length_append] at h1
        rw [ea]
        walk_at "go"
        refine ⟨x, s, e, rfl, hx.ex x2, by omega, by omega, fun q H3 x3 hq => ?_⟩
        walk_at "go"
        refine ⟨f, q, _, _, rfl, rfl, x3 _ _ hf2, hq, ?_, fun g hg => ?_⟩
        · rw [List.length_map, List.length_map]
          exact Nat.le_trans (show _ ≤ 100000 by omega) (by decide)
        · have x4 := Ex.new (o := .lst ((cnmss (c.atoms.take i)).map V.str ++ s.nms.map V.str)) hg
          have hs3 := x4 _ _ (x3 _ _ hs)
          have x24 := x2.trans (x3.trans x4)
          have hl4 := x4 _ _ (x3 _ _ hl2)
          walk_at "go"
          refine ⟨y, t, e, rfl, hy.ex x24, by omega, by omega, fun q2 H5 x5 hq2 => ?_⟩
          walk_at "go"
          refine ⟨g, q2, _, _, rfl, rfl, x5 _ _ upd_same, hq2, ?_, fun g2 hg2 => ?_⟩
          · rw [List.length_append, List.length_map, List.length_map, List.length_map]
            exact Nat.le_trans (show _ ≤ 100000 by omega) (by decide)
          · walk_at "go"
            have x6 := Ex.new (o := .lst ((cnmss (c.atoms.take i)).map V.str ++ s.nms.map V.str ++ t.nms.map V.str)) hg2
            refine ⟨⟨g2, _, rfl, ?_⟩, x24.trans (x5.trans x6), x6 _ _ (x5 _ _ hl4)⟩
            rw [List.map_append, List.map_append, ← List.append_assoc]
            exact upd_same
      | equ s t =>
        obtain ⟨x, y, rfl, hx, hy⟩ := row
        have hds := hx.depth
        have hdt := hy.depth
        have ea : (Cd.equ s t).anms = s.nms ++ t.nms := by simp [Cd.anms, Cd.tms, Tm.nmss]
        rw [ea, List.length_append] at h1
        rw [ea]
        walk_at "go"
        refine ⟨x, s, e, rfl, hx.ex x2, by omega, by omega, fun q H3 x3 hq => ?_⟩
        walk_at "go"
        refine ⟨f, q, _, _, rfl, rfl, x3 _ _ hf2, hq, ?_, fun g hg => ?_⟩
        · rw [List.length_map, List.length_map]
          exact Nat.le_trans (show _ ≤ 100000 by omega) (by decide)
        · have x4 := Ex.new (o := .lst ((cnmss (c.atoms.take i)).map V.str ++ s.nms.map V.str)) hg
          have hs3 := x4 _ _ (x3 _ _ hs)
          have x24 := x2.trans (x3.trans x4)
          have hl4 := x4 _ _ (x3 _ _ hl2)
          walk_at "go"
          refine ⟨y, t, e, rfl, hy.ex x24, by omega, by omega, fun q2 H5 x5 hq2 => ?_⟩
          walk_at "go"
          refine ⟨g, q2, _, _, rfl, rfl, x5 _ _ upd_same, hq2, ?_, fun g2 hg2 => ?_⟩
          · rw [List.length_append, List.length_map, List.length_map, List.length_map]
            exact Nat.le_trans (show _ ≤ 100000 by omega) (by decide)
          · walk_at "go"
            have x6 := Ex.new (o := .lst ((cnmss (c.atoms.take i)).map V.str ++ s.nms.map V.str ++ t.nms.map V.str)) hg2
            refine ⟨⟨g2, _, rfl, ?_⟩, x24.trans (x5.trans x6), x6 _ _ (x5 _ _ hl4)⟩
            rw [List.map_append, List.map_append, ← List.append_assoc]
            exact upd_same
      | res t m r =>
        obtain ⟨x, rfl, hx⟩ := row
        have hds := hx.depth
        have ea : (Cd.res t m r).anms = t.nms := by simp [Cd.anms, Cd.tms, Tm.nmss]
        rw [ea] at h1
        rw [ea]
        walk_at "go"
        refine ⟨x, t, e, rfl, hx.ex x2, by omega, by omega, fun q H3 x3 hq => ?_⟩
        walk_at "go"
        refine ⟨f, q, _, _, rfl, rfl, x3 _ _ hf2, hq, ?_, fun g hg => ?_⟩
        · rw [List.length_map, List.length_map]
          exact Nat.le_trans (show _ ≤ 100000 by omega) (by decide)
        · have x4 := Ex.new (o := .lst ((cnmss (c.atoms.take i)).map V.str ++ t.nms.map V.str)) hg
          have hs3 := x4 _ _ (x3 _ _ hs)
          walk_at "go"
          refine ⟨⟨g, _, rfl, ?_⟩, x2.trans (x3.trans x4), x4 _ _ (x3 _ _ hl2)⟩
          rw [List.map_append]
          exact upd_same
      | _ => cases hat
    · rintro σ H2 ⟨⟨f, y3, rfl, hf2⟩, x2, hl2⟩
      walk_at "go"
      rw [hlen, List.take_length] at hf2
      exact hQ f H2 x2 hf2
end
end PW
/-! ### names in a drawn order -/
namespace PW
open PySem PySem.Spec PyProof.Rows L2
def spLMix : Sp := fun vs H Q _ => ∃ b c l ns, vs = [.ref b, .ref l] ∧ BagAt H b c ∧ NmL (hide H b) l ns ∧ ns.length ≤ 1000 ∧ ∀ f zs H', NmL (hide H' b) f zs → zs.length = ns.length → BagAt H' b c → ExB b H H' → Q (.ref f) H'
section
variable {P : Program} {w : World} {K : PySem.W.Frag} {mg : Str → Option Value} {base : Heap}
theorem ok__law_mixed {k : Nat} (T : Txt K mg)
    (G__law_pull : FnOk P w K mg base CX0 k (He.ga K "_law_pull") (fdOf K (He.ga K "_law_pull")) p__law_pull (spPull)) : FnOk P w K mg base CX0 (k + 1) (He.ga K "_law_mixed") (fdOf K (He.ga K "_law_mixed")) p__law_mixed (spLMix) := by
  refine FunD.ok T.d__law_mixed sc__law_mixed (fun vs H Q E h => ?_) (fun cdv A outer s H vs Q E hr h => ?_)
  · obtain ⟨b, c, l, ns, rfl, _⟩ := h
    rfl
  · obtain ⟨b, c, l, ns, rfl, hB, hN, hn, hQ⟩ := h
    refine ⟨_, PSs.nox ((pss_cons (ps_set (i := 2) sc__law_mixed.nd rfl (Or.inl rfl) (pe_lst pa_nil))
    (pss_cons (ps_for PassesOwn.never rfl (pi_list (pv 1)) (pg_name (i := 3) sc__law_mixed.nd rfl (Or.inl rfl) (hf := by first | exact Or.inl rfl | exact Or.inr rfl))
      (pss_one (ps_expr (pe_bm PySem.F.plainAttrs_list PySem.F.slot_list_insert PySem.F.type_list_insert mt_insert (pv 2) (pa_cons (pe_call G__law_pull hr rfl T.g__law_pull T.d__law_pull.kp (b__law_pull T) .nil pass0 (pa_cons (pv 0) (pa_cons (pe_op op_add (pe_callB call_lenN (by rfl) T.f_len (by decide +kernel) (pa_cons (pv 2) pa_nil)) pe_int) pa_nil))) (pa_cons (pv 3) pa_nil))))))
    (pss_one (ps_ret (pv 2)))))), ?_⟩
    show tSeq _ _ _ [some (V.ref b), some (V.ref l), none, none] H
    walk_at "K"
    have nlb : l ≠ b := fun z => by
      have e3 := hN.at_
      rw [z, hide_same] at e3
      cases e3
    have hl0 := Ex.hide _ b _ _ hN.at_
    walk_at "go"
    intro f hf
    have hbf := hB.ne hf
    have hlf : l ≠ f := ne_of_none hl0 hf
    walk_at "go"
    refine for_it (walk_list (xs := ns.map V.str)) (fun i σ H' => (∃ y3, σ = [some (.ref b), some (.ref l), some (.ref f), y3]) ∧ BagAt H' b c ∧ ExB b H H' ∧ ∃ zs, H' f = some (.lst (zs.map V.str)) ∧ zs.length = i ∧ ∀ z ∈ zs, z ∈ ns) ⟨⟨_, rfl⟩, hB.new hf, (Ex.new hf).tb, [], upd_same, rfl, (by intro z hz; exact nomatch hz)⟩ (fun i σ H' _ h => SqL.of (h.2.2.1 _ _ nlb hl0)) ?_ ?_
    · rintro i x σ H1 H1' hi ⟨⟨y3, rfl⟩, hB1, x1, zs, hf1, hz1, hm1⟩ ⟨rfl, hx⟩
      rw [List.length_map] at hi
      rw [List.getElem?_map] at hx
      obtain ⟨z, hz, rfl⟩ := Option.map_eq_some_iff.mp hx
      walk_at "go"
      refine ⟨b, c, _, rfl, hB1, by rw [List.length_map]; omega, Nat.lt_trans (log_small (n := 2000) (by rw [List.length_map]; omega) (by decide)) (by decide), fun r H2 r0 r1 hB2 x2 => ?_⟩
      rw [List.length_map] at r1
      have hf2 := x2 _ _ hbf.1.symm hf1
      walk_at "go"
      refine ⟨f, zs.map V.str, r, .str z, rfl, rfl, hf2, Nat.lt_of_le_of_lt (show (zs.map V.str).length ≤ 1000 by rw [List.length_map]; omega) (by decide), r0, Int.lt_trans r1 (Int.lt_trans (show _ < (2000 : Int) by omega) (by decide)), ?_⟩
      have x12 := x1.trans x2
      refine ⟨⟨_, rfl⟩, hB2.put hbf.1 hbf.2, fun o u hne ho => (upd_ne fun w => by rw [w, hf] at ho; cases ho).trans (x12 _ _ hne ho), zs.take r.toNat ++ [z] ++ zs.drop r.toNat, ?_, ?_, ?_⟩
      · rw [upd_same, List.map_append, List.map_append, List.map_take, List.map_drop]
        rfl
      · rw [List.length_append, List.length_append, List.length_take, List.length_drop, List.length_singleton]
        omega
      · intro y hy
        rcases List.mem_append.mp hy with hy | hy
        · rcases List.mem_append.mp hy with hy | hy
          · exact hm1 y (List.mem_of_mem_take hy)
          · rw [List.mem_singleton.mp hy]
            exact List.mem_of_getElem? hz
        · exact hm1 y (List.mem_of_mem_drop hy)
    · rintro σ H1 ⟨⟨y3, rfl⟩, hB1, x1, zs, hf1, hz1, hm1⟩
      walk_at "go"
      obtain ⟨u, hu⟩ := hB1.some
      rw [List.length_map] at hz1
      exact hQ f zs H1 ⟨(hide_ne hbf.1.symm).trans hf1, fun z hz => hN.ok z (hm1 z hz)⟩ hz1 hB1 x1
end
end PW
/-! ### equal terms are alike -/
namespace PW
open PySem PySem.Spec PyProof.Rows L2
theorem Sm.tups {K : PySem.W.Frag} {n : Nat} {H : Hp} {p q : Addr} {xs ys : List V} (hp : H p = some (.tup xs)) (hq : H q = some (.tup ys)) (hl : xs.length ≤ 100000) (h : Paired (Sm K n H) xs ys) : Sm K (n + 1) H (.ref p) (.ref q) :=
  .inr ⟨p, q, xs, ys, rfl, rfl, .inr ⟨hp, hq⟩, pr_len h, hl, fun i u v hu hv => by
    obtain ⟨y, hy, z⟩ := pr_get h hu
    rw [hv] at hy
    injection hy with hy
    subst hy
    exact z⟩
theorem Sm.lsts {K : PySem.W.Frag} {n : Nat} {H : Hp} {p q : Addr} {xs ys : List V} (hp : H p = some (.lst xs)) (hq : H q = some (.lst ys)) (hl : xs.length ≤ 100000) (h : Paired (Sm K n H) xs ys) : Sm K (n + 1) H (.ref p) (.ref q) :=
  .inr ⟨p, q, xs, ys, rfl, rfl, .inl ⟨hp, hq⟩, pr_len h, hl, fun i u v hu hv => by
    obtain ⟨y, hy, z⟩ := pr_get h hu
    rw [hv] at hy
    injection hy with hy
    subst hy
    exact z⟩
theorem Sm.up {K : PySem.W.Frag} : ∀ {n : Nat} {H : Hp} {x y : V}, Sm K n H x y → Sm K (n + 1) H x y
  | 0, _, _, _, h => .inl h
  | n + 1, H, x, y, h => by
    rcases h with h | ⟨p, q, xs, ys, h1, h2, h3, h4, h5, h6⟩
    · exact .inl h
    · exact .inr ⟨p, q, xs, ys, h1, h2, h3, h4, h5, fun i u v hu hv => Sm.up (h6 i u v hu hv)⟩
theorem IsTm.same {K : PySem.W.Frag} {H : Hp} : ∀ {d d' : Nat} {v v' : V} {t : Tm} {n m q : Nat}, t.ok n m q → IsTm K H d v t → IsTm K H d' v' t → Sm K (2 * d) H v v'
  | 0, _, _, _, _, _, _, _, _, h, _ => h.elim
  | _ + 1, 0, _, _, _, _, _, _, _, _, h => h.elim
  | d + 1, d' + 1, v, v', t, n, m, q, ok, h, h' => by
    obtain ⟨p, xs, rfl, h1, h2⟩ := h
    obtain ⟨p', xs', rfl, h1', h2'⟩ := h'
    have fl : ∀ {z : Str}, Sm K (2 * d + 1) H (.str z) (.str z) := Sm.flat rfl
    have fi : ∀ {i : Int}, Sm K (2 * d + 1) H (.int i) (.int i) := Sm.flat rfl
    have sub : ∀ {x x' : V} {a : Tm}, a.ok n m q → IsTm K H d x a → IsTm K H d' x' a → Sm K (2 * d + 1) H x x' := fun o z z' => (IsTm.same o z z').up
    show Sm K (2 * d + 1 + 1) H (.ref p) (.ref p')
    have l4 : ∀ {zs : List V}, zs.length ≤ 3 → zs.length ≤ 100000 := fun z => Nat.le_trans z (by decide)
    cases t with
    | num i =>
      have h2 : xs = _ := h2
      have h2' : xs' = _ := h2'
      subst h2 h2'
      exact Sm.tups h1 h1' (l4 (by show 2 ≤ 3; decide)) (.cons fl (.cons fi .nil))
    | nam z =>
      have h2 : xs = _ := h2
      have h2' : xs' = _ := h2'
      subst h2 h2'
      exact Sm.tups h1 h1' (l4 (by show 2 ≤ 3; decide)) (.cons fl (.cons fl .nil))
    | add a b =>
      have ok : a.ok n m q ∧ b.ok n m q := by simpa only [Tm.ok] using ok
      obtain ⟨x, y, rfl, e2, e3⟩ := h2
      obtain ⟨x', y', rfl, e2', e3'⟩ := h2'
      exact Sm.tups h1 h1' (l4 (by show 3 ≤ 3; decide)) (.cons fl (.cons (sub ok.1 e2 e2') (.cons (sub ok.2 e3 e3') .nil)))
    | sub a b =>
      have ok : a.ok n m q ∧ b.ok n m q := by simpa only [Tm.ok] using ok
      obtain ⟨x, y, rfl, e2, e3⟩ := h2
      obtain ⟨x', y', rfl, e2', e3'⟩ := h2'
      exact Sm.tups h1 h1' (l4 (by show 3 ≤ 3; decide)) (.cons fl (.cons (sub ok.1 e2 e2') (.cons (sub ok.2 e3 e3') .nil)))
    | tim i a =>
      have ok : i.natAbs < m ∧ a.ok n m q := by simpa only [Tm.ok] using ok
      obtain ⟨x, rfl, e2⟩ := h2
      obtain ⟨x', rfl, e2'⟩ := h2'
      exact Sm.tups h1 h1' (l4 (by show 3 ≤ 3; decide)) (.cons fl (.cons fi (.cons (sub ok.2 e2 e2') .nil)))
    | pow a =>
      have ok : a.ok n m q := by simpa only [Tm.ok] using ok
      obtain ⟨x, rfl, e2⟩ := h2
      obtain ⟨x', rfl, e2'⟩ := h2'
      exact Sm.tups h1 h1' (l4 (by show 2 ≤ 3; decide)) (.cons fl (.cons (sub ok e2 e2') .nil))
    | len a =>
      have ok : a.ok n m q := by simpa only [Tm.ok] using ok
      obtain ⟨x, rfl, e2⟩ := h2
      obtain ⟨x', rfl, e2'⟩ := h2'
      exact Sm.tups h1 h1' (l4 (by show 2 ≤ 3; decide)) (.cons fl (.cons (sub ok e2 e2') .nil))
    | quo a i =>
      have ok : (1 ≤ i ∧ i < (q : Nat)) ∧ a.ok n m q := by simpa only [Tm.ok] using ok
      obtain ⟨x, rfl, e2⟩ := h2
      obtain ⟨x', rfl, e2'⟩ := h2'
      exact Sm.tups h1 h1' (l4 (by show 3 ≤ 3; decide)) (.cons fl (.cons (sub ok.2 e2 e2') (.cons fi .nil)))
    | cal f as =>
      have ok : isNameZ f = true ∧ as.length ≤ 3 ∧ Tm.oks n m q as := by simpa only [Tm.ok] using ok
      obtain ⟨r, ys, rfl, e2, e3⟩ := h2
      obtain ⟨r', ys', rfl, e2', e3'⟩ := h2'
      have go : ∀ {as : List Tm} {ys ys' : List V}, Tm.oks n m q as → Paired (IsTm K H d) ys as → Paired (IsTm K H d') ys' as → Paired (Sm K (2 * d) H) ys ys' := by
        intro as
        induction as with
        | nil =>
          intro ys ys' _ z z'
          cases z
          cases z'
          exact .nil
        | cons a r ih =>
          intro ys ys' o z z'
          have o : a.ok n m q ∧ Tm.oks n m q r := by simpa only [Tm.oks] using o
          cases z with
          | cons z1 z2 =>
            cases z' with
            | cons z1' z2' => exact .cons (IsTm.same o.1 z1 z1') (ih o.2 z2 z2')
      exact Sm.tups h1 h1' (l4 (by show 3 ≤ 3; decide)) (.cons fl (.cons fl (.cons (Sm.tups e2 e2' (l4 (by rw [pr_len e3]; exact ok.2.1)) (go ok.2.2 e3 e3')) .nil)))
end PW
/-! ### tuples stay -/
namespace PW
open PySem PySem.Spec PyProof.Rows L2
def TE (H H' : Hp) : Prop := ∀ p ys, H p = some (.tup ys) → H' p = some (.tup ys)
theorem TE.trans {H H1 H2 : Hp} (x : TE H H1) (y : TE H1 H2) : TE H H2 := fun p ys h => y p ys (x p ys h)
theorem TE.of {H H' : Hp} (x : Ex H H') : TE H H' := fun p ys h => x p _ h
theorem TE.upd {H : Hp} {D : Addr} {l l' : List V} (h : H D = some (.lst l)) : TE H (L2.upd H D (.lst l')) := fun p ys hp => (upd_ne fun z => by
  rw [z, h] at hp
  cases hp).trans hp
theorem TE.hid {H : Hp} {D : Addr} {l : List V} (h : H D = some (.lst l)) : TE H (hide H D) := fun p ys hp => (hide_ne fun z => by
  rw [z, h] at hp
  cases hp).trans hp
theorem TE.bag {H H' : Hp} {b c : Addr} (hB : BagAt H b c) (x : ExB b H H') : TE H H' := fun p ys hp => x p _ (fun z => by
  obtain ⟨cells, i, g, s, h, _⟩ := hB
  rw [z, h] at hp
  cases hp) hp
theorem TE.hidB {H : Hp} {b c : Addr} (hB : BagAt H b c) : TE H (hide H b) := by
  obtain ⟨cells, i, g, s, h, _⟩ := hB
  exact TE.hid h
theorem IsTm.te {K : PySem.W.Frag} {H H' : Hp} (x : TE H H') : ∀ {d : Nat} {v : V} {t : Tm}, IsTm K H d v t → IsTm K H' d v t
  | 0, _, _, h => h.elim
  | d + 1, v, t, h => by
    obtain ⟨p, xs, e, h1, h2⟩ := h
    exact ⟨p, xs, e, x _ _ h1, h2.imp (fun q => x _ _ q) fun _ _ z => IsTm.te x z⟩
theorem IsCd.te {K : PySem.W.Frag} {H H' : Hp} {e : Nat} (x : TE H H') : ∀ {d : Nat} {v : V} {c : Cd}, IsCd K H e d v c → IsCd K H' e d v c
  | 0, _, _, h => h.elim
  | d + 1, v, c, h => by
    obtain ⟨p, xs, e, h1, h2⟩ := h
    exact ⟨p, xs, e, x _ _ h1, h2.imp (fun _ _ z => IsCd.te x z) fun _ _ z => z.te x⟩
theorem prd_teC {K : PySem.W.Frag} {H H' : Hp} (x : TE H H') {e d : Nat} {ys : List V} {as : List Cd} (h : Paired (IsCd K H e d) ys as) : Paired (IsCd K H' e d) ys as := L2.Paired.mapP h fun _ _ z => z.te x
/-- equal comparisons are alike -/
theorem IsCd.same {K : PySem.W.Frag} {H : Hp} {e : Nat} {v v' : V} {c : Cd} (ok : c.ok) (ha : c.isAtom = true) (h : IsCd K H e 1 v c) (h' : IsCd K H e 1 v' c) : Sm K (2 * e + 1) H v v' := by
  obtain ⟨p, xs, rfl, h1, h2⟩ := h
  obtain ⟨p', xs', rfl, h1', h2'⟩ := h'
  cases c with
  | less a b =>
    obtain ⟨x, y, rfl, e2, e3⟩ := h2
    obtain ⟨x', y', rfl, e2', e3'⟩ := h2'
    exact Sm.tups h1 h1' (by show 3 ≤ 100000; decide) (.cons (Sm.flat rfl) (.cons (IsTm.same ok.1 e2 e2') (.cons (IsTm.same ok.2 e3 e3') .nil)))
  | equ a b =>
    obtain ⟨x, y, rfl, e2, e3⟩ := h2
    obtain ⟨x', y', rfl, e2', e3'⟩ := h2'
    exact Sm.tups h1 h1' (by show 3 ≤ 100000; decide) (.cons (Sm.flat rfl) (.cons (IsTm.same ok.1 e2 e2') (.cons (IsTm.same ok.2 e3 e3') .nil)))
  | res t m r =>
    obtain ⟨x, rfl, e2⟩ := h2
    obtain ⟨x', rfl, e2'⟩ := h2'
    exact Sm.tups h1 h1' (by show 4 ≤ 100000; decide) (.cons (Sm.flat rfl) (.cons (IsTm.same ok.1 e2 e2') (.cons (Sm.flat rfl) (.cons (Sm.flat rfl) .nil))))
  | _ => cases ha
theorem prd_same {K : PySem.W.Frag} {H : Hp} {e : Nat} : ∀ {ys zs : List V} {as : List Cd}, (∀ a ∈ as, a.ok ∧ a.isAtom = true) → Paired (IsCd K H e 1) ys as → Paired (IsCd K H e 1) zs as → Paired (Sm K (2 * e + 1) H) ys zs
  | _, _, [], _, h, h' => by
    cases h
    cases h'
    exact .nil
  | _, _, a :: r, ok, h, h' => by
    cases h with
    | cons h1 h2 =>
      cases h' with
      | cons h1' h2' =>
        have q := ok a List.mem_cons_self
        exact .cons (IsCd.same q.1 q.2 h1 h1') (prd_same (fun x hx => ok x (List.mem_cons_of_mem _ hx)) h2 h2')
/-- a list of unlike texts among others is no longer -/
theorem nodup_le : ∀ (l ks : List Str), l.Nodup → (∀ x ∈ l, x ∈ ks) → l.length ≤ ks.length
  | [], _, _, _ => Nat.zero_le _
  | x :: l, ks, d, h => by
    obtain ⟨d1, d2⟩ := List.nodup_cons.mp d
    have hx := h x List.mem_cons_self
    have := nodup_le l (ks.erase x) d2 fun y hy => (List.mem_erase_of_ne fun z => d1 (by rw [← z]; exact hy)).mpr (h y (List.mem_cons_of_mem _ hy))
    have p := List.length_pos_of_mem hx
    rw [List.length_erase_of_mem hx] at this
    rw [List.length_cons]
    omega
theorem cnmss_mem {z : Str} : ∀ {as : List Cd}, z ∈ cnmss as ↔ ∃ a ∈ as, z ∈ a.anms
  | [] => by simp [cnmss]
  | a :: r => by simp [cnmss, cnmss_mem]
/-- few unlike names where all comparisons are of a short list -/
theorem runS_few {as cs : List Cd} (h : ∀ a ∈ as, a ∈ cs) : (runS (cnmss as)).length ≤ (cnmss cs).length :=
  nodup_le _ _ (runS_nodup _) fun x hx => by
    obtain ⟨a, ha, hz⟩ := cnmss_mem.mp (runS_mem.mp hx)
    exact cnmss_mem.mpr ⟨a, h a ha, hz⟩
theorem cnmss_le {m : Nat} : ∀ {as : List Cd}, (∀ a ∈ as, a.anms.length ≤ m) → (cnmss as).length ≤ m * as.length
  | [], _ => Nat.zero_le _
  | a :: r, h => by
    have h1 := h a List.mem_cons_self
    have h2 := cnmss_le (as := r) fun x hx => h x (List.mem_cons_of_mem _ hx)
    simp only [cnmss, List.length_append, List.length_cons, Nat.mul_succ]
    omega
end PW
/-! ### law k23 -/
namespace PW
open PySem PySem.Spec PyProof.Rows L2
def spLawT (K : PySem.W.Frag) : Sp := fun vs H Q _ => ∃ (a : Addr) (ns : List Int), vs = [.ref a] ∧ SqL K H a (ns.map V.int) ∧ ns.length ≤ 63 ∧ ∀ H', Q (.bl true) H'
section
variable {P : Program} {w : World} {K : PySem.W.Frag} {mg : Str → Option Value} {base : Heap}
theorem ok_law23 {k : Nat} (T : Txt K mg)
    (G__law_bag : FnOk P w K mg base CX0 k (He.ga K "_law_bag") (fdOf K (He.ga K "_law_bag")) p__law_bag (spBag K))
    (G__law_pull : FnOk P w K mg base CX0 k (He.ga K "_law_pull") (fdOf K (He.ga K "_law_pull")) p__law_pull (spPull))
    (G__law_names : FnOk P w K mg base CX0 k (He.ga K "_law_names") (fdOf K (He.ga K "_law_names")) p__law_names (spLNames))
    (G__law_mixed : FnOk P w K mg base CX0 k (He.ga K "_law_mixed") (fdOf K (He.ga K "_law_mixed")) p__law_mixed (spLMix))
    (G__law_compare : FnOk P w K mg base CX0 k (He.ga K "_law_compare") (fdOf K (He.ga K "_law_compare")) p__law_compare (spLCmp K 2))
    (G__law_tree : FnOk P w K mg base CX0 k (He.ga K "_law_tree") (fdOf K (He.ga K "_law_tree")) p__law_tree (spLTree K 4))
    (G__law_atoms : FnOk P w K mg base CX0 k (He.ga K "_law_atoms") (fdOf K (He.ga K "_law_atoms")) p__law_atoms (spCmps K 16))
    (G__law_condition_words : FnOk P w K mg base CX0 k (He.ga K "_law_condition_words") (fdOf K (He.ga K "_law_condition_words")) p__law_condition_words (spLCWords K))
    (G__law_distinct : FnOk P w K mg base CX0 k (He.ga K "_law_distinct") (fdOf K (He.ga K "_law_distinct")) p__law_distinct (spLDist K))
    (G_comparisons : FnOk P w K mg base CX0 k (He.ga K "comparisons") (fdOf K (He.ga K "comparisons")) p_comparisons (spCmps K 16))
    (G_used_names : FnOk P w K mg base CX0 k (He.ga K "used_names") (fdOf K (He.ga K "used_names")) p_used_names (spUsed K))
    (G__law_same : FnOk P w K mg base CX0 k (He.ga K "_law_same") (fdOf K (He.ga K "_law_same")) p__law_same (spSame K 9)) : FnOkG P w K mg base CX0 (k + 1) (He.ga K "law") (fdOf K (He.ga K "law")) p_law (spLawT K) := by
  refine FunD.okG T.d_law sc_law (fun vs H Q E h => ?_) (fun cdv A outer s H vs Q E hg hr h => ?_)
  · obtain ⟨a, ns, rfl, _⟩ := h
    rfl
  · obtain ⟨sa, ns, rfl, ha, hl, hQ⟩ := h
    refine ⟨_, PSs.nox ((pss_cons (ps_set (i := 1) sc_law.nd rfl (Or.inr rfl) (pe_call G__law_bag hr rfl T.g__law_bag T.d__law_bag.kp (b__law_bag T) .nil pass0 (pa_cons (pv 0) pa_nil)))
    (pss_cons (ps_for PassesOwn.never rfl (pi_range1 rfl T.f_range (pa_cons pe_int pa_nil)) (pg_name (i := 2) sc_law.nd rfl (Or.inl rfl) (hf := by first | exact Or.inl rfl | exact Or.inr rfl))
      (pss_cons (ps_set (i := 3) sc_law.nd rfl (Or.inr rfl) (pe_call G__law_mixed hr rfl T.g__law_mixed T.d__law_mixed.kp (b__law_mixed T) .nil pass0 (pa_cons (pv 1) (pa_cons (pe_call G__law_names hr rfl T.g__law_names T.d__law_names.kp (b__law_names T) .nil pass0 (pa_cons (pv 1) (pa_cons pe_int pa_nil))) pa_nil))))
        (pss_cons (ps_setLc (i := 4) (own := [("_law_k", 10)]) rfl sc_law.nd rfl rfl (sw_true rfl rfl rfl (by decide +kernel)) (pi_range1 rfl T.f_range (pa_cons (pe_op op_add pe_int (pe_call G__law_pull hr rfl T.g__law_pull T.d__law_pull.kp (b__law_pull T) .nil pass0 (pa_cons (pv 1) (pa_cons pe_int pa_nil)))) pa_nil)) (blkOk_by (own := [("_law_k", 10)]) (N := n_law) (sc := defScope s_law) (by decide +kernel)) (fun _ _ _ _ _ => (pg_name (i := 10) sc_law.nd rfl (Or.inl rfl) (hf := by first | exact Or.inl rfl | exact Or.inr rfl))) (fun _ _ _ _ _ => pts_nil) (fun _ _ _ _ _ => (pe_call G__law_compare hr rfl T.g__law_compare T.d__law_compare.kp (b__law_compare T) .nil pass0 (pa_cons (pv 1) (pa_cons (pv 3) (pa_cons (pe_call G__law_names hr rfl T.g__law_names T.d__law_names.kp (b__law_names T) .nil pass0 (pa_cons (pv 1) (pa_cons pe_int pa_nil))) (pa_cons (pe_op op_add pe_int (pe_call G__law_pull hr rfl T.g__law_pull T.d__law_pull.kp (b__law_pull T) .nil pass0 (pa_cons (pv 1) (pa_cons pe_int pa_nil)))) pa_nil)))))))
        (pss_cons (ps_set (i := 5) sc_law.nd rfl (Or.inl rfl) (pe_call G__law_tree hr rfl T.g__law_tree T.d__law_tree.kp (b__law_tree T) .nil pass0 (pa_cons (pv 1) (pa_cons (pv 4) (pa_cons (pe_call G__law_pull hr rfl T.g__law_pull T.d__law_pull.kp (b__law_pull T) .nil pass0 (pa_cons (pv 1) (pa_cons pe_int pa_nil))) pa_nil)))))
        (pss_cons (ps_par (i := 6) (j := 7) (by rfl) sc_law.nd rfl rfl (by decide) rfl rfl (pa_cons (pe_callB (PW.call_reprD hg hr.units) (by rfl) T.f_repr (by decide +kernel) (pa_cons (pv 5) pa_nil)) (pa_cons (pe_lst (pa_cons (pe_call G__law_atoms hr rfl T.g__law_atoms T.d__law_atoms.kp (b__law_atoms T) .nil pass0 (pa_cons (pv 5) pa_nil)) (pa_cons (pe_call G__law_distinct hr rfl T.g__law_distinct T.d__law_distinct.kp (b__law_distinct T) .nil pass0 (pa_cons (pe_call G__law_condition_words hr rfl T.g__law_condition_words T.d__law_condition_words.kp (b__law_condition_words T) .nil pass0 (pa_cons (pv 5) (pa_cons pe_str pa_nil))) pa_nil)) pa_nil))) pa_nil)) (by rfl))
        (pss_cons (ps_for PassesOwn.never rfl (pi_range1 rfl T.f_range (pa_cons pe_int pa_nil)) (pg_name (i := 8) sc_law.nd rfl (Or.inl rfl) (hf := by first | exact Or.inl rfl | exact Or.inr rfl))
          (pss_cons (ps_set (i := 9) sc_law.nd rfl (Or.inl rfl) (pe_lst (pa_cons (pe_call G_comparisons hr rfl T.g_comparisons T.d_comparisons.kp (b_comparisons T) .nil pass0 (pa_cons (pv 5) pa_nil)) (pa_cons (pe_call G_used_names hr rfl T.g_used_names T.d_used_names.kp (b_used_names T) .nil pass0 (pa_cons (pv 5) pa_nil)) pa_nil))))
            (pss_cons (ps_if (PW.pt (pw_or (pt_not (pt_val (pe_call G__law_same hr rfl T.g__law_same T.d__law_same.kp (b__law_same T) .nil pass0 (pa_cons (pv 9) (pa_cons (pv 7) pa_nil))))) (pw_or1 (pt_cmpR op_ne (pe_callB (PW.call_reprD hg hr.units) (by rfl) T.f_repr (by decide +kernel) (pa_cons (pv 5) pa_nil)) (pv 6) (nomark _)))))
              (pss_one (ps_ret pe_bl))
              pss_nil)
            (pss_cons (ps_expr (pe_bm PySem.F.plainAttrs_list PySem.F.slot_list_append PySem.F.type_list_append mt_append (pe_ix ix_list (pv 9) pe_int (fun _ _ => rfl)) (pa_cons pe_int pa_nil)))
            (pss_one (ps_expr (pe_bm PySem.F.plainAttrs_list PySem.F.slot_list_append PySem.F.type_list_append mt_append (pe_ix ix_list (pv 9) pe_int (fun _ _ => rfl)) (pa_cons pe_str pa_nil))))))))
        (pss_one (ps_if (pt_not (pt_val (pe_call G__law_same hr rfl T.g__law_same T.d__law_same.kp (b__law_same T) .nil pass0 (pa_cons (pe_lst (pa_cons (PW.pe_callN0 G_comparisons hr rfl T.g_comparisons T.d_comparisons.kp (PW.kbn_app (ps := p_comparisons) T.d_comparisons 0 ["condition"] (fun _ _ _ _ _ _ us ws h1 h2 => match us, h1, ws, h2 with | [], _, [_], _ => rfl)) pass0 (pk_cons (pv 5) pk_nil)) (pa_cons (PW.pe_callN0 G_used_names hr rfl T.g_used_names T.d_used_names.kp (PW.kbn_app (ps := p_used_names) T.d_used_names 0 ["condition"] (fun _ _ _ _ _ _ us ws h1 h2 => match us, h1, ws, h2 with | [], _, [_], _ => rfl)) pass0 (pk_cons (pv 5) pk_nil)) pa_nil))) (pa_cons (pv 7) pa_nil)))))
          (pss_one (ps_ret pe_bl))
          pss_nil))))))))
    (pss_one (ps_ret pe_bl))))), ?_⟩
    show tSeq _ _ _ [some (V.ref sa), none, none, none, none, none, none, none, none, none, none] H
    walk_at "K"
    walk_at "go"
    refine ⟨sa, ns, rfl, ha, hl, fun b c H1 hb hc hB x1 => ?_⟩
    walk_at "go"
    refine for_it walk_range (fun i σ H => (∃ y2 y3 y4 y5 y6 y7 y8 y9, σ = [some (.ref sa), some (.ref b), y2, y3, y4, y5, y6, y7, y8, y9, none]) ∧ BagAt H b c) ?_ (fun _ _ _ _ _ => trivial) ?_ ?_
    · exact ⟨⟨_, _, _, _, _, _, _, _, rfl⟩, hB⟩
    · clear hB x1 hb hc H1
      rintro i x σ H1 H1' hi ⟨⟨y2, y3, y4, y5, y6, y7, y8, y9, rfl⟩, hB⟩ ⟨rfl, rfl⟩
      walk_at "go"
      refine ⟨b, c, 4, rfl, hB, by decide, by decide, fun l1 ns H2 hN2 hn hB2 x2 => ?_⟩
      have hn : ns.length ≤ 1000 := by rw [hn]; decide
      clear hB x2
      walk_at "go"
      refine ⟨b, c, l1, ns, rfl, hB2, hN2, hn, fun f zs H3 hF3 hz hB3 x3 => ?_⟩
      have hz : zs.length ≤ 1000 := by rw [hz]; exact hn
      clear hB2 hN2 x3 hn
      walk_at "go"
      refine ⟨b, c, 4, rfl, hB3, by decide, by decide, fun q H4 q0 q1 hB4 x4 => ?_⟩
      have hF4 := hF3.ex x4.hd
      clear hB3 hF3 x4
      obtain ⟨m, rfl⟩ : ∃ m : Nat, q = (m : Int) := ⟨q.toNat, by omega⟩
      walk_at "go"
      intro D hD
      have nD := hB4.ne hD
      refine lc_inv walk_range (σw := [some (.ref sa), some (.ref b), some (.int (0 + (i : Nat))), some (.ref f), y4, y5, y6, y7, y8, y9, none]) rfl (fun H => BagAt H b c ∧ NmL (hide H b) f zs ∧ ∃ acc as, H D = some (.lst acc) ∧ Paired (IsCd K H 3 1) acc as ∧ ∀ a ∈ as, a.ok ∧ a.isAtom = true ∧ a.cost ≤ 433 ∧ a.anms.length ≤ 14) (fun _ _ => True) hD (by omega) ⟨hB4.new hD, hF4.ex ((Ex.new hD).hides b), [], [], upd_same, .nil, (by intro a h; exact nomatch h)⟩ (fun _ _ => trivial) ?_ ?_
      · rintro j x H5 H5' acc R hj ⟨hB5, hF5, acc2, as, hacc2, hP5, has⟩ hacc ⟨rfl, rfl⟩ hR
        obtain rfl : acc2 = acc := HO.lst.inj (Option.some.inj (hacc2.symm.trans hacc))
        walk_at "go"
        refine ⟨rfl, ?_⟩
        walk_at "go"
        refine ⟨b, c, 2, rfl, hB5, by decide, by decide, fun l2 cs H6 hC6 hcn hB6 x6 => ?_⟩
        have hcn : cs.length ≤ 1000 := by rw [hcn]; decide
        walk_at "go"
        refine ⟨b, c, 3, rfl, hB6, by decide, by decide, fun dd H7 d0 d1 hB7 x7 => ?_⟩
        walk_at "go"
        refine ⟨b, c, f, l2, zs, cs, _, rfl, hB7, (hF5.ex x6.hd).ex x7.hd, hC6.ex x7.hd, hz, hcn, by omega, fun v a H8 hv hok hat hco han hB8 x8 => ?_⟩
        have x58 := (x6.trans x7).trans x8
        have hacc8 := x58 _ _ nD.1.symm hacc
        have te := (TE.bag hB5 x58).trans (TE.upd (l' := acc2 ++ [v]) hacc8)
        refine hR v H8 trivial hacc8 ⟨hB8.put nD.1 nD.2, ?_, acc2 ++ [v], as ++ [a], upd_same, prd_app (prd_teC te hP5) (.cons ((hv.ex (Ex.hide H8 b)).te (TE.upd hacc8)) .nil), ?_⟩
        · have q := ((hF5.ex x6.hd).ex x7.hd).ex x8.hd
          have nf : f ≠ D := fun z => by
            have e1 := Ex.hide _ b _ _ hF4.at_
            rw [z, hD] at e1
            cases e1
          have nfb : f ≠ b := fun z => by
            have e1 := hF4.at_
            rw [z, hide_same] at e1
            cases e1
          refine ⟨?_, q.ok⟩
          rw [hide_ne nfb, upd_ne nf, ← hide_ne nfb (H := H8)]
          exact q.at_
        · intro y hy
          rcases List.mem_append.mp hy with hy | hy
          · exact has y hy
          · rw [List.mem_singleton.mp hy]
            exact ⟨hok, hat, Nat.le_trans hco (by decide), by omega⟩
      · rintro H5 acc ⟨hB5, hF5, acc2, as, hacc2, hP5, has⟩ hacc hlen hE
        obtain rfl : acc2 = acc := HO.lst.inj (Option.some.inj (hacc2.symm.trans hacc))
        clear hE hF5 hD hF4 hB4
        have hasl := pr_len hP5
        walk_at "go"
        refine ⟨b, c, 5, rfl, hB5, by decide, by decide, fun dd H6 d0 d1 hB6 x6 => ?_⟩
        have hP6 := prd_teC ((TE.bag hB5 x6).trans (TE.hidB hB6)) hP5
        have hD6 := x6 _ _ nD.1.symm hacc
        walk_at "go"
        refine ⟨b, c, D, 3, 433, acc2, as, _, rfl, hB6, ⟨(hide_ne nD.1.symm).trans hD6, hP6, by omega, fun a h => (has a h).1, fun a h => (has a h).2.1, fun a h => (has a h).2.2.1⟩, by decide, by decide, by omega, fun v t H7 ht7 hok hmem hal hco hB7 x7 => ?_⟩
        obtain ⟨m5, hm5, hm4⟩ : ∃ m, dd.toNat = m ∧ m ≤ 4 := ⟨_, rfl, by omega⟩
        rw [hm5] at ht7 hal hco
        have p16 : (2 : Nat) ^ m5 ≤ 16 := Nat.le_trans (Nat.pow_le_pow_right (by decide) hm4) (by decide)
        have c16 : (433 + 1) * 2 ^ m5 ≤ (433 + 1) * 16 := Nat.mul_le_mul_left _ p16
        have hcst : t.cost ≤ 6944 := by omega
        have hat : t.atoms.length ≤ 16 := by omega
        have hdep : t.dep ≤ 5 := by
          have := ht7.depth
          omega
        have htd := ht7.tdep
        have hcn : t.cnms.length ≤ 224 := Nat.le_trans (cnmss_le (m := 14) (as := t.atoms) fun a h => (has a (hmem a h)).2.2.2) (by omega)
        have h64 : (runS t.cnms).length < 64 := by
          have h1 := runS_few (as := t.atoms) hmem
          have h2 := cnmss_le (m := 14) (as := as) fun a h => (has a h).2.2.2
          have h3 : (runS t.cnms).length = (runS (cnmss t.atoms)).length := rfl
          omega
        have hnm : ∀ z ∈ t.cnms, PyData.strOk z = true := nm_ok fun z hz => by
          obtain ⟨a, ha, hza⟩ := cnmss_mem.mp hz
          have q := has a (hmem a ha)
          refine isNm_iff.mp ?_
          cases a with
          | less s u => exact Tm.nmss_ok (as := [s, u]) (n := 10 ^ 9) (m := 100) (q := 100) (by simp only [Tm.oks]; exact ⟨q.1.1, q.1.2, trivial⟩) z hza
          | equ s u => exact Tm.nmss_ok (as := [s, u]) (n := 10 ^ 9) (m := 100) (q := 100) (by simp only [Tm.oks]; exact ⟨q.1.1, q.1.2, trivial⟩) z hza
          | res s m r => exact Tm.nmss_ok (as := [s]) (n := 10 ^ 9) (m := 100) (q := 100) (by simp only [Tm.oks]; exact ⟨q.1.1, trivial⟩) z hza
          | _ => cases q.2.1
        have hsm : ∀ a ∈ t.atoms, a.ok ∧ a.isAtom = true := fun a h => ⟨(has a (hmem a h)).1, (has a (hmem a h)).2.1⟩
        have hsh : t.pd.shown.length ≤ sizeLine := Nat.le_trans (Cd.shown_len t hok) (Nat.le_trans (show 48 * t.cost ≤ 400000 by omega) (by decide))
        have hpd : t.pd.depth ≤ 60 := by
          have := Cd.pd_depth t htd
          omega
        have ht := ht7.ex (Ex.hide H7 b)
        obtain ⟨p, rfl⟩ := ht7.ref
        clear ht7 hP6 hP5 hacc hacc2 hD6 hB5 hB6 x6 x7 hal hco hmem has
        walk_at "go"
        refine ⟨p, t.pd, rfl, ht.dat, Cd.showable t hok, Cd.pd_dict t, hsh, hpd, ?_⟩
        walk_at "go"
        refine ⟨.ref p, t, 3, m5 + 1, H7, rfl, Ex.refl _, ht, by omega, by omega, fun l4 ys H8 x8 hl40 hl4 hys => ?_⟩
        walk_at "go"
        refine ⟨.ref p, t, 3, m5 + 1, rfl, ht.ex x8, by omega, by decide, by omega, by omega, fun l5 H9 x9 hl5 => ?_⟩
        walk_at "go"
        refine ⟨l5, t.cnms, rfl, SqL.of hl5, by omega, hnm, fun l6 zs6 H10 x10 hl6 hzs => ?_⟩
        walk_at "go"
        intro d hd
        have xd := Ex.new (o := .lst [V.ref l4, V.ref l6]) hd
        have x7d := (x8.trans (x9.trans x10)).trans xd
        have hl4d := xd _ _ (x10 _ _ (x9 _ _ hl4))
        have hl6d := xd _ _ hl6
        have htD := ht.ex x7d
        have hysD := prd_exC x7d hys
        have hB10 := hB7.grow x7d
        clear hl4 hl5 hl6 x8 x9 x10 hys hB7 ht
        have fl : ∀ v ∈ zs6.map V.str, flatV v = true := fun v hv => by
          obtain ⟨z, _, rfl⟩ := List.mem_map.mp hv
          rfl
        walk_at "go"
        refine for_it walk_range (fun j σ' H' => (∃ y8 y9, σ' = [some (.ref sa), some (.ref b), some (.int (0 + (i : Nat))), some (.ref f), some (.ref D), some (.ref p), some (.str t.pd.shown), some (.ref d), y8, y9, none]) ∧ BagAt H' b c ∧ IsCd K H' 3 (m5 + 1) (.ref p) t ∧ H' d = some (.lst [V.ref l4, V.ref l6]) ∧ H' l4 = some (.lst ys) ∧ Paired (IsCd K H' 3 1) ys t.atoms ∧ H' l6 = some (.lst (zs6.map V.str))) ⟨⟨_, _, rfl⟩, hB10, htD, upd_same, hl4d, hysD, hl6d⟩ (fun _ _ _ _ _ => trivial) ?_ ?_
        · clear hB10 htD hl4d hysD hl6d xd x7d hd
          rintro j x σ' H11 H11' hj ⟨⟨y8, y9, rfl⟩, hB, ht, hd, hl4, hys, hl6⟩ ⟨rfl, rfl⟩
          walk_at "go"
          refine ⟨.ref p, t, 3, m5 + 1, H11', rfl, Ex.refl _, ht, by omega, by omega, fun q ws H12 x12 hq0 hq hws => ?_⟩
          walk_at "go"
          refine ⟨.ref p, t, 3, m5 + 1, rfl, ht.ex x12, by omega, by decide, by omega, by omega, h64, fun q2 zs2 H13 x13 hq20 hq2 hz2 => ?_⟩
          have e := asc_eq hz2 hzs
          subst e
          have lz : (zs2.map V.str).length ≤ 100000 := by
            have := nodup_le zs2 t.cnms (hz2.1.imp fun h z => by
              rw [z] at h
              exact List.lt_irrefl _ h) fun z hz => (hz2.2 z).mp hz
            rw [List.length_map]
            omega
          have lw : ws.length ≤ 100000 := by
            have := pr_len hws
            omega
          walk_at "go"
          intro g hg
          have xg := Ex.new (o := .lst [V.ref q, V.ref q2]) hg
          have x11 := (x12.trans x13).trans xg
          have hqg := xg _ _ (x13 _ _ hq)
          have hq2g := xg _ _ hq2
          have n1 : q ≠ q2 := ne_of_none hq hq20
          have n2 : q ≠ g := ne_of_none (x13 _ _ hq) hg
          have n3 : q2 ≠ g := ne_of_none hq2 hg
          walk_at "go"
          refine ⟨_, _, rfl, Sm.lsts upd_same (x11 _ _ hd) (by walk_at "len") (.cons (Sm.lsts hqg (x11 _ _ hl4) lw (prd_same hsm (prd_exC x11 hws) (prd_exC x11 hys))) (.cons (Sm.flats (n := 7) hq2g (x11 _ _ hl6) lz fl) .nil)), fun H14 x14 => ?_⟩
          have xx := x11.trans x14
          have kg := x14 _ _ (upd_same (H := H13) (a := g) (o := .lst [V.ref q, V.ref q2]))
          have kq := x14 _ _ hqg
          have kq2 := x14 _ _ hq2g
          walk_at "go"
          refine ⟨p, t.pd, rfl, (ht.ex xx).dat, Cd.showable t hok, Cd.pd_dict t, hsh, hpd, ?_⟩
          walk_at "go"
          refine r_append kq (Nat.lt_of_le_of_lt lw (by decide)) ?_
          have kg2 := (upd_ne (o := .lst (ws ++ [V.int 0])) n2.symm).trans kg
          have kq22 := (upd_ne (o := .lst (ws ++ [V.int 0])) n1.symm).trans kq2
          walk_at "go"
          refine r_append kq22 (Nat.lt_of_le_of_lt lz (by decide)) ?_
          walk_at "go"
          have xf : Ex H11' (L2.upd (L2.upd H14 q (.lst (ws ++ [V.int 0]))) q2 (.lst (zs2.map V.str ++ [V.str ""]))) := fun a o ho => by
            have m1 : a ≠ q := fun w => by
              rw [w, hq0] at ho
              cases ho
            have m2 : a ≠ q2 := fun w => by
              have := x12 a o ho
              rw [w, hq20] at this
              cases this
            exact (upd_ne m2).trans ((upd_ne m1).trans (xx a o ho))
          exact ⟨⟨_, _, rfl⟩, hB.grow xf, ht.ex xf, xf _ _ hd, xf _ _ hl4, prd_exC xf hys, xf _ _ hl6⟩
        · clear hB10 htD hl4d hysD hl6d xd x7d hd
          rintro σ' H11 ⟨⟨y8, y9, rfl⟩, hB, ht, hd, hl4, hys, hl6⟩
          walk_at "go"
          refine ⟨.ref p, t, 3, m5 + 1, H11, rfl, Ex.refl _, ht, by omega, by omega, fun q ws H12 x12 hq0 hq hws => ?_⟩
          walk_at "go"
          refine ⟨.ref p, t, 3, m5 + 1, rfl, ht.ex x12, by omega, by decide, by omega, by omega, h64, fun q2 zs2 H13 x13 hq20 hq2 hz2 => ?_⟩
          have e := asc_eq hz2 hzs
          subst e
          have lz : (zs2.map V.str).length ≤ 100000 := by
            have := nodup_le zs2 t.cnms (hz2.1.imp fun h z => by
              rw [z] at h
              exact List.lt_irrefl _ h) fun z hz => (hz2.2 z).mp hz
            rw [List.length_map]
            omega
          have lw : ws.length ≤ 100000 := by
            have := pr_len hws
            omega
          walk_at "go"
          intro g hg
          have xg := Ex.new (o := .lst [V.ref q, V.ref q2]) hg
          have x11 := (x12.trans x13).trans xg
          walk_at "go"
          refine ⟨_, _, rfl, Sm.lsts upd_same (x11 _ _ hd) (by walk_at "len") (.cons (Sm.lsts (xg _ _ (x13 _ _ hq)) (x11 _ _ hl4) lw (prd_same hsm (prd_exC x11 hws) (prd_exC x11 hys))) (.cons (Sm.flats (n := 7) (xg _ _ hq2) (x11 _ _ hl6) lz fl) .nil)), fun H14 x14 => ?_⟩
          walk_at "go"
          exact ⟨⟨_, _, _, _, _, _, _, _, rfl⟩, hB.grow (x11.trans x14)⟩
    · rintro σ H1 ⟨⟨y2, y3, y4, y5, y6, y7, y8, y9, rfl⟩, hB⟩
      walk_at "go"
      exact hQ _
end
end PW
namespace PW
open PySem PySem.Spec PyProof.Rows L2
abbrev sp_law (K : PySem.W.Frag) : Sp := spLawT K
theorem law_end {K : PySem.W.Frag} {H : Hp} {a : Addr} {ns : List Int} (hl : ns.length ≤ 63) (hO : Only H) (hS : SqL K H a (ns.map V.int)) : sp_law K [.ref a] H (fun v _ => v = .bl true) fun _ _ _ => False :=
  ⟨a, ns, rfl, hS, hl, fun _ => rfl⟩
theorem law_ok {P : Program} {w : World} {K : PySem.W.Frag} {mg : Str → Option Value} {base : Heap} (T : Txt K mg) : FnOkG P w K mg base CX0 22 (He.ga K "law") (fdOf K (He.ga K "law")) p_law (sp_law K) := by
  have g1 := ok__law_pull (P := P) (w := w) (base := base) T
  have g2 := ok__law_letters (P := P) (w := w) (base := base) T
  have go := ok__law_of T g1
  have gn := ok__law_names (k := 2) T (g1.mono (by decide)) go (g2.mono (by decide)) ((ok__law_is_name T g2).mono (by decide))
  have gl := ok__law_leaf (k := 2) T (g1.mono (by decide)) go
  have gt := ok__law_term (k := 3) T (g1.mono (by decide)) (go.mono (by decide)) gl 2
  have gc := ok__law_compare (k := 6) T (g1.mono (by decide)) (go.mono (by decide)) gt
  have gr := ok__law_tree (k := 2) T (g1.mono (by decide)) go 4
  have ga := ok__law_atoms (P := P) (w := w) (base := base) (k := 0) T 16
  have gw := ok__law_words (P := P) (w := w) (base := base) (k := 1) T (ok__law_inner T) 16
  have gk := ok__law_condition_words (k := 18) T (ga.mono (by decide)) gw
  have pc := ok_comparisons (P := P) (w := w) (base := base) (k := 0) T 16
  have pn := ok_names_within (P := P) (w := w) (base := base) (k := 1) T (ok_parts_of T) 16
  have pk := ok_condition_names (k := 18) T (pc.mono (by decide)) ((ok_terms_of T).mono (by decide)) pn
  have pu := ok_used_names T pk
  exact ok_law23 (k := 21) T ((ok__law_bag T).mono (by decide)) (g1.mono (by decide)) (gn.mono (by decide)) ((ok__law_mixed T g1).mono (by decide)) (gc.mono (by decide)) (gr.mono (by decide)) (ga.mono (by decide)) (gk.mono (by decide)) ((ok__law_distinct T).mono (by decide)) (pc.mono (by decide)) (pu.mono (by decide)) ((ok__law_same T 9).mono (by decide))
end PW
namespace PW
open PySem PySem.Spec PyProof.Rows L2
/-! ### the head: facts by names, the run -/
def d_parts_of : He.DefD := ⟨("parts_of", none), "parts_of", "parts_of", defArgs s_parts_of, defBody s_parts_of, defScope s_parts_of, [], []⟩
def d_names_within : He.DefD := ⟨("names_within", none), "names_within", "names_within", defArgs s_names_within, defBody s_names_within, defScope s_names_within, [], []⟩
def d_comparisons : He.DefD := ⟨("comparisons", none), "comparisons", "comparisons", defArgs s_comparisons, defBody s_comparisons, defScope s_comparisons, [], []⟩
def d_terms_of : He.DefD := ⟨("terms_of", none), "terms_of", "terms_of", defArgs s_terms_of, defBody s_terms_of, defScope s_terms_of, [], []⟩
def d_condition_names : He.DefD := ⟨("condition_names", none), "condition_names", "condition_names", defArgs s_condition_names, defBody s_condition_names, defScope s_condition_names, [], []⟩
def d_used_names : He.DefD := ⟨("used_names", none), "used_names", "used_names", defArgs s_used_names, defBody s_used_names, defScope s_used_names, [], []⟩
def d__law_pull : He.DefD := ⟨("_law_pull", none), "_law_pull", "_law_pull", defArgs s__law_pull, defBody s__law_pull, defScope s__law_pull, [], []⟩
def d__law_of : He.DefD := ⟨("_law_of", none), "_law_of", "_law_of", defArgs s__law_of, defBody s__law_of, defScope s__law_of, [], []⟩
def d__law_same : He.DefD := ⟨("_law_same", none), "_law_same", "_law_same", defArgs s__law_same, defBody s__law_same, defScope s__law_same, [], []⟩
def d__law_mixed : He.DefD := ⟨("_law_mixed", none), "_law_mixed", "_law_mixed", defArgs s__law_mixed, defBody s__law_mixed, defScope s__law_mixed, [], []⟩
def d__law_bag : He.DefD := ⟨("_law_bag", none), "_law_bag", "_law_bag", defArgs s__law_bag, defBody s__law_bag, defScope s__law_bag, [], []⟩
def d__law_letters : He.DefD := ⟨("_law_letters", none), "_law_letters", "_law_letters", defArgs s__law_letters, defBody s__law_letters, defScope s__law_letters, [], []⟩
def d__law_is_name : He.DefD := ⟨("_law_is_name", none), "_law_is_name", "_law_is_name", defArgs s__law_is_name, defBody s__law_is_name, defScope s__law_is_name, [], []⟩
def d__law_names : He.DefD := ⟨("_law_names", none), "_law_names", "_law_names", defArgs s__law_names, defBody s__law_names, defScope s__law_names, [], []⟩
def d__law_leaf : He.DefD := ⟨("_law_leaf", none), "_law_leaf", "_law_leaf", defArgs s__law_leaf, defBody s__law_leaf, defScope s__law_leaf, [], []⟩
def d__law_term : He.DefD := ⟨("_law_term", none), "_law_term", "_law_term", defArgs s__law_term, defBody s__law_term, defScope s__law_term, [], []⟩
def d__law_inner : He.DefD := ⟨("_law_inner", none), "_law_inner", "_law_inner", defArgs s__law_inner, defBody s__law_inner, defScope s__law_inner, [], []⟩
def d__law_words : He.DefD := ⟨("_law_words", none), "_law_words", "_law_words", defArgs s__law_words, defBody s__law_words, defScope s__law_words, [], []⟩
def d__law_distinct : He.DefD := ⟨("_law_distinct", none), "_law_distinct", "_law_distinct", defArgs s__law_distinct, defBody s__law_distinct, defScope s__law_distinct, [], []⟩
def d__law_compare : He.DefD := ⟨("_law_compare", none), "_law_compare", "_law_compare", defArgs s__law_compare, defBody s__law_compare, defScope s__law_compare, [], []⟩
def d__law_tree : He.DefD := ⟨("_law_tree", none), "_law_tree", "_law_tree", defArgs s__law_tree, defBody s__law_tree, defScope s__law_tree, [], []⟩
def d__law_atoms : He.DefD := ⟨("_law_atoms", none), "_law_atoms", "_law_atoms", defArgs s__law_atoms, defBody s__law_atoms, defScope s__law_atoms, [], []⟩
def d__law_condition_words : He.DefD := ⟨("_law_condition_words", none), "_law_condition_words", "_law_condition_words", defArgs s__law_condition_words, defBody s__law_condition_words, defScope s__law_condition_words, [], []⟩
def d_law : He.DefD := ⟨("law", none), "law", "law", defArgs s_law, defBody s_law, defScope s_law, [], []⟩
def fn0 : List He.DefD := [d_parts_of, d_names_within, d_comparisons, d_terms_of, d_condition_names, d_used_names, d__law_pull, d__law_of, d__law_same, d__law_mixed, d__law_bag, d__law_letters, d__law_is_name, d__law_names, d__law_leaf, d__law_term, d__law_inner, d__law_words, d__law_distinct, d__law_compare, d__law_tree, d__law_atoms, d__law_condition_words, d_law]
def fn : List He.DefD := fn0
def fs : List DefA := []
def fa0 : List He.Fa := [.glo "parts_of", .glo "names_within", .glo "comparisons", .glo "terms_of", .glo "condition_names", .glo "used_names", .glo "_law_pull", .glo "_law_of", .glo "_law_same", .glo "_law_mixed", .glo "_law_bag", .glo "_law_letters", .glo "_law_is_name", .glo "_law_names", .glo "_law_leaf", .glo "_law_term", .glo "_law_inner", .glo "_law_words", .glo "_law_distinct", .glo "_law_compare", .glo "_law_tree", .glo "_law_atoms", .glo "_law_condition_words", .glo "law", .free "list", .free "sorted", .free "set", .free "int", .free "len", .free "isinstance"]
def fa1 : List He.Fa := [.free "tuple", .free "all", .free "bool", .free "str", .free "zip", .free "range", .free "repr"]
def fa : List He.Fa := fa0 ++ fa1
def ex (K : PySem.W.Frag) : List Bool := []
def loose0 : List PySem.Str := ["parts_of", "names_within", "comparisons", "terms_of", "condition_names", "used_names", "_law_pull", "_law_of", "_law_same", "_law_mixed", "_law_bag", "_law_letters", "_law_is_name", "_law_names", "_law_leaf", "_law_term", "_law_inner", "_law_words", "_law_distinct", "_law_compare", "_law_tree", "_law_atoms", "_law_condition_words"]
def loose : List PySem.Str := loose0
abbrev R : PySem.W.OpenRow := PySem.W.OpenLaw.row PySem.Challenge.rw_powerwish_k23_parts_of_conditions
abbrev hk : PySem.W.Hook := hookM 4 fa fn fs ex
def ob (s : PySem.W.SharedT) : AlM := obsMG 4 fa fn fs ex (HandSHeadRun.getT s)
theorem ob_eq (s : PySem.W.SharedT) : ob s = hk.obs s.abs := obsMG_eq (HandSHeadRun.getT_eq s)
theorem run (w : World) : HandSHeadRun.RunEq R (PySem.W.view R.prog [26]) hk ob 6000 loose w := by
  intro os
  kernel_rfl
theorem txt_of {K : PySem.W.Frag} {h : Heap} {mg : Str → Option Value} (X : K.In h) (G : h.Ns mainGlobals mg) (c : SaysM fa fn fs ex K) : Txt K mg where
  g_parts_of := He.glo_ok X G (c.d.fact 0 (f := .glo "parts_of") rfl)
  g_names_within := He.glo_ok X G (c.d.fact 1 (f := .glo "names_within") rfl)
  g_comparisons := He.glo_ok X G (c.d.fact 2 (f := .glo "comparisons") rfl)
  g_terms_of := He.glo_ok X G (c.d.fact 3 (f := .glo "terms_of") rfl)
  g_condition_names := He.glo_ok X G (c.d.fact 4 (f := .glo "condition_names") rfl)
  g_used_names := He.glo_ok X G (c.d.fact 5 (f := .glo "used_names") rfl)
  g__law_pull := He.glo_ok X G (c.d.fact 6 (f := .glo "_law_pull") rfl)
  g__law_of := He.glo_ok X G (c.d.fact 7 (f := .glo "_law_of") rfl)
  g__law_same := He.glo_ok X G (c.d.fact 8 (f := .glo "_law_same") rfl)
  g__law_mixed := He.glo_ok X G (c.d.fact 9 (f := .glo "_law_mixed") rfl)
  g__law_bag := He.glo_ok X G (c.d.fact 10 (f := .glo "_law_bag") rfl)
  g__law_letters := He.glo_ok X G (c.d.fact 11 (f := .glo "_law_letters") rfl)
  g__law_is_name := He.glo_ok X G (c.d.fact 12 (f := .glo "_law_is_name") rfl)
  g__law_names := He.glo_ok X G (c.d.fact 13 (f := .glo "_law_names") rfl)
  g__law_leaf := He.glo_ok X G (c.d.fact 14 (f := .glo "_law_leaf") rfl)
  g__law_term := He.glo_ok X G (c.d.fact 15 (f := .glo "_law_term") rfl)
  g__law_inner := He.glo_ok X G (c.d.fact 16 (f := .glo "_law_inner") rfl)
  g__law_words := He.glo_ok X G (c.d.fact 17 (f := .glo "_law_words") rfl)
  g__law_distinct := He.glo_ok X G (c.d.fact 18 (f := .glo "_law_distinct") rfl)
  g__law_compare := He.glo_ok X G (c.d.fact 19 (f := .glo "_law_compare") rfl)
  g__law_tree := He.glo_ok X G (c.d.fact 20 (f := .glo "_law_tree") rfl)
  g__law_atoms := He.glo_ok X G (c.d.fact 21 (f := .glo "_law_atoms") rfl)
  g__law_condition_words := He.glo_ok X G (c.d.fact 22 (f := .glo "_law_condition_words") rfl)
  g_law := He.glo_ok X G (c.d.fact 23 (f := .glo "law") rfl)
  f_list := He.free_ok X G (c.d.fact 24 (f := .free "list") rfl)
  f_sorted := He.free_ok X G (c.d.fact 25 (f := .free "sorted") rfl)
  f_set := He.free_ok X G (c.d.fact 26 (f := .free "set") rfl)
  f_int := He.free_ok X G (c.d.fact 27 (f := .free "int") rfl)
  f_len := He.free_ok X G (c.d.fact 28 (f := .free "len") rfl)
  f_isinstance := He.free_ok X G (c.d.fact 29 (f := .free "isinstance") rfl)
  f_tuple := He.free_ok X G (c.d.fact 30 (f := .free "tuple") rfl)
  f_all := He.free_ok X G (c.d.fact 31 (f := .free "all") rfl)
  f_bool := He.free_ok X G (c.d.fact 32 (f := .free "bool") rfl)
  f_str := He.free_ok X G (c.d.fact 33 (f := .free "str") rfl)
  f_zip := He.free_ok X G (c.d.fact 34 (f := .free "zip") rfl)
  f_range := He.free_ok X G (c.d.fact 35 (f := .free "range") rfl)
  f_repr := He.free_ok X G (c.d.fact 36 (f := .free "repr") rfl)
  d_parts_of := funD_of (c.d.def_ 0 (d := d_parts_of) rfl)
  d_names_within := funD_of (c.d.def_ 1 (d := d_names_within) rfl)
  d_comparisons := funD_of (c.d.def_ 2 (d := d_comparisons) rfl)
  d_terms_of := funD_of (c.d.def_ 3 (d := d_terms_of) rfl)
  d_condition_names := funD_of (c.d.def_ 4 (d := d_condition_names) rfl)
  d_used_names := funD_of (c.d.def_ 5 (d := d_used_names) rfl)
  d__law_pull := funD_of (c.d.def_ 6 (d := d__law_pull) rfl)
  d__law_of := funD_of (c.d.def_ 7 (d := d__law_of) rfl)
  d__law_same := funD_of (c.d.def_ 8 (d := d__law_same) rfl)
  d__law_mixed := funD_of (c.d.def_ 9 (d := d__law_mixed) rfl)
  d__law_bag := funD_of (c.d.def_ 10 (d := d__law_bag) rfl)
  d__law_letters := funD_of (c.d.def_ 11 (d := d__law_letters) rfl)
  d__law_is_name := funD_of (c.d.def_ 12 (d := d__law_is_name) rfl)
  d__law_names := funD_of (c.d.def_ 13 (d := d__law_names) rfl)
  d__law_leaf := funD_of (c.d.def_ 14 (d := d__law_leaf) rfl)
  d__law_term := funD_of (c.d.def_ 15 (d := d__law_term) rfl)
  d__law_inner := funD_of (c.d.def_ 16 (d := d__law_inner) rfl)
  d__law_words := funD_of (c.d.def_ 17 (d := d__law_words) rfl)
  d__law_distinct := funD_of (c.d.def_ 18 (d := d__law_distinct) rfl)
  d__law_compare := funD_of (c.d.def_ 19 (d := d__law_compare) rfl)
  d__law_tree := funD_of (c.d.def_ 20 (d := d__law_tree) rfl)
  d__law_atoms := funD_of (c.d.def_ 21 (d := d__law_atoms) rfl)
  d__law_condition_words := funD_of (c.d.def_ 22 (d := d__law_condition_words) rfl)
  d_law := funD_of (c.d.def_ 23 (d := d_law) rfl)
end PW
open PySem PySem.W PySem.Calls PyProof.Rows
theorem PySem.Challenge.cw_powerwish_k23_parts_of_conditions_holds : PySem.Challenge.rw_powerwish_k23_parts_of_conditions.Holds := by
  w_on; o_law
  refine HandSHeadRun.head_any (r := OpenLaw.row PySem.Challenge.rw_powerwish_k23_parts_of_conditions) (q := view (OpenLaw.row PySem.Challenge.rw_powerwish_k23_parts_of_conditions).prog [26]) (H := PW.hk) (ob := PW.ob) (M := 6000) (loose := PW.loose) (d := HandSHeadRun.topDef (OpenLaw.row PySem.Challenge.rw_powerwish_k23_parts_of_conditions).prog 26) (kwd := []) PW.ob_eq
    (by kernel_rfl) (fun s => by kernel_rfl) PW.run (by kernel_rfl) (by kernel_rfl) (by kernel_rfl) (by rfl) (by first | assumption | decide +kernel) (by decide +kernel) ⟨rfl, rfl, rfl, rfl, rfl, by decide +kernel⟩ ?hw ?hc
  case hw => w_witness2
  case hc =>
    refine PW.walk_ofEG (l := PySem.Challenge.rw_powerwish_k23_parts_of_conditions) (n := 63) (k := 22) (x := "_law_script") (CX := L2.CX0) rfl (by decide) (by kernel_rfl) ⟨rfl, by decide, by decide⟩ ?F (fun _ _ _ _ z => z)
    intro w mg fa h Y G hmg0
    obtain ⟨K, KX, c⟩ := Y
    have hmg : mg ("law" : PySem.Str) = some (.ref fa) := by
      have e : (HandSHeadRun.topDef (OpenLaw.row PySem.Challenge.rw_powerwish_k23_parts_of_conditions).prog 26).name = ("law" : PySem.Str) := by kernel_rfl
      rw [← e]
      exact hmg0
    have T := PW.txt_of KX G c
    have ef := hmg.symm.trans T.g_law
    cases ef
    exact ⟨K, _, PW.sp_law K, KX, fun s v => L2.FunD.bindsA (ps := PW.p_law) T.d_law (fun _ _ _ _ _ _ us hl => match us, hl with | [_], _ => rfl) s [v] rfl, fun H a ns hl hO hS => PW.law_end hl hO hS, fun base _ _ => PW.law_ok (P := (PySem.Challenge.rw_powerwish_k23_parts_of_conditions).prog) (w := w) (base := base) T⟩
#print axioms PySem.Challenge.cw_powerwish_k23_parts_of_conditions_holds
