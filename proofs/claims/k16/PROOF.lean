import PyProof.Rows.All
import Wide.All
import OpenK.AllK
import Wide.FinOn
import KE.KStateDown
import Lean
import HandS.Base
import HandS.Call
import HandS.Ends
import HandS.List
import HandS.Comp
import HandS.Iter
import HandS.Dict
import HandS.Text
import HandS.Exc
import HandS.More
import HandS.Words
import HandS.WordsExc
import HandS.WordsList
import HandS.WordsDict
import HandS.Defaults
import HandS.IsInst
import HandS.Wide
import HandS.WideBits
import HandS.Walk
import HandS.Zip
import HandS.FStr
import HandS.Codes
import HandS.TryOnly
import HandS.ExcOwn
import HandS.Steps
import HandS.Slots
import HandS.SlotsOwn
import HandS.MakeKwOnly
import HandS.Style
import HandS.Star
import HandS.ClsMeth
import HandS.ListEq
import HandS.ExcInit
import HandS.ExcField
import HandS.ExcSuper
import HandS.Lambda
import HandS.EndTab
import HandS.HeadWalk
import HandS.HeadHook4
import HandS.HotCalls
import HandS.TryMany
import KE.KExcSuper
import KE.KSuper
import KE.KNestM
import KE.KExcInit
import HandS.Head0
import HandS.Head1
import HandS.Head2
import HandS.HeadEnd
import HandS.HeadHook1
import HandS.HeadHook2
import PySem.Challenge.RW_powerwish_k16_values_of_terms
set_option Elab.async false
set_option linter.all false
set_option maxRecDepth 100000
set_option maxHeartbeats 4000000
/-! ### the hook: facts, and Bools of one's own -/
namespace PW
open PySem PySem.Spec PyProof.Rows L2
def fdOf (K : PySem.W.Frag) (a : Addr) : FuncData := match K.lookup a with
  | some ⟨_, _, .func fd, _⟩ => fd
  | _ => default
theorem funD_of {K : PySem.W.Frag} {x qual : Str} {params : Arguments} {body : List Stmt} {scope : Scope} {dvs : List V} {kws : List (Str × V)} {f : Addr} (h : ∃ fd, FunD K x qual params body scope dvs kws f fd) :
    FunD K x qual params body scope dvs kws f (fdOf K f) := by
  obtain ⟨fd, F⟩ := h
  obtain ⟨oc, od, dV, kV, doc, pm, an, cdv, ct, osl, e, lk, _⟩ := F.ex
  have e2 : fdOf K f = fd := by
    unfold fdOf
    rw [lk]
  rw [e2]
  exact F
/-- a def reached by a path of one's own (a staticmethod's), without defaults -/
structure DefA where
  at_ : PySem.W.Frag → Addr
  name : Str
  qual : Str
  params : Arguments
  body : List Stmt
  scope : Scope
def fnWA (K : PySem.W.Frag) (d : DefA) : He.FnW := match K.lookup (d.at_ K) with
  | some ⟨_, _, .func fd, _⟩ => some (fd.name, fd.qualname, fd.params, fd.body, fd.scope, fd.globals, fd.closure, fd.builtins)
  | _ => none
def DefA.val (d : DefA) : He.FnW := some (d.name, d.qual, d.params, .stmts d.body, d.scope, mainGlobals, [], builtinsNs)
def DefA.ok (K : PySem.W.Frag) (d : DefA) : Bool := PySem.W.keepIn K (.ref (d.at_ K)) && (match K.lookup (d.at_ K) with
  | some ⟨_, _, .func fd, _⟩ => PySem.W.codeIn K fd.code d.qual && (He.dflB K fd.defaults [] && He.kwdB K fd.kwdefaults [])
  | _ => false)
theorem DefA.funD {K : PySem.W.Frag} {d : DefA} (e : fnWA K d = d.val) (c : d.ok K = true) : ∃ fd, FunD K d.name d.qual d.params d.body d.scope [] [] (d.at_ K) fd := by
  obtain ⟨kp, c2⟩ := He.ba c
  unfold fnWA at e
  cases q : K.lookup (d.at_ K) with
  | none =>
    rw [q] at c2
    cases c2
  | some o =>
    obtain ⟨oc, od, dt, osl⟩ := o
    rw [q] at c2 e
    cases dt with
    | func fd =>
      obtain ⟨n1, n2, n3, n4, n5, n6, n7, n8, n9, n10, n11, n12, n13, n14, n15⟩ := fd
      have e2 : (some (n1, n2, n3, n4, n5, n6, n7, n15) : He.FnW) = some (d.name, d.qual, d.params, .stmts d.body, d.scope, mainGlobals, [], builtinsNs) := e
      simp only [Option.some.injEq, Prod.mk.injEq] at e2
      obtain ⟨h1, h2, h3, h4, h5, h6, h7, h8⟩ := e2
      subst h1 h2 h3 h4 h5 h6 h7 h8
      have c3 : (PySem.W.codeIn K n13 d.qual && (He.dflB K n8 [] && He.kwdB K n9 [])) = true := c2
      obtain ⟨k1, k2⟩ := He.ba c3
      obtain ⟨k3, k4⟩ := He.ba k2
      exact ⟨_, ⟨oc, od, n8, n9, n10, n11, n12, n13, n14, osl, rfl, q, k1, He.dflB_ok k3, He.kwdB_ok k4⟩, kp⟩
    | _ => cases c2
/-- a staticmethod's function -/
def sgA (C m : Str) (K : PySem.W.Frag) : Addr := match PySem.W.recIn K (He.ma K (He.ga K C) m) "staticmethod" with
  | some (.ref g :: _) => g
  | _ => 0
/-- a keyword-only default that is an object -/
def kwA (p : Str × Option Str) (x : Str) (K : PySem.W.Frag) : Addr := match K.lookup (He.fAd K p) with
  | some ⟨_, _, .func fd, _⟩ => (match fd.kwdefaults with
    | .ref D => (match PySem.W.nsIn K D x with
      | some (some (.ref a)) => a
      | _ => 0)
    | _ => 0)
  | _ => 0
/-- an empty tuple at a -/
def emptyT (K : PySem.W.Frag) (a : Addr) : Bool := match K.lookup a with
  | some ⟨.type c, _, .seq its _, _⟩ => decide (c = "tuple") && decide (its.size = 0)
  | _ => false
theorem emptyT_ok {K : PySem.W.Frag} {a : Addr} (h : emptyT K a = true) (H : Hp) : SqT K H a [] := by
  unfold emptyT at h
  cases q : K.lookup a with
  | none =>
    rw [q] at h
    cases h
  | some o =>
    obtain ⟨oc, od, dt, osl⟩ := o
    rw [q] at h
    cases oc with
    | type c =>
      cases dt with
      | seq its n =>
        obtain ⟨h1, h2⟩ := He.ba (show (decide (c = "tuple") && decide (its.size = 0)) = true from h)
        have h3 : its.size = 0 := of_decide_eq_true h2
        have h4 : its = #[] := Array.eq_empty_of_size_eq_zero h3
        subst h4
        exact .inr ⟨_, #[], n, q, congrArg Value.type (of_decide_eq_true h1), rfl, Nat.zero_le _, .nil⟩
      | _ => cases h
    | _ => cases dt <;> cases h
abbrev AlM : Type := He.AlD × (List He.FnW × Bool)
def obsM (fa : List He.Fa) (fn : List He.DefD) (fs : List DefA) (ex : PySem.W.Frag → List Bool) (K : PySem.W.Frag) : AlM := (He.obsD fa fn K, (fs.map (fnWA K), (fs.all fun d => d.ok K) && (ex K).all id))
def valM (fn : List He.DefD) (fs : List DefA) : AlM := (He.valD fn, (fs.map DefA.val, true))
structure SaysM (fa : List He.Fa) (fn : List He.DefD) (fs : List DefA) (ex : PySem.W.Frag → List Bool) (K : PySem.W.Frag) : Prop where
  d : He.SaysD fa fn K
  s : ∀ d ∈ fs, ∃ fd, FunD K d.name d.qual d.params d.body d.scope [] [] (d.at_ K) fd
  b : ∀ b ∈ ex K, b = true
theorem map_mem {α β : Type} {f g : α → β} : ∀ {l : List α}, l.map f = l.map g → ∀ a ∈ l, f a = g a
  | [], _, _, h => by cases h
  | x :: r, e, a, h => by
    rw [List.map_cons, List.map_cons] at e
    injection e with e1 e2
    rcases List.mem_cons.mp h with rfl | h
    · exact e1
    · exact map_mem e2 a h
theorem exN {l : List Bool} (h : ∀ b ∈ l, b = true) (i : Nat) {b : Bool} (e : l[i]? = some b) : b = true := h b (List.mem_of_getElem? e)
def obsMG (n : Nat) (fa : List He.Fa) (fn : List He.DefD) (fs : List DefA) (ex : PySem.W.Frag → List Bool) (g : Addr → Option Obj) : AlM := obsM fa fn fs ex (He.frG g (He.asD g n ++ [cStatics]))
theorem saysM_of {fa : List He.Fa} {fn : List He.DefD} {fs : List DefA} {ex : PySem.W.Frag → List Bool} {K : PySem.W.Frag} (e : obsM fa fn fs ex K = valM fn fs) : SaysM fa fn fs ex K := by
  have e1 : He.obsD fa fn K = He.valD fn := congrArg (fun z : AlM => z.1) e
  have e2 : fs.map (fnWA K) = fs.map DefA.val := congrArg (fun z : AlM => z.2.1) e
  have e3 : ((fs.all fun d => d.ok K) && (ex K).all id) = true := congrArg (fun z : AlM => z.2.2) e
  obtain ⟨e4, e5⟩ := He.ba e3
  exact ⟨e1, fun d hd => DefA.funD (map_mem e2 d hd) (List.all_eq_true.mp e4 d hd), fun b hb => List.all_eq_true.mp e5 b hb⟩
def hookM (n : Nat) (fa : List He.Fa) (fn : List He.DefD) (fs : List DefA) (ex : PySem.W.Frag → List Bool) : PySem.W.Hook where
  α := AlM
  obs := fun s => obsMG n fa fn fs ex s.heap.get?
  val := fun _ => valM fn fs
  says := fun _ h => ∃ K : PySem.W.Frag, K.In h ∧ SaysM fa fn fs ex K
  of := fun _ _ e => ⟨_, He.frG_in, saysM_of e⟩
  keeps := fun _ _ _ ⟨K, hK, c⟩ k => ⟨K, PySem.W.Frag.In.keeps hK k, c⟩
theorem obsMG_eq {n : Nat} {fa : List He.Fa} {fn : List He.DefD} {fs : List DefA} {ex : PySem.W.Frag → List Bool} {g : Addr → Option Obj} {s : Shared} (h : ∀ a, g a = s.heap.get? a) : obsMG n fa fn fs ex g = (hookM n fa fn fs ex).obs s := by
  have e : g = s.heap.get? := funext h
  rw [e] <;> rfl
/-! ### a module's constants -/
section
variable {X : Cx} {x : Str} {pos : Pos}
theorem pe_gint {i : Int} (hg : Gl X x) (h : ∃ t, X.mg x = some (.int i t)) (hd : (x == ("__debug__" : Str)) = false := by decide) : PE X (.Name x pos) (tC (.int i)) := by
  obtain ⟨t, h⟩ := h
  exact pe_glob hg h ⟨t, rfl⟩ hd
theorem pe_gstr {z : Str} (hg : Gl X x) (h : ∃ t, X.mg x = some (.str z t)) (hd : (x == ("__debug__" : Str)) = false := by decide) : PE X (.Name x pos) (tC (.str z)) := by
  obtain ⟨t, h⟩ := h
  exact pe_glob hg h ⟨t, rfl⟩ hd
end
end PW
/-! ### readings, one step at a time -/
namespace PW
open PySem PySem.Spec PyProof.Rows L2
section
variable {σ : L2.St} {H : Hp} {Q : VK} {D : Ends} {v x y : V} {i j : Int} {n m : Nat} {ta tb tc te : TE} {t u : TT} {s1 s2 : TS} {r r' : R2} {K : PySem.W.Frag} {tA tR : TA}
theorem r_var (h : σ[n]? = some (some v)) (q : Q v H) : tVar n σ H Q := ⟨v, h, q⟩
theorem r_c (q : Q v H) : tC v σ H Q := q
theorem r_op (h : ta σ H fun x H1 => tb σ H1 fun y H2 => r x y H2 Q) : tOp r ta tb σ H Q := h
theorem r_un {r : V → Hp → VK → Prop} (h : ta σ H fun x H1 => r x H1 Q) : tUn r ta σ H Q := h
theorem r_chain (h : ta σ H fun x H1 => tb σ H1 fun y H2 => r x y H2 fun z H3 => ∃ k, z = .bl k ∧ (if k = true then tc σ H3 fun w' H4 => r' y w' H4 Q else Q (.bl false) H3)) : tChain r r' ta tb tc σ H Q := h
theorem r_test {Q : Bool → Hp → Prop} (h : te σ H fun x H' => ∃ k, x = .bl k ∧ Q k H') : tTest te σ H Q := h
theorem r_b {Q : Bool → Hp → Prop} (h : te σ H fun x H' => ∃ k, x = .bl k ∧ Q k H') : tB te σ H Q := h
theorem r_bl {b : Bool} {Q : Bool → Prop} (q : Q b) : ∃ k, V.bl b = .bl k ∧ Q k := ⟨b, rfl, q⟩
theorem r_bl' {b : Bool} {Q : Bool → Hp → Prop} (q : Q b H) : ∃ k, V.bl b = .bl k ∧ Q k H := ⟨b, rfl, q⟩
theorem r_not {Q : Bool → Hp → Prop} (h : t σ H fun c H1 => Q (!c) H1) : tNot t σ H Q := h
theorem r_and {Q : Bool → Hp → Prop} (h : t σ H fun c H1 => if c = true then u σ H1 Q else Q false H1) : tAnd t u σ H Q := h
theorem r_or {Q : Bool → Hp → Prop} (h : t σ H fun c H1 => if c = true then Q true H1 else u σ H1 Q) : tOr t u σ H Q := h
theorem r_andV (h : ta σ H fun x H1 => ∃ c, x = .bl c ∧ if c = true then tb σ H1 Q else Q (.bl false) H1) : tAndV ta tb σ H Q := h
theorem r_orV (h : ta σ H fun x H1 => ∃ c, x = .bl c ∧ if c = true then Q (.bl true) H1 else tb σ H1 Q) : tOrV ta tb σ H Q := h
theorem r_notV (h : ta σ H fun x H1 => ∃ c, x = .bl c ∧ Q (.bl (!c)) H1) : tNotV ta σ H Q := h
theorem r_isN (h : ta σ H fun x H1 => Q (.bl (decide (x = .non))) H1) : tIsN ta σ H Q := h
theorem r_notN (h : ta σ H fun x H1 => Q (.bl (!decide (x = .non))) H1) : tNotN ta σ H Q := h
theorem r_ifE (h : t σ H fun c H1 => if c = true then ta σ H1 Q else tb σ H1 Q) : tIf t ta tb σ H Q := h
theorem r_ifS (h : t σ H fun b H1 => if b = true then s1 D σ H1 else s2 D σ H1) : tIfS t s1 s2 D σ H := h
theorem r_seq (h : s1 { D with nx := s2 D } σ H) : tSeq s1 s2 D σ H := h
theorem r_next (h : D.nx σ H) : tNext D σ H := h
theorem r_brk (h : D.bk σ H) : tBreak D σ H := h
theorem r_cnt (h : D.ct σ H) : tCont D σ H := h
theorem r_ret (h : te σ H D.rt) : tRet te D σ H := h
theorem r_retN (h : D.rt .non H) : tRetN D σ H := h
theorem r_drop (h : te σ H fun _ H1 => D.nx σ H1) : tDrop te D σ H := h
theorem r_asg {g : TG} (h : te σ H fun x H1 => g x σ H1 D.nx) : tAsg te g D σ H := h
theorem r_gname {Q : L2.St → Hp → Prop} (h : Q (σ.set n (some v)) H) : gName n v σ H Q := h
theorem r_gsub {to ti : TE} {ts : TSet} {Q : L2.St → Hp → Prop} (h : to σ H fun o H1 => ti σ H1 fun i H2 => ts o i v H2 fun H3 => Q σ H3) : gSub to ti ts v σ H Q := h
theorem r_aug {ti : TIp} (hx : σ[n]? = some (some x)) (h : te σ H fun y H1 => ti x y H1 fun z H2 => D.nx (σ.set n (some z)) H2) : tAug n te ti D σ H := ⟨x, hx, h⟩
theorem r_ipI {g : Int → Int → Int} {Q : VK} (q : Q (.int (g i j)) H) : ipI g (.int i) (.int j) H Q := ⟨i, j, rfl, rfl, q⟩
theorem r_nil {Q : List V → Hp → Prop} (h : Q [] H) : tNil σ H Q := h
theorem r_cons {Q : List V → Hp → Prop} (h : ta σ H fun x H1 => tR σ H1 fun xs H2 => Q (x :: xs) H2) : tCons ta tR σ H Q := h
theorem r_cb {r : List V → Hp → VK → Prop} (h : tA σ H fun vs H1 => r vs H1 Q) : tCB r tA σ H Q := h
theorem r_call {sp : Sp} {dvs : List V} {E : XK} (h : tA σ H fun vs H1 => sp (vs ++ dvs) H1 Q E) : tCall sp dvs E tA σ H Q := h
theorem r_I0 {g : Int → Int → V} (q : Q (g i j) H) : rI0 g (.int i) (.int j) H Q := ⟨i, j, rfl, rfl, q⟩
theorem r_I {C : Int → Int → Prop} {g : Int → Int → V} (c : C i j) (q : Q (g i j) H) : rI C g (.int i) (.int j) H Q := ⟨i, j, rfl, rfl, c, q⟩
theorem r_U {g : Int → V} (q : Q (g i) H) : rU g (.int i) H Q := ⟨i, rfl, q⟩
theorem r_eq (h : scal x y = true) (q : Q (.bl (decide (x = y))) H) : rEq x y H Q := ⟨h, q⟩
theorem r_ne (h : scal x y = true) (q : Q (.bl (!decide (x = y))) H) : rNe x y H Q := ⟨h, q⟩
theorem r_ixL {p : Addr} {xs : List V} (h : SqL K H p xs) (a : atI xs i = some v) (q : Q v H) : rIxL K (.ref p) (.int i) H Q := ⟨p, xs, i, v, rfl, rfl, h, a, q⟩
theorem r_ixT {p : Addr} {xs : List V} (h : SqT K H p xs) (a : atI xs i = some v) (q : Q v H) : rIxT K (.ref p) (.int i) H Q := ⟨p, xs, i, v, rfl, rfl, h, a, q⟩
theorem r_setL {p : Addr} {xs : List V} {k : Nat} {Q : Hp → Prop} (h : H p = some (.lst xs)) (e : ixN xs.length i = some k) (q : Q (upd H p (.lst (xs.set k v)))) : rSetL (.ref p) (.int i) v H Q := ⟨p, xs, i, k, rfl, rfl, h, e, q⟩
theorem r_lst {l : Nat} (hl : l = l) (h : tA σ H fun xs H1 => xs.length ≤ sizeLine ∧ ∀ p, H1 p = none → Q (.ref p) (upd H1 p (.lst xs))) : tLst tA σ H Q := h
theorem r_lst1 {xs : List V} {R : Prop} (hl : xs.length ≤ 100000) (h : R) : xs.length ≤ sizeLine ∧ R := ⟨Nat.le_trans hl (by decide), h⟩
theorem r_tup (h : tA σ H fun xs H1 => xs.length ≤ sizeLine ∧ ∀ p, H1 p = none → Q (.ref p) (upd H1 p (.tup xs))) : tTup tA σ H Q := h
theorem r_ifT {A B : Prop} (h : A) : if true = true then A else B := by rw [if_pos rfl]; exact h
theorem r_ifF {A B : Prop} (h : B) : if false = true then A else B := by rw [if_neg Bool.false_ne_true]; exact h
theorem r_ifT' {c : Bool} {A B : Prop} (e : c = true) (h : A) : if c = true then A else B := by rw [if_pos e]; exact h
theorem r_ifF' {c : Bool} {A B : Prop} (e : c = false) (h : B) : if c = true then A else B := by rw [if_neg (by rw [e]; exact Bool.false_ne_true)]; exact h
theorem r_if2 {c : Bool} {A B : Prop} (h1 : c = true → A) (h2 : c = false → B) : if c = true then A else B := by
  cases c with
  | true => exact r_ifT (h1 rfl)
  | false => exact r_ifF (h2 rfl)
theorem r_int1 {Q : VK} (q : Q (.int i) H) : (∃ k, [V.int i] = [.int k] ∧ Q (.int k) H) ∨ ∃ k, [V.int i] = [.bl k] ∧ Q (.int (if k then 1 else 0)) H := .inl ⟨i, rfl, q⟩
theorem r_part {Q : Option Int → Hp → Prop} (h : te σ H fun x H1 => ∃ i, x = .int i ∧ Q (some i) H1) : tPart te σ H Q := h
theorem r_exI {R : Int → Prop} (h : R i) : ∃ k, V.int i = .int k ∧ R k := ⟨i, rfl, h⟩
theorem r_noPart {Q : Option Int → Hp → Prop} (h : Q none H) : tNoPart σ H Q := h
theorem r_sl {rs : V → Option Int → Option Int → Hp → VK → Prop} {tl th : TO} (h : te σ H fun x H1 => tl σ H1 fun l H2 => th σ H2 fun u H3 => rs x l u H3 Q) : tSl rs te tl th σ H Q := h
theorem r_slL {p : Addr} {xs : List V} {lo hi : Option Int} (h : SqL K H p xs) (q : ∀ l, H l = none → Q (.ref l) (upd H l (.lst (cutV xs lo hi)))) : rSlL K (.ref p) lo hi H Q := ⟨p, xs, rfl, h, q⟩
theorem r_slS {z : Str} {lo hi : Option Int} (h : z.length ≤ sizeLine) (q : Q (.str (cutS z lo hi)) H) : rSlS (.str z) lo hi H Q := ⟨z, rfl, h, q⟩
end
end PW
namespace PW
open PySem PySem.Spec PyProof.Rows L2
theorem cmx {i j : Int} (h1 : -(2 ^ 64) < i) (h2 : i < 2 ^ 64) (h3 : -(2 ^ 64) < j) (h4 : j < 2 ^ 64) : CMulX i j := mulx_ok (a := 64) (b := 64) (by omega) (by omega) (by decide)
theorem cdw {i j : Int} (h : 0 < j) (h2 : j < 2 ^ 64) : CDivW i j := wide_div (b := 64) h (by omega) (by decide) (by decide)
end PW
namespace PW
open PySem PySem.Spec PyProof.Rows L2
theorem cpow {i j : Int} (h : 0 ≤ j) (h2 : j ≤ 1000) (h3 : -(2 ^ 64) < i) (h4 : i < 2 ^ 64) : CPow i j := ⟨h, by omega, by omega⟩
theorem cdw2 {i j : Int} (h : 0 < j) (h2 : j.natAbs.log2 < 9000) : CDivW i j := ⟨h, h2⟩
/-! ### built-ins by named readings -/
def cInt : List V → Hp → VK → Prop := fun xs H Q => (∃ i, xs = [.int i] ∧ Q (.int i) H) ∨ ∃ k, xs = [.bl k] ∧ Q (.int (if k then 1 else 0)) H
def cLen (K : PySem.W.Frag) : List V → Hp → VK → Prop := fun xs H Q => ∃ x n, xs = [x] ∧ LenV K x H n ∧ Q (.int n) H
def cAbs : List V → Hp → VK → Prop := fun xs H Q => ∃ i, xs = [.int i] ∧ Q (.int (if i < 0 then -i else i)) H
def cMax : List V → Hp → VK → Prop := fun xs H Q => ∃ i j, xs = [.int i, .int j] ∧ Q (.int (if j > i then j else i)) H
def cMin : List V → Hp → VK → Prop := fun xs H Q => ∃ i j, xs = [.int i, .int j] ∧ Q (.int (if j < i then j else i)) H
def cList (K : PySem.W.Frag) : List V → Hp → VK → Prop := fun xs H Q => ∃ p ys, xs = [.ref p] ∧ (SqL K H p ys ∨ SqT K H p ys) ∧ ∀ l, H l = none → Q (.ref l) (upd H l (.lst ys))
def cTuple (K : PySem.W.Frag) : List V → Hp → VK → Prop := fun xs H Q => ∃ p ys, xs = [.ref p] ∧ ((SqL K H p ys ∧ ∀ l, H l = none → Q (.ref l) (upd H l (.tup ys))) ∨ (SqT K H p ys ∧ Q (.ref p) H))
def oAddS : R2 := fun x y H Q => ∃ i j, x = .str i ∧ y = .str j ∧ i.length + j.length ≤ sizeLine ∧ Q (.str (i ++ j)) H
section
variable {X : Cx}
theorem call_intN : CallR X (.type "int") cInt := call_int1
theorem call_lenN : CallR X (.builtin "len") (cLen X.K) := call_len
theorem call_absN : CallR X (.builtin "abs") cAbs := call_abs
theorem call_maxN (hc : X.calm = true) : CallR X (.builtin "max") cMax := call_max2 hc
theorem call_minN (hc : X.calm = true) : CallR X (.builtin "min") cMin := call_min2 hc
theorem call_listN : CallR X (.type "list") (cList X.K) := call_list_of
theorem call_tupleN : CallR X (.type "tuple") (cTuple X.K) := call_tuple_of
theorem op_addSN : OpR X (binaryOp .Add) oAddS := op_add_str
end
section
variable {H : Hp} {Q : VK} {i j : Int} {k : Bool} {K : PySem.W.Frag} {p : Addr} {ys : List V} {z z' : Str}
theorem r_cInt (q : Q (.int i) H) : cInt [.int i] H Q := .inl ⟨i, rfl, q⟩
theorem r_cLenS (h : z.length ≤ sizeLine) (q : Q (.int (z.length : Nat)) H) : cLen K [.str z] H Q := ⟨.str z, z.length, rfl, ⟨h, rfl⟩, q⟩
theorem r_cLenL (h : SqL K H p ys) (q : Q (.int (ys.length : Nat)) H) : cLen K [.ref p] H Q := ⟨.ref p, ys.length, rfl, .inl ⟨ys, h, rfl⟩, q⟩
theorem r_cLenT (h : SqT K H p ys) (q : Q (.int (ys.length : Nat)) H) : cLen K [.ref p] H Q := ⟨.ref p, ys.length, rfl, .inr ⟨ys, h, rfl⟩, q⟩
theorem r_cAbs (q : Q (.int (if i < 0 then -i else i)) H) : cAbs [.int i] H Q := ⟨i, rfl, q⟩
theorem r_cMax (q : Q (.int (if j > i then j else i)) H) : cMax [.int i, .int j] H Q := ⟨i, j, rfl, q⟩
theorem r_cMin (q : Q (.int (if j < i then j else i)) H) : cMin [.int i, .int j] H Q := ⟨i, j, rfl, q⟩
theorem r_cListL (h : SqL K H p ys) (q : ∀ l, H l = none → Q (.ref l) (upd H l (.lst ys))) : cList K [.ref p] H Q := ⟨p, ys, rfl, .inl h, q⟩
theorem r_cListT (h : SqT K H p ys) (q : ∀ l, H l = none → Q (.ref l) (upd H l (.lst ys))) : cList K [.ref p] H Q := ⟨p, ys, rfl, .inr h, q⟩
theorem r_cTupleL (h : SqL K H p ys) (q : ∀ l, H l = none → Q (.ref l) (upd H l (.tup ys))) : cTuple K [.ref p] H Q := ⟨p, ys, rfl, .inl ⟨h, q⟩⟩
theorem r_addS (h : z.length + z'.length ≤ sizeLine) (q : Q (.str (z ++ z')) H) : oAddS (.str z) (.str z') H Q := ⟨z, z', rfl, rfl, h, q⟩
end
end PW
namespace PW
open PySem PySem.Spec PyProof.Rows L2
section
variable {H : Hp} {Q : VK} {i : Int} {K : PySem.W.Frag} {p : Addr} {xs : List V} {v : V} {z : Str} {c : Nat}
theorem r_ixqL (h : SqL K H p xs) (a : atI xs i = some v) (q : Q v H) : rIx K (.ref p) (.int i) H Q := .inl (r_ixL h a q)
theorem r_ixqT (h : SqT K H p xs) (a : atI xs i = some v) (q : Q v H) : rIx K (.ref p) (.int i) H Q := .inr (.inl (r_ixT h a q))
theorem r_ixqS (h : z.length ≤ sizeLine) (a : atI z.cps.toList i = some c) (q : Q (.str ⟨#[c]⟩) H) : rIx K (.str z) (.int i) H Q := .inr (.inr ⟨z, i, c, rfl, rfl, h, a, q⟩)
theorem atI_mem {α : Type} {xs : List α} {i : Int} (h0 : 0 ≤ i) (h : i < (xs.length : Int)) : ∃ v, v ∈ xs ∧ atI xs i = some v := by
  have hl : i.toNat < xs.length := by omega
  have e : i = (i.toNat : Int) := by omega
  have h2 : atI xs (i.toNat : Int) = some xs[i.toNat] := atI_nat (List.getElem?_eq_getElem hl)
  exact ⟨_, List.getElem_mem hl, by rw [← e] at h2; exact h2⟩
end
end PW
namespace PW
open PySem PySem.Spec PyProof.Rows L2
/-! ### heaps that grow -/
def Ex (H H' : Hp) : Prop := ∀ a o, H a = some o → H' a = some o
theorem Ex.refl (H : Hp) : Ex H H := fun _ _ h => h
theorem Ex.trans {H H1 H2 : Hp} (a : Ex H H1) (b : Ex H1 H2) : Ex H H2 := fun c o h => b c o (a c o h)
theorem Ex.new {H : Hp} {p : Addr} {o : HO} (h : H p = none) : Ex H (L2.upd H p o) := fun a u e => by
  rw [upd_ne (ne_of_none e h)]
  exact e
theorem Ex.newT {H H1 : Hp} {p : Addr} {o : HO} (x : Ex H H1) (h : H1 p = none) : Ex H (L2.upd H1 p o) := x.trans (Ex.new h)
theorem Ex.free {H H' : Hp} {p : Addr} (e : Ex H H') (h : H' p = none) : H p = none := Same.free e h
/-- an object that H does not know may change -/
theorem Ex.mut {H H' : Hp} {p : Addr} {o : HO} (e : Ex H H') (h : H p = none) : Ex H (L2.upd H' p o) := fun a u ha => by
  rw [upd_ne (ne_of_none ha h)]
  exact e a u ha
theorem Ex.tup {K : PySem.W.Frag} {p : Addr} {H H' : Hp} {xs : List V} (e : Ex H H') (h : SqT K H p xs) : SqT K H' p xs := by
  rcases h with (h | ⟨o, h⟩) | h
  · exact .inl (.inl (e _ _ h))
  · exact .inl (.inr ⟨o, e _ _ h⟩)
  · exact .inr h
theorem Ex.lst {K : PySem.W.Frag} {p : Addr} {H H' : Hp} {xs : List V} (e : Ex H H') (h : SqL K H p xs) : SqL K H' p xs := by
  rcases h with (h | ⟨o, h⟩) | h
  · exact .inl (.inl (e _ _ h))
  · exact .inl (.inr ⟨o, e _ _ h⟩)
  · exact .inr h
/-! ### isinstance, targets, comprehensions -/
section
variable {K : PySem.W.Frag} {H : Hp} {Q : VK} {x v : V} {n m m1 m2 : String} {b b1 b2 : Bool} {tp a : Addr} {σ : L2.St} {xs r : List V} {k : Nat}
theorem r_isi (h : TyX K H x (.type n)) (e : kitB n m = some b) (q : Q (.bl b) H) : rIsi K [x, .ty m] H Q := ⟨x, .ty m, .type n, .type m, b, rfl, .ty m, h, kit_ty e, q⟩
theorem r_isiT2 (ht : H tp = some (.tup [.ty m1, .ty m2])) (h : TyX K H x (.type n)) (e1 : kitB n m1 = some b1) (e2 : kitB n m2 = some b2) (q : Q (.bl (b1 || b2)) H) : rIsiT K [x, .ref tp] H Q := by
  refine ⟨x, tp, [.ty m1, .ty m2], .type n, [.type m1, .type m2], b1 || b2, rfl, ht, .cons (.ty m1) (.cons (.ty m2) .nil), h, ?_, q⟩
  refine kitAny_cons (kit_ty e1) (fun h1 => ?_) (fun h1 => by rw [h1]; rfl)
  rw [h1, Bool.false_or]
  exact kitAny_cons (kit_ty e2) (fun h2 => by rw [h2]; exact kitAny_nil) fun h2 => h2
theorem r_gtup {t : List V → L2.St → Hp → (L2.St → Hp → Prop) → Prop} {Q : L2.St → Hp → Prop} (h : SqT K H a xs) (l : xs.length = k) (q : t xs σ H Q) : gTup K k t (.ref a) σ H Q := ⟨a, xs, rfl, h, l, q⟩
theorem r_gcons {t : TG} {u : List V → L2.St → Hp → (L2.St → Hp → Prop) → Prop} {Q : L2.St → Hp → Prop} (q : t v σ H fun σ' H' => u r σ' H' Q) : gCons t u (v :: r) σ H Q := ⟨v, r, rfl, q⟩
theorem r_gnil {Q : L2.St → Hp → Prop} (q : Q σ H) : gNil [] σ H Q := ⟨rfl, q⟩
theorem r_yes {Q : Bool → Hp → Prop} (q : Q true H) : tYes σ H Q := q
theorem r_lc {wi : TI} {g : TG} {tt : TT} {te : TE} {vs : List Nat} (h : wi σ H fun J H1 => ∀ D, H1 D = none → ∃ W : Nat → Nat → Hp → Prop, (∃ m, W 0 m (upd H1 D (.lst []))) ∧ ∀ i m H, W i m H →
  (J.stop i H ∧ Q (.ref D) H) ∨ (J.go i H ∧ ∃ Nx : Hp → Prop, (∀ H', Nx H' → ∃ m', m' < m ∧ W (i + 1) m' H') ∧ ∀ x H', J.yld i H x H' → g x (wipe σ vs) H' fun σ2 H2 => wipe σ2 vs = wipe σ vs ∧ tt σ2 H2 fun b H3 =>
    if b = true then te σ2 H3 fun y H4 => ∃ acc, H4 D = some (.lst acc) ∧ acc.length < sizeLine ∧ Nx (upd H4 D (.lst (acc ++ [y]))) else Nx H3)) : tLc wi g tt te vs σ H Q := h
theorem r_all {bs : List Bool} (h : SqL K H a (bs.map V.bl)) (q : Q (.bl (bs.all id)) H) : rAll K [.ref a] H Q := ⟨a, bs, rfl, h, q⟩
theorem r_any {bs : List Bool} (h : SqL K H a (bs.map V.bl)) (q : Q (.bl (bs.any id)) H) : rAny K [.ref a] H Q := ⟨a, bs, rfl, h, q⟩
end
theorem replicate_all (n : Nat) : (List.replicate n true).all id = true := by
  induction n with
  | zero => rfl
  | succ n ih => rw [List.replicate_succ, List.all_cons, ih]; rfl
end PW
namespace PW
open PySem PySem.Spec PyProof.Rows L2
section
variable {X : Cx} {es : List Expr} {e : Expr} {k n i : Nat} {t : TG} {u : TGs} {pos : Pos} {x : Str}
theorem pg_tupX {K : PySem.W.Frag} (hK : X.K = K) (hc : X.calm = true) (hn : (assignEach es X.env).length = n) (hst : (assignEach es X.env).findIdx? (·.1) = none) (h : PGs X es u) : PG X (.Tuple es k pos) (gTup K n u) := by
  subst hK
  exact pg_tup hc h hn hst
theorem pgs_consX (hs : (assignEach (e :: es) X.env).map (·.2) = assign e X.env :: (assignEach es X.env).map (·.2)) (h1 : PG X e t) (h2 : PGs X es u) : PGs X (e :: es) (gCons t u) := pgs_cons h1 h2 hs
theorem pg_nameX (i : Nat) (hN : X.N.Nodup) (hi : X.N[i]? = some x) (hx : Loc X.env.scope x) (hf : X.fn x = true ∨ X.env.scope.names.lookup x = some .local) : PG X (.Name x pos) (gName i) := pg_name hN hi hx hf
end
end PW
namespace PW
open L2
theorem kb_NoneType_bool : kitB "NoneType" "bool" = some false := by decide +kernel
theorem kb_NoneType_int : kitB "NoneType" "int" = some false := by decide +kernel
theorem kb_NoneType_str : kitB "NoneType" "str" = some false := by decide +kernel
theorem kb_NoneType_list : kitB "NoneType" "list" = some false := by decide +kernel
theorem kb_NoneType_tuple : kitB "NoneType" "tuple" = some false := by decide +kernel
theorem kb_NoneType_dict : kitB "NoneType" "dict" = some false := by decide +kernel
theorem kb_bool_bool : kitB "bool" "bool" = some true := by decide +kernel
theorem kb_bool_int : kitB "bool" "int" = some true := by decide +kernel
theorem kb_bool_str : kitB "bool" "str" = some false := by decide +kernel
theorem kb_bool_list : kitB "bool" "list" = some false := by decide +kernel
theorem kb_bool_tuple : kitB "bool" "tuple" = some false := by decide +kernel
theorem kb_bool_dict : kitB "bool" "dict" = some false := by decide +kernel
theorem kb_int_bool : kitB "int" "bool" = some false := by decide +kernel
theorem kb_int_int : kitB "int" "int" = some true := by decide +kernel
theorem kb_int_str : kitB "int" "str" = some false := by decide +kernel
theorem kb_int_list : kitB "int" "list" = some false := by decide +kernel
theorem kb_int_tuple : kitB "int" "tuple" = some false := by decide +kernel
theorem kb_int_dict : kitB "int" "dict" = some false := by decide +kernel
theorem kb_str_bool : kitB "str" "bool" = some false := by decide +kernel
theorem kb_str_int : kitB "str" "int" = some false := by decide +kernel
theorem kb_str_str : kitB "str" "str" = some true := by decide +kernel
theorem kb_str_list : kitB "str" "list" = some false := by decide +kernel
theorem kb_str_tuple : kitB "str" "tuple" = some false := by decide +kernel
theorem kb_str_dict : kitB "str" "dict" = some false := by decide +kernel
theorem kb_list_bool : kitB "list" "bool" = some false := by decide +kernel
theorem kb_list_int : kitB "list" "int" = some false := by decide +kernel
theorem kb_list_str : kitB "list" "str" = some false := by decide +kernel
theorem kb_list_list : kitB "list" "list" = some true := by decide +kernel
theorem kb_list_tuple : kitB "list" "tuple" = some false := by decide +kernel
theorem kb_list_dict : kitB "list" "dict" = some false := by decide +kernel
theorem kb_tuple_bool : kitB "tuple" "bool" = some false := by decide +kernel
theorem kb_tuple_int : kitB "tuple" "int" = some false := by decide +kernel
theorem kb_tuple_str : kitB "tuple" "str" = some false := by decide +kernel
theorem kb_tuple_list : kitB "tuple" "list" = some false := by decide +kernel
theorem kb_tuple_tuple : kitB "tuple" "tuple" = some true := by decide +kernel
theorem kb_tuple_dict : kitB "tuple" "dict" = some false := by decide +kernel
end PW
namespace PW
open PySem PySem.Spec PyProof.Rows L2
section
variable {H : Hp} {Q : VK} {x y : V}
theorem r_eqT (h : scal x x = true) (q : Q (.bl true) H) : rEq x x H Q := ⟨h, by rw [decide_eq_true rfl]; exact q⟩
theorem r_neT (h : scal x x = true) (q : Q (.bl false) H) : rNe x x H Q := ⟨h, by rw [decide_eq_true rfl]; exact q⟩
theorem r_eqF (h : scal x y = true) (n : ¬ x = y) (q : Q (.bl false) H) : rEq x y H Q := ⟨h, by rw [decide_eq_false n]; exact q⟩
theorem r_neF (h : scal x y = true) (n : ¬ x = y) (q : Q (.bl true) H) : rNe x y H Q := ⟨h, by rw [decide_eq_false n]; exact q⟩
end
end PW
namespace PW
open PySem PySem.Spec PyProof.Rows L2
theorem walk_zipT {K : PySem.W.Frag} {a b : Addr} {xs ys : List V} {n : Nat} (hn : n = min xs.length ys.length) : Walk (RZ.ItzT K a b) n (fun H => SqT K H a xs ∧ SqT K H b ys) (YPair (fun i => xs[i]?) (fun i => ys[i]?)) := by
  subst hn
  refine ⟨fun i _ hi q => ?_, fun _ q => ⟨xs, ys, q.1, q.2, by omega⟩, fun i H v H' _ q y => ?_⟩
  · have h1 : i < xs.length := by omega
    have h2 : i < ys.length := by omega
    exact ⟨xs, ys, xs[i], ys[i], q.1, q.2, by simp [h1], by simp [h2]⟩
  · obtain ⟨T, x, z, h1, h2, h3, h4, h5⟩ := y
    exact ⟨T, x, z, h1, h2, h3, h4 xs q.1, h5 ys q.2⟩
/-- a comprehension's turns over J, the new list at D -/
def LcW (J : It) (g : TG) (tt : TT) (te : TE) (vs : List Nat) (σ : L2.St) (H1 : Hp) (D : Addr) (Qd : Hp → Prop) : Prop :=
  ∃ W : Nat → Nat → Hp → Prop, (∃ m, W 0 m (upd H1 D (.lst []))) ∧ ∀ i m H, W i m H →
      (J.stop i H ∧ Qd H) ∨ (J.go i H ∧ ∃ Nx : Hp → Prop, (∀ H', Nx H' → ∃ m', m' < m ∧ W (i + 1) m' H') ∧ ∀ x H', J.yld i H x H' → g x (wipe σ vs) H' fun σ2 H2 => wipe σ2 vs = wipe σ vs ∧ tt σ2 H2 fun b H3 =>
        if b = true then te σ2 H3 fun y H4 => ∃ acc, H4 D = some (.lst acc) ∧ acc.length < sizeLine ∧ Nx (upd H4 D (.lst (acc ++ [y]))) else Nx H3)
/-- the heap without what stands at D -/
def hide (H : Hp) (D : Addr) : Hp := fun a => if a = D then none else H a
theorem hide_ne {H : Hp} {D a : Addr} (h : a ≠ D) : hide H D a = H a := by unfold hide; rw [if_neg h]
theorem hide_same {H : Hp} {D : Addr} : hide H D D = none := by unfold hide; rw [if_pos rfl]
theorem Ex.hide (H : Hp) (D : Addr) : Ex (hide H D) H := fun a o h => by
  by_cases e : a = D
  · subst e
    rw [hide_same] at h
    cases h
  · rw [hide_ne e] at h
    exact h
theorem hide_upd {H : Hp} {D : Addr} {o : HO} : hide (L2.upd H D o) D = hide H D := by
  funext a
  unfold PW.hide
  by_cases e : a = D
  · rw [if_pos e, if_pos e]
  · rw [if_neg e, if_neg e, upd_ne e]
theorem Ex.hides {H H' : Hp} (e : Ex H H') (D : Addr) : Ex (PW.hide H D) (PW.hide H' D) := fun a o h => by
  by_cases q : a = D
  · subst q
    rw [hide_same] at h
    cases h
  · rw [hide_ne q] at h ⊢
    exact e a o h
/-- .. over a walk whose place stays while the heap grows; no test; each element is told by E (of the heap without the new list) and leaves what was tracked -/
theorem lc_grow {J : It} {n : Nat} {G : Hp → Prop} {Y : Nat → Hp → V → Hp → Prop} (w : Walk J n G Y) {g : TG} {te : TE} {vs : List Nat} {σ : L2.St} {H1 : Hp} {D : Addr} {Qd : Hp → Prop} {σw : L2.St} (hw : wipe σ vs = σw) (E : Nat → Hp → V → Prop) (hD : H1 D = none) (hn : n ≤ 100000)
    (hG : ∀ H, Ex H1 H → G H) (hE : ∀ i H H' v, Ex H H' → E i H v → E i H' v)
    (hs : ∀ i x H H' acc (R : VK), i < n → Ex H1 H → H D = some (.lst acc) → Y i H x H' → (∀ v H4, E i (hide H4 D) v → Ex H H4 → R v H4) → g x σw H' fun σ2 H2 => wipe σ2 vs = σw ∧ te σ2 H2 R)
    (hd : ∀ H acc, Ex H1 H → H D = some (.lst acc) → acc.length = n → (∀ i v, acc[i]? = some v → E i (hide H D) v) → Qd H) : LcW J g tYes te vs σ H1 D Qd := by
  subst hw
  refine lc_it w (fun i H => Ex H1 H ∧ ∃ acc, H D = some (.lst acc) ∧ acc.length = i ∧ ∀ j v, acc[j]? = some v → E j (hide H D) v) ?_ (fun i H _ p => hG H p.1) ?_ ?_
  · exact ⟨Ex.new hD, [], upd_same, rfl, fun j v e => by simp at e⟩
  · rintro i x H H' hi ⟨p, acc, ha, hl, hE2⟩ y
    refine hs i x H H' acc _ hi p ha y fun v H4 e x4 => ?_
    refine ⟨acc, x4 _ _ ha, Nat.lt_of_lt_of_le (show acc.length < 100001 by omega) (by decide), (p.trans x4).mut hD, acc ++ [v], upd_same, by rw [List.length_append, hl]; rfl, fun j u hj => ?_⟩
    rw [hide_upd]
    by_cases h : j < acc.length
    · rw [List.getElem?_append_left h] at hj
      exact hE j _ _ u (x4.hides D) (hE2 j u hj)
    · have hj2 : j = acc.length := by
        have h3 : j < (acc ++ [v]).length := (List.getElem?_eq_some_iff.mp hj).1
        rw [List.length_append] at h3
        have h4 : [v].length = 1 := rfl
        omega
      subst hj2
      rw [List.getElem?_append_right (Nat.le_refl _), Nat.sub_self] at hj
      injection hj with hj
      subst hj
      rw [hl]
      exact e
  · rintro H ⟨p, acc, ha, hl, hE2⟩
    exact hd H acc p ha hl hE2
/-- a list of truths -/
theorem all_true {acc : List V} (h : ∀ (i : Nat) v, acc[i]? = some v → v = .bl true) : acc = (List.replicate acc.length true).map V.bl := by
  refine List.ext_getElem? fun i => ?_
  rw [List.getElem?_map, List.getElem?_replicate]
  cases e : acc[i]? with
  | none => rw [if_neg (by have := List.getElem?_eq_none_iff.mp e; omega)]; rfl
  | some v => rw [if_pos (List.getElem?_eq_some_iff.mp e).1, h i v e]; rfl
end PW
namespace PW
open PySem PySem.Spec PyProof.Rows L2
/-! ### unlike kinds -/
def vKind : V → Nat
  | .non => 0
  | .bl _ => 1
  | .int _ => 2
  | .str _ => 3
  | .byt _ => 4
  | .flt _ => 5
  | .ref _ => 6
  | .ty _ => 7
theorem vne {x y : V} (h : (vKind x == vKind y) = false) : ¬ x = y := fun e => by
  subst e
  rw [beq_self_eq_true] at h
  cases h
theorem dec_self {α : Type} {x : α} [Decidable (x = x)] : decide (x = x) = true := decide_eq_true rfl
theorem dec_kind {x y : V} (h : (vKind x == vKind y) = false) : decide (x = y) = false := decide_eq_false (vne h)
theorem ndec_self {α : Type} {x : α} [Decidable (x = x)] : (!decide (x = x)) = false := by rw [dec_self]; rfl
theorem ndec_kind {x y : V} (h : (vKind x == vKind y) = false) : (!decide (x = y)) = true := by rw [dec_kind h]; rfl
def hoKind : HO → Nat
  | .lst _ => 0
  | .tup _ => 1
  | .dK _ => 2
  | .dT _ => 3
  | .set _ _ => 4
  | .ins _ _ _ => 5
  | .own _ => 6
  | .xd _ => 7
  | .met _ _ => 8
  | .rng _ _ => 9
  | .frz _ _ => 10
  | .tbl _ => 11
  | .ext _ => 12
theorem ne_ofK {H : Hp} {a b : Addr} {o u : HO} (h : H a = some o) (h' : H b = some u) (k : (hoKind o == hoKind u) = false) : a ≠ b := ne_of h h' fun e => by
  subst e
  rw [beq_self_eq_true] at k
  cases k
end PW
namespace PW
open PySem PySem.Spec PyProof.Rows L2
section
variable {K : PySem.W.Frag} {tA : TA} {te : TE} {σ : L2.St} {H : Hp} {R : It → Hp → Prop}
theorem r_iZip (h : tA σ H fun vs H1 => ∃ a b xs ys, vs = [.ref a, .ref b] ∧ ((SqL K H1 a xs ∧ SqL K H1 b ys ∧ R (Itz K a b) H1) ∨ (SqT K H1 a xs ∧ SqT K H1 b ys ∧ R (RZ.ItzT K a b) H1))) : RZ.iZipA K tA σ H R := h
theorem r_iRng1 (h : tA σ H fun vs H1 => ∃ j : Int, vs = [.int j] ∧ -(2 ^ 62) ≤ j ∧ j < 2 ^ 62 ∧ R (Itr 0 j.toNat) H1) : iRng1 tA σ H R := h
theorem r_iRng2 (h : tA σ H fun vs H1 => ∃ i j : Int, vs = [.int i, .int j] ∧ (-(2 ^ 62) ≤ i ∧ i < 2 ^ 62 ∧ -(2 ^ 62) ≤ j ∧ j < 2 ^ 62) ∧ R (Itr i (j - i).toNat) H1) : iRng2 tA σ H R := h
theorem r_iStr (h : te σ H fun v H1 => ∃ x, v = .str x ∧ R (Its x) H1) : iStr te σ H R := h
theorem r_iList (h : te σ H fun x H1 => ∃ a, x = .ref a ∧ (∃ xs, SqL K H1 a xs) ∧ R (Itl K a) H1) : iList K te σ H R := h
theorem r_iTup (h : te σ H fun x H1 => ∃ a, x = .ref a ∧ (∃ xs, SqT K H1 a xs) ∧ R (Itt K a) H1) : iTup K te σ H R := h
theorem r_iEnum (h : tA σ H fun vs H1 => ∃ a xs, vs = [.ref a] ∧ SqL K H1 a xs ∧ R (Ite K a) H1) : iEnum K tA σ H R := h
theorem r_for {wi : TI} {g : TG} {tb : TS} {D : Ends} (h : wi σ H fun J H1 => ∃ W : Nat → Nat → L2.St → Hp → Prop, (∃ m, W 0 m σ H1) ∧ ∀ i m σ H, W i m σ H →
  (J.stop i H ∧ D.nx σ H) ∨ (J.go i H ∧ ∃ N : L2.St → Hp → Prop, (∀ σ' H', N σ' H' → ∃ m', m' < m ∧ W (i + 1) m' σ' H') ∧ ∀ x H', J.yld i H x H' → g x σ H' fun σ2 H2 => tb { D with nx := N, ct := N, bk := D.nx } σ2 H2)) : tFor wi g tb D σ H := h
end
end PW
/-! ### one step of a reading, by instances -/
namespace PW
open PySem PySem.Spec PyProof.Rows L2
class Step (g : Prop) (n : outParam Prop) : Prop where
  imp : n → g
class Get (σ : List (Option V)) (n : Nat) (v : outParam V) : Prop where
  eq : σ[n]? = some (some v)
instance {v : V} {r : List (Option V)} : Get (some v :: r) 0 v := ⟨rfl⟩
instance {x : Option V} {r : List (Option V)} {n : Nat} {v : V} [h : Get r n v] : Get (x :: r) (n + 1) v := ⟨h.eq⟩
class Put (σ : List (Option V)) (n : Nat) (v : V) (τ : outParam (List (Option V))) : Prop where
  eq : σ.set n (some v) = τ
instance {v : V} {x : Option V} {r : List (Option V)} : Put (x :: r) 0 v (some v :: r) := ⟨rfl⟩
instance {x : Option V} {r τ : List (Option V)} {n : Nat} {v : V} [h : Put r n v τ] : Put (x :: r) (n + 1) v (x :: τ) := ⟨by rw [List.set_cons_succ, h.eq]⟩
class Scal (x y : V) : Prop where
  eq : scal x y = true
instance {i j : Int} : Scal (.int i) (.int j) := ⟨rfl⟩
instance {i j : Bool} : Scal (.bl i) (.bl j) := ⟨rfl⟩
instance {i j : Str} : Scal (.str i) (.str j) := ⟨rfl⟩
section
variable {σ τ : L2.St} {H : Hp} {Q : VK} {D : Ends} {v x y : V} {i j : Int} {n m : Nat} {ta tb tc te : TE} {t u : TT} {s1 s2 : TS} {r r' : R2} {K : PySem.W.Frag} {tA tR : TA}
instance [h : Get σ n v] : Step (tVar n σ H Q) (Q v H) := ⟨fun q => ⟨v, h.eq, q⟩⟩
instance : Step (tC v σ H Q) (Q v H) := ⟨id⟩
instance : Step (tOp r ta tb σ H Q) (ta σ H fun x H1 => tb σ H1 fun y H2 => r x y H2 Q) := ⟨id⟩
instance {r : V → Hp → VK → Prop} : Step (tUn r ta σ H Q) (ta σ H fun x H1 => r x H1 Q) := ⟨id⟩
instance : Step (tChain r r' ta tb tc σ H Q) (ta σ H fun x H1 => tb σ H1 fun y H2 => r x y H2 fun z H3 => ∃ k, z = .bl k ∧ (if k = true then tc σ H3 fun w' H4 => r' y w' H4 Q else Q (.bl false) H3)) := ⟨id⟩
instance {Q : Bool → Hp → Prop} : Step (tTest te σ H Q) (te σ H fun x H' => ∃ k, x = .bl k ∧ Q k H') := ⟨id⟩
instance {Q : Bool → Hp → Prop} : Step (tB te σ H Q) (te σ H fun x H' => ∃ k, x = .bl k ∧ Q k H') := ⟨id⟩
instance {b : Bool} {Q : Bool → Prop} : Step (∃ k, V.bl b = .bl k ∧ Q k) (Q b) := ⟨fun q => ⟨b, rfl, q⟩⟩
instance {Q : Int → Prop} : Step (∃ k, V.int i = .int k ∧ Q k) (Q i) := ⟨fun q => ⟨i, rfl, q⟩⟩
instance {z : Str} {Q : Str → Prop} : Step (∃ k, V.str z = .str k ∧ Q k) (Q z) := ⟨fun q => ⟨z, rfl, q⟩⟩
instance {Q : Bool → Hp → Prop} : Step (tNot t σ H Q) (t σ H fun c H1 => Q (!c) H1) := ⟨id⟩
instance {Q : Bool → Hp → Prop} : Step (tAnd t u σ H Q) (t σ H fun c H1 => if c = true then u σ H1 Q else Q false H1) := ⟨id⟩
instance {Q : Bool → Hp → Prop} : Step (tOr t u σ H Q) (t σ H fun c H1 => if c = true then Q true H1 else u σ H1 Q) := ⟨id⟩
instance : Step (tAndV ta tb σ H Q) (ta σ H fun x H1 => ∃ c, x = .bl c ∧ if c = true then tb σ H1 Q else Q (.bl false) H1) := ⟨id⟩
instance : Step (tOrV ta tb σ H Q) (ta σ H fun x H1 => ∃ c, x = .bl c ∧ if c = true then Q (.bl true) H1 else tb σ H1 Q) := ⟨id⟩
instance : Step (tNotV ta σ H Q) (ta σ H fun x H1 => ∃ c, x = .bl c ∧ Q (.bl (!c)) H1) := ⟨id⟩
instance : Step (tIsN ta σ H Q) (ta σ H fun x H1 => Q (.bl (decide (x = .non))) H1) := ⟨id⟩
instance : Step (tNotN ta σ H Q) (ta σ H fun x H1 => Q (.bl (!decide (x = .non))) H1) := ⟨id⟩
instance : Step (tIf t ta tb σ H Q) (t σ H fun c H1 => if c = true then ta σ H1 Q else tb σ H1 Q) := ⟨id⟩
instance : Step (tIfS t s1 s2 D σ H) (t σ H fun b H1 => if b = true then s1 D σ H1 else s2 D σ H1) := ⟨id⟩
instance : Step (tSeq s1 s2 D σ H) (s1 { D with nx := s2 D } σ H) := ⟨id⟩
instance : Step (tNext D σ H) (D.nx σ H) := ⟨id⟩
instance : Step (tBreak D σ H) (D.bk σ H) := ⟨id⟩
instance : Step (tCont D σ H) (D.ct σ H) := ⟨id⟩
instance : Step (tRet te D σ H) (te σ H D.rt) := ⟨id⟩
instance : Step (tRetN D σ H) (D.rt .non H) := ⟨id⟩
instance : Step (tDrop te D σ H) (te σ H fun _ H1 => D.nx σ H1) := ⟨id⟩
instance {g : TG} : Step (tAsg te g D σ H) (te σ H fun x H1 => g x σ H1 D.nx) := ⟨id⟩
instance {Q : L2.St → Hp → Prop} [h : Put σ n v τ] : Step (gName n v σ H Q) (Q τ H) := ⟨fun q => by
  show Q (σ.set n (some v)) H
  rw [h.eq]
  exact q⟩
instance {to ti : TE} {ts : TSet} {Q : L2.St → Hp → Prop} : Step (gSub to ti ts v σ H Q) (to σ H fun o H1 => ti σ H1 fun i H2 => ts o i v H2 fun H3 => Q σ H3) := ⟨id⟩
instance {ti : TIp} [h : Get σ n x] : Step (tAug n te ti D σ H) (te σ H fun y H1 => ti x y H1 fun z H2 => D.nx (σ.set n (some z)) H2) := ⟨fun q => ⟨x, h.eq, q⟩⟩
instance {g : Int → Int → Int} : Step (ipI g (.int i) (.int j) H Q) (Q (.int (g i j)) H) := ⟨fun q => ⟨i, j, rfl, rfl, q⟩⟩
instance {Q : List V → Hp → Prop} : Step (tNil σ H Q) (Q [] H) := ⟨id⟩
instance {Q : List V → Hp → Prop} : Step (tCons ta tR σ H Q) (ta σ H fun x H1 => tR σ H1 fun xs H2 => Q (x :: xs) H2) := ⟨id⟩
instance {r : List V → Hp → VK → Prop} : Step (tCB r tA σ H Q) (tA σ H fun vs H1 => r vs H1 Q) := ⟨id⟩
instance {sp : Sp} {dvs : List V} {E : XK} : Step (tCall sp dvs E tA σ H Q) (tA σ H fun vs H1 => sp (vs ++ dvs) H1 Q E) := ⟨id⟩
instance {g : Int → Int → V} : Step (rI0 g (.int i) (.int j) H Q) (Q (g i j) H) := ⟨fun q => ⟨i, j, rfl, rfl, q⟩⟩
instance {g : Int → V} : Step (rU g (.int i) H Q) (Q (g i) H) := ⟨fun q => ⟨i, rfl, q⟩⟩
instance (priority := high) [s : Scal x x] : Step (rEq x x H Q) (Q (.bl true) H) := ⟨r_eqT s.eq⟩
instance (priority := high) [s : Scal x x] : Step (rNe x x H Q) (Q (.bl false) H) := ⟨r_neT s.eq⟩
instance [s : Scal x y] : Step (rEq x y H Q) (Q (.bl (decide (x = y))) H) := ⟨fun q => ⟨s.eq, q⟩⟩
instance [s : Scal x y] : Step (rNe x y H Q) (Q (.bl (!decide (x = y))) H) := ⟨fun q => ⟨s.eq, q⟩⟩
instance : Step (tLst tA σ H Q) (tA σ H fun xs H1 => xs.length ≤ sizeLine ∧ ∀ p, H1 p = none → Q (.ref p) (upd H1 p (.lst xs))) := ⟨id⟩
instance : Step (tTup tA σ H Q) (tA σ H fun xs H1 => xs.length ≤ sizeLine ∧ ∀ p, H1 p = none → Q (.ref p) (upd H1 p (.tup xs))) := ⟨id⟩
instance {A B : Prop} : Step (if true = true then A else B) A := ⟨r_ifT⟩
instance {A B : Prop} : Step (if false = true then A else B) B := ⟨r_ifF⟩
instance : Step (cInt [.int i] H Q) (Q (.int i) H) := ⟨r_cInt⟩
instance : Step (cAbs [.int i] H Q) (Q (.int (if i < 0 then -i else i)) H) := ⟨r_cAbs⟩
instance : Step (cMax [.int i, .int j] H Q) (Q (.int (if j > i then j else i)) H) := ⟨r_cMax⟩
instance : Step (cMin [.int i, .int j] H Q) (Q (.int (if j < i then j else i)) H) := ⟨r_cMin⟩
instance {Q : Option Int → Hp → Prop} : Step (tPart te σ H Q) (te σ H fun x H1 => ∃ i, x = .int i ∧ Q (some i) H1) := ⟨id⟩
instance {Q : Option Int → Hp → Prop} : Step (tNoPart σ H Q) (Q none H) := ⟨id⟩
instance {rs : V → Option Int → Option Int → Hp → VK → Prop} {tl th : TO} : Step (tSl rs te tl th σ H Q) (te σ H fun x H1 => tl σ H1 fun l H2 => th σ H2 fun u H3 => rs x l u H3 Q) := ⟨id⟩
instance {t : TG} {u : TGs} {l : List V} {Q : L2.St → Hp → Prop} : Step (gCons t u (v :: l) σ H Q) (t v σ H fun σ' H' => u l σ' H' Q) := ⟨r_gcons⟩
instance {Q : L2.St → Hp → Prop} : Step (gNil [] σ H Q) (Q σ H) := ⟨r_gnil⟩
instance {Q : Bool → Hp → Prop} : Step (tYes σ H Q) (Q true H) := ⟨id⟩
instance {wi : TI} {g : TG} {tt : TT} {vs : List Nat} : Step (tLc wi g tt te vs σ H Q) (wi σ H fun J H1 => ∀ D, H1 D = none → LcW J g tt te vs σ H1 D (fun H => Q (.ref D) H)) := ⟨id⟩
instance {R : It → Hp → Prop} : Step (RZ.iZipA K tA σ H R) (tA σ H fun vs H1 => ∃ a b xs ys, vs = [.ref a, .ref b] ∧ ((SqL K H1 a xs ∧ SqL K H1 b ys ∧ R (Itz K a b) H1) ∨ (SqT K H1 a xs ∧ SqT K H1 b ys ∧ R (RZ.ItzT K a b) H1))) := ⟨id⟩
def Rng1 (vs : List V) (H : Hp) (R : It → Hp → Prop) : Prop := ∃ j : Int, vs = [.int j] ∧ -(2 ^ 62) ≤ j ∧ j < 2 ^ 62 ∧ R (Itr 0 j.toNat) H
instance {R : It → Hp → Prop} : Step (iRng1 tA σ H R) (tA σ H fun vs H1 => Rng1 vs H1 R) := ⟨id⟩
def Rng2 (vs : List V) (H : Hp) (R : It → Hp → Prop) : Prop := ∃ i j : Int, vs = [.int i, .int j] ∧ (-(2 ^ 62) ≤ i ∧ i < 2 ^ 62 ∧ -(2 ^ 62) ≤ j ∧ j < 2 ^ 62) ∧ R (Itr i (j - i).toNat) H
instance {R : It → Hp → Prop} : Step (iRng2 tA σ H R) (tA σ H fun vs H1 => Rng2 vs H1 R) := ⟨id⟩
instance {R : It → Hp → Prop} : Step (iStr te σ H R) (te σ H fun v H1 => ∃ x, v = .str x ∧ R (Its x) H1) := ⟨id⟩
def WkL (K : PySem.W.Frag) (x : V) (H : Hp) (R : It → Hp → Prop) : Prop := ∃ a, x = .ref a ∧ (∃ xs, SqL K H a xs) ∧ R (Itl K a) H
instance {R : It → Hp → Prop} : Step (iList K te σ H R) (te σ H fun x H1 => WkL K x H1 R) := ⟨id⟩
def WkT (K : PySem.W.Frag) (x : V) (H : Hp) (R : It → Hp → Prop) : Prop := ∃ a, x = .ref a ∧ (∃ xs, SqT K H a xs) ∧ R (Itt K a) H
instance {R : It → Hp → Prop} : Step (iTup K te σ H R) (te σ H fun x H1 => WkT K x H1 R) := ⟨id⟩
def WkE (K : PySem.W.Frag) (vs : List V) (H : Hp) (R : It → Hp → Prop) : Prop := ∃ a xs, vs = [.ref a] ∧ SqL K H a xs ∧ R (Ite K a) H
instance {R : It → Hp → Prop} : Step (iEnum K tA σ H R) (tA σ H fun vs H1 => WkE K vs H1 R) := ⟨id⟩
/-- a for's turns over J -/
def ForW (J : It) (g : TG) (tb : TS) (D : Ends) (σ : L2.St) (H : Hp) : Prop := ∃ W : Nat → Nat → L2.St → Hp → Prop, (∃ m, W 0 m σ H) ∧ ∀ i m σ H, W i m σ H →
  (J.stop i H ∧ D.nx σ H) ∨ (J.go i H ∧ ∃ N : L2.St → Hp → Prop, (∀ σ' H', N σ' H' → ∃ m', m' < m ∧ W (i + 1) m' σ' H') ∧ ∀ x H', J.yld i H x H' → g x σ H' fun σ2 H2 => tb { D with nx := N, ct := N, bk := D.nx } σ2 H2)
instance {wi : TI} {g : TG} {tb : TS} : Step (tFor wi g tb D σ H) (wi σ H fun J H1 => ForW J g tb D σ H1) := ⟨id⟩
theorem rng1 {R : It → Hp → Prop} (h0 : -(2 ^ 62) ≤ j) (h1 : j < 2 ^ 62) (q : R (Itr 0 j.toNat) H) : Rng1 [.int j] H R := ⟨j, rfl, h0, h1, q⟩
theorem rng2 {R : It → Hp → Prop} (h0 : -(2 ^ 62) ≤ i) (h1 : i < 2 ^ 62) (h2 : -(2 ^ 62) ≤ j) (h3 : j < 2 ^ 62) (q : R (Itr i (j - i).toNat) H) : Rng2 [.int i, .int j] H R := ⟨i, j, rfl, ⟨h0, h1, h2, h3⟩, q⟩
theorem wkL {R : It → Hp → Prop} {a : Addr} {xs : List V} (h : SqL K H a xs) (q : R (Itl K a) H) : WkL K (.ref a) H R := ⟨a, rfl, ⟨xs, h⟩, q⟩
theorem wkT {R : It → Hp → Prop} {a : Addr} {xs : List V} (h : SqT K H a xs) (q : R (Itt K a) H) : WkT K (.ref a) H R := ⟨a, rfl, ⟨xs, h⟩, q⟩
theorem wkE {R : It → Hp → Prop} {a : Addr} {xs : List V} (h : SqL K H a xs) (q : R (Ite K a) H) : WkE K [.ref a] H R := ⟨a, xs, rfl, h, q⟩
end
end PW
namespace PW
open PySem PySem.Spec PyProof.Rows L2
section
variable {H : Hp} {Q : VK} {x : V} {c : Nat} {z : Str} {p : Addr} {xs : List V} {K : PySem.W.Frag}
instance : Step (rInS (.str ⟨#[c]⟩) (.str z) H Q) (Q (.bl (decide (c ∈ z.cps.toList))) H) := ⟨fun q => ⟨c, z, rfl, rfl, q⟩⟩
instance : Step (rNotInS (.str ⟨#[c]⟩) (.str z) H Q) (Q (.bl (!decide (c ∈ z.cps.toList))) H) := ⟨fun q => ⟨c, z, rfl, rfl, q⟩⟩
theorem r_inT (h : SqT K H p xs) (fx : flatV x = true) (fs : xs.all flatV = true) (q : Q (.bl (inV x xs)) H) : rIn K false x (.ref p) H Q := ⟨p, xs, rfl, .inr h, fx, fs, q⟩
theorem r_inL (h : SqL K H p xs) (fx : flatV x = true) (fs : xs.all flatV = true) (q : Q (.bl (inV x xs)) H) : rIn K false x (.ref p) H Q := ⟨p, xs, rfl, .inl h, fx, fs, q⟩
theorem r_ninT (h : SqT K H p xs) (fx : flatV x = true) (fs : xs.all flatV = true) (q : Q (.bl (!inV x xs)) H) : rIn K true x (.ref p) H Q := ⟨p, xs, rfl, .inr h, fx, fs, q⟩
theorem r_ninL (h : SqL K H p xs) (fx : flatV x = true) (fs : xs.all flatV = true) (q : Q (.bl (!inV x xs)) H) : rIn K true x (.ref p) H Q := ⟨p, xs, rfl, .inl h, fx, fs, q⟩
theorem acc_map {α : Type} {acc : List V} {l : List α} {f : α → V} (hl : acc.length = l.length) (h : ∀ (i : Nat) v, acc[i]? = some v → ∃ a, l[i]? = some a ∧ v = f a) : acc = l.map f := by
  refine List.ext_getElem? fun i => ?_
  rw [List.getElem?_map]
  cases e : acc[i]? with
  | none =>
    have h1 := List.getElem?_eq_none_iff.mp e
    rw [List.getElem?_eq_none_iff.mpr (show l.length ≤ i by omega)]
    rfl
  | some v =>
    obtain ⟨a, h1, h2⟩ := h i v e
    rw [h1, h2]
    rfl
end
end PW
namespace PW
open PySem PySem.Spec PyProof.Rows L2
/-! ### calls by keywords, the place of the arguments kept -/
section
variable {X : Cx} {CX : CXT} {k n : Nat} {f : Addr} {fd : FuncData} {ps ks : List Str} {sp : Sp} {E : XK} {x qual : Str} {p pos : Pos} {kws : List Keyword} {tk : TA} {g : List Value → List Value → List Value} {gV : List V → List V → List V}
theorem pe_callN0 (F : FnOk X.prog X.w X.K X.mg X.base CX k f fd ps sp) (hr : Room k X.A) (hg : Gl X x) (hm : X.mg x = some (.ref f)) (hk : PySem.W.keepIn X.K (.ref f) = true) (hb : KBn X.K fd ps 0 ks g gV) (hx : Passes CX X E)
    (hkw : PK X kws tk) (hall : (backToKw pos (keywordEach kws X.env)).all (·.1.isSome) = true := by rfl) (hks : (backToKw pos (keywordEach kws X.env)).filterMap (·.1) = ks := by rfl)
    (hdb : (x == ("__debug__" : Str)) = false := by decide) (hpl : ((backTo pos (starEach [] X.env)).any (·.1) || (backToKw pos (keywordEach kws X.env)).any (·.1.isNone)) = false := by rfl) :
    PE X (.Call (.Name x p) [] kws pos) (tCallN 0 ks.length sp gV E tNil tk) := by
  refine ⟨fun pins s σ H Q I h => ?_⟩
  refine wpAny_Call_Name_kw (ld_glob I hg hm ?_ hdb)
  refine PySem.W.callWith_KW0 (h₀ := X.base) I.ok.mod.kin hk hall ?_ hpl
  refine thn (hkw.run pos pins s σ H _ I h) fun ws s2 ⟨zs, H2, I2, rz, l1, l2, q2⟩ => ⟨I2.kIn, ?_⟩
  rw [hks]
  exact run_fnN (us := []) (vs := []) F hr hb hx I2 .nil rz rfl l2 q2
theorem kbn_app {K : PySem.W.Frag} {params : Arguments} {body : List Stmt} {scope : Scope} {kws : List (Str × V)} (F : FunD K x qual params body scope [] kws f fd) (n : Nat) (ks : List Str)
    (h : ∀ (kV doc pm : Value) (an : Option Addr) (cdv ct : Value) (us ws : List Value), us.length = n → ws.length = ks.length → bindArgs (PySem.W.fnOf x qual params body scope .none kV doc pm an cdv ct) ⟨us, ks.zip ws⟩ = pure (ps.zip (us ++ ws))) :
    KBn K fd ps n ks (fun us ws => us ++ ws) (fun vs zs => vs ++ zs) := by
  obtain ⟨oc, od, dV, kV, doc, pm, an, cdv, ct, osl, rfl, lk, hcd, hD, hK⟩ := F.ex
  rcases hD with ⟨_, rfl⟩ | ⟨e, _⟩
  · exact ⟨fun s us ws _ l1 l2 => .of_eq (h kV doc pm an cdv ct us ws l1 l2), fun r1 r2 => r1.append r2⟩
  · exact absurd rfl e
end
section
variable {σ : L2.St} {H : Hp} {Q : VK} {n m : Nat} {sp : Sp} {gV : List V → List V → List V} {E : XK} {t tk : TA}
instance : Step (tCallN n m sp gV E t tk σ H Q) (t σ H fun vs H1 => tk σ H1 fun zs H2 => vs.length = n ∧ zs.length = m ∧ sp (gV vs zs) H2 Q E) := ⟨id⟩
end
/-- a comprehension under an invariant of the heap that the new list does not touch; elements told apart from the heap -/
theorem lc_inv {J : It} {n : Nat} {G : Hp → Prop} {Y : Nat → Hp → V → Hp → Prop} (w : Walk J n G Y) {g : TG} {te : TE} {vs : List Nat} {σ : L2.St} {H1 : Hp} {D : Addr} {Qd : Hp → Prop} {σw : L2.St} (hw : wipe σ vs = σw) (I : Hp → Prop) (E : Nat → V → Prop) (hD : H1 D = none) (hn : n ≤ 100000)
    (h0 : I (upd H1 D (.lst []))) (hG : ∀ H, I H → G H)
    (hs : ∀ i x H H' acc (R : VK), i < n → I H → H D = some (.lst acc) → Y i H x H' → (∀ v H4, E i v → H4 D = some (.lst acc) → I (upd H4 D (.lst (acc ++ [v]))) → R v H4) → g x σw H' fun σ2 H2 => wipe σ2 vs = σw ∧ te σ2 H2 R)
    (hd : ∀ H acc, I H → H D = some (.lst acc) → acc.length = n → (∀ i v, acc[i]? = some v → E i v) → Qd H) : LcW J g tYes te vs σ H1 D Qd := by
  subst hw
  refine lc_it w (fun i H => I H ∧ ∃ acc, H D = some (.lst acc) ∧ acc.length = i ∧ ∀ j v, acc[j]? = some v → E j v) ?_ (fun i H _ p => hG H p.1) ?_ ?_
  · exact ⟨h0, [], upd_same, rfl, fun j v e => by simp at e⟩
  · rintro i x H H' hi ⟨p, acc, ha, hl, hE2⟩ y
    refine hs i x H H' acc _ hi p ha y fun v H4 e x4 hI => ?_
    refine ⟨acc, x4, Nat.lt_of_lt_of_le (show acc.length < 100001 by omega) (by decide), hI, acc ++ [v], upd_same, by rw [List.length_append, hl]; rfl, fun j u hj => ?_⟩
    by_cases h : j < acc.length
    · rw [List.getElem?_append_left h] at hj
      exact hE2 j u hj
    · have hj2 : j = acc.length := by
        have h3 : j < (acc ++ [v]).length := (List.getElem?_eq_some_iff.mp hj).1
        rw [List.length_append] at h3
        have h4 : [v].length = 1 := rfl
        omega
      subst hj2
      rw [List.getElem?_append_right (Nat.le_refl _), Nat.sub_self] at hj
      injection hj with hj
      subst hj
      rw [hl]
      exact e
  · rintro H ⟨p, acc, ha, hl, hE2⟩
    exact hd H acc p ha hl hE2
theorem r_and3 {A B C : Prop} (a : A) (b : B) (c : C) : A ∧ B ∧ C := ⟨a, b, c⟩
end PW
namespace PW
open PySem PySem.Spec PyProof.Rows L2
section
variable {z : Str} {R : Prop} {to te : TE} {σ : L2.St} {H : Hp} {Q : VK} {r : V → List V → Hp → VK → Prop}
instance : Step ((∃ a, V.str z = .str a) ∧ R) R := ⟨fun q => ⟨⟨z, rfl⟩, q⟩⟩
instance : Step (tM1 r to te σ H Q) (to σ H fun x H1 => (∃ a, x = .str a) ∧ te σ H1 fun y H2 => r x [y] H2 Q) := ⟨id⟩
instance : Step (tM0 r to σ H Q) (to σ H fun x H1 => (∃ a, x = .str a) ∧ r x [] H1 Q) := ⟨id⟩
end
theorem cutS_len (z : Str) (lo hi : Option Int) : (cutS z lo hi).length ≤ z.length := by
  show (List.toArray _).size ≤ z.cps.size
  rw [List.size_toArray, List.length_take, List.length_drop]
  have : z.cps.toList.length = z.cps.size := by simp
  omega
theorem add_len (y z : Str) : (y ++ z).length = y.length + z.length := by
  show (y.cps ++ z.cps).size = _
  rw [Array.size_append]
  rfl
/-- a list whose items are told one by one -/
theorem acc_exists {α : Type} {g : α → V} {p : α → Prop} : ∀ {acc : List V}, (∀ (i : Nat) v, acc[i]? = some v → ∃ a, v = g a ∧ p a) → ∃ l : List α, acc = l.map g ∧ l.length = acc.length ∧ ∀ a ∈ l, p a
  | [], _ => ⟨[], rfl, rfl, fun _ h => by cases h⟩
  | x :: r, h => by
    obtain ⟨a, e, pa⟩ := h 0 x rfl
    obtain ⟨l, e2, hl, pl⟩ := acc_exists (acc := r) fun i v hv => h (i + 1) v (by rw [List.getElem?_cons_succ]; exact hv)
    refine ⟨a :: l, by rw [e, e2]; rfl, by rw [List.length_cons, List.length_cons, hl], fun b hb => ?_⟩
    rcases List.mem_cons.mp hb with rfl | hb
    · exact pa
    · exact pl b hb
theorem joinL_len (S : List Nat) : ∀ ps : List (List Nat), (TL.joinL S ps).length ≤ (ps.map List.length).sum + ps.length * S.length
  | [] => Nat.zero_le _
  | [p] => by
    show p.length ≤ _
    simp
  | p :: q :: r => by
    have ih := joinL_len S (q :: r)
    show (p ++ (S ++ TL.joinL S (q :: r))).length ≤ _
    rw [List.length_append, List.length_append, List.map_cons, List.sum_cons, List.length_cons]
    have e : ((q :: r).length + 1) * S.length = (q :: r).length * S.length + S.length := Nat.succ_mul _ _
    rw [e]
    omega
theorem sum_le {k : Nat} : ∀ {l : List Str}, (∀ z ∈ l, z.length ≤ k) → (l.map (·.length)).sum ≤ l.length * k
  | [], _ => Nat.zero_le _
  | z :: r, h => by
    have h1 := h z (List.mem_cons_self ..)
    have h2 := sum_le (k := k) (l := r) fun y hy => h y (List.mem_cons_of_mem _ hy)
    rw [List.map_cons, List.sum_cons, List.length_cons, Nat.succ_mul]
    omega
end PW
namespace PW
open PySem PySem.Spec PyProof.Rows L2
theorem len_ok {n : Nat} (h : n ≤ 100000) : n ≤ sizeLine := Nat.le_trans h (by decide)
theorem log_ok {m : Int} (h0 : 0 ≤ m) (h : m < 2 ^ 64) : m.natAbs.log2 < 9000 := by
  have h2 : m.natAbs < 2 ^ 64 := by omega
  exact Nat.lt_trans (PySem.Flt.log2_lt_of (by decide) h2) (by decide)
section
variable {H : Hp} {Q : VK} {p : Addr} {xs : List V} {k : Int}
theorem r_rep (h : H p = some (.lst xs)) (h0 : 0 ≤ k) (h1 : k < 1000) (hl : xs.length ≤ 1000) (q : ∀ r, H r = none → Q (.ref r) (upd H r (.lst (List.replicate k.toNat xs).flatten))) : rRep (.ref p) (.int k) H Q := by
  refine ⟨p, k, xs, rfl, rfl, h, by omega, by omega, ?_, q⟩
  have h2 : xs.length * k.toNat ≤ 1000 * 1000 := Nat.mul_le_mul hl (by omega)
  exact Nat.le_trans h2 (by decide)
end
end PW
namespace PW
open PySem PySem.Spec PyProof.Rows L2
theorem r_seqP {s1 s2 : TS} {D : Ends} {σ : L2.St} {H : Hp} (P : L2.St → Hp → Prop) (hq : ∀ σ' H', P σ' H' → s2 D σ' H') (h : ∀ N : L2.St → Hp → Prop, (∀ σ' H', P σ' H' → N σ' H') → s1 { D with nx := N } σ H) : tSeq s1 s2 D σ H := h (s2 D) hq
end PW
namespace PW
open PySem PySem.Spec PyProof.Rows L2
theorem atI0 {α : Type} {x : α} {xs : List α} : atI (x :: xs) 0 = some x := atI_nat (j := 0) rfl
end PW
/-! ### own operators -/
namespace PW
open PySem PySem.Spec PyProof.Rows L2
/-- what x op y asks of the class at C whose def for op is at g: y another one of C, or an int -/
structure OwnB (K : PySem.W.Frag) (C : Addr) (op : Operator) (g : Addr) : Prop where
  sf : PySem.W.selfFirst K C = true
  at_ : PySem.W.findIn K (.ref C) (PySem.dunder op.info.2) = some (some (.ref g))
  fn : PySem.W.isFn K (.ref g) = true
  r : ∃ rc, PySem.W.findIn K (.ref C) (dunderR op.info.2) = some rc ∧ (rc = none ∨ ∃ h : Addr, rc = some (.ref h))
  i1 : ∃ fo, PySem.W.findIn K (.type "int") (PySem.dunder op.info.2) = some fo
  i2 : ∃ ro, PySem.W.findIn K (.type "int") (dunderR op.info.2) = some ro
theorem sub_int {K : PySem.W.Frag} {C : Addr} : PySem.W.subIn K (.type "int") (.ref C) = some false := by
  show (fastBuiltinMro "int").map (·.contains (Value.ref C)) = some false
  have e : fastBuiltinMro "int" = some [.type "int", .type "object"] := by decide +kernel
  rw [e]
  rfl
def rOwnB (C : Addr) (sp : Sp) (E : XK) : R2 := fun x y H Q => ∃ a dx fs, x = .ref a ∧ H a = some (.ins C dx fs) ∧ ((∃ i, y = .int i) ∨ ∃ b dy gs, y = .ref b ∧ H b = some (.ins C dy gs)) ∧ sp [x, y] H Q E
section
variable {X : Cx} {CX : CXT} {k : Nat} {C g : Addr} {fd : FuncData} {ps : List Str} {sp : Sp} {E : XK} {pins : List (Addr × Obj)} {σ : L2.St} {H : Hp} {s : Shared} {a dx : Addr} {fs : List (Str × V)}
theorem inst_of (I : Inv X pins σ H s) (e : H a = some (.ins C dx fs)) : ∃ od, PySem.W.InstAt s.heap a (PySem.W.instObj C dx) C (some od) := by
  obtain ⟨mA, O, _⟩ := ins_get I.hok e
  obtain ⟨od, J, _⟩ := O.look
  exact ⟨od, J⟩
theorem op_ownB {op : Operator} (O : OwnB X.K C op g) (F : FnOk X.prog X.w X.K X.mg X.base CX k g fd ps sp) (hr : Room k X.A) (hb : Binds X.K fd ps []) (hx : Passes CX X E) : OpR X (binaryOp op) (rOwnB C sp E) := by
  intro pins s σ H x y v u Q I rx ry h
  obtain ⟨a, dx, fs, rfl, ha, hy, q⟩ := h
  cases (show v = Value.ref a from rx)
  obtain ⟨od, J⟩ := inst_of I ha
  obtain ⟨m, hF⟩ := I.fr
  obtain ⟨rc, e1, e2⟩ := O.r
  obtain ⟨fo, e3⟩ := O.i1
  obtain ⟨ro, e4⟩ := O.i2
  have fin : ∀ w s', EP X pins σ Q w s' → PySem.W.CmpBack (EP X pins σ Q) w s' := fun w s' z => by
    have z' := z
    obtain ⟨z1, H', I', rz, qz⟩ := z'
    exact SlX.cmpback rz z
  rcases hy with ⟨i, rfl⟩ | ⟨b, dy, gs, rfl, hb2⟩
  · obtain ⟨t, e⟩ := (show ∃ t, u = Value.int i t from ry)
    cases e
    refine PySem.W.ksp_binT (T := "int") hF I.ok.mod.kin J rfl O.sf O.at_ O.fn e1 e2 e3 e4 sub_int ?_
    exact wpAny_mono (run_fn (us := [.ref a, .int i t]) (vs := [.ref a, .int i]) (dvs := []) (ds := []) F hr hb .nil hx I (.cons rfl (.cons ⟨t, rfl⟩ .nil)) q) fin fun _ _ e => e
  · cases (show u = Value.ref b from ry)
    obtain ⟨od', J'⟩ := inst_of I hb2
    refine PySem.W.binop_K hF I.ok.mod.kin J J'.type O.sf O.at_ O.fn ?_
    exact wpAny_mono (run_fn (us := [.ref a, .ref b]) (vs := [.ref a, .ref b]) (dvs := []) (ds := []) F hr hb .nil hx I (.cons rfl (.cons rfl .nil)) q) fin fun _ _ e => e
/-- -x -/
def rOwnU (C : Addr) (sp : Sp) (E : XK) : V → Hp → VK → Prop := fun x H Q => ∃ a dx fs, x = .ref a ∧ H a = some (.ins C dx fs) ∧ sp [x] H Q E
theorem un_own (hs : PySem.W.findIn X.K (.ref C) "__neg__" = some (some (.ref g))) (hf : PySem.W.isFn X.K (.ref g) = true) (F : FnOk X.prog X.w X.K X.mg X.base CX k g fd ps sp) (hr : Room k X.A) (hb : Binds X.K fd ps []) (hx : Passes CX X E) :
    UnR X (unaryOp .USub) (rOwnU C sp E) := by
  intro pins s σ H x v Q I rx h
  obtain ⟨a, dx, fs, rfl, ha, q⟩ := h
  cases (show v = Value.ref a from rx)
  obtain ⟨od, J⟩ := inst_of I ha
  obtain ⟨m, hF⟩ := I.fr
  refine PySem.W.ksp_neg hF I.ok.mod.kin J hs hf ?_
  exact run_fn (us := [.ref a]) (vs := [.ref a]) (dvs := []) (ds := []) F hr hb .nil hx I (.cons rfl .nil) q
/-- abs(x) -/
def cOwnAbs (C : Addr) (sp : Sp) (E : XK) : List V → Hp → VK → Prop := fun xs H Q => ∃ a dx fs, xs = [.ref a] ∧ H a = some (.ins C dx fs) ∧ sp [.ref a] H Q E
theorem call_absOwn (hs : PySem.W.findIn X.K (.ref C) "__abs__" = some (some (.ref g))) (hf : PySem.W.isFn X.K (.ref g) = true) (F : FnOk X.prog X.w X.K X.mg X.base CX k g fd ps sp) (hr : Room (k + 1) X.A) (hb : Binds X.K fd ps []) (hx : Passes CX X E) :
    CallR X (.builtin "abs") (cOwnAbs C sp E) := by
  intro pins s σ H xs us Q I r h
  obtain ⟨a, dx, fs, rfl, ha, q⟩ := h
  obtain ⟨u, rfl, ru⟩ := vals1 r
  cases (show u = Value.ref a from ru)
  obtain ⟨od, J⟩ := inst_of I ha
  refine Calls.call_function_entry kind_abs plain_abs entry_abs (args_abs _) ?_
  unfold Builtin.«abs»
  refine wpAny_bind (m := oneArg "abs" _) (wpAny_pure ?_)
  refine wpAny_bind (m := callSpecial? (.ref a) (Str.ofString "__abs__")) (PySem.W.special_fn I.kIn J hs (beq_iff_eq.mp hf) ?_)
  have hE : Env0 X.prog X.w X.K X.mg X.base X.A.in1 X.stack s H := I.env0.in1
  have r2 : Vals [V.ref a] [Value.ref a] := .cons rfl .nil
  refine wpAny_call (codeAny_mono (F.run X.A.in1 X.stack s H ⟨[.ref a], []⟩ [.ref a] [.ref a] Q E (Room.in1 hr) hE (by
    have hl : ([Value.ref a] ++ ([] : List Value)).length = ps.length := by rw [List.append_nil, ← r2.length]; exact F.len _ _ _ _ q
    have z := hb s [.ref a] I.kIn hl
    rw [List.append_nil] at z
    exact z) r2 q) fun r s' hq => ?_)
  cases r with
  | error e => exact hx pins σ H s e s' I hq
  | ok fl =>
    cases fl with
    | ret u => exact wpAny_pure ⟨_, rfl, I.after hq⟩
    | next => exact False.elim hq
    | brk => exact False.elim hq
    | cont => exact False.elim hq
end
end PW
/-! ### an int to the left: the reflected def -/
namespace PW
open PySem PySem.Spec PyProof.Rows L2
theorem gives_no {P : Int → Int → Sem Fin} {nm : String} {i : Int} {t : Tok} {a : Addr} :
    PySem.GivesAt (fun s => ∃ o, s.heap.get? a = some o ∧ ∀ j u, o.data ≠ .prim (.int j u)) (Builtin.Int.intBinary nm P false ⟨[.int i t, .ref a], []⟩) (.val .notImplemented) := by
  intro prog w A R s ⟨o, ho, hd⟩ q
  unfold Builtin.Int.intBinary
  refine wpAny_bind (m := slotArgs nm 1 _) (wpAny_pure ?_)
  refine wpAny_bind (m := Builtin.Int.intOfSelf (.int i t)) (wpAny_pure ?_)
  refine wpAny_bind (m := asInt? (.ref a)) ?_
  show wpAny _ _ (load a >>= _) _ _ s
  refine wpAny_bind (wpAny_load ho ?_)
  obtain ⟨oc, od, dt, sl⟩ := o
  cases dt with
  | prim v =>
    cases v with
    | int j u => exact absurd rfl (hd j u)
    | _ => exact wpAny_pure (wpAny_bind (wpAny_rule (wpAny_pure q)))
  | _ => exact wpAny_pure (wpAny_bind (wpAny_rule (wpAny_pure q)))

section
variable {prog : Program} {w : World} {A : Around} {E : Value → Shared → Prop} {s : Shared} {K : PySem.W.Frag} {x C f : Addr} {ox : Obj} {od : Option Obj} {i : Int} {t : Tok}
def NotPrim (o : Obj) : Prop := ∀ j u, o.data ≠ .prim (.int j u)
/-- what int op instance asks -/
structure OwnR (K : PySem.W.Frag) (C : Addr) (op : Operator) (g : Addr) : Prop where
  sf : PySem.W.selfFirst K C = true
  l : ∃ h : Addr, PySem.W.findIn K (.ref C) (PySem.dunder op.info.2) = some (some (.ref h))
  at_ : PySem.W.findIn K (.ref C) (dunderR op.info.2) = some (some (.ref g))
  fn : PySem.W.isFn K (.ref g) = true
  sub : PySem.W.subIn K (.ref C) (.type "int") = some false
  i1 : ∃ fo, PySem.W.findIn K (.type "int") (PySem.dunder op.info.2) = some fo ∧ fo.isSome = true ∧ isSeqSlot fo = false
  i2 : ∃ ro, PySem.W.findIn K (.type "int") (dunderR op.info.2) = some ro
theorem own_refl {op : Operator} {Q : Value → Shared → Prop} (O : OwnR K C op f) (X : K.In s.heap) (I : PySem.W.InstAt s.heap x ox C od)
    (decl : ∀ Q : Value → Shared → Prop, Q .notImplemented s → wpAny (model prog w) A (tryMethod (.int i t) (PySem.dunder op.info.2) (.ref x)) (fun r s' => r = none ∧ Q .notImplemented s') E s)
    (h : wpAny (model prog w) A (call (.ref f) [.ref x, .int i t]) (PySem.W.CmpBack Q) E s) : wpAny (model prog w) A (binaryOp op (.int i t) (.ref x)) Q E s := by
  obtain ⟨cd, rest, hcd, hm⟩ := PySem.W.ksp_first O.sf
  obtain ⟨g0, hl⟩ := O.l
  obtain ⟨fo, h1, hso, hsq⟩ := O.i1
  obtain ⟨ro, h2⟩ := O.i2
  have hr := O.at_
  rcases hi : op.info with ⟨sym, nm'⟩
  rw [hi] at hl hr h1 h2 decl
  dsimp only at hl hr h1 h2 decl
  have one := PySem.W.ksp_try (b := .int i t) X I hr O.fn h
  have L1 : PySem.W.Looks (model prog w) s.heap (typeOf (.int i t)) (.type "int") := PySem.W.Looks.of_pure rfl
  have L2 : PySem.W.Looks (model prog w) s.heap (typeOf (.ref x)) (.ref C) := I.type
  have L3 : PySem.W.Looks (model prog w) s.heap (fillsNumberSlot (.ref C) nm') true := PySem.W.fills_K X hcd hm hl
  have L4 : PySem.W.Looks (model prog w) s.heap (fillsNumberSlot (.type "int") nm') true := by
    have z := PySem.W.ksp_fillsT (M := model prog w) (T := "int") (nm := nm') X h1 h2
    rw [hso, hsq] at z
    exact z
  have L5 : PySem.W.Looks (model prog w) s.heap (isSubtype (.ref C) (.type "int")) false := PySem.W.looks_subIn X O.sub
  have hne : (Value.type "int" == Value.ref C) = false := Bool.eq_false_iff.mpr fun q => by cases beq_iff_eq.mp q
  have hpy : numberSlotInPython (.type "int") nm' = pure false := rfl
  simp only [binaryOp, hi]
  refine wpAny_holding (wpAny_bind ?_)
  unfold binaryOp1
  refine wpAny_bind (L1.here (wpAny_bind (L2.here (wpAny_bind (L4.here ?_)))))
  simp only [hne, Bool.false_eq_true, if_false]
  refine wpAny_bind (L3.here ?_)
  simp only [Bool.and_self, if_true]
  refine wpAny_bind (L5.here ?_)
  simp only [Bool.false_eq_true, if_false, pure_bind, Bool.not_false, Bool.and_self, if_true, hpy]
  refine wpAny_bind (wpAny_mono (decl (fun v s' => v = .notImplemented ∧ s' = s) ⟨rfl, rfl⟩) (fun r s' z => ?_) fun _ _ e => e)
  obtain ⟨rfl, _, rfl⟩ := z
  refine wpAny_bind (wpAny_mono one (fun r s' z => ?_) fun _ _ e => e)
  obtain ⟨v, rfl, q⟩ := z
  exact wpAny_bind (wpAny_rule (wpAny_pure (wpAny_pure q)))
end
end PW
namespace PW
open PySem PySem.Spec PyProof.Rows L2
section
variable {X : Cx} {CX : CXT} {k : Nat} {C g : Addr} {fd : FuncData} {ps : List Str} {sp : Sp} {E : XK} {pins : List (Addr × Obj)} {σ : L2.St} {H : Hp} {s : Shared} {a dx : Addr} {fs : List (Str × V)}
def rOwnR (C : Addr) (sp : Sp) (E : XK) : R2 := fun x y H Q => ∃ i b dy gs, x = .int i ∧ y = .ref b ∧ H b = some (.ins C dy gs) ∧ sp [.ref b, .int i] H Q E
theorem backs {X : Cx} {pins : List (Addr × Obj)} {σ : L2.St} {Q : VK} : ∀ w s', EP X pins σ Q w s' → PySem.W.CmpBack (EP X pins σ Q) w s' := fun w s' z => by
  have z' := z
  obtain ⟨z1, H', I', rz, qz⟩ := z'
  exact SlX.cmpback rz z
theorem op_ownR {op : Operator} (O : OwnR X.K C op g) (decl : ∀ (A : Around) (E : Value → Shared → Prop) (s : Shared) (i : Int) (t : Tok) (a : Addr) (o : Obj), s.heap.get? a = some o → (∀ j u, o.data ≠ .prim (.int j u)) → ∀ Q : Value → Shared → Prop, Q .notImplemented s → wpAny (model X.prog X.w) A (tryMethod (.int i t) (PySem.dunder op.info.2) (.ref a)) (fun r s' => r = none ∧ Q .notImplemented s') E s)
    (F : FnOk X.prog X.w X.K X.mg X.base CX k g fd ps sp) (hr : Room k X.A) (hb : Binds X.K fd ps []) (hx : Passes CX X E) : OpR X (binaryOp op) (rOwnR C sp E) := by
  intro pins s σ H x y v u Q I rx ry h
  obtain ⟨i, b, dy, gs, rfl, rfl, hb2, q⟩ := h
  obtain ⟨t, e⟩ := (show ∃ t, v = Value.int i t from rx)
  cases e
  cases (show u = Value.ref b from ry)
  obtain ⟨od, J⟩ := inst_of I hb2
  refine own_refl O I.kIn J (decl _ _ _ _ _ _ _ J.1 fun j u z => nomatch z) ?_
  exact wpAny_mono (run_fn (us := [.ref b, .int i t]) (vs := [.ref b, .int i]) (dvs := []) (ds := []) F hr hb .nil hx I (.cons rfl (.cons ⟨t, rfl⟩ .nil)) q) backs fun _ _ e => e
theorem decl_add {prog : Program} {w : World} (A : Around) (E : Value → Shared → Prop) (s : Shared) (i : Int) (t : Tok) (a : Addr) (o : Obj) (ho : s.heap.get? a = some o) (hd : ∀ j u, o.data ≠ .prim (.int j u)) (Q : Value → Shared → Prop) (q : Q .notImplemented s) :
    wpAny (model prog w) A (tryMethod (.int i t) (PySem.dunder Operator.Add.info.2) (.ref a)) (fun r s' => r = none ∧ Q .notImplemented s') E s := by
  have g : GivesAt (fun s => ∃ o, s.heap.get? a = some o ∧ ∀ j u, o.data ≠ .prim (.int j u)) (Builtin.«int.__add__» ⟨[.int i t, .ref a], []⟩) (.val .notImplemented) := gives_no
  have hT : s.TypeIs (.int i t) "int" := typeIs_int _ _ _
  have c : wpAny (model prog w) A (call (.builtin "int.__add__") [.int i t, .ref a]) (fun v s' => v = .notImplemented ∧ ((none : Option Value) = none ∧ Q .notImplemented s')) E s :=
    call_givesAt F.slot_int_add hT F.entry_int_add (F.args_int_add_2 _ _) g ⟨o, ho, hd⟩ (show Value.notImplemented = .notImplemented ∧ _ from ⟨rfl, rfl, q⟩)
  have e : PySem.dunder Operator.Add.info.2 = PySem.dunder "add" := congrArg PySem.dunder (show Operator.Add.info.2 = "add" from rfl)
  rw [e]
  refine wpAny_tryMethod_declines (T := "int") (id := "int.__add__") (Q := fun r s' => r = none ∧ Q .notImplemented s') ?h1 ?h2 ?h3
  case h1 => exact hT
  case h2 => exact F.slot_int_add
  case h3 => exact c
theorem decl_sub {prog : Program} {w : World} (A : Around) (E : Value → Shared → Prop) (s : Shared) (i : Int) (t : Tok) (a : Addr) (o : Obj) (ho : s.heap.get? a = some o) (hd : ∀ j u, o.data ≠ .prim (.int j u)) (Q : Value → Shared → Prop) (q : Q .notImplemented s) :
    wpAny (model prog w) A (tryMethod (.int i t) (PySem.dunder Operator.Sub.info.2) (.ref a)) (fun r s' => r = none ∧ Q .notImplemented s') E s := by
  have g : GivesAt (fun s => ∃ o, s.heap.get? a = some o ∧ ∀ j u, o.data ≠ .prim (.int j u)) (Builtin.«int.__sub__» ⟨[.int i t, .ref a], []⟩) (.val .notImplemented) := gives_no
  have hT : s.TypeIs (.int i t) "int" := typeIs_int _ _ _
  have c : wpAny (model prog w) A (call (.builtin "int.__sub__") [.int i t, .ref a]) (fun v s' => v = .notImplemented ∧ ((none : Option Value) = none ∧ Q .notImplemented s')) E s :=
    call_givesAt F.slot_int_sub hT F.entry_int_sub (F.args_int_sub_2 _ _) g ⟨o, ho, hd⟩ (show Value.notImplemented = .notImplemented ∧ _ from ⟨rfl, rfl, q⟩)
  have e : PySem.dunder Operator.Sub.info.2 = PySem.dunder "sub" := congrArg PySem.dunder (show Operator.Sub.info.2 = "sub" from rfl)
  rw [e]
  refine wpAny_tryMethod_declines (T := "int") (id := "int.__sub__") (Q := fun r s' => r = none ∧ Q .notImplemented s') ?h1 ?h2 ?h3
  case h1 => exact hT
  case h2 => exact F.slot_int_sub
  case h3 => exact c
theorem decl_mul {prog : Program} {w : World} (A : Around) (E : Value → Shared → Prop) (s : Shared) (i : Int) (t : Tok) (a : Addr) (o : Obj) (ho : s.heap.get? a = some o) (hd : ∀ j u, o.data ≠ .prim (.int j u)) (Q : Value → Shared → Prop) (q : Q .notImplemented s) :
    wpAny (model prog w) A (tryMethod (.int i t) (PySem.dunder Operator.Mult.info.2) (.ref a)) (fun r s' => r = none ∧ Q .notImplemented s') E s := by
  have g : GivesAt (fun s => ∃ o, s.heap.get? a = some o ∧ ∀ j u, o.data ≠ .prim (.int j u)) (Builtin.«int.__mul__» ⟨[.int i t, .ref a], []⟩) (.val .notImplemented) := gives_no
  have hT : s.TypeIs (.int i t) "int" := typeIs_int _ _ _
  have c : wpAny (model prog w) A (call (.builtin "int.__mul__") [.int i t, .ref a]) (fun v s' => v = .notImplemented ∧ ((none : Option Value) = none ∧ Q .notImplemented s')) E s :=
    call_givesAt F.slot_int_mul hT F.entry_int_mul (F.args_int_mul_2 _ _) g ⟨o, ho, hd⟩ (show Value.notImplemented = .notImplemented ∧ _ from ⟨rfl, rfl, q⟩)
  have e : PySem.dunder Operator.Mult.info.2 = PySem.dunder "mul" := congrArg PySem.dunder (show Operator.Mult.info.2 = "mul" from rfl)
  rw [e]
  refine wpAny_tryMethod_declines (T := "int") (id := "int.__mul__") (Q := fun r s' => r = none ∧ Q .notImplemented s') ?h1 ?h2 ?h3
  case h1 => exact hT
  case h2 => exact F.slot_int_mul
  case h3 => exact c
/-- x == y, x of C with an own __eq__ at g -/
theorem cmp_ownB {op : CmpOp} (hop : ∀ a b, compareOp op a b = richCompare op a b) (hs : PySem.W.findIn X.K (.ref C) (cmpInfo op).2.1 = some (some (.ref g))) (hf : PySem.W.isFn X.K (.ref g) = true)
    (F : FnOk X.prog X.w X.K X.mg X.base CX k g fd ps sp) (hr : Room k X.A) (hb : Binds X.K fd ps []) (hx : Passes CX X E) : OpR X (compareOp op) (rOwnB C sp E) := by
  intro pins s σ H x y v u Q I rx ry h
  obtain ⟨a, dx, fs, rfl, ha, hy, q⟩ := h
  cases (show v = Value.ref a from rx)
  obtain ⟨od, J⟩ := inst_of I ha
  obtain ⟨m, hF⟩ := I.fr
  rw [hop]
  rcases hy with ⟨i, rfl⟩ | ⟨b, dy, gs, rfl, hb2⟩
  · obtain ⟨t, e⟩ := (show ∃ t, u = Value.int i t from ry)
    cases e
    refine PySem.W.cmp_K (op := op) (tb := .type "int") hr.units0 hF I.ok.mod.kin J (PySem.W.Looks.of_pure rfl) (by unfold PySem.W.notFirst; rw [sub_int]; rfl) hs hf ?_
    exact wpAny_mono (run_fn (us := [.ref a, .int i t]) (vs := [.ref a, .int i]) (dvs := []) (ds := []) F hr hb .nil hx I (.cons rfl (.cons ⟨t, rfl⟩ .nil)) q) backs fun _ _ e => e
  · cases (show u = Value.ref b from ry)
    obtain ⟨od', J'⟩ := inst_of I hb2
    refine PySem.W.cmp_K (op := op) (tb := .ref C) hr.units0 hF I.ok.mod.kin J J'.type (by unfold PySem.W.notFirst; rw [beq_self_eq_true]; rfl) hs hf ?_
    exact wpAny_mono (run_fn (us := [.ref a, .ref b]) (vs := [.ref a, .ref b]) (dvs := []) (ds := []) F hr hb .nil hx I (.cons rfl (.cons rfl .nil)) q) backs fun _ _ e => e
/-! ### a staticmethod called through its class -/
structure SMet (K : PySem.W.Frag) (C : Addr) (m : Str) (p g : Addr) : Prop where
  rd : PySem.W.readsIn K C (.type "type") = true
  ga : PySem.W.specialIn K (.ref C) "__getattribute__" = some (some (.builtin "type.__getattribute__"))
  at_ : PySem.W.findCls K (.ref C) (.type "type") m = some (.get (.builtin "staticmethod.__get__") (.ref p) .none (.ref C))
  rc : ∃ rest, PySem.W.recIn K p "staticmethod" = some (.ref g :: rest)
  kp : PySem.W.keepIn K (.ref g) = true
theorem getmethsm_ok {m : Str} {p : Addr} {pl : Sem Bool} {A : Around} {E : Value → Shared → Prop} {Q : Value × List Value → Shared → Prop} (I : Inv X pins σ H s) (k : SMet X.K C m p g)
    (h : ∀ s', Inv X pins σ H s' → Q (.ref g, []) s') : wpAny (model X.prog X.w) A (getMethod (.ref C) m pl) Q E s := by
  obtain ⟨rest, hp⟩ := k.rc
  refine PySem.W.method_cls I.kIn k.ga (PySem.W.cls_bind I.kIn k.rd k.at_ ?_)
  exact wpAny_call (PySem.W.sm_get (s := { s with toks := s.toks + 1 }) I.kIn hp (PySem.W.handed_on rfl (h _ (I.tok _))))
/-- C.m(e, ..) -/
def tSMeth (C : Addr) (sp : Sp) (E : XK) (ta : TE) (t : TA) : TE := fun σ H Q => ta σ H fun x H1 => x = .ref C ∧ t σ H1 fun vs H2 => sp vs H2 Q E
theorem pe_smeth {m : Str} {p : Addr} {o e : Expr} {es : List Expr} {pos apos : Pos} {ta : TE} {t : TA} {pl : Sem Bool} (he : PE X o ta) (c : SMet X.K C m p g) (F : FnOk X.prog X.w X.K X.mg X.base CX k g fd ps sp) (hr : Room k X.A) (hb : Binds X.K fd ps []) (hx : Passes CX X E) (ha : PA X (e :: es) t)
    (hst : starEach (e :: es) X.env = (false, eval e X.env) :: starEach es X.env := by rfl) (hpl : (backTo pos (starEach es X.env)).any (·.1) = false := by rfl)
    (ht : eval (.Call (.Attribute o m apos) (e :: es) [] pos) X.env = (do
      let ov ← eval o X.env
      standAt apos.atName
      let (f, first) ← holding [ov] (getMethod ov m pl)
      callWith pos f first (backTo pos (starEach (e :: es) X.env)) (backToKw pos (keywordEach [] X.env))) := by rfl) :
    PE X (.Call (.Attribute o m apos) (e :: es) [] pos) (tSMeth C sp E ta t) := by
  refine ⟨fun pins s σ H Q I h => ?_⟩
  refine PySem.W.methodCall_KW (pl := pl) (thn (he.run pins s σ H _ I h) fun u s1 ⟨x, H1, I1, rx, ex, q⟩ => ?_) ht
  subst ex
  obtain rfl : u = Value.ref C := rx
  refine getmethsm_ok I1 c fun s2 I2 => ?_
  refine PySem.W.callWith_K (first := []) (h₀ := X.base) I.ok.mod.kin c.kp (thn (ha.run pos pins s2 σ H1 _ I2 q) fun us s3 ⟨vs, H2, I3, r, q2⟩ => ⟨I3.kIn, ?_⟩) hst hpl
  refine run_fn (us := us) (vs := vs) (dvs := []) (ds := []) F hr hb .nil hx I3 r ?_
  rw [List.append_nil]
  exact q2
end
end PW
/-! ### == and != with an empty list or tuple -/
namespace PW
open PySem PySem.Spec PyProof.Rows L2 PySem.SeqAt
section
variable {prog : Program} {w : World}
theorem list_ne_size (l b : Addr) (items items2 : Array Value) (n n2 : Nat) (dd dd2 : Option Addr) (sl sl2 : Array (Option Value)) (hsz : items.size ≠ items2.size) :
    MeetsIn prog w (Builtin.«list.__eq__» ⟨[.ref l, .ref b], []⟩)
      (fun A R s => s.heap.get? l = some { cls := .type "list", dict := dd, data := .seq items n, slots := sl } ∧ s.heap.get? b = some { cls := .type "list", dict := dd2, data := .seq items2 n2, slots := sl2 } ∧
        R (.ok (.ret (.bool false))) s) := by
  intro A R s h
  obtain ⟨hp, g, d, tk, os⟩ := s; obtain ⟨hl, hb, h⟩ := h
  have f3 := AutoSeq1.sub_list_list
  have hne : (items.size != items2.size) = true := by simpa using hsz
  wp_walk using PySem.AutoSeq1.wpAny_loadPart' hl, PySem.AutoSeq1.wpAny_loadPart' hb
  exact h
theorem rcP_list_size {A : Around} {s : Shared} {l b : Addr} {items items2 : Array Value} (hl : s.heap.IsList l items) (hb : s.heap.IsList b items2) (hsz : items.size ≠ items2.size) (hu : A.units < cLine)
    (E Q : Value → Shared → Prop) (h : Q (.bool false) s) : wpAny (model prog w) A (richCompare .Eq (.ref l) (.ref b)) Q E s := by
  obtain ⟨⟨cls, dd, data, sl⟩, ho, hc, n, hd⟩ := id hl
  obtain ⟨⟨cls2, dd2, data2, sl2⟩, ho2, hc2, n2, hd2⟩ := id hb
  simp only at hc hd hc2 hd2
  subst hc hd hc2 hd2
  have ta : s.TypeIs (.ref l) "list" := ⟨_, ho, rfl⟩
  have tb : s.TypeIs (.ref b) "list" := ⟨_, ho2, rfl⟩
  exact wpAny_richCompare_same_room (op := .Eq) ta tb F.slot_list_eq (call_meetsIn F.slot_list_eq ta F.entry_list_eq (F.args_list_eq_2 _ _) (list_ne_size l b items items2 n n2 dd dd2 sl sl2 hsz)
    ⟨ho, ho2, show Value.bool false ≠ Value.notImplemented ∧ Q (.bool false) s from ⟨(fun x => nomatch x), h⟩⟩) hu
theorem tup_empty (ne : Bool) (l b : Addr) (items : Array Value) (n n2 : Nat) (dd dd2 : Option Addr) (sl sl2 : Array (Option Value)) :
    MeetsIn prog w ((if ne then Builtin.«tuple.__ne__» else Builtin.«tuple.__eq__») ⟨[.ref l, .ref b], []⟩)
      (fun A R s => s.heap.get? l = some { cls := .type "tuple", dict := dd, data := .seq items n, slots := sl } ∧ s.heap.get? b = some { cls := .type "tuple", dict := dd2, data := .seq #[] n2, slots := sl2 } ∧
        R (.ok (.ret (.bool (if ne then items.size != 0 else items.size == 0)))) s) := by
  intro A R s h
  obtain ⟨hp, g, d, tk, os⟩ := s; obtain ⟨hl, hb, h⟩ := h
  have f2 := AutoSeq1.sub_tuple_tuple
  cases ne with
  | true =>
    show wpAny _ _ (Builtin.«tuple.__ne__» ⟨[.ref l, .ref b], []⟩) _ _ _
    wp_walk using PySem.AutoSeq1.wpAny_loadPart' hl, PySem.AutoSeq1.wpAny_loadPart' hb
    have hz : items.toList.zip (#[] : Array Value).toList = [] := by simp
    generalize items.toList.zip (#[] : Array Value).toList = L at hz
    subst hz
    wp_walk
    simpa [Builtin.Tuple.tupleCompareSizes] using h
  | false =>
    show wpAny _ _ (Builtin.«tuple.__eq__» ⟨[.ref l, .ref b], []⟩) _ _ _
    wp_walk using PySem.AutoSeq1.wpAny_loadPart' hl, PySem.AutoSeq1.wpAny_loadPart' hb
    have hz : items.toList.zip (#[] : Array Value).toList = [] := by simp
    generalize items.toList.zip (#[] : Array Value).toList = L at hz
    subst hz
    wp_walk
    simpa [Builtin.Tuple.tupleCompareSizes] using h
end
end PW
namespace PW
open PySem PySem.Spec PyProof.Rows L2 PySem.SeqAt
section
variable {prog : Program} {w : World}
theorem rcP_tup_eq {A : Around} {s : Shared} {l b : Addr} {items : Array Value} (hl : IsTup s.heap l items) (hb : IsTup s.heap b #[]) (hu : A.units < cLine)
    (E Q : Value → Shared → Prop) (h : Q (.bool (items.size == 0)) s) : wpAny (model prog w) A (richCompare .Eq (.ref l) (.ref b)) Q E s := by
  obtain ⟨⟨cls, dd, data, sl⟩, ho, hc, n, hd⟩ := id hl
  obtain ⟨⟨cls2, dd2, data2, sl2⟩, ho2, hc2, n2, hd2⟩ := id hb
  simp only at hc hd hc2 hd2
  subst hc hd hc2 hd2
  have ta : s.TypeIs (.ref l) "tuple" := ⟨_, ho, rfl⟩
  have tb : s.TypeIs (.ref b) "tuple" := ⟨_, ho2, rfl⟩
  exact wpAny_richCompare_same_room (op := .Eq) ta tb F.slot_tuple_eq (call_meetsIn F.slot_tuple_eq ta F.entry_tuple_eq (F.args_tuple_eq_2 _ _) (tup_empty false l b items n n2 dd dd2 sl sl2)
    ⟨ho, ho2, show Value.bool (items.size == 0) ≠ Value.notImplemented ∧ Q (.bool (items.size == 0)) s from ⟨(fun x => nomatch x), h⟩⟩) hu
theorem rcP_tup_ne {A : Around} {s : Shared} {l b : Addr} {items : Array Value} (hl : IsTup s.heap l items) (hb : IsTup s.heap b #[]) (hu : A.units < cLine)
    (E Q : Value → Shared → Prop) (h : Q (.bool (items.size != 0)) s) : wpAny (model prog w) A (richCompare .NotEq (.ref l) (.ref b)) Q E s := by
  obtain ⟨⟨cls, dd, data, sl⟩, ho, hc, n, hd⟩ := id hl
  obtain ⟨⟨cls2, dd2, data2, sl2⟩, ho2, hc2, n2, hd2⟩ := id hb
  simp only at hc hd hc2 hd2
  subst hc hd hc2 hd2
  have ta : s.TypeIs (.ref l) "tuple" := ⟨_, ho, rfl⟩
  have tb : s.TypeIs (.ref b) "tuple" := ⟨_, ho2, rfl⟩
  exact wpAny_richCompare_same_room (op := .NotEq) ta tb F.slot_tuple_ne (call_meetsIn F.slot_tuple_ne ta F.entry_tuple_ne (F.args_tuple_ne_2 _ _) (tup_empty true l b items n n2 dd dd2 sl sl2)
    ⟨ho, ho2, show Value.bool (items.size != 0) ≠ Value.notImplemented ∧ Q (.bool (items.size != 0)) s from ⟨(fun x => nomatch x), h⟩⟩) hu
end
def rEqE (K : PySem.W.Frag) : R2 := fun x y H Q => ∃ a b xs, x = .ref a ∧ y = .ref b ∧ ((SqL K H a xs ∧ SqL K H b []) ∨ (SqT K H a xs ∧ SqT K H b [])) ∧ Q (.bl xs.isEmpty) H
def rNeE (K : PySem.W.Frag) : R2 := fun x y H Q => ∃ a b xs, x = .ref a ∧ y = .ref b ∧ SqT K H a xs ∧ SqT K H b [] ∧ Q (.bl (!xs.isEmpty)) H
section
variable {X : Cx}
theorem size_empty {xs : List V} {us : List Value} (r : Vals xs us) : (us.toArray.size == 0) = xs.isEmpty := by
  cases r with
  | nil => rfl
  | cons a b => rfl
theorem op_eqE (hu : X.A.units < cLine) : OpR X (compareOp .Eq) (rEqE X.K) := by
  intro pins s σ H x y v u Q I rx ry h
  obtain ⟨a, b, xs, rfl, rfl, h, q⟩ := h
  cases (show v = Value.ref a from rx)
  cases (show u = Value.ref b from ry)
  rcases h with ⟨ha, hb⟩ | ⟨ha, hb⟩
  · obtain ⟨us, r1, p1, _⟩ := I.list ha
    obtain ⟨ws, r2, p2, _⟩ := I.list hb
    cases r2
    cases r1 with
    | nil => exact rcP_lists (e := fun _ => true) p1.isList p2.isList rfl hu (fun j h1 _ => absurd h1 (Nat.not_lt_zero _)) _ _ ⟨.bl true, H, I, rfl, q⟩
    | cons r t => exact rcP_list_size p1.isList p2.isList (by simp) hu _ _ ⟨.bl false, H, I, rfl, q⟩
  · obtain ⟨us, r1, p1, _⟩ := I.tuple ha
    obtain ⟨ws, r2, p2, _⟩ := I.tuple hb
    cases r2
    refine rcP_tup_eq p1 p2 hu _ _ ⟨.bl xs.isEmpty, H, I, ?_, q⟩
    rw [size_empty r1]
    exact rfl
theorem op_neE (hu : X.A.units < cLine) : OpR X (compareOp .NotEq) (rNeE X.K) := by
  intro pins s σ H x y v u Q I rx ry h
  obtain ⟨a, b, xs, rfl, rfl, ha, hb, q⟩ := h
  cases (show v = Value.ref a from rx)
  cases (show u = Value.ref b from ry)
  obtain ⟨us, r1, p1, _⟩ := I.tuple ha
  obtain ⟨ws, r2, p2, _⟩ := I.tuple hb
  cases r2
  refine rcP_tup_ne p1 p2 hu _ _ ⟨.bl (!xs.isEmpty), H, I, ?_, q⟩
  show Value.bool (!(us.toArray.size == 0)) = _
  rw [size_empty r1]
end
/-! ### steps -/
def MkN (C : Addr) (sp : Sp) (vs : List V) (E : XK) (Q : VK) (H : Hp) : Prop := ∀ x dx, H x = none → H dx = none → dx ≠ x → sp (.ref x :: vs) (upd (upd H dx (.own x)) x (.ins C dx [])) (fun v H2 => v = .non ∧ Q (.ref x) H2) E
def MkKN (C : Addr) (sp : Sp) (gV : List V → List V → List V) (vs zs : List V) (E : XK) (Q : VK) (H : Hp) : Prop := ∀ x dx, H x = none → H dx = none → dx ≠ x → sp (gV (.ref x :: vs) zs) (upd (upd H dx (.own x)) x (.ins C dx [])) (fun v H2 => v = .non ∧ Q (.ref x) H2) E
section
variable {K : PySem.W.Frag} {σ : L2.St} {H : Hp} {Q : VK} {ta : TE} {t : TA} {tk : TA} {C a b : Addr} {sp : Sp} {E : XK} {xs : List V} {n m : Nat} {gV : List V → List V → List V} {f : Str} {i : Int}
theorem r_eqEL (h : SqL K H a xs) (h2 : SqL K H b []) (q : Q (.bl xs.isEmpty) H) : rEqE K (.ref a) (.ref b) H Q := ⟨a, b, xs, rfl, rfl, .inl ⟨h, h2⟩, q⟩
theorem r_eqET (h : SqT K H a xs) (h2 : SqT K H b []) (q : Q (.bl xs.isEmpty) H) : rEqE K (.ref a) (.ref b) H Q := ⟨a, b, xs, rfl, rfl, .inr ⟨h, h2⟩, q⟩
theorem r_neET (h : SqT K H a xs) (h2 : SqT K H b []) (q : Q (.bl (!xs.isEmpty)) H) : rNeE K (.ref a) (.ref b) H Q := ⟨a, b, xs, rfl, rfl, h, h2, q⟩
instance : Step (tSMeth C sp E (tC (.ref C)) t σ H Q) (t σ H fun vs H2 => sp vs H2 Q E) := ⟨fun q => ⟨rfl, q⟩⟩
instance : Step (tMakeK C n m sp gV E t tk σ H Q) (t σ H fun vs H1 => tk σ H1 fun zs H2 => vs.length = n ∧ zs.length = m ∧ MkKN C sp gV vs zs E Q H2) := ⟨id⟩
instance {dvs : List V} : Step (tMake C sp dvs E t σ H Q) (t σ H fun vs H1 => MkN C sp (vs ++ dvs) E Q H1) := ⟨id⟩
end
end PW
/-! ### facts of an own class, as Bools -/
namespace PW
open PySem PySem.Spec PyProof.Rows L2
def insB (K : PySem.W.Frag) (C : Addr) : Bool := He.eqO (PySem.W.findIn K (.ref C) "__class__") (some (some (.builtin "object.__class__"))) && (He.eqO (PySem.W.specialIn K (.builtin "object.__class__") "__get__") (some (some (.builtin "getset_descriptor.__get__"))) &&
  (decide (PySem.W.takesIn K (.builtin "object.__class__") = some true) && (decide (PySem.W.mroIn K C (.type "object") = some true) && decide (PySem.W.kitOne K (.ref C) (.ref C) = some true))))
theorem insB_ok {K : PySem.W.Frag} {C : Addr} (k : Cls K C) (h : insB K C = true) : C8.InsC K C := by
  obtain ⟨h1, h⟩ := He.ba h
  obtain ⟨h2, h⟩ := He.ba h
  obtain ⟨h3, h⟩ := He.ba h
  obtain ⟨h4, h5⟩ := He.ba h
  exact ⟨k, He.eqO_ok h1, He.eqO_ok h2, of_decide_eq_true h3, of_decide_eq_true h4, of_decide_eq_true h5⟩
/-- isinstance between the class and built-in types: no -/
structure IsTys (K : PySem.W.Frag) (C : Addr) : Prop where
  l : ∀ n ∈ ["int", "bool", "str", "NoneType", "float", "list", "tuple", "dict"], PySem.W.kitOne K (.type n) (.ref C) = some false
  r : ∀ n ∈ ["int", "bool", "str", "list", "tuple", "dict"], PySem.W.kitOne K (.ref C) (.type n) = some false
def isTysB (K : PySem.W.Frag) (C : Addr) : Bool := (["int", "bool", "str", "NoneType", "float", "list", "tuple", "dict"].all fun n => decide (PySem.W.kitOne K (.type n) (.ref C) = some false)) && (["int", "bool", "str", "list", "tuple", "dict"].all fun n => decide (PySem.W.kitOne K (.ref C) (.type n) = some false))
theorem isTysB_ok {K : PySem.W.Frag} {C : Addr} (h : isTysB K C = true) : IsTys K C := by
  obtain ⟨h1, h2⟩ := He.ba h
  exact ⟨fun n hn => of_decide_eq_true (List.all_eq_true.mp h1 n hn), fun n hn => of_decide_eq_true (List.all_eq_true.mp h2 n hn)⟩
def smetB (K : PySem.W.Frag) (C : Addr) (m : Str) (p g : Addr) : Bool := PySem.W.readsIn K C (.type "type") && (He.eqO (PySem.W.specialIn K (.ref C) "__getattribute__") (some (some (.builtin "type.__getattribute__"))) &&
  ((match PySem.W.findCls K (.ref C) (.type "type") m with
    | some (.get (.builtin n) (.ref q) .none (.ref D)) => decide (n = "staticmethod.__get__") && (decide (q = p) && decide (D = C))
    | _ => false) && ((match PySem.W.recIn K p "staticmethod" with
    | some (.ref f :: _) => decide (f = g)
    | _ => false) && PySem.W.keepIn K (.ref g))))
theorem smetB_ok {K : PySem.W.Frag} {C : Addr} {m : Str} {p g : Addr} (h : smetB K C m p g = true) : SMet K C m p g := by
  obtain ⟨h1, h⟩ := He.ba h
  obtain ⟨h2, h⟩ := He.ba h
  obtain ⟨h3, h⟩ := He.ba h
  obtain ⟨h4, h5⟩ := He.ba h
  refine ⟨h1, He.eqO_ok h2, ?_, ?_, h5⟩
  · split at h3
    · rename_i n q D e
      obtain ⟨k1, k⟩ := He.ba h3
      obtain ⟨k2, k3⟩ := He.ba k
      rw [e, of_decide_eq_true k1, of_decide_eq_true k2, of_decide_eq_true k3]
    · cases h3
  · split at h4
    · rename_i f rest e
      rw [of_decide_eq_true h4] at e
      exact ⟨rest, e⟩
    · cases h4
def ownB (K : PySem.W.Frag) (C : Addr) (op : Operator) (g : Addr) : Bool := PySem.W.selfFirst K C && (He.eqO (PySem.W.findIn K (.ref C) (PySem.dunder op.info.2)) (some (some (.ref g))) && (PySem.W.isFn K (.ref g) &&
  ((match PySem.W.findIn K (.ref C) (dunderR op.info.2) with
    | some none => true
    | some (some (.ref _)) => true
    | _ => false) && ((PySem.W.findIn K (.type "int") (PySem.dunder op.info.2)).isSome && (PySem.W.findIn K (.type "int") (dunderR op.info.2)).isSome))))
theorem ownB_ok {K : PySem.W.Frag} {C : Addr} {op : Operator} {g : Addr} (h : ownB K C op g = true) : OwnB K C op g := by
  obtain ⟨h1, h⟩ := He.ba h
  obtain ⟨h2, h⟩ := He.ba h
  obtain ⟨h3, h⟩ := He.ba h
  obtain ⟨h4, h⟩ := He.ba h
  obtain ⟨h5, h6⟩ := He.ba h
  refine ⟨h1, He.eqO_ok h2, h3, ?_, Option.isSome_iff_exists.mp h5, Option.isSome_iff_exists.mp h6⟩
  split at h4
  · rename_i e
    exact ⟨none, e, .inl rfl⟩
  · rename_i a e
    exact ⟨_, e, .inr ⟨a, rfl⟩⟩
  · cases h4
def ownR (K : PySem.W.Frag) (C : Addr) (op : Operator) (g : Addr) : Bool := PySem.W.selfFirst K C && ((match PySem.W.findIn K (.ref C) (PySem.dunder op.info.2) with
    | some (some (.ref _)) => true
    | _ => false) && (He.eqO (PySem.W.findIn K (.ref C) (dunderR op.info.2)) (some (some (.ref g))) && (PySem.W.isFn K (.ref g) && (decide (PySem.W.subIn K (.ref C) (.type "int") = some false) &&
  ((match PySem.W.findIn K (.type "int") (PySem.dunder op.info.2) with
    | some fo => fo.isSome && !isSeqSlot fo
    | _ => false) && (PySem.W.findIn K (.type "int") (dunderR op.info.2)).isSome)))))
theorem ownR_ok {K : PySem.W.Frag} {C : Addr} {op : Operator} {g : Addr} (h : ownR K C op g = true) : OwnR K C op g := by
  obtain ⟨h1, h⟩ := He.ba h
  obtain ⟨h2, h⟩ := He.ba h
  obtain ⟨h3, h⟩ := He.ba h
  obtain ⟨h4, h⟩ := He.ba h
  obtain ⟨h5, h⟩ := He.ba h
  obtain ⟨h6, h7⟩ := He.ba h
  refine ⟨h1, ?_, He.eqO_ok h3, h4, of_decide_eq_true h5, ?_, Option.isSome_iff_exists.mp h7⟩
  · split at h2
    · rename_i a e
      exact ⟨a, e⟩
    · cases h2
  · split at h6
    · rename_i fo e
      obtain ⟨k1, k2⟩ := He.ba h6
      exact ⟨fo, e, k1, by simpa using k2⟩
    · cases h6
end PW
/-! ### readings of instances, of two and three names, of while -/
namespace PW
open PySem PySem.Spec PyProof.Rows L2
def ParN (i j : Nat) (nx : L2.St → Hp → Prop) (σ : L2.St) (vs : List V) (H : Hp) : Prop := ∃ v w, vs = [v, w] ∧ nx ((σ.set i (some v)).set j (some w)) H
def ParN3 (i j l : Nat) (nx : L2.St → Hp → Prop) (σ : L2.St) (vs : List V) (H : Hp) : Prop := ∃ u v w, vs = [u, v, w] ∧ nx (((σ.set i (some u)).set j (some v)).set l (some w)) H
section
variable {σ τ τ2 τ3 : L2.St} {H : Hp} {Q : VK} {D : Ends} {i j l : Nat} {ta : TA} {a b c : V} {nx : L2.St → Hp → Prop} {K : PySem.W.Frag} {te tv : TE}
instance : Step (tPar i j ta D σ H) (ta σ H fun vs H1 => ParN i j D.nx σ vs H1) := ⟨id⟩
instance [h1 : Put σ i a τ] [h2 : Put τ j b τ2] : Step (ParN i j nx σ [a, b] H) (nx τ2 H) := ⟨fun q => ⟨a, b, rfl, by rw [h1.eq, h2.eq]; exact q⟩⟩
instance : Step (tPar3 i j l ta D σ H) (ta σ H fun vs H1 => ParN3 i j l D.nx σ vs H1) := ⟨id⟩
instance [h1 : Put σ i a τ] [h2 : Put τ j b τ2] [h3 : Put τ2 l c τ3] : Step (ParN3 i j l nx σ [a, b, c] H) (nx τ3 H) := ⟨fun q => ⟨a, b, c, rfl, by rw [h1.eq, h2.eq, h3.eq]; exact q⟩⟩
instance {to : TE} : Step (tBits to σ H Q) (to σ H fun x H1 => ∃ i, x = .int i ∧ Q (.int (Builtin.Int.intBits i : Nat)) H1) := ⟨id⟩
def RevN (K : PySem.W.Frag) (Q : VK) (x : V) (H : Hp) : Prop := ∃ a xs, x = .ref a ∧ SqL K H a xs ∧ ∀ p, H p = none → Q (.ref p) (upd H p (.lst xs.reverse))
instance : Step (tRevL K te σ H Q) (te σ H fun x H1 => RevN K Q x H1) := ⟨id⟩
theorem r_rev {p : Addr} {xs : List V} (h : SqL K H p xs) (q : ∀ r, H r = none → Q (.ref r) (upd H r (.lst xs.reverse))) : RevN K Q (.ref p) H := ⟨p, xs, rfl, h, q⟩
def FldN (K : PySem.W.Frag) (f : Str) (Q : VK) (x : V) (H : Hp) : Prop := ∃ a C dx fs v, x = .ref a ∧ H a = some (.ins C dx fs) ∧ Cls K C ∧ NoAttr K C f ∧ fs.lookup f = some v ∧ Q v H
instance {f : Str} : Step (tFld K te f σ H Q) (te σ H fun x H1 => FldN K f Q x H1) := ⟨id⟩
theorem r_fld {p C dx : Addr} {fs : List (Str × V)} {f : Str} {v : V} (h : H p = some (.ins C dx fs)) (c : Cls K C) (n : NoAttr K C f) (l : fs.lookup f = some v) (q : Q v H) : FldN K f Q (.ref p) H := ⟨p, C, dx, fs, v, rfl, h, c, n, l, q⟩
def SFldN (K : PySem.W.Frag) (f : Str) (nx : L2.St → Hp → Prop) (σ : L2.St) (y x : V) (H : Hp) : Prop := ∃ a C dx fs, x = .ref a ∧ H a = some (.ins C dx fs) ∧ Cls K C ∧ NoAttr K C f ∧ fs.length < 1000 ∧ nx σ (upd H a (.ins C dx (putF f y fs)))
instance {f : Str} : Step (sFld K te tv f D σ H) (tv σ H fun y H1 => te σ H1 fun x H2 => SFldN K f D.nx σ y x H2) := ⟨id⟩
theorem r_sfld {p C dx : Addr} {fs : List (Str × V)} {f : Str} {y : V} (h : H p = some (.ins C dx fs)) (c : Cls K C) (n : NoAttr K C f) (l : fs.length < 1000) (q : nx σ (upd H p (.ins C dx (putF f y fs)))) : SFldN K f nx σ y (.ref p) H := ⟨p, C, dx, fs, rfl, h, c, n, l, q⟩
def MethN (C : Addr) (m : Str) (sp : Sp) (dvs : List V) (E : XK) (t : TA) (σ : L2.St) (Q : VK) (x : V) (H : Hp) : Prop := ∃ a dx fs, x = .ref a ∧ H a = some (.ins C dx fs) ∧ fs.lookup m = none ∧ t σ H fun vs H2 => sp (x :: (vs ++ dvs)) H2 Q E
instance {C : Addr} {m : Str} {sp : Sp} {dvs : List V} {E : XK} {t : TA} : Step (tMeth C m sp dvs E te t σ H Q) (te σ H fun x H1 => MethN C m sp dvs E t σ Q x H1) := ⟨id⟩
theorem r_methC {p C dx : Addr} {m : Str} {fs : List (Str × V)} {sp : Sp} {dvs : List V} {E : XK} {t : TA} (h : H p = some (.ins C dx fs)) (l : fs.lookup m = none) (q : t σ H fun vs H2 => sp (.ref p :: (vs ++ dvs)) H2 Q E) : MethN C m sp dvs E t σ Q (.ref p) H := ⟨p, dx, fs, rfl, h, l, q⟩
instance {T : String} {r : V → List V → Hp → VK → Prop} : Step (tBM0 K T r te σ H Q) (te σ H fun x H1 => tyV K T x H1 ∧ r x [] H1 Q) := ⟨id⟩
instance {T : String} {r : V → List V → Hp → VK → Prop} {t : TA} : Step (tBM K T r te t σ H Q) (te σ H fun x H1 => tyV K T x H1 ∧ t σ H1 fun xs H2 => r x xs H2 Q) := ⟨id⟩
theorem r_isiO {x : V} {C : Addr} {t : Value} {k : Bool} (h : TyX K H x t) (e : PySem.W.kitOne K t (.ref C) = some k) (q : Q (.bl k) H) : rIsi K [x, .ref C] H Q := ⟨x, .ref C, t, .ref C, k, rfl, .own C, h, e, q⟩
theorem r_isiC {x : V} {C : Addr} {n : String} {k : Bool} (h : TyX K H x (.ref C)) (e : PySem.W.kitOne K (.ref C) (.type n) = some k) (q : Q (.bl k) H) : rIsi K [x, .ty n] H Q := ⟨x, .ty n, .ref C, .type n, k, rfl, .ty n, h, e, q⟩
theorem ty_ins {p C dx : Addr} {fs : List (Str × V)} (i : C8.InsC K C) (h : H p = some (.ins C dx fs)) : TyX K H (.ref p) (.ref C) := .base (.ins h i.cl i.ha i.hn i.htk i.hm)
end
/-- while, by a word of a measure and the state -/
theorem while_it {c : TT} {tb : TS} {D : Ends} {σ : L2.St} {H : Hp} (Pv : Nat → L2.St → Hp → Prop) {m0 : Nat} (h0 : Pv m0 σ H)
    (hs : ∀ m σ H, Pv m σ H → c σ H fun b H1 => if b = true then ∃ N : L2.St → Hp → Prop, (∀ σ' H', N σ' H' → ∃ m', m' < m ∧ Pv m' σ' H') ∧ tb { D with nx := N, ct := N, bk := D.nx } σ H1 else D.nx σ H1) : tWhile c tb D σ H := ⟨Pv, ⟨m0, h0⟩, hs⟩
/-- .. a turn is taken -/
theorem r_turn {Pv : Nat → L2.St → Hp → Prop} {tb : TS} {D : Ends} {σ : L2.St} {H : Hp} {m : Nat} (h : tb { D with nx := fun σ' H' => ∃ m', m' < m ∧ Pv m' σ' H', ct := fun σ' H' => ∃ m', m' < m ∧ Pv m' σ' H', bk := D.nx } σ H) :
    ∃ N : L2.St → Hp → Prop, (∀ σ' H', N σ' H' → ∃ m', m' < m ∧ Pv m' σ' H') ∧ tb { D with nx := N, ct := N, bk := D.nx } σ H := ⟨fun σ' H' => ∃ m', m' < m ∧ Pv m' σ' H', fun _ _ h => h, h⟩
end PW
namespace PW
open PySem PySem.Spec PyProof.Rows L2
section
variable {H : Hp} {Q : VK} {K : PySem.W.Frag} {p b : Addr} {xs zs : List V} {y : V} {i : Int} {R : Prop}
theorem r_tyL (h : SqL K H p xs) (q : R) : tyV K "list" (.ref p) H ∧ R := ⟨Or.inl ⟨rfl, xs, h⟩, q⟩
theorem r_append (h : H p = some (.lst xs)) (l : xs.length < sizeLine) (q : Q .non (upd H p (.lst (xs ++ [y])))) : rAppend (.ref p) [y] H Q := ⟨p, xs, y, rfl, rfl, h, l, q⟩
theorem r_pop (h : H p = some (.lst xs)) (e : xs[xs.length - 1]? = some y) (q : Q y (upd H p (.lst xs.dropLast))) : rPop (.ref p) [] H Q := ⟨p, xs, y, rfl, rfl, h, e, q⟩
theorem r_insert (h : H p = some (.lst xs)) (l : xs.length < sizeLine) (h0 : 0 ≤ i) (h1 : i < 2 ^ 63) (q : Q .non (upd H p (.lst (xs.take i.toNat ++ [y] ++ xs.drop i.toNat)))) :
    ∃ (l : Addr) (ys : List V) (j : Int) (z : V), V.ref p = .ref l ∧ [V.int i, y] = [.int j, z] ∧ H l = some (.lst ys) ∧ ys.length < sizeLine ∧ 0 ≤ j ∧ j < 2 ^ 63 ∧ Q .non (upd H l (.lst (ys.take j.toNat ++ [z] ++ ys.drop j.toNat))) := ⟨p, xs, i, y, rfl, rfl, h, l, h0, h1, q⟩
theorem r_cat (h : H p = some (.lst xs)) (h2 : H b = some (.lst zs)) (l : xs.length + zs.length ≤ sizeLine) (q : ∀ r, H r = none → Q (.ref r) (upd H r (.lst (xs ++ zs)))) : rCat (.ref p) (.ref b) H Q := ⟨p, b, xs, zs, rfl, rfl, h, h2, l, q⟩
theorem r_sum {ns : List Int} (h : SqL K H p (ns.map V.int)) (q : Q (.int ns.sum) H) : rSum K [.ref p] H Q := ⟨p, ns, rfl, h, q⟩
end
end PW
namespace PW
open PySem PySem.Spec PyProof.Rows L2
theorem Ex.tupN {K : PySem.W.Frag} {p r : Addr} {o : HO} {H : Hp} {xs : List V} (h : H r = none) (q : SqT K H p xs) : SqT K (L2.upd H r o) p xs := (Ex.new h).tup q
theorem Ex.lstN {K : PySem.W.Frag} {p r : Addr} {o : HO} {H : Hp} {xs : List V} (h : H r = none) (q : SqL K H p xs) : SqL K (L2.upd H r o) p xs := (Ex.new h).lst q
end PW
namespace PW
open PySem PySem.Spec PyProof.Rows L2
theorem cx_K {CX : CXT} {P : Program} {w : World} {K : PySem.W.Frag} {mg : Str → Option Value} {base : Heap} {N : List Str} {qual : Str} {scope : Scope} {f : Addr} {cdv : Value} {A : Around} {outer : List Env} {s : Shared} {H : Hp} {E : XK} : (cxOf CX P w K mg base N qual scope f cdv A outer s H E).K = K := rfl
theorem nox_K {CX : CXT} {P : Program} {w : World} {K : PySem.W.Frag} {mg : Str → Option Value} {base : Heap} {N : List Str} {qual : Str} {scope : Scope} {f : Addr} {cdv : Value} {A : Around} {outer : List Env} {s : Shared} {H : Hp} {E : XK} : (cxOf CX P w K mg base N qual scope f cdv A outer s H E).nox.K = K := rfl
end PW
namespace PW
open PySem PySem.Spec PyProof.Rows L2
section
variable {X : Cx} {K : PySem.W.Frag}
theorem ix_seqK (h : X.K = K) : IxR X (rIx K) := by
  subst h
  exact ix_seq
theorem ix_listK (h : X.K = K) : IxR X (rIxL K) := by
  subst h
  exact ix_list
theorem ix_tupK (h : X.K = K) : IxR X (rIxT K) := by
  subst h
  exact ix_tup
end
end PW
namespace PW
open PySem PySem.Spec PyProof.Rows L2
theorem r_forP {J : It} {g : TG} {tb : TS} {D : Ends} {σ : L2.St} {H : Hp} (P : L2.St → Hp → Prop) (hq : ∀ σ' H', P σ' H' → D.nx σ' H') (h : ∀ N : L2.St → Hp → Prop, (∀ σ' H', P σ' H' → N σ' H') → ForW J g tb { D with nx := N } σ H) : ForW J g tb D σ H := h D.nx hq
theorem r_ifSP {t : TT} {s1 s2 : TS} {D : Ends} {σ : L2.St} {H : Hp} (P : L2.St → Hp → Prop) (hq : ∀ σ' H', P σ' H' → D.nx σ' H') (h : ∀ N : L2.St → Hp → Prop, (∀ σ' H', P σ' H' → N σ' H') → tIfS t s1 s2 { D with nx := N } σ H) : tIfS t s1 s2 D σ H := h D.nx hq
end PW
/-! ### own errors over ValueError, LookupError, IndexError: their built-in base -/
namespace PySem.W
open PySem PySem.Calls PyProof.Rows PySem.HandSPX
inductive EK where
  | ve
  | le
  | ie
namespace EK
def nm : EK → String
  | ve => "ValueError"
  | le => "LookupError"
  | ie => "IndexError"
def newId : EK → String
  | ve => "ValueError.__new__"
  | le => "LookupError.__new__"
  | ie => "IndexError.__new__"
def ini : EK → String
  | ve => "ValueError.__init__"
  | le => "LookupError.__init__"
  | ie => "IndexError.__init__"
def tail : EK → List Value
  | ve => [.type "ValueError", .type "Exception", .type "BaseException", .type "object"]
  | le => [.type "LookupError", .type "Exception", .type "BaseException", .type "object"]
  | ie => [.type "IndexError", .type "LookupError", .type "Exception", .type "BaseException", .type "object"]
theorem base : ∀ eb : EK, ExcBaseFacts eb.nm eb.newId eb.ini eb.tail
  | ve => F.excBase_ValueError
  | le => F.excBase_LookupError
  | ie => F.excBase_IndexError
theorem store : ∀ eb : EK, StoreFacts eb.nm eb.tail "object.__setattr__" "object"
  | ve => F.store_ValueError
  | le => F.store_LookupError
  | ie => F.store_IndexError
theorem kxs : ∀ eb : EK, KxsFacts eb.nm eb.ini
  | ve => kxs_ValueError
  | le => kxs_LookupError
  | ie => kxs_IndexError
end EK
/-- what the written part says of an own error's class over the built-in b -/
structure OexG (eb : EK) (K : Frag) (C : Addr) : Prop where
  cls : ∃ nm q N bs bm sn sub ab col dd k0 k1 k2 k3 k5, K.lookup C = some (excClassObj nm q C N bs bm true sn sub ab col dd k0 k1 k2 k3 k5 eb.newId) ∧ excTail eb.tail bm = true
  sa : findIn K (.ref C) "__setattr__" = some (some (.builtin "object.__setattr__"))
  exC : subIn K (.ref C) (.type "BaseException") = some true
  tyC : typeIn K (.ref C) = some (.type "type")
  kC : keepIn K (.ref C) = true
section
variable {prog : Program} {w : World} {A : Around} {R : Result → Shared → Prop} {hp : Heap} {g : Array GenState} {d : Drawn} {t : Nat} {os : OsState} {eb : EK} {K : Frag} {name : Str} {tk : Tok} {v : Value} {x C : Addr} {cd : ClassData} {bm : List Value}
theorem taker_no (ha : findIn K (.ref C) name = some none) : takerIn K C name = some none := by
  unfold takerIn
  rw [ha]
  rfl
theorem over_of (hcd : clsIn K C = some cd) (hm : cd.mro = .ref C :: bm) (ht : excTail eb.tail bm = true) : excOver K C eb.tail = true := by
  unfold excOver
  rw [hcd, Option.any_some, hm]
  simp only [beq_self_eq_true, Bool.true_and]
  exact ht
/-- a first field: the error's dict is made -/
theorem osaG_new {t1 : Addr} (X : K.In hp) (hx : hp.get? x = some (excO C t1)) (hcd : clsIn K C = some cd) (hm : cd.mro = .ref C :: bm) (ht : excTail eb.tail bm = true) (hh : cd.hasDict = true) (ha : findIn K (.ref C) name = some none)
    (hq : ∀ (h' : Heap) (tk' dx : Nat), (∀ b o, b ≠ x → hp.get? b = some o → h'.get? b = some o) → hp.objs.size ≤ dx → dx ≠ x → h'.get? x = some { cls := .ref C, dict := some dx, data := .fields #[.ref t1, .none, .none, .none, .bool false, .none] } →
      h'.Ns1 dx (fun y => if y = name then some v else none) → R (.ok (.ret .none)) ⟨h', g, d, tk', os⟩) :
    codeAny (model prog w) A (.call (.builtin "object.__setattr__") ⟨[.ref x, .str name tk, v], []⟩) R ⟨hp, g, d, t, os⟩ := by
  have ne : x ≠ hp.objs.size := Nat.ne_of_lt (Heap.lt_size hx)
  refine osa_openX (s := ⟨hp, g, d, t, os⟩) (ox := excO C t1) (od := none) eb.store X ⟨hx, rfl, rfl, trivial⟩ (over_of hcd hm ht) (taker_no ha) fun bb => ?_
  refine wpAny_bind (wpAny_pure (wpAny_bind (instanceDict_exc (s := ⟨hp, g, d, t, os⟩) (t := t1) (c2 := .none) hx (looks_clsIn X hcd) hh ?_)))
  show wpAny _ _ (Builtin.ObjectAttr.storeInDict hp.objs.size (.str name tk) name v) _ _ _
  refine PySem.PX.store_in_new ⟨_, #[], _, (Heap.get?_update_ne _ _ _ _ ne.symm).trans (Heap.get?_push_at rfl rfl), rfl, fun e he => absurd he (by simp), fun _ => rfl⟩ fun h' tk' hn' hs => ?_
  have hx2 : (hp.push (dictOf [] 0)).get? x = some (excO C t1) := Heap.get?_push_of_some _ hx
  refine hq h' tk' hp.objs.size (fun c o hc ho => ?_) (Nat.le_refl _) ne.symm ((hs.2 x ne).trans (Heap.get?_update_self _ hx2 rfl)) hn'
  exact (hs.2 c (Nat.ne_of_lt (Heap.lt_size ho))).trans ((Heap.get?_update_ne _ _ _ _ hc).trans (Heap.get?_push_of_some _ ho))
/-- a later field -/
theorem osaG_old {dx : Addr} {fv : Array Value} {m0 : Str → Option Value} {nl : List Str} (X : K.In hp) (hx : hp.get? x = some { cls := .ref C, dict := some dx, data := .fields fv }) (hns : hp.Ns1 dx m0) (hw : Within m0 nl) (hz : nl.length ≤ 1000)
    (hcd : clsIn K C = some cd) (hm : cd.mro = .ref C :: bm) (ht : excTail eb.tail bm = true) (hh : cd.hasDict = true) (ha : findIn K (.ref C) name = some none)
    (hq : ∀ (h' : Heap) (tk' : Nat), (∀ b o, b ≠ dx → hp.get? b = some o → h'.get? b = some o) → h'.Ns1 dx (fun y => if y = name then some v else m0 y) → R (.ok (.ret .none)) ⟨h', g, d, tk', os⟩) :
    codeAny (model prog w) A (.call (.builtin "object.__setattr__") ⟨[.ref x, .str name tk, v], []⟩) R ⟨hp, g, d, t, os⟩ := by
  obtain ⟨oD, esD, epD, hoD, hdD, _⟩ := hns.count hw
  refine osa_openX (s := ⟨hp, g, d, t, os⟩) (ox := { cls := .ref C, dict := some dx, data := .fields fv }) (od := some oD) eb.store X ⟨hx, rfl, rfl, hoD⟩ (over_of hcd hm ht) (taker_no ha) fun bb => ?_
  refine wpAny_bind (wpAny_pure (wpAny_bind (wpAny_bind (wpAny_loadPart hx (wpAny_bind ((looks_clsIn X hcd).here ?_))))))
  rw [hh]
  refine wpAny_pure (a := some dx) ?_
  show wpAny _ _ (Builtin.ObjectAttr.storeInDict dx (.str name tk) name v) _ _ _
  exact PySem.PX.store_in_old hns hw hz fun h' tk' hn' hs => hq h' tk' (fun c o hc ho => (hs.2 c hc).trans ho) hn'
end
end PySem.W
/-! ### own errors whose __init__ says super().__init__(), made -/
namespace PySem.W
open PySem PySem.Calls PyProof.Rows PySem.HandSPX
section
variable {prog : Program} {w : World} {A : Around} {E : Value → Shared → Prop} {h : Heap} {g : Array GenState} {d : Drawn} {t : Nat} {os : OsState}
variable {nm q : Str} {C N : Addr} {bs bm : List Value} {hdct : Bool} {sn : List Str} {sub : List Value} {ab : Bool} {col : Option Bool} {dd : Option Addr} {k0 k1 k2 k3 k5 : Option Value}
/-- the bound ValueError.__init__ called with nothing -/
theorem call_mwV (eb : EK) {u e t0 : Addr} {Q : Value → Shared → Prop} (hC : h.get? C = some (excClassObj nm q C N bs bm hdct sn sub ab col dd k0 k1 k2 k3 k5 eb.newId)) (he : h.get? e = some (excO C t0)) (hu : h.get? u = some (kxs_mw eb.ini e))
    (hq : ∀ h' t1, (∀ b o, b ≠ e → h.get? b = some o → h'.get? b = some o) → h'.get? e = some (excO C t1) → Q .none ⟨h', g, d, t, os⟩) : wpAny (model prog w) A (call (.ref u) []) Q E ⟨h, g, d, t, os⟩ := by
  have hmw : (Value.type "method-wrapper" == Value.type "method" || Value.type "method-wrapper" == Value.type "builtin_function_or_method" || Value.type "method-wrapper" == Value.type "method-wrapper") = true := by decide
  refine wpAny_call (codeAny_of_tree (show wpAny (model prog w) A.in1 (callAny (.ref u) ⟨[], []⟩) _ _ _ from ?_))
  simp only [callAny]
  refine wpAny_bind (wpAny_load hu ?_)
  simp only [kxs_mw, hmw, if_true]
  refine KFB.if_so (by decide) (wpAny_bind (ESX.check_bound eb.base hC he rfl (wpAny_bind (wpAny_pure (wpAny_pure ?_)))))
  refine ⟨plainId_quiet eb.base.init.plain _, codeAny_builtin eb.base.initEntry ?_⟩
  rw [Around.under_plainId eb.base.init.plain _]
  wp_walk
  exact hq _ h.objs.size (fun b o nb ob => (Heap.get?_update_other _ _ (Ne.symm nb)).trans (Heap.get?_push_of_some _ ob)) ((Heap.get?_update_self _ (Heap.get?_push_of_some _ he) rfl).trans rfl)
end
/-- what the written part says of the __init__ at fI of the class at C: super().__init__(); self.tag = ..; (self.x = x) -/
structure InitFn (eb : EK) (K : Frag) (prog : Program) (C fI : Addr) (qual : Str) (params : Arguments) (body : List Stmt) (scope : Scope) : Prop where
  ex : ∃ (oc kV doc pm ct : Value) (od an : Option Addr) (osl : Array (Option Value)) (cc cda : Addr) (ccl cl : Value) (cdd cld : Option Addr) (vs : Array Value) (ccs csl : Array (Option Value)) (file : Str) (tf : Tok),
    K.lookup fI = some ⟨oc, od, .func (ksFn "__init__" qual params body scope .none kV doc pm an (.ref cda) ct cc), osl⟩ ∧ codeIn K (.ref cda) qual = true ∧ K.lookup cda = some ⟨ccl, cdd, .fields vs, ccs⟩ ∧ vs[2]? = some (.str file tf) ∧
      ((prog.main.file : Str) == file) = true ∧ K.lookup cc = some ⟨cl, cld, .cell (some (.ref C)), csl⟩
  sup : nsIn K mainGlobals "super" = some none
  top : (prog.main.scope.names.lookup ("super" : Str)).isSome = false
  any : nsIn K cStatics "thirdparty.any" = some none
  mro : ks_superIn K C C "__init__" = some (some (.builtin eb.ini))
  sub : mroIn K C (.ref C) = some true
  ve : subIn K (.ref C) (.type eb.nm) = some true
section
variable {eb : EK} {prog : Program} {w : World} {A : Around} {s : Shared} {K : Frag} {C fI : Addr} {qual : Str} {params : Arguments} {body : List Stmt} {scope : Scope} {mg mb : Str → Option Value}
/-- the end of an __init__: x has its dict -/
structure InitEnd (h h' : Heap) (x C dx t1 : Addr) (m : Str → Option Value) : Prop where
  keep : ∀ b o, b ≠ x → h.get? b = some o → h'.get? b = some o
  obj : h'.get? x = some { cls := .ref C, dict := some dx, data := .fields #[.ref t1, .none, .none, .none, .bool false, .none] }
  dbig : h.objs.size ≤ dx
  dne : dx ≠ x
  ns : h'.Ns1 dx m
theorem init_run (T : OexG eb K C) (F : InitFn eb K prog C fI qual params body scope) {R : Result → Shared → Prop} {x t0 : Addr} {args : List Value} {binds : List (Str × Value)} (X : K.In s.heap) (hg : s.heap.Ns mainGlobals mg) (hb : s.heap.Ns builtinsNs mb) (hbs : mb "super" = some (.type "super"))
    (hlim : s.heap.NoLimit) (hx : s.heap.get? x = some (excO C t0)) (hroom : A.depth < recursionLimit)
    (hbind : ∀ (oc kV doc pm ct : Value) (an : Option Addr) (cc cda : Addr), BindsTo s (ksFn "__init__" qual params body scope .none kV doc pm an (.ref cda) ct cc) ⟨.ref x :: args, []⟩ binds)
    (hcell : ∀ y ∈ scope.names, y.2 ≠ .cell) (hloc : ∀ y ∈ binds, scope.names.lookup y.1 = some .local)
    (hco : scope.isCoroutine = false) (hgen : scope.isGenerator = false) (hk : scope.kind = .function)
    {p0 p1 p2 p3 p4 : Pos} {rest : List Stmt} {ar : Arg} {pl : Env → Sem Bool} (hmg : mg "super" = none) (hi : ∀ L cda cc, interactive (ksEnv qual scope L fI (.ref cda) cc) = false)
    (he : ∀ env : Env, eval (.Call (.Attribute (.Call (.Name "super" p0) [] [] p1) "__init__" p2) [] [] p3) env = (do
      let ov ← attributeBase (.Call (.Name "super" p0) [] [] p1) "__init__" env (eval (.Call (.Name "super" p0) [] [] p1) env)
      standAt p2.atName
      let (f, first) ← holding [ov] (getMethod ov "__init__" (pl env))
      callWith p3 f first (backTo p3 (starEach [] env)) [])) (hsw : ∀ env : Env, swapsWith (.Call (.Attribute (.Call (.Name "super" p0) [] [] p1) "__init__" p2) [] [] p3) none p4.line env = pure false)
    (hbody : body = .Expr (.Call (.Attribute (.Call (.Name "super" p0) [] [] p1) "__init__" p2) [] [] p3) p4 :: rest)
    (hp : (params.posonlyargs ++ params.args).head? = some ar) (hself : binds.reverse.lookup ar.arg = some (.ref x)) (hks : scope.names.lookup ("super" : Str) = some .globalImplicit) (hkc : scope.names.lookup ("__class__" : Str) = some .free) (hka : scope.names.lookup ar.arg = some .local)
    (h : ∀ (L cda cc : Addr) (s1 : Shared) (t1 : Addr), s1.os = s.os → s1.gens = s.gens → s1.drawn = s.drawn → s1.heap.Ns L (fun y => binds.reverse.lookup y) → s.heap.objs.size ≤ L → (∀ b o, b ≠ x → s.heap.get? b = some o → s1.heap.get? b = some o) → s1.heap.get? x = some (excO C t1) →
      wpAny (model prog w) (A.deeper (ksEnv qual scope L fI (.ref cda) cc)) (execs rest (ksEnv qual scope L fI (.ref cda) cc)) (fun f s' => R (.ok (.ret (match f with | .ret v => v | _ => .none))) s')
        (fun e s' => wpAny (model prog w) (A.deeper (ksEnv qual scope L fI (.ref cda) cc)) (leaving (ksEnv qual scope L fI (.ref cda) cc) e) (fun _ s'' => R (.error e) s'') (fun e' s'' => R (.error e') s'') s') s1) :
    codeAny (model prog w) A (.call (.ref fI) ⟨.ref x :: args, []⟩) R s := by
  obtain ⟨oc, kV, doc, pm, ct, od, an, osl, cc, cda, ccl, cl, cdd, cld, vs, ccs, csl, file, tf, lk, hcd, lc, hvs, hfile, lcc⟩ := F.ex
  obtain ⟨nm, q, N, bs, bm, sn, sub, ab, col, dd, k0, k1, k2, k3, k5, hC, hbm⟩ := T.cls
  have hcl : clsIn K C = some { name := nm, bases := bs, mro := .ref C :: bm, ns := N, qualname := q, hasDict := true, slotNames := sn, subclasses := sub, abstract := ab, collection := col, hasDel := false } := by unfold clsIn; rw [hC] <;> rfl
  refine ks_codeAny_call_defAt (fd := ksFn "__init__" qual params body scope .none kV doc pm an (.ref cda) ct cc) (body := body) (binds := binds) hroom (X _ _ lk) rfl hlim (codeRec_of X hcd) rfl (hbind oc kV doc pm ct an cc cda) hcell hloc (fun h₁ hns kp => ?_) hco hgen hk
  subst hbody
  have X1 : K.In h₁ := X.keeps kp
  have hx1 := kp _ _ hx
  have xL : s.heap.objs.size ≠ x := Nat.ne_of_gt (Heap.lt_size hx)
  have xC : x ≠ C := fun z => by
    have z1 := X _ _ hC
    rw [← z, hx] at z1
    cases z1
  obtain ⟨hh, g, d, t, os⟩ := s
  refine ks_wpAt_execs_cons (ks_wpAt_Expr_any (ks_wpAt_MethodCall (pl := pl (ksEnv qual scope hh.objs.size fI (.ref cda) cc)) ?_ (he _)) (hi _ _ _) (hsw _))
  refine ks_wpAt_super_base (env := ksEnv qual scope hh.objs.size fI (.ref cda) cc) hks hkc rfl rfl (X1 _ _ lk) rfl hp rfl (X1 _ _ lc) rfl hvs hfile F.top ?_
  refine ks_loadName_global hk hks (loadGlobal_builtin (env := ksEnv qual scope hh.objs.size fI (.ref cda) cc) (hg.keeps kp) hmg (hb.keeps kp) hbs ⟨rfl, ?_⟩)
  refine wpAny_loadName_free hk hkc rfl ⟨_, X1 _ _ lcc, rfl⟩ (wpAny_loadName_local hk hka hns hself ?_)
  refine ks_wpAny_isType_cls (X1 _ _ hC) rfl ⟨rfl, ?_⟩
  refine ks_wpAny_call_super (X1 _ _ hC) rfl hx1 rfl (fun c e => by cases e) (looks_mroIn X1 F.sub) (fun h2 e2 k2 => ?_)
  have X2 : K.In h2 := X1.keeps k2
  have I2 : InstAt h2 x (excO C t0) C none := ⟨k2 _ _ hx1, rfl, rfl, trivial⟩
  have hmro := F.mro
  unfold ks_superIn at hmro
  rw [hcl] at hmro
  refine kxs_getMethod eb.kxs e2 (looks_opaque X2 F.any) (l₀ := .ref C :: bm) (fun A Q E s k q => wpAny_bind ((looks_clsIn X2 hcl) A _ E s k (wpAny_pure q))) rfl X2 hmro (I2.type.andThen (looks_subIn X2 F.ve)) xC rfl ?_
  have k3 : ∀ b o, h2.get? b = some o → (h2.push (kxs_mw eb.ini x)).get? b = some o := fun b o e => Heap.get?_push_of_some _ e
  refine kxs_callWith (i := eb.ini) (x := x) rfl (evalArgs_empty ⟨Heap.get?_push_at rfl rfl, ?_⟩)
  refine call_mwV eb (k3 _ _ (X2 _ _ hC)) (k3 _ _ (k2 _ _ hx1)) (Heap.get?_push_at rfl rfl) fun h4 t1 k4 hx4 => ?_
  have kk : ∀ b o, b ≠ x → h₁.get? b = some o → h4.get? b = some o := fun b o nb e => k4 b o nb (k3 b o (k2 b o e))
  refine wpAt_of_wpAny (h hh.objs.size cda cc ⟨h4, g, d, _, os⟩ t1 rfl rfl rfl ?_ (Nat.le_refl _) (fun b o nb e => kk b o nb (kp b o e)) hx4)
  exact hns.at fun o e => kk _ o xL e
theorem in_but {K : Frag} {h h' : Heap} {x : Addr} (X : K.In h) (hx : K.lookup x = none) (k : ∀ b o, b ≠ x → h.get? b = some o → h'.get? b = some o) : K.In h' := fun a o e => k a o (fun z => by
  rw [z, hx] at e
  cases e) (X a o e)
/-- self.tag = t; self.f = f -/
theorem init1_run (T : OexG eb K C) {R : Result → Shared → Prop} {A' : Around} {L cda cc x t1 : Addr} {m : Str → Option Value} {tag fld : Str} {v : Value} {q1 q2 q3 q4 r1 r2 r3 r4 : Pos} {j : Nat} {EE : Value → Shared → Prop} (X : K.In s.heap) (hn : s.heap.Ns L m) (hms : m "self" = some (.ref x)) (hmv : m fld = some v)
    (hx : s.heap.get? x = some (excO C t1)) (xK : K.lookup x = none) (hxL : L ≠ x) (hk : scope.kind = .function) (hl1 : scope.names.lookup ("self" : Str) = some .local) (hl2 : scope.names.lookup fld = some .local) (hd2 : (fld == ("__debug__" : Str)) = false) (n1 : findIn K (.ref C) "tag" = some none) (n2 : findIn K (.ref C) fld = some none)
    (h : ∀ (h' : Heap) (tk dx : Nat) (tu : Tok), InitEnd s.heap h' x C dx t1 (fun y => if y = fld then some v else if y = "tag" then some (.str tag tu) else none) → R (.ok (.ret .none)) { s with heap := h', toks := tk }) :
    wpAny (model prog w) A' (execs [.Assign [.Attribute (.Name "self" q1) "tag" q2] (.Constant (.str tag) j q3) q4, .Assign [.Attribute (.Name "self" r1) fld r2] (.Name fld r3) r4] (ksEnv qual scope L fI (.ref cda) cc)) (fun f s' => R (.ok (.ret (match f with | .ret v => v | _ => .none))) s') EE s := by
  obtain ⟨nm, q, N, bs, bm, sn, sub, ab, col, dd, k0, k1, k2, k3, k5, hC, hbm⟩ := T.cls
  have hcl : clsIn K C = some { name := nm, bases := bs, mro := .ref C :: bm, ns := N, qualname := q, hasDict := true, slotNames := sn, subclasses := sub, abstract := ab, collection := col, hasDel := false } := by unfold clsIn; rw [hC] <;> rfl
  refine wpAny_execs_cons (plainObj_wpAny_Assign_Attribute (wpAny_Constant_str (wpAny_Name (wpAny_loadName_local hk hl1 hn hms ?_) (by decide))))
  obtain ⟨hp, g, d, t, os⟩ := s
  refine set_plain (s := ⟨hp, g, d, t + 1, os⟩) X (ox := excO C t1) (od := none) ⟨hx, rfl, rfl, trivial⟩ T.sa ?_
  refine osaG_new X hx hcl rfl hbm rfl n1 (fun h3 tk3 dx kp dn dne hx3 hn3 => ?_)
  have X3 : K.In h3 := in_but X xK kp
  have hn4 : h3.Ns L m := hn.at fun o e => kp _ o hxL e
  show wpAny _ _ (execs _ _) _ _ ⟨h3, g, d, tk3, os⟩
  refine wpAny_execs_cons (plainObj_wpAny_Assign_Attribute (wpAny_Name (wpAny_loadName_local hk hl2 hn4 hmv (wpAny_Name (wpAny_loadName_local hk hl1 hn4 hms ?_) (by decide))) hd2))
  obtain ⟨oD, esD, epD, hoD, hdD, hcD⟩ := id hn3
  refine set_plain (s := ⟨h3, g, d, tk3, os⟩) X3 (ox := { cls := .ref C, dict := some dx, data := .fields #[.ref t1, .none, .none, .none, .bool false, .none] }) (od := some oD) ⟨hx3, rfl, rfl, hoD⟩ T.sa ?_
  refine osaG_old (nl := ["tag"]) X3 hx3 hn3 (Within.cons "tag" _ Within.nil) (by decide) hcl rfl hbm rfl n2 (fun h5 tk5 kp5 hn5 => ?_)
  show wpAny _ _ (execs _ _) _ _ ⟨h5, g, d, tk5, os⟩
  refine wpAny_execs_nil (h h5 tk5 dx _ ⟨fun b o nb e => kp5 b o (Nat.ne_of_lt (Nat.lt_of_lt_of_le (Heap.lt_size e) dn)) (kp b o nb e), kp5 _ _ dne.symm hx3, dn, dne, hn5⟩)
/-- self.tag = t -/
theorem init0_run (T : OexG eb K C) {R : Result → Shared → Prop} {A' : Around} {L cda cc x t1 : Addr} {m : Str → Option Value} {tag : Str} {q1 q2 q3 q4 : Pos} {j : Nat} {EE : Value → Shared → Prop} (X : K.In s.heap) (hn : s.heap.Ns L m) (hms : m "self" = some (.ref x))
    (hx : s.heap.get? x = some (excO C t1)) (hk : scope.kind = .function) (hl1 : scope.names.lookup ("self" : Str) = some .local) (n1 : findIn K (.ref C) "tag" = some none)
    (h : ∀ (h' : Heap) (tk dx : Nat) (tu : Tok), InitEnd s.heap h' x C dx t1 (fun y => if y = "tag" then some (.str tag tu) else none) → R (.ok (.ret .none)) { s with heap := h', toks := tk }) :
    wpAny (model prog w) A' (execs [.Assign [.Attribute (.Name "self" q1) "tag" q2] (.Constant (.str tag) j q3) q4] (ksEnv qual scope L fI (.ref cda) cc)) (fun f s' => R (.ok (.ret (match f with | .ret v => v | _ => .none))) s') EE s := by
  obtain ⟨nm, q, N, bs, bm, sn, sub, ab, col, dd, k0, k1, k2, k3, k5, hC, hbm⟩ := T.cls
  have hcl : clsIn K C = some { name := nm, bases := bs, mro := .ref C :: bm, ns := N, qualname := q, hasDict := true, slotNames := sn, subclasses := sub, abstract := ab, collection := col, hasDel := false } := by unfold clsIn; rw [hC] <;> rfl
  refine wpAny_execs_cons (plainObj_wpAny_Assign_Attribute (wpAny_Constant_str (wpAny_Name (wpAny_loadName_local hk hl1 hn hms ?_) (by decide))))
  obtain ⟨hp, g, d, t, os⟩ := s
  refine set_plain (s := ⟨hp, g, d, t + 1, os⟩) X (ox := excO C t1) (od := none) ⟨hx, rfl, rfl, trivial⟩ T.sa ?_
  refine osaG_new X hx hcl rfl hbm rfl n1 (fun h3 tk3 dx kp dn dne hx3 hn3 => ?_)
  show wpAny _ _ (execs _ _) _ _ ⟨h3, g, d, tk3, os⟩
  exact wpAny_execs_nil (h h3 tk3 dx _ ⟨kp, hx3, dn, dne, hn3⟩)
/-- a made error -/
structure ExcMade (h h' : Heap) (e C d : Addr) (m : Str → Option Value) : Prop where
  keep : ∀ b o, h.get? b = some o → h'.get? b = some o
  new : h.objs.size ≤ e
  obj : ∃ oe vs, h'.get? e = some oe ∧ oe.cls = .ref C ∧ oe.dict = some d ∧ oe.data = .fields vs ∧ vs[1]? = some .none
  dbig : h.objs.size ≤ d
  dne : d ≠ e
  ns : h'.Ns1 d m
/-- C(..): given what its __init__ does -/
theorem exc_made (T : OexG eb K C) (iC : findIn K (.ref C) "__init__" = some (some (.ref fI))) (tC : typeIn K (.ref fI) = some (.type "function")) {R : Result → Shared → Prop} {args : List Value} (X : K.In s.heap) (hz : args.length ≤ sizeLine)
    {M : (Str → Option Value) → Prop}
    (hinit : ∀ (A' : Around) (h2 : Heap) (x t0 : Addr) (R' : Result → Shared → Prop), A'.depth = A.depth + 1 → (∀ b o, s.heap.get? b = some o → h2.get? b = some o) → K.lookup x = none → h2.get? x = some (excO C t0) →
      (∀ (h' : Heap) (tk dx t1 : Nat) (m : Str → Option Value), M m → InitEnd h2 h' x C dx t1 m → R' (.ok (.ret .none)) ⟨h', s.gens, s.drawn, tk, s.os⟩) → codeAny (model prog w) A' (.call (.ref fI) ⟨.ref x :: args, []⟩) R' ⟨h2, s.gens, s.drawn, s.toks, s.os⟩)
    (hq : ∀ h' tk e d m, M m → ExcMade s.heap h' e C d m → R (.ok (.ret (.ref e))) { s with heap := h', toks := tk }) : codeAny (model prog w) A (.call (.ref C) ⟨args, []⟩) R s := by
  obtain ⟨nm, q, N, bs, bm, sn, sub, ab, col, dd, k0, k1, k2, k3, k5, hC, hbm⟩ := T.cls
  obtain ⟨hp, g, dr, tk, os⟩ := s
  have kp : ∀ b o, hp.get? b = some o → ((hp.push (kdv_tup args)).push (excO C hp.objs.size)).get? b = some o := fun b o e => Heap.get?_push_of_some _ (Heap.get?_push_of_some _ e)
  have hget : ((hp.push (kdv_tup args)).push (excO C hp.objs.size)).get? (hp.objs.size + 1) = some (excO C hp.objs.size) := by heap_get
  have xK : K.lookup (hp.objs.size + 1) = none := by
    cases e : K.lookup (hp.objs.size + 1) with
    | none => rfl
    | some o => exact absurd (Nat.lt_of_succ_lt (Heap.lt_size (show hp.get? (hp.objs.size + 1) = some o from X _ _ e))) (Nat.lt_irrefl _)
  refine call_own eb.base (fun Y => excTail_contains Y bm hbm) (X _ _ hC) (looks_findIn X iC) (fun self => bind_fn X self tC) hz ?_
  refine hinit _ _ _ hp.objs.size _ rfl kp xK hget fun h' tk' dx t1 m hm ⟨k', hx, dn, dne, hns⟩ => ?_
  have old : ∀ b o, hp.get? b = some o → h'.get? b = some o := fun b o e => k' b o (Nat.ne_of_lt (Nat.lt_succ_of_lt (Heap.lt_size e))) (kp b o e)
  have zz : hp.objs.size + 1 + 1 ≤ dx := by
    have z := dn
    rw [Heap.size_push, Heap.size_push] at z
    exact z
  exact ⟨rfl, hq h' tk' (hp.objs.size + 1) dx m hm ⟨old, Nat.le_succ _, ⟨_, _, hx, rfl, rfl, rfl, rfl⟩, Nat.le_trans (Nat.le_trans (Nat.le_succ _) (Nat.le_succ _)) zz, dne, hns⟩⟩
end
end PySem.W
/-! ### own errors in the hand layer -/
namespace PW
open PySem PySem.Spec PyProof.Rows L2
/-- C(v) makes an error of C with tag and field -/
def Makes1 (P : Program) (w : World) (K : PySem.W.Frag) (mg : Str → Option Value) (C : Addr) (tag fld : Str) : Prop :=
  ∀ (A : Around) (s : Shared) (v : Value) (R : Result → Shared → Prop), K.In s.heap → s.heap.Ns mainGlobals mg → (∃ mb, s.heap.Ns builtinsNs mb ∧ ∀ x : Str, x ≠ "__name__" → mb x = bootBuiltins x) → s.heap.NoLimit → A.depth + 1 < recursionLimit →
    (∀ (h' : Heap) (tk e d : Nat) (tu : Tok), PySem.W.ExcMade s.heap h' e C d (fun y => if y = fld then some v else if y = "tag" then some (.str tag tu) else none) → R (.ok (.ret (.ref e))) { s with heap := h', toks := tk }) →
      codeAny (model P w) A (.call (.ref C) ⟨[v], []⟩) R s
/-- C() makes an error of C with its tag -/
def Makes0 (P : Program) (w : World) (K : PySem.W.Frag) (mg : Str → Option Value) (C : Addr) (tag : Str) : Prop :=
  ∀ (A : Around) (s : Shared) (R : Result → Shared → Prop), K.In s.heap → s.heap.Ns mainGlobals mg → (∃ mb, s.heap.Ns builtinsNs mb ∧ ∀ x : Str, x ≠ "__name__" → mb x = bootBuiltins x) → s.heap.NoLimit → A.depth + 1 < recursionLimit →
    (∀ (h' : Heap) (tk e d : Nat) (tu : Tok), PySem.W.ExcMade s.heap h' e C d (fun y => if y = "tag" then some (.str tag tu) else none) → R (.ok (.ret (.ref e))) { s with heap := h', toks := tk }) →
      codeAny (model P w) A (.call (.ref C) ⟨[], []⟩) R s
def tMk1 (C : Addr) (tag fld : Str) (ta : TA) : L2.St → Hp → XK → Prop := fun σ H Q => ta σ H fun vs H1 => ∃ v, vs = [v] ∧ ∀ d, H1 d = none → Q (.ref C) (some d) (upd H1 d (.xd [(fld, v), ("tag", .str tag)]))
def tMk0 (C : Addr) (tag : Str) : L2.St → Hp → XK → Prop := fun σ H Q => ∀ d, H d = none → Q (.ref C) (some d) (upd H d (.xd [("tag", .str tag)]))
section
variable {X : Cx} {C : Addr} {pins : List (Addr × Obj)} {σ : L2.St} {H : Hp} {Q : XK}
/-- what a made error leaves -/
theorem mkP_of {h h' : Heap} {g : Array GenState} {dr : Drawn} {t t' : Nat} {os : OsState} {e d : Addr} {m : Str → Option Value} {fs : List (Str × V)} (I : Inv X pins σ H ⟨h, g, dr, t, os⟩) (M : PySem.W.ExcMade h h' e C d m) (r : ∀ f, RelO (fs.lookup f) (m f)) (hr : Raises X (.ref C)) (q : Q (.ref C) (some d) (upd H d (.xd fs))) :
    MkP X pins σ Q (.ref e) ⟨h', g, dr, t', os⟩ := by
  obtain ⟨oe, fv, hoe, hc, hd, hdat, h1⟩ := M.obj
  obtain ⟨G, g1, g2⟩ := restrict h' fun b => decide (b ≠ e)
  have gk : ∀ b, b ≠ e → G.get? b = h'.get? b := fun b hb => g1 b (decide_eq_true hb)
  have ge : G.get? e = none := g2 e (by simp)
  have old : ∀ b o, h.get? b = some o → G.get? b = some o := fun b o z => (gk b (Nat.ne_of_lt (Nat.lt_of_lt_of_le (Heap.lt_size z) M.new))).trans (M.keep b o z)
  have ob : ObjOk X.prog X.w (upd H d (.xd fs)) G d (.xd fs) := ⟨_, M.ns.at (fun o z => (gk d M.dne).trans z), r⟩
  have J : Inv X pins σ (upd H d (.xd fs)) ⟨G, g, dr, t', os⟩ := I.laid (t' := t') old M.dbig ob
  refine ⟨e, oe, fv, ⟨G, g, dr, t', os⟩, _, .ref C, some d, rfl, J, fun b o z => ?_, ge, hoe, ⟨hc, hd⟩, hdat, h1, (upd_ne (Ne.symm M.dne)).trans (I.hok.fresh M.new), rfl, I.bare, hr, q⟩
  have hb : b ≠ e := fun hb => by
    rw [hb] at z
    rw [show G.get? e = some o from z] at ge
    cases ge
  exact (gk b hb).symm.trans z
section
variable {a : Expr} {ta : TA} {p pos : Pos} {x tag fld : Str} {k : Nat}
theorem pmk1 (M : Makes1 X.prog X.w X.K X.mg C tag fld) (hnf : fld ≠ "tag") (rs : Raises X (.ref C)) (kC : PySem.W.keepIn X.K (.ref C) = true) (gC : X.mg x = some (.ref C)) (hr : Room k X.A) (ha : PA X [a] ta) (hg : Gl X x) (hdb : (x == ("__debug__" : Str)) = false := by decide)
    (he : starEach (a :: []) X.env = (false, eval a X.env) :: starEach [] X.env := by rfl) (hpl : (backTo pos (starEach [] X.env)).any (·.1) = false := by rfl) : PMk X (.Call (.Name x p) [a] [] pos) (tMk1 C tag fld ta) := by
  intro pins s σ H Q I h
  refine wpAny_Call_Name_kw (ld_glob I hg gC ?_ hdb)
  refine PySem.W.callWith_K (h₀ := X.base) I.ok.mod.kin kC (thn (ha.run pos pins s σ H _ I h) fun us s1 hh => ?_) he hpl
  obtain ⟨vs, H1, I1, r1, v, rfl, q1⟩ := hh
  refine ⟨I1.kIn, ?_⟩
  cases r1 with
  | cons rv rn =>
    rename_i v' us'
    cases rn
    obtain ⟨hp, g, dr, tk, os⟩ := s1
    obtain ⟨mb, b1, b2⟩ := I1.mod.blt
    refine wpAny_call (M X.A _ v' _ I1.kIn (I1.mod.glob.keeps I1.bk) ⟨mb, b1.keeps I1.bk, b2⟩ I1.nolimit (by have := hr.dp; omega) fun h' tk' e d tu ME => ?_)
    exact mkP_of I1 ME (relO_put rv (relO_put (y := .str tag) (fs := []) ⟨tu, rfl⟩ fun g => True.intro)) rs (q1 d (I1.hok.fresh ME.dbig))
theorem pmk0 (M : Makes0 X.prog X.w X.K X.mg C tag) (rs : Raises X (.ref C)) (kC : PySem.W.keepIn X.K (.ref C) = true) (gC : X.mg x = some (.ref C)) (hr : Room k X.A) (hg : Gl X x) (hdb : (x == ("__debug__" : Str)) = false := by decide) : PMk X (.Call (.Name x p) [] [] pos) (tMk0 C tag) := by
  intro pins s σ H Q I h
  refine wpAny_Call_Name_kw (ld_glob I hg gC ?_ hdb)
  obtain ⟨hp, g, dr, tk, os⟩ := s
  obtain ⟨mb, b1, b2⟩ := I.mod.blt
  refine PySem.W.callWith_K0 I.kIn kC (wpAny_call (M X.A _ _ I.kIn (I.mod.glob.keeps I.bk) ⟨mb, b1.keeps I.bk, b2⟩ I.nolimit (by have := hr.dp; omega) fun h' tk' e d tu ME => ?_))
  exact mkP_of I ME (relO_put (y := .str tag) (fs := []) ⟨tu, rfl⟩ fun g => True.intro) rs (h d (I.hok.fresh ME.dbig))
end
end
end PW
/-! ### an error caught: from then on it is known by its class and its dict -/
namespace PW
open PySem PySem.Spec PyProof.Rows L2
/-- an error that stands -/
def excE (a : Addr) (cls : Value) (d : Option Addr) : HO := .ext fun h => ∃ oe vs, h.get? a = some oe ∧ Zc cls d oe ∧ oe.data = .fields vs
theorem excE_ok {P : Program} {w : World} {H : Hp} {h : Heap} {a : Addr} {cls : Value} {d : Option Addr} {oe : Obj} {vs : Array Value} (he : h.get? a = some oe) (hz : Zc cls d oe) (hd : oe.data = .fields vs) : ObjOk P w H h a (excE a cls d) :=
  ⟨⟨oe, vs, he, hz, hd⟩, ⟨oe, he⟩, fun _ _ ⟨oe, vs, e1, e2, e3⟩ st => ⟨oe, vs, st _ e1, e2, e3⟩⟩
section
variable {X : Cx} {pins pn' : List (Addr × Obj)} {σ : L2.St} {H : Hp} {s : Shared} {a : Addr}
theorem adopt {cls : Value} {d : Option Addr} {oe : Obj} {vs : Array Value} (I : Inv X pins σ H s) (na : H a = none) (n0 : X.s_0.heap.get? a = none) (he : s.heap.get? a = some oe) (hz : Zc cls d oe) (hd : oe.data = .fields vs) (nL : a ≠ X.env.locals) (np : ∀ p ∈ X.pn ++ pins, p.1 ≠ a) :
    Inv X pins σ (upd H a (excE a cls d)) s := by
  have sm : ∀ {b : Addr} {o : HO}, H b = some o → upd H a (excE a cls d) b = some o := fun {b o} e => (upd_ne (ne_of_none e na)).trans e
  have nn : ∀ {b : Addr}, b ≠ a → H b = none → upd H a (excE a cls d) b = none := fun {b} hb e => (upd_ne hb).trans e
  refine ⟨I.ok, I.os, I.bare, ⟨I.base.keep, I.base.slot, fun b o e n hx => nn (fun z => ?_) (I.base.free b o e n hx), I.base.there, fun b xs e => sm (I.base.tups b xs e), fun b o u e => sm (I.base.frzs b o u e), fun b ps e => ?_⟩, I.loc, I.cell, nn nL.symm I.free, fun x c e => nn (fun z => ?_) (I.freeC x c e), fun p hp => ?_, fun b o e => ?_, I.len⟩
  · rw [z, n0] at e
    cases e
  · obtain ⟨more, z⟩ := I.base.tbls b ps e
    exact ⟨more, sm z⟩
  · obtain ⟨v, o, ho, hc⟩ := I.cell x c e
    rw [z, he] at ho
    cases ho
    rw [hd] at hc
    cases hc
  · obtain ⟨a1, a2, a3⟩ := I.pin p hp
    exact ⟨a1, nn (np p hp) a2, a3⟩
  · by_cases hb : b = a
    · subst hb
      rw [upd_same] at e
      cases e
      exact excE_ok he hz hd
    · rw [upd_ne hb] at e
      exact (I.hok b o e).stay (fun _ _ _ q => q) (fun c q => sm q) fun c xs q => sm q
theorem inE (I : Inv X pins σ H s) : Inv (X.suite a (X.pn ++ pins)) [] σ H s := ⟨I.ok.suite _ _, I.os, I.bare, I.base, I.loc, I.cell, I.free, I.freeC, fun p hp => I.pin p (by rw [List.append_nil] at hp; exact hp), I.hok, I.len⟩
theorem outE (I : Inv (X.suite a (X.pn ++ pins)) pn' σ H s) (ok : X.Ok) : Inv X pins σ H s := ⟨ok, I.os, I.bare, I.base, I.loc, I.cell, I.free, I.freeC, fun p hp => I.pin p (List.mem_append_left _ hp), I.hok, I.len⟩
end
theorem flyZ_keeps {B h h' : Heap} {l : List Env} {e : Addr} {Z : Obj → Prop} (f : PySem.HandSPX.FlyingZ B l e Z h) (k : ∀ b o, h.get? b = some o → h'.get? b = some o) : PySem.HandSPX.FlyingZ B l e Z h' := by
  obtain ⟨f1, f2, f3, oe, vs, T, oT, ts, he, hz, hd, h1, hn, hne, hT, hdT, h3⟩ := f
  exact ⟨fun b o q => k b o (f1 b o q), f2, f3.of_keeps fun b o q _ => ⟨o, k b o q, rfl⟩, oe, vs, T, oT, ts, k _ _ he, hz, hd, h1, hn, hne, k _ _ hT, hdT, h3⟩
/-- what 'except (c1, c2, ..) as n' wishes: the error is one of these -/
def wAsE (K : PySem.W.Frag) (N : List Str) (cs : List Value) (i : Nat) (ts : Addr → Value → Option Addr → TS) (D : Ends) : WX := fun cls d σ H => PySem.W.exmAny K cls cs = some true ∧
  ∀ a, H a = none → σ.length = N.length → ts a cls d { nx := fun σ' H' => D.nx (σ'.set i none) H', rt := D.rt, bk := fun σ' H' => D.bk (σ'.set i none) H', ct := fun σ' H' => D.ct (σ'.set i none) H' } (σ.set i (some (.ref a))) (upd H a (excE a cls d))
section
variable {X : Cx} {x1 x2 x3 n : Str} {c1 c2 c3 : Value} {i kk : Nat} {body suite : List Stmt} {b₀ : Stmt} {p1 p2 p3 pt pos pos' : Pos} {tb : WX → TS} {ts : Addr → Value → Option Addr → TS}
theorem ps_try_e3 (hex : X.ex = []) (hs : X.stack = X.env :: X.outer) (hf : X.env.frame = some X.env.locals) (hN : X.N.Nodup) (hi : X.N[i]? = some n) (hln : X.env.kindOf n = some .local) (hc1 : Names X x1 c1) (hc2 : Names X x2 c2) (hc3 : Names X x3 c3)
    (hb : ∀ (W : WX) (pn : List (Addr × Obj)) (xe : Value → Shared → Prop), Takes (X.tr pn xe) W → PassesOwn (model X.prog X.w) X.A X.env xe → PSs (X.tr pn xe) body (tb W))
    (hsu : ∀ (a : Addr) (cls : Value) (d : Option Addr) (pn : List (Addr × Obj)), PSs (X.suite a pn) (b₀ :: suite) (ts a cls d)) :
    PS X (.Try body [.ExceptHandler (some (.Tuple [.Name x1 p1, .Name x2 p2, .Name x3 p3] kk pt)) (some n) (b₀ :: suite) pos'] [] [] pos) (fun D σ H => tb (wAsE X.K X.N [c1, c2, c3] i ts D) D σ H) := by
  refine ⟨fun pins s σ H D I h => wpAny_Try_except ?_⟩
  have okX := I.ok
  have frm : X.A.frames = some (X.env :: X.outer) := okX.frames.trans (congrArg some hs)
  refine wpAny_mono ((hb (wAsE X.K X.N [c1, c2, c3] i ts D) (X.pn ++ pins) _ (fun u s' xx => ?_) PassesOwn.looking).run [] s σ H D (I.toTry _) h) (fun f s1 hsp => ?_) (fun e s1 he => he)
  · obtain ⟨a, B, sI, pins', σ', H', cls, d, rfl, JT, nb, up, sky, na, os, ag, hm, hyes⟩ := xx
    have JX : Inv X pins σ' H' sI := JT.ofTry okX
    rw [hs] at sky
    refine (show wpAny (model X.prog X.w) X.A (noteFrame (.ref a) X.env) _ _ _ from Sky.land Zc.steady frm hf sky fun g3 f3 u3 => ?_)
    have J3 : Inv X pins σ' H' { s' with heap := g3 } := JX.landed nb f3.1 (up.trans u3) os ag
    obtain ⟨oe3, vs3, he3, hz3, hd3⟩ := f3.there
    have nfr : a ∉ frs (X.env :: X.outer) := fun hm => by
      obtain ⟨_, o', e', hnf⟩ := f3.2.2.1.mem hm
      rw [he3] at e'
      cases e'
      exact hnf _ hd3
    have nI : sI.heap.get? a = none := by
      cases e : sI.heap.get? a with
      | none => rfl
      | some o =>
        have z := nb a o e (by rw [hs]; exact nfr)
        rw [f3.2.1] at z
        cases z
    have n0 : X.s_0.heap.get? a = none := by
      cases e : X.s_0.heap.get? a with
      | none => rfl
      | some o =>
        obtain ⟨o', z⟩ := JX.base.there a o e (by rw [hex]; exact List.not_mem_nil)
        rw [nI] at z
        cases z
    have nL : a ≠ X.env.locals := fun z => nfr (List.mem_filterMap.mpr ⟨X.env, List.mem_cons_self, by rw [hf, z]⟩)
    have np : ∀ p ∈ X.pn ++ pins, p.1 ≠ a := fun p hp z => by
      have z1 := (JX.pin p hp).1
      rw [z, nI] at z1
      cases z1
    have S3 : Inv (X.suite a (X.pn ++ pins)) [] σ' H' { s' with heap := g3 } := inE J3
    have name : ∀ {x : Str} {c : Value} {p : Pos} {Q : Value → Shared → Prop} {E : Value → Shared → Prop}, Names X x c → Q c { s' with heap := g3 } → wpAny (model X.prog X.w) (X.A.mark (some (.ref a))) (eval (.Name x p) X.env) Q E { s' with heap := g3 } := fun {x c p Q E} hc q => by
      obtain ⟨hg, hdbg, hm | ⟨hm, hv, hnn⟩⟩ := hc
      · exact ld_glob (X := X.suite a (X.pn ++ pins)) S3 hg hm q hdbg
      · exact ld_blt (X := X.suite a (X.pn ++ pins)) S3 hg hm hv q hnn hdbg
    refine wpAny_handleBy_cons (codeAny_handlers_test (wpAny_Tuple (wpAny_items_cons (name hc1 (wpAny_items_cons (name hc2 (wpAny_items_cons (name hc3 (wpAny_items_nil ⟨show 3 ≤ sizeLine by decide, ?_⟩)))))))) ) (by intro q; cases q)
    have kp : ∀ b o, g3.get? b = some o → (g3.push { cls := .type "tuple", data := .seq [c1, c2, c3].toArray }).get? b = some o := fun _ _ z => Heap.get?_push_of_some _ z
    have LT : PySem.W.Looks (model X.prog X.w) g3 (typeOf (.ref a)) cls := fun A Q E s k q => wpAny_typeOf_ref (k _ _ he3) (by rw [hz3.1]; exact q)
    refine (PySem.W.exm_tup3 (J3.kIn.keeps kp) (LT.keeps kp) (Heap.get?_push_size g3 rfl) hm).here ?_
    refine codeAny_handlers_suite_as (PySem.HandSPX.lands_againZ (flyZ_keeps f3 kp) fun g4 f4 u4 => ?_)
    have J4 : Inv X pins σ' H' { s' with heap := g4 } := JX.landed nb f4.1 (((up.trans u3).trans (Heap.UpToSlots.of_keeps kp)).trans u4) os ag
    obtain ⟨oe4, vs4, he4, hz4, hd4⟩ := f4.there
    have S4 := inE (a := a) (adopt J4 na n0 he4 hz4 hd4 nL np)
    refine store_ok (X := X.suite a (X.pn ++ pins)) (v := .ref a) S4 hN hi (.inl hln) rfl (fun s5 S5 => ?_) (.inr hln)
    refine wpAny_mono ((hsu a cls d (X.pn ++ pins)).run [] s5 _ _ _ S5 (hyes a na JX.len)) (fun f s6 hsp => ?_) (fun _ _ z => False.elim z)
    have end_ : ∀ {σ6 : L2.St} {H6 : Hp} {Q : Shared → Prop}, Inv (X.suite a (X.pn ++ pins)) [] σ6 H6 s6 → (∀ s7, Inv X pins (σ6.set i none) H6 s7 → Q s7) → wpAny (model X.prog X.w) X.A (do bindName X.env n .none; unbindBehindTheSuite X.env n pos') (fun _ s7 => Q s7) X.xe s6 :=
      fun {σ6 H6 Q} S6 hq => gone_ok (outE S6 okX) hN hi hln hq
    cases f with
    | next =>
      obtain ⟨σ6, H6, S6, q6⟩ := hsp
      exact end_ S6 fun s7 J7 => ⟨_, _, J7, q6⟩
    | brk =>
      obtain ⟨σ6, H6, S6, q6⟩ := hsp
      exact end_ S6 fun s7 J7 => ⟨_, _, J7, q6⟩
    | cont =>
      obtain ⟨σ6, H6, S6, q6⟩ := hsp
      exact end_ S6 fun s7 J7 => ⟨_, _, J7, q6⟩
    | ret u =>
      obtain ⟨v6, σ6, H6, S6, r6, q6⟩ := hsp
      exact end_ S6 fun s7 J7 => ⟨_, _, _, J7, r6, q6⟩
  · cases f with
    | next =>
      obtain ⟨σ', H', J', q⟩ := hsp
      exact wpAny_execs_nil ⟨σ', H', J'.ofTry okX, q⟩
    | brk =>
      obtain ⟨σ', H', J', q⟩ := hsp
      exact ⟨σ', H', J'.ofTry okX, q⟩
    | cont =>
      obtain ⟨σ', H', J', q⟩ := hsp
      exact ⟨σ', H', J'.ofTry okX, q⟩
    | ret u =>
      obtain ⟨v, σ', H', J', r, q⟩ := hsp
      exact ⟨v, σ', H', J'.ofTry okX, r, q⟩
end
end PW
/-! ### defs called within an except suite (nothing is raised there), a caught error's fields -/
namespace PW
open PySem PySem.Spec PyProof.Rows L2
/-- what a def promises whatever is handled -/
structure FnW (P : Program) (w : World) (K : PySem.W.Frag) (mg : Str → Option Value) (base : Heap) (k : Nat) (f : Addr) (fd : FuncData) (ps : List Str) (sp : Sp) : Prop where
  len : ∀ vs H Q E, sp vs H Q E → vs.length = ps.length
  run : ∀ (A : Around) (outer : List Env) (s : Shared) (H : Hp) (args : Args) (us : List Value) (vs : List V) (Q : VK) (E : XK), L2H.RoomH k A → Env0 P w K mg base A outer s H → BindsTo s fd args (ps.zip us) → Vals vs us → sp vs H Q E →
    codeAny (model P w) A (.call (.ref f) args) (CR CX0 outer P w H s Q E) s
/-- the context of such a def's body -/
def cxW (P : Program) (w : World) (K : PySem.W.Frag) (mg : Str → Option Value) (base : Heap) (N : List Str) (qual : Str) (scope : Scope) (f : Addr) (cd : Value) (A : Around) (outer : List Env) (s : Shared) (H : Hp) (E : XK) : Cx :=
  { cxOf CX0 P w K mg base N qual scope f cd A outer s H E with calm := false }
section
variable {P : Program} {w : World} {K : PySem.W.Frag} {mg : Str → Option Value} {base : Heap} {N ps : List Str} {qual : Str} {scope : Scope} {f : Addr} {cd : Value} {A : Around} {outer : List Env} {s s1 : Shared} {H : Hp} {E : XK} {us : List Value} {vs : List V}
theorem inv_startW (S : FnScope N ps scope) (e0 : Env0 P w K mg base A outer s H) (hl : vs.length = ps.length) (r : Vals vs us)
    (x : InCallC s s.heap.objs.size (bindL (envOfC qual scope s.heap.objs.size f cd).kindOf (ps.zip us) fun _ => none) (cellsFrom (s.heap.objs.size + 1) scope.names []) (bindC (envOfC qual scope s.heap.objs.size f cd).kindOf (ps.zip us) fun _ => none) s1) :
    Inv (cxW P w K mg base N qual scope f cd A outer s H E) [] (L2.start N vs) H s1 := by
  have I : Inv (cxOf CX0 P w K mg base N qual scope f cd { A with handled := none } outer s H E) [] (L2.start N vs) H s1 := inv_start S rfl ⟨e0.frames, e0.mod, e0.bs, e0.bsz, e0.funs, e0.frf, e0.hok, e0.bare⟩ hl r x
  exact ⟨⟨I.ok.mod, I.ok.kind, I.ok.glob, I.ok.blt, I.ok.above, I.ok.inj, I.ok.has, I.ok.cab, (fun z => Bool.noConfusion (show false = true from z)), Around.frames_deeper e0.frames, I.ok.stk, I.ok.exf, I.ok.bs, I.ok.bsz, I.ok.noex, I.ok.exfs, I.ok.funs, I.ok.frf⟩,
    I.os, I.bare, I.base, I.loc, I.cell, I.free, I.freeC, I.pin, I.hok, I.len⟩
theorem fnW_of {x : Str} {params : Arguments} {body : List Stmt} {fd : FuncData} {dvs : List V} {kws : List (Str × V)} {k : Nat} {sp : Sp} (F : FunD K x qual params body scope dvs kws f fd) (S : FnScope N ps scope) (len : ∀ vs H Q E, sp vs H Q E → vs.length = ps.length)
    (hbody : ∀ (cdv : Value) (A : Around) (outer : List Env) (s : Shared) (H : Hp) (vs : List V) (Q : VK) (E : XK), L2H.RoomH k (A.deeper (envOfC qual scope s.heap.objs.size f cdv)) → sp vs H Q E →
      ∃ t, PSs (cxW P w K mg base N qual scope f cdv A outer s H E) body t ∧ t { nx := fun _ H' => Q .non H', rt := Q } (L2.start N vs) H) : FnW P w K mg base (k + 1) f fd ps sp := by
  obtain ⟨oc, od, dV, kV, doc, pm, an, cdv, ct, osl, rfl, lk, hcd, _, _⟩ := F.ex
  refine ⟨len, fun A outer s H args us vs Q E hr e0 hb r hsp => ?_⟩
  have hl := len _ _ _ _ hsp
  have KX : K.In s.heap := e0.mod.kin.keeps fun b o e => (e0.bs b o e).1
  have lim : s.heap.NoLimit := e0.mod.nolimit.keeps fun b o e => (e0.bs b o e).1
  refine codeAny_call_function hr.depth (KX _ _ lk) rfl S.co S.gen rfl (PySem.W.codeRec_of KX hcd) (hb _ _ _ _ (wpAny_newFunctionEnv_cells S.kind (fun ⟨n, v⟩ hy => ?_) fun env he s1 x => ?_))
  · rcases S.par n (List.of_mem_zip hy).1 with q | q
    · exact .inl q
    · exact .inr ⟨q, PySem.W.cellsFrom_some _ _ _ (.inl q)⟩
  subst he
  refine ⟨lim.keeps x.toInCall.keep, codeAny_func ?_⟩
  obtain ⟨t, ht, hq⟩ := hbody cdv A outer s H vs Q E (hr.deeper _) hsp
  refine wpAny_mono (ht.run [] s1 (L2.start N vs) H _ (inv_startW S e0 hl r x) hq) (fun fl s' hs => ?_) fun e s' hs => hs
  have fin : ∀ {σ' : L2.St} {H' : Hp} {v : V} {u : Value}, Inv (cxW P w K mg base N qual scope f cdv A outer s H E) [] σ' H' s' → RelV v u → Q v H' → CE outer P w H s Q u s' := fun {σ' H' v u} J rv q => ⟨v, H', J.os, J.bare, J.base, J.hok, rv, q⟩
  cases fl with
  | ret u =>
    obtain ⟨v, σ', H', J, rv, q⟩ := hs
    exact fin J rv q
  | next =>
    obtain ⟨σ', H', J, q⟩ := hs
    exact fin (v := V.non) (u := Value.none) J rfl q
  | brk =>
    obtain ⟨_, _, _, q⟩ := hs
    exact False.elim q
  | cont =>
    obtain ⟨_, _, _, q⟩ := hs
    exact False.elim q
end
section
variable {X : Cx} {k : Nat} {f : Addr} {fd : FuncData} {ps : List Str} {sp : Sp} {x n : Str} {q pos : Pos} {e : Expr} {es : List Expr} {te : TE} {t : TA}
theorem pe_callW (F : FnW X.prog X.w X.K X.mg X.base k f fd ps sp) (hr : L2H.RoomH k X.A) (hg : Gl X x) (hm : X.mg x = some (.ref f)) (hk : PySem.W.keepIn X.K (.ref f) = true) (hb : Binds X.K fd ps []) (ha : PA X (e :: es) t) (hdb : (x == ("__debug__" : Str)) = false := by decide)
    (he : starEach (e :: es) X.env = (false, eval e X.env) :: starEach es X.env := by rfl) (hpl : (backTo pos (starEach es X.env)).any (·.1) = false := by rfl) : PE X (.Call (.Name x q) (e :: es) [] pos) (tCall sp [] E0 t) := by
  refine ⟨fun pins s σ H Q I h => wpAny_Call_Name_kw (ld_glob I hg hm (PySem.W.callWith_K (h₀ := X.base) I.ok.mod.kin hk (thn (ha.run pos pins s σ H _ I h) fun us s1 ⟨vs, H1, I1, r, q⟩ => ⟨I1.kIn, ?_⟩) he hpl) hdb)⟩
  have q' : sp vs H1 Q E0 := by
    have z : sp (vs ++ []) H1 Q E0 := q
    rw [List.append_nil] at z
    exact z
  have b := hb s1 us I1.kIn (by rw [List.append_nil, ← r.length]; exact F.len _ _ _ _ q')
  rw [List.append_nil] at b
  refine wpAny_call (codeAny_mono (F.run X.A X.stack s1 H1 ⟨us, []⟩ us vs Q E0 hr I1.env0 b r q') fun r s' hq => ?_)
  cases r with
  | error e => exact (show False from hq).elim
  | ok fl =>
    cases fl with
    | ret u => exact I1.after hq
    | next => exact False.elim hq
    | brk => exact False.elim hq
    | cont => exact False.elim hq
/-- a field of a caught error -/
def tXe (K : PySem.W.Frag) (n : Str) (te : TE) : TE := fun σ H Q => te σ H fun x H1 => ∃ (a C dd : Addr) (fs : List (Str × V)) (v : V), x = .ref a ∧ XfC K C ∧ PySem.W.findIn K (.ref C) n = some none ∧ H1 a = some (excE a (.ref C) (some dd)) ∧ H1 dd = some (.xd fs) ∧ fs.lookup n = some v ∧ Q v H1
theorem pe_xe (he : PE X e te) (hb : attributeBase e n X.env (eval e X.env) = eval e X.env := by rfl) : PE X (.Attribute e n pos) (tXe X.K n te) := by
  refine ⟨fun pins s σ H Q I h => attr_of hb (thn (he.run pins s σ H _ I h) fun u s1 ⟨x, H1, I1, rx, a, C, dd, fs, v, ex, T, hno, ea, ed, l, q⟩ => ?_)⟩
  subst ex
  obtain rfl : u = Value.ref a := rx
  obtain ⟨⟨oe, vs, ha, hz, hd⟩, _, _⟩ := I1.hok a _ ea
  obtain ⟨mA, hns, hr⟩ := (show ObjOk X.prog X.w H1 s1.heap dd (.xd fs) from I1.hok dd _ ed)
  obtain ⟨od, ho, hl⟩ := lookIn_ns hns
  obtain ⟨u, hu, ru⟩ := RelO.some_of (v := v) (o := mA n) (by rw [← l]; exact hr n)
  have J : PySem.W.InstAt s1.heap a oe C (some od) := ⟨ha, hz.1, by unfold PySem.W.notCls; rw [hd] <;> rfl, by rw [hz.2]; exact ho⟩
  exact PySem.HandSPX.exc_get I1.kIn J T.ga T.gg T.exC (PySem.W.findObj_own T.hdC hno rfl (by rw [hl, hu])) (handed_of ru) ⟨v, H1, I1.tok _, ru, q⟩
end
end PW
/-! ### own errors and tables of code objects: the hook -/
namespace PW
open PySem PySem.Spec PyProof.Rows L2
/-- what the text's file and scope are -/
structure IsPG (P : Program) : Prop where
  file : ((P.main.file : Str) == ("/claim/cut.py" : Str)) = true
  sup : (P.main.scope.names.lookup ("super" : Str)).isSome = false
def fileB (K : PySem.W.Frag) (cd : Value) : Bool := match cd with
  | .ref a => (match K.lookup a with
    | some ⟨_, _, .fields vs, _⟩ => (match (vs[2]? : Option Value) with
      | some (Value.str f _) => decide (f = ("/claim/cut.py" : Str))
      | _ => false)
    | _ => false)
  | _ => false
theorem fileB_ok {K : PySem.W.Frag} {cd : Value} (h : fileB K cd = true) : ∃ (a : Addr) (cl : Value) (dd : Option Addr) (vs : Array Value) (sl : Array (Option Value)) (t : Tok), cd = .ref a ∧ K.lookup a = some ⟨cl, dd, .fields vs, sl⟩ ∧ vs[2]? = some (.str ("/claim/cut.py" : Str) t) := by
  cases cd with
  | ref a =>
    unfold fileB at h
    cases q : K.lookup a with
    | none =>
      simp only [q] at h
      cases h
    | some o =>
      obtain ⟨cl, dd, dt, sl⟩ := o
      simp only [q] at h
      cases dt with
      | fields vs =>
        cases q2 : vs[2]? with
        | none =>
          simp only [q2] at h
          cases h
        | some v =>
          simp only [q2] at h
          cases v with
          | str f t =>
            have e : f = ("/claim/cut.py" : Str) := of_decide_eq_true h
            subst e
            exact ⟨a, cl, dd, vs, sl, t, rfl, q, q2⟩
          | _ => cases h
      | _ => cases h
  | _ => cases h
def cellB (K : PySem.W.Frag) (C c : Addr) : Bool := match K.lookup c with
  | some ⟨_, _, .cell (some (.ref D)), _⟩ => decide (D = C)
  | _ => false
theorem cellB_ok {K : PySem.W.Frag} {C c : Addr} (h : cellB K C c = true) : ∃ (cl : Value) (dd : Option Addr) (sl : Array (Option Value)), K.lookup c = some ⟨cl, dd, .cell (some (.ref C)), sl⟩ := by
  unfold cellB at h
  cases q : K.lookup c with
  | none =>
    simp only [q] at h
    cases h
  | some o =>
    obtain ⟨cl, dd, dt, sl⟩ := o
    simp only [q] at h
    cases dt with
    | cell v =>
      cases v with
      | none => cases h
      | some v =>
        cases v with
        | ref D =>
          have e : D = C := of_decide_eq_true h
          subst e
          exact ⟨cl, dd, sl, rfl⟩
        | _ => cases h
    | _ => cases h
def oexB (b : PySem.W.EK) (K : PySem.W.Frag) (C : Addr) : Bool := (match K.lookup C with
  | some ⟨.type t, _, .cls cd, sl⟩ => decide (t = "type") && ((match cd.mro, sl.toList with
    | .ref C' :: bm, [_, _, _, _, some (.builtin n), _] => decide (C' = C) && (PySem.W.excTail b.tail bm && decide (n = b.newId))
    | _, _ => false) && (cd.hasDict && !cd.hasDel))
  | _ => false) && (decide (PySem.W.findIn K (.ref C) "__setattr__" = some (some (.builtin "object.__setattr__"))) && (decide (PySem.W.subIn K (.ref C) (.type "BaseException") = some true) && (decide (PySem.W.typeIn K (.ref C) = some (.type "type")) && PySem.W.keepIn K (.ref C))))
theorem oexB_ok {b : PySem.W.EK} {K : PySem.W.Frag} {C : Addr} (h : oexB b K C = true) : PySem.W.OexG b K C := by
  obtain ⟨h1, h2⟩ := He.ba h
  obtain ⟨h3, h4⟩ := He.ba h2
  obtain ⟨h5, h6⟩ := He.ba h4
  obtain ⟨h7, h8⟩ := He.ba h6
  refine ⟨?_, of_decide_eq_true h3, of_decide_eq_true h5, of_decide_eq_true h7, h8⟩
  cases q : K.lookup C with
  | none =>
    simp only [q] at h1
    cases h1
  | some o =>
    obtain ⟨oc, od, dt, sl⟩ := o
    simp only [q] at h1
    cases oc with
    | type t =>
      cases dt with
      | cls cd =>
        obtain ⟨e1, h9⟩ := He.ba h1
        obtain ⟨h10, h11⟩ := He.ba h9
        obtain ⟨h12, h13⟩ := He.ba h11
        obtain ⟨nm, bs, mro, ns, qn, hd, sn, sub, ab, col, del⟩ := cd
        obtain ⟨sl⟩ := sl
        dsimp only at h10 h12 h13
        have e1' : t = "type" := of_decide_eq_true e1
        subst e1'
        cases hd with
        | false => cases h12
        | true =>
          cases del with
          | true => cases h13
          | false =>
            split at h10
            · rename_i C' bm k0 k1 k2 k3 n k5
              obtain ⟨z1, z2⟩ := He.ba h10
              obtain ⟨z3, z4⟩ := He.ba z2
              have z5 : C' = C := of_decide_eq_true z1
              have z6 : n = b.newId := of_decide_eq_true z4
              subst z5 z6
              exact ⟨nm, qn, ns, bs, bm, sn, sub, ab, col, od, k0, k1, k2, k3, k5, rfl, z3⟩
            · cases h10
      | _ => cases h1
    | _ => cases dt <;> cases h1
/-- what is asked of an own error that is made -/
def mkB (b : PySem.W.EK) (K : PySem.W.Frag) (C : Addr) (ns : List Str) : Bool := oexB b K C && (xfB K C && (decide (PySem.W.findIn K (.ref C) "__init__" = some (some (.ref (He.ma K C "__init__")))) && (decide (PySem.W.typeIn K (.ref (He.ma K C "__init__")) = some (.type "function")) && (decide (PySem.W.nsIn K mainGlobals "super" = some none) &&
  (decide (PySem.W.nsIn K cStatics "thirdparty.any" = some none) && (decide (PySem.W.ks_superIn K C C "__init__" = some (some (.builtin b.ini))) && (decide (PySem.W.mroIn K C (.ref C) = some true) && (decide (PySem.W.subIn K (.ref C) (.type b.nm) = some true) && ns.all fun n => decide (PySem.W.findIn K (.ref C) n = some none)))))))))
structure MkC (b : PySem.W.EK) (K : PySem.W.Frag) (C : Addr) (ns : List Str) : Prop where
  oex : PySem.W.OexG b K C
  xf : XfC K C
  iC : PySem.W.findIn K (.ref C) "__init__" = some (some (.ref (He.ma K C "__init__")))
  tC : PySem.W.typeIn K (.ref (He.ma K C "__init__")) = some (.type "function")
  sup : PySem.W.nsIn K mainGlobals "super" = some none
  any : PySem.W.nsIn K cStatics "thirdparty.any" = some none
  mro : PySem.W.ks_superIn K C C "__init__" = some (some (.builtin b.ini))
  sub : PySem.W.mroIn K C (.ref C) = some true
  ve : PySem.W.subIn K (.ref C) (.type b.nm) = some true
  no : ∀ n ∈ ns, PySem.W.findIn K (.ref C) n = some none
theorem mkB_ok {b : PySem.W.EK} {K : PySem.W.Frag} {C : Addr} {ns : List Str} (h : mkB b K C ns = true) : MkC b K C ns := by
  obtain ⟨h1, h⟩ := He.ba h
  obtain ⟨h2, h⟩ := He.ba h
  obtain ⟨h3, h⟩ := He.ba h
  obtain ⟨h4, h⟩ := He.ba h
  obtain ⟨h5, h⟩ := He.ba h
  obtain ⟨h6, h⟩ := He.ba h
  obtain ⟨h7, h⟩ := He.ba h
  obtain ⟨h8, h⟩ := He.ba h
  obtain ⟨h9, h⟩ := He.ba h
  exact ⟨oexB_ok h1, xfB_ok h2, of_decide_eq_true h3, of_decide_eq_true h4, of_decide_eq_true h5, of_decide_eq_true h6, of_decide_eq_true h7, of_decide_eq_true h8, of_decide_eq_true h9, fun n hn => of_decide_eq_true (List.all_eq_true.mp h n hn)⟩
/-- an own error's __init__, with the cell of its class -/
structure DefX where
  cls : Str
  qual : Str
  params : Arguments
  body : List Stmt
  scope : Scope
def DefX.f (d : DefX) (K : PySem.W.Frag) : Addr := He.ma K (He.ga K d.cls) "__init__"
def fnWX (K : PySem.W.Frag) (d : DefX) : He.FnW := match K.lookup (d.f K) with
  | some ⟨_, _, .func fd, _⟩ => some (fd.name, fd.qualname, fd.params, fd.body, fd.scope, fd.globals, fd.closure.map (fun p => (p.1, 0)), fd.builtins)
  | _ => none
def DefX.val (d : DefX) : He.FnW := some (("__init__" : Str), d.qual, d.params, FuncBody.stmts d.body, d.scope, mainGlobals, [(("__class__" : Str), (0 : Addr))], builtinsNs)
def DefX.ok (K : PySem.W.Frag) (d : DefX) : Bool := match K.lookup (d.f K) with
  | some ⟨_, _, .func fd, _⟩ => PySem.W.codeIn K fd.code d.qual && (fileB K fd.code && (He.dflB K fd.defaults [] && fd.closure.all fun p => cellB K (He.ga K d.cls) p.2))
  | _ => false
theorem DefX.init {b : PySem.W.EK} {K : PySem.W.Frag} {d : DefX} {ns : List Str} (e : fnWX K d = d.val) (c : d.ok K = true) (m : MkC b K (He.ga K d.cls) ns) {P : Program} (hP : IsPG P) : PySem.W.InitFn b K P (He.ga K d.cls) (d.f K) d.qual d.params d.body d.scope := by
  refine ⟨?_, m.sup, hP.sup, m.any, m.mro, m.sub, m.ve⟩
  unfold fnWX at e
  unfold DefX.ok at c
  cases q : K.lookup (d.f K) with
  | none =>
    rw [q] at c
    cases c
  | some o =>
    obtain ⟨oc, od, dt, osl⟩ := o
    rw [q] at c e
    cases dt with
    | func fd =>
      obtain ⟨n1, n2, n3, n4, n5, n6, n7, n8, n9, n10, n11, n12, n13, n14, n15⟩ := fd
      have e2 : (some (n1, n2, n3, n4, n5, n6, n7.map (fun p => (p.1, 0)), n15) : He.FnW) = some (("__init__" : Str), d.qual, d.params, FuncBody.stmts d.body, d.scope, mainGlobals, [(("__class__" : Str), (0 : Addr))], builtinsNs) := e
      simp only [Option.some.injEq, Prod.mk.injEq] at e2
      obtain ⟨h1, h2, h3, h4, h5, h6, h7, h8⟩ := e2
      subst h1 h2 h3 h4 h5 h6 h8
      have c3 : (PySem.W.codeIn K n13 d.qual && (fileB K n13 && (He.dflB K n8 [] && n7.all fun p => cellB K (He.ga K d.cls) p.2))) = true := c
      obtain ⟨k1, k2⟩ := He.ba c3
      obtain ⟨k3, k4⟩ := He.ba k2
      obtain ⟨k5, k6⟩ := He.ba k4
      cases n7 with
      | nil => simp only [List.map_nil, reduceCtorEq] at h7
      | cons p r =>
        cases r with
        | cons p2 r2 => simp only [List.map_cons, List.cons.injEq, reduceCtorEq, and_false] at h7
        | nil =>
          obtain ⟨p1, cc⟩ := p
          have e7 : p1 = ("__class__" : Str) := by
            simp only [List.map_cons, List.map_nil, List.cons.injEq, Prod.mk.injEq, and_true] at h7
            exact h7
          subst e7
          obtain ⟨cl, cld, csl, lcc⟩ := cellB_ok (List.all_eq_true.mp k6 ("__class__", cc) List.mem_cons_self)
          obtain ⟨cda, ccl, cdd, vs, ccs, tf, ec, lcd, hvs⟩ := fileB_ok k3
          subst ec
          rcases He.dflB_ok k5 with ⟨_, z⟩ | ⟨z, _⟩
          · subst z
            exact ⟨oc, n9, n10, n11, n14, od, n12, osl, cc, cda, ccl, cl, cdd, cld, vs, ccs, csl, _, tf, rfl, k1, lcd, hvs, hP.file, lcc⟩
          · exact absurd rfl z
    | _ => cases c
abbrev AlN : Type := AlM × (List He.FnW × Bool)
abbrev frN (n : Nat) (g : Addr → Option Obj) : PySem.W.Frag := He.frT g (He.asD g n ++ [cStatics])
def obsN (n : Nat) (fa : List He.Fa) (fn : List He.DefD) (fs : List DefA) (fx : List DefX) (tf : List He.Defn) (ex : PySem.W.Frag → List Bool) (g : Addr → Option Obj) : AlN :=
  (obsM fa fn fs ex (frN n g), (fx.map (fnWX (frN n g)), (fx.all fun d => d.ok (frN n g)) && He.tabsB g tf (frN n g)))
def valN (fn : List He.DefD) (fs : List DefA) (fx : List DefX) : AlN := (valM fn fs, (fx.map DefX.val, true))
structure SaysN (fa : List He.Fa) (fn : List He.DefD) (fs : List DefA) (fx : List DefX) (tf : List He.Defn) (ex : PySem.W.Frag → List Bool) (h : Heap) (K : PySem.W.Frag) : Prop where
  m : SaysM fa fn fs ex K
  x : ∀ d ∈ fx, fnWX K d = d.val ∧ d.ok K = true
  hd : ∀ p ∈ tf, PySem.W.codeHdIn K (He.cT K p).1 (He.cT K p).2 = true
  out : ∀ p ∈ tf, K.lookup (He.cT K p).2 = none
  empty : ∀ p ∈ tf, h.get? (He.cT K p).2 = some { cls := .none, data := .fields #[] }
theorem saysN_of {n : Nat} {fa : List He.Fa} {fn : List He.DefD} {fs : List DefA} {fx : List DefX} {tf : List He.Defn} {ex : PySem.W.Frag → List Bool} {h : Heap} (e : obsN n fa fn fs fx tf ex h.get? = valN fn fs fx) : SaysN fa fn fs fx tf ex h (frN n h.get?) := by
  have e1 : obsM fa fn fs ex (frN n h.get?) = valM fn fs := congrArg (fun z : AlN => z.1) e
  have e2 : fx.map (fnWX (frN n h.get?)) = fx.map DefX.val := congrArg (fun z : AlN => z.2.1) e
  have e3 : ((fx.all fun d => d.ok (frN n h.get?)) && He.tabsB h.get? tf (frN n h.get?)) = true := congrArg (fun z : AlN => z.2.2) e
  obtain ⟨h1, h2⟩ := He.ba e3
  have key : ∀ p ∈ tf, PySem.W.codeHdIn (frN n h.get?) (He.cT (frN n h.get?) p).1 (He.cT (frN n h.get?) p).2 = true ∧ ∃ o, h.get? (He.cT (frN n h.get?) p).2 = some o ∧ He.emptyTab o = true := fun p hp => by
    obtain ⟨z1, z2⟩ := He.ba (List.all_eq_true.mp h2 p hp)
    refine ⟨z1, ?_⟩
    cases q : h.get? (He.cT (frN n h.get?) p).2 with
    | none =>
      rw [q] at z2
      cases z2
    | some o =>
      rw [q] at z2
      exact ⟨o, rfl, z2⟩
  refine ⟨saysM_of e1, fun d hd => ⟨map_mem e2 d hd, List.all_eq_true.mp h1 d hd⟩, fun p hp => (key p hp).1, fun p hp => ?_, fun p hp => ?_⟩
  · obtain ⟨_, o, q, z⟩ := key p hp
    exact He.frT_none q z
  · obtain ⟨_, o, q, z⟩ := key p hp
    rw [q, He.emptyTab_eq z]
def hookN (n : Nat) (fa : List He.Fa) (fn : List He.DefD) (fs : List DefA) (fx : List DefX) (tf : List He.Defn) (ex : PySem.W.Frag → List Bool) : PySem.W.Hook where
  α := AlN
  obs := fun s => obsN n fa fn fs fx tf ex s.heap.get?
  val := fun _ => valN fn fs fx
  says := fun _ h => ∃ K : PySem.W.Frag, K.In h ∧ SaysN fa fn fs fx tf ex h K
  of := fun _ _ e => ⟨_, He.frT_in, saysN_of e⟩
  keeps := fun _ _ _ ⟨K, hK, c⟩ k => ⟨K, PySem.W.Frag.In.keeps hK k, ⟨c.m, c.x, c.hd, c.out, fun p hp => k _ _ (c.empty p hp)⟩⟩
theorem obsN_eq {n : Nat} {fa : List He.Fa} {fn : List He.DefD} {fs : List DefA} {fx : List DefX} {tf : List He.Defn} {ex : PySem.W.Frag → List Bool} {g : Addr → Option Obj} {s : Shared} (h : ∀ a, g a = s.heap.get? a) : obsN n fa fn fs fx tf ex g = (hookN n fa fn fs fx tf ex).obs s := by
  have e : g = s.heap.get? := funext h
  rw [e] <;> rfl
/-- THE RULE for a def that makes lambdas: its code object is the one that is told -/
theorem FunD.okC {P : Program} {w : World} {K : PySem.W.Frag} {mg : Str → Option Value} {base : Heap} {x qual : Str} {params : Arguments} {body : List Stmt} {scope : Scope} {dvs : List V} {kws : List (Str × V)} {p : He.Defn} {fd : FuncData} {CX : CXT} {N ps : List Str} {k : Nat} {sp : Sp}
    (F : FunD K x qual params body scope dvs kws (He.fAd K p) fd) (S : FnScope N ps scope) (len : ∀ vs H Q E, sp vs H Q E → vs.length = ps.length)
    (hbody : ∀ (A : Around) (outer : List Env) (s : Shared) (H : Hp) (vs : List V) (Q : VK) (E : XK), Room k (A.deeper (envOfC qual scope s.heap.objs.size (He.fAd K p) (.ref (He.codeOf K p)))) → sp vs H Q E →
      ∃ t, PSs (cxOf CX P w K mg base N qual scope (He.fAd K p) (.ref (He.codeOf K p)) A outer s H E) body t ∧ t { nx := fun _ H' => Q .non H', rt := Q } (start N vs) H) : FnOk P w K mg base CX (k + 1) (He.fAd K p) fd ps sp := by
  obtain ⟨oc, od, dV, kV, doc, pm, an, cdv, ct, osl, rfl, lk, hcd, _, _⟩ := F.ex
  obtain ⟨c, rfl⟩ := He.codeIn_ref hcd
  have e := He.codeOf_eq lk rfl
  subst e
  exact fn_of lk hcd S len fun A outer s H vs Q E hr hsp => hbody A outer s H vs Q E hr hsp
end PW
local macro_rules | `(tactic| walk_at "lst") => `(tactic| first | with_reducible assumption | (with_reducible exact L2.SqT.of L2.upd_same) | (with_reducible exact L2.SqL.of L2.upd_same) | ((with_reducible refine' PW.Ex.tupN ?h ?q); (case h => with_reducible assumption); (case q => walk_at "lst")) | ((with_reducible refine' PW.Ex.lstN ?h ?q); (case h => with_reducible assumption); (case q => walk_at "lst")) | ((with_reducible refine' L2.SqL.of ?h); (case h => walk_at "hp")) | ((with_reducible refine' L2.SqT.of ?h); (case h => walk_at "hp")))
local macro_rules | `(tactic| walk_at "K") => `(tactic| try simp only [PW.nox_K, PW.cx_K])
local macro_rules | `(tactic| walk_at "hp") => `(tactic| first | with_reducible assumption | (with_reducible exact L2.upd_same) | ((with_reducible refine' (L2.upd_ne ?n).trans ?h); (case' n => walk_at "ne"); (case' h => walk_at "hp")))
local macro_rules | `(tactic| walk_at "ne") => `(tactic| first | with_reducible assumption | (with_reducible exact Ne.symm (by with_reducible assumption)) | (with_reducible exact L2.ne_of_none (by with_reducible assumption) (by with_reducible assumption)) | (with_reducible exact Ne.symm (L2.ne_of_none (by with_reducible assumption) (by with_reducible assumption))) | exact PW.ne_ofK (by with_reducible assumption) (by with_reducible assumption) (by rfl))
local macro_rules | `(tactic| walk_at "g1") => `(tactic| first
  | refine PW.Step.imp ?_
  | ((with_reducible refine' PW.r_I ?h ?_); (case h => walk_at "cond"))
  | ((with_reducible refine' PW.r_ixL ?h ?a ?_); (case h => walk_at "lst"); (case a => first | rfl | exact PW.atI0))
  | ((with_reducible refine' PW.r_ixT ?h ?a ?_); (case h => walk_at "lst"); (case a => first | rfl | exact PW.atI0))
  | ((with_reducible refine' PW.r_setL ?h ?a ?_); (case h => walk_at "hp"); (case a => rfl))
  | ((with_reducible refine' PW.r_lst1 ?h ?_); (case h => first | decide | (simp only [List.length_cons, List.length_nil]; omega)))
  | ((with_reducible refine' PW.r_ifT' ?e ?_); (case e => with_reducible exact PW.dec_self))
  | ((with_reducible refine' PW.r_ifF' ?e ?_); (case e => exact PW.dec_kind rfl))
  | ((with_reducible refine' PW.r_ifF' ?e ?_); (case e => with_reducible exact PW.ndec_self))
  | ((with_reducible refine' PW.r_ifT' ?e ?_); (case e => exact PW.ndec_kind rfl))
  | ((with_reducible refine' PW.r_ifT' ?e ?_); (case e => decide))
  | ((with_reducible refine' PW.r_ifF' ?e ?_); (case e => decide))
  | ((with_reducible refine' PW.r_cLenL ?h ?_); (case h => walk_at "lst"))
  | ((with_reducible refine' PW.r_cLenT ?h ?_); (case h => walk_at "lst"))
  | ((with_reducible refine' PW.r_cLenS ?h ?_); (case h => walk_at "size"))
  | ((with_reducible refine' PW.r_addS ?h ?_); (case h => walk_at "size"))
  | ((with_reducible refine' PW.r_slL ?h ?_); (case h => walk_at "lst"))
  | ((with_reducible refine' PW.r_slS ?h ?_); (case h => walk_at "size"))
  | ((with_reducible refine' PW.r_gtup ?h ?l ?_); (case h => walk_at "lst"); (case l => rfl))
  | ((with_reducible refine' PW.r_isi ?h ?e ?_); (case h => walk_at "ty"); (case e => walk_at "kit"))
  | ((with_reducible refine' PW.r_isiT2 ?ht ?h ?e1 ?e2 ?_); (case ht => walk_at "hp"); (case h => walk_at "ty"); (case e1 => walk_at "kit"); (case e2 => walk_at "kit"))
  | ((with_reducible refine' PW.r_ixqL ?h ?a ?_); (case h => walk_at "lst"); (case a => first | rfl | exact PW.atI0))
  | ((with_reducible refine' PW.r_ixqT ?h ?a ?_); (case h => walk_at "lst"); (case a => first | rfl | exact PW.atI0))
  | ((with_reducible refine' PW.r_inT ?h ?a ?b ?_); (case h => walk_at "lst"); (case a => rfl); (case b => rfl))
  | ((with_reducible refine' PW.r_inL ?h ?a ?b ?_); (case h => walk_at "lst"); (case a => rfl); (case b => rfl))
  | ((with_reducible refine' PW.r_ninT ?h ?a ?b ?_); (case h => walk_at "lst"); (case a => rfl); (case b => rfl))
  | ((with_reducible refine' PW.r_ninL ?h ?a ?b ?_); (case h => walk_at "lst"); (case a => rfl); (case b => rfl))
  | ((with_reducible refine' PW.rng1 ?h1 ?h2 ?_); (case h1 => omega); (case h2 => omega))
  | ((with_reducible refine' PW.rng2 ?h1 ?h2 ?h3 ?h4 ?_); (case h1 => omega); (case h2 => omega); (case h3 => omega); (case h4 => omega))
  | ((with_reducible refine' PW.r_rep ?h ?a ?b ?c ?_); (case h => walk_at "hp"); (case a => omega); (case b => omega); (case c => walk_at "len"))
  | (with_reducible refine' PW.r_and3 rfl rfl ?_)
  | ((with_reducible refine' PW.wkL ?h ?_); (case h => walk_at "lst"))
  | ((with_reducible refine' PW.wkT ?h ?_); (case h => walk_at "lst"))
  | ((with_reducible refine' PW.wkE ?h ?_); (case h => walk_at "lst"))
  | ((with_reducible refine' PW.r_cListL ?h ?_); (case h => walk_at "lst"))
  | ((with_reducible refine' PW.r_cListT ?h ?_); (case h => walk_at "lst"))
  | ((with_reducible refine' PW.r_cTupleL ?h ?_); (case h => walk_at "lst"))
  | ((with_reducible refine' PW.r_fld ?h ?c ?n ?l ?_); (case h => walk_at "hp"); (case c => first | with_reducible assumption | assumption); (case n => first | with_reducible assumption | assumption); (case l => rfl))
  | ((with_reducible refine' PW.r_methC ?h ?l ?_); (case h => walk_at "hp"); (case l => rfl))
  | ((with_reducible refine' PW.r_rev ?h ?_); (case h => walk_at "lst"))
  | ((with_reducible refine' PW.r_eqEL ?h ?a ?_); (case h => walk_at "lst"); (case a => walk_at "lst"))
  | ((with_reducible refine' PW.r_eqET ?h ?a ?_); (case h => walk_at "lst"); (case a => walk_at "lst"))
  | ((with_reducible refine' PW.r_neET ?h ?a ?_); (case h => walk_at "lst"); (case a => walk_at "lst"))
  | ((with_reducible refine' PW.r_tyL ?h ?_); (case h => walk_at "lst"))
  | ((with_reducible refine' PW.r_sfld ?h ?c ?n ?l ?_); (case h => walk_at "hp"); (case c => first | with_reducible assumption | assumption); (case n => first | with_reducible assumption | assumption); (case l => exact Nat.le_of_ble_eq_true rfl))
  | ((with_reducible refine' PW.r_append ?h ?l ?_); (case h => walk_at "hp"); (case l => walk_at "len"))
  | ((with_reducible refine' PW.r_isiO ?h ?e ?_); (case h => walk_at "ty"); (case e => first | with_reducible assumption | assumption))
  | ((with_reducible refine' PW.r_isiC ?h ?e ?_); (case h => walk_at "ty"); (case e => first | with_reducible assumption | assumption)))
local macro_rules | `(tactic| walk_at "go") => `(tactic| repeat (walk_at "g1"))
local macro_rules | `(tactic| walk_at "cond") => `(tactic| first | with_reducible assumption | omega | ((with_reducible refine PW.cmx ?_ ?_ ?_ ?_) <;> omega) | ((with_reducible refine PW.cdw ?_ ?_) <;> omega) | ((with_reducible refine PW.cdw2 ?_ ?_) <;> with_reducible assumption) | ((with_reducible refine PW.cpow ?_ ?_ ?_ ?_) <;> omega))
local macro_rules | `(tactic| walk_at "size") => `(tactic| first | with_reducible assumption | exact Nat.le_trans (by with_reducible assumption) (by decide))
local macro_rules | `(tactic| walk_at "ty") => `(tactic| first | with_reducible assumption | exact .base (.int _) | exact .base (.str _) | exact .base (.bl _) | exact .base .non | exact .base (.lst (by walk_at "hp")) | exact .base (.tup (by walk_at "hp")) | assumption)
local macro_rules | `(tactic| walk_at "kit") => `(tactic| first | exact PW.kb_NoneType_bool | exact PW.kb_NoneType_int | exact PW.kb_NoneType_str | exact PW.kb_NoneType_list | exact PW.kb_NoneType_tuple | exact PW.kb_NoneType_dict | exact PW.kb_bool_bool | exact PW.kb_bool_int | exact PW.kb_bool_str | exact PW.kb_bool_list | exact PW.kb_bool_tuple | exact PW.kb_bool_dict | exact PW.kb_int_bool | exact PW.kb_int_int | exact PW.kb_int_str | exact PW.kb_int_list | exact PW.kb_int_tuple | exact PW.kb_int_dict | exact PW.kb_str_bool | exact PW.kb_str_int | exact PW.kb_str_str | exact PW.kb_str_list | exact PW.kb_str_tuple | exact PW.kb_str_dict | exact PW.kb_list_bool | exact PW.kb_list_int | exact PW.kb_list_str | exact PW.kb_list_list | exact PW.kb_list_tuple | exact PW.kb_list_dict | exact PW.kb_tuple_bool | exact PW.kb_tuple_int | exact PW.kb_tuple_str | exact PW.kb_tuple_list | exact PW.kb_tuple_tuple | exact PW.kb_tuple_dict)
local macro_rules | `(tactic| walk_at "len") => `(tactic| first | decide | (refine PW.len_ok ?_; simp only [List.length_cons, List.length_nil]; omega) | (simp only [List.length_cons, List.length_nil]; omega))
namespace PW
open PySem PySem.Spec PyProof.Rows L2
/-! ### the text by places -/
def top (i : Nat) : Stmt := PySem.Challenge.pw_powerwish_k16_values_of_terms.main.body.getD i (.Pass ⟨0, 0, 0, 0⟩)
abbrev s_is_whole : Stmt := top 10
abbrev n_is_whole : List Str := ["value"]
abbrev p_is_whole : List Str := ["value"]
theorem sc_is_whole : FnScope n_is_whole p_is_whole (defScope s_is_whole) := ⟨rfl, rfl, rfl, by decide +kernel, rfl, by decide +kernel, by decide +kernel⟩
abbrev s_common : Stmt := top 11
abbrev n_common : List Str := ["one", "other"]
abbrev p_common : List Str := ["one", "other"]
theorem sc_common : FnScope n_common p_common (defScope s_common) := ⟨rfl, rfl, rfl, by decide +kernel, rfl, by decide +kernel, by decide +kernel⟩
abbrev s_bits : Stmt := top 12
abbrev n_bits : List Str := ["number"]
abbrev p_bits : List Str := ["number"]
theorem sc_bits : FnScope n_bits p_bits (defScope s_bits) := ⟨rfl, rfl, rfl, by decide +kernel, rfl, by decide +kernel, by decide +kernel⟩
abbrev s_doubled : Stmt := top 13
abbrev n_doubled : List Str := ["times", "found", "square", "left"]
abbrev p_doubled : List Str := ["times"]
theorem sc_doubled : FnScope n_doubled p_doubled (defScope s_doubled) := ⟨rfl, rfl, rfl, by decide +kernel, rfl, by decide +kernel, by decide +kernel⟩
abbrev s_power_rest : Stmt := top 14
abbrev n_power_rest : List Str := ["times", "divisor", "found", "square"]
abbrev p_power_rest : List Str := ["times", "divisor"]
theorem sc_power_rest : FnScope n_power_rest p_power_rest (defScope s_power_rest) := ⟨rfl, rfl, rfl, by decide +kernel, rfl, by decide +kernel, by decide +kernel⟩
abbrev s_totient : Stmt := top 15
abbrev n_totient : List Str := ["number", "found", "rest", "factor"]
abbrev p_totient : List Str := ["number"]
theorem sc_totient : FnScope n_totient p_totient (defScope s_totient) := ⟨rfl, rfl, rfl, by decide +kernel, rfl, by decide +kernel, by decide +kernel⟩
abbrev s_ordered : Stmt := top 16
abbrev n_ordered : List Str := ["parts", "found", "coefficient", "exponent", "at"]
abbrev p_ordered : List Str := ["parts"]
theorem sc_ordered : FnScope n_ordered p_ordered (defScope s_ordered) := ⟨rfl, rfl, rfl, by decide +kernel, rfl, by decide +kernel, by decide +kernel⟩
abbrev s_gathered : Stmt := top 17
abbrev n_gathered : List Str := ["parts", "low", "apart", "coefficient", "exponent", "gap", "first", "lower"]
abbrev p_gathered : List Str := ["parts", "low"]
theorem sc_gathered : FnScope n_gathered p_gathered (defScope s_gathered) := ⟨rfl, rfl, rfl, by decide +kernel, rfl, by decide +kernel, by decide +kernel⟩
abbrev s_settled : Stmt := top 18
abbrev n_settled : List Str := ["parts", "low", "share", "apart", "divisor", "coefficient", "exponent", "rows", "top", "part", "many"]
abbrev p_settled : List Str := ["parts", "low", "share"]
theorem sc_settled : FnScope n_settled p_settled (defScope s_settled) := ⟨rfl, rfl, rfl, by decide +kernel, rfl, by decide +kernel, by decide +kernel⟩
abbrev s_tower_of : Stmt := top 19
abbrev n_tower_of : List Str := ["value"]
abbrev p_tower_of : List Str := ["value"]
theorem sc_tower_of : FnScope n_tower_of p_tower_of (defScope s_tower_of) := ⟨rfl, rfl, rfl, by decide +kernel, rfl, by decide +kernel, by decide +kernel⟩
abbrev s_is_number : Stmt := top 20
abbrev n_is_number : List Str := ["value"]
abbrev p_is_number : List Str := ["value"]
theorem sc_is_number : FnScope n_is_number p_is_number (defScope s_is_number) := ⟨rfl, rfl, rfl, by decide +kernel, rfl, by decide +kernel, by decide +kernel⟩
abbrev s_total : Stmt := top 21
abbrev n_total : List Str := ["one", "other", "factor", "share", "left", "right", "parts", "coefficient", "exponent"]
abbrev p_total : List Str := ["one", "other", "factor"]
theorem sc_total : FnScope n_total p_total (defScope s_total) := ⟨rfl, rfl, rfl, by decide +kernel, rfl, by decide +kernel, by decide +kernel⟩
abbrev s_rest_of : Stmt := top 22
abbrev n_rest_of : List Str := ["number", "divisor", "whole", "found", "coefficient", "exponent", "odd", "twos", "cycle", "times"]
abbrev p_rest_of : List Str := ["number", "divisor"]
theorem sc_rest_of : FnScope n_rest_of p_rest_of (defScope s_rest_of) := ⟨rfl, rfl, rfl, by decide +kernel, rfl, by decide +kernel, by decide +kernel⟩
abbrev s_parts_of : Stmt := top 25
abbrev n_parts_of : List Str := ["term"]
abbrev p_parts_of : List Str := ["term"]
theorem sc_parts_of : FnScope n_parts_of p_parts_of (defScope s_parts_of) := ⟨rfl, rfl, rfl, by decide +kernel, rfl, by decide +kernel, by decide +kernel⟩
abbrev s_names_within : Stmt := top 26
abbrev n_names_within : List Str := ["term", "found", "part"]
abbrev p_names_within : List Str := ["term"]
theorem sc_names_within : FnScope n_names_within p_names_within (defScope s_names_within) := ⟨rfl, rfl, rfl, by decide +kernel, rfl, by decide +kernel, by decide +kernel⟩
abbrev s_calls_within : Stmt := top 27
abbrev n_calls_within : List Str := ["term", "found", "part"]
abbrev p_calls_within : List Str := ["term"]
theorem sc_calls_within : FnScope n_calls_within p_calls_within (defScope s_calls_within) := ⟨rfl, rfl, rfl, by decide +kernel, rfl, by decide +kernel, by decide +kernel⟩
abbrev s_worth : Stmt := top 28
abbrev n_worth : List Str := ["term", "table", "word", "inner"]
abbrev p_worth : List Str := ["term", "table"]
theorem sc_worth : FnScope n_worth p_worth (defScope s_worth) := ⟨rfl, rfl, rfl, by decide +kernel, rfl, by decide +kernel, by decide +kernel⟩
abbrev s_merged : Stmt := top 29
abbrev n_merged : List Str := ["tables", "more", "found", "table"]
abbrev p_merged : List Str := ["tables", "more"]
theorem sc_merged : FnScope n_merged p_merged (defScope s_merged) := ⟨rfl, rfl, rfl, by decide +kernel, rfl, by decide +kernel, by decide +kernel⟩
abbrev s_need_known : Stmt := top 30
abbrev n_need_known : List Str := ["names", "calls", "table", "name"]
abbrev p_need_known : List Str := ["names", "calls", "table"]
theorem sc_need_known : FnScope n_need_known p_need_known (defScope s_need_known) := ⟨rfl, rfl, rfl, by decide +kernel, rfl, by decide +kernel, by decide +kernel⟩
abbrev s_number_of : Stmt := top 31
abbrev n_number_of : List Str := ["term", "tables", "more", "table"]
abbrev p_number_of : List Str := ["term", "tables", "more"]
theorem sc_number_of : FnScope n_number_of p_number_of (defScope s_number_of) := ⟨rfl, rfl, rfl, by decide +kernel, rfl, by decide +kernel, by decide +kernel⟩
abbrev s__law_pull : Stmt := top 33
abbrev n__law_pull : List Str := ["_law_bag_here", "_law_many_z", "_law_cell", "_law_got", "_law_seed"]
abbrev p__law_pull : List Str := ["_law_bag_here", "_law_many_z"]
theorem sc__law_pull : FnScope n__law_pull p__law_pull (defScope s__law_pull) := ⟨rfl, rfl, rfl, by decide +kernel, rfl, by decide +kernel, by decide +kernel⟩
abbrev s__law_of : Stmt := top 34
abbrev n__law_of : List Str := ["_law_bag_here", "_law_some"]
abbrev p__law_of : List Str := ["_law_bag_here", "_law_some"]
theorem sc__law_of : FnScope n__law_of p__law_of (defScope s__law_of) := ⟨rfl, rfl, rfl, by decide +kernel, rfl, by decide +kernel, by decide +kernel⟩
abbrev s__law_same : Stmt := top 35
abbrev n__law_same : List Str := ["_law_found", "_law_due", "_law_one_z", "_law_other_z"]
abbrev p__law_same : List Str := ["_law_found", "_law_due"]
theorem sc__law_same : FnScope n__law_same p__law_same (defScope s__law_same) := ⟨rfl, rfl, rfl, by decide +kernel, rfl, by decide +kernel, by decide +kernel⟩
abbrev s__law_bag : Stmt := top 36
abbrev n__law_bag : List Str := ["_law_script"]
abbrev p__law_bag : List Str := ["_law_script"]
theorem sc__law_bag : FnScope n__law_bag p__law_bag (defScope s__law_bag) := ⟨rfl, rfl, rfl, by decide +kernel, rfl, by decide +kernel, by decide +kernel⟩
abbrev s__law_field : Stmt := top 37
abbrev n__law_field : List Str := ["_law_e"]
abbrev p__law_field : List Str := ["_law_e"]
theorem sc__law_field : FnScope n__law_field p__law_field (defScope s__law_field) := ⟨rfl, rfl, rfl, by decide +kernel, rfl, by decide +kernel, by decide +kernel⟩
abbrev s__law_why : Stmt := top 38
abbrev n__law_why : List Str := ["_law_ask_z", "_law_e"]
abbrev p__law_why : List Str := ["_law_ask_z"]
theorem sc__law_why : FnScope n__law_why p__law_why (defScope s__law_why) := ⟨rfl, rfl, rfl, by decide +kernel, rfl, by decide +kernel, by decide +kernel⟩
abbrev s__law_two : Stmt := top 39
abbrev n__law_two : List Str := ["_law_times_z", "_law_found", "_law_k"]
abbrev p__law_two : List Str := ["_law_times_z"]
theorem sc__law_two : FnScope n__law_two p__law_two (defScope s__law_two) := ⟨rfl, rfl, rfl, by decide +kernel, rfl, by decide +kernel, by decide +kernel⟩
abbrev s__law_size : Stmt := top 40
abbrev n__law_size : List Str := ["_law_number_z"]
abbrev p__law_size : List Str := ["_law_number_z"]
theorem sc__law_size : FnScope n__law_size p__law_size (defScope s__law_size) := ⟨rfl, rfl, rfl, by decide +kernel, rfl, by decide +kernel, by decide +kernel⟩
abbrev s__law_sign : Stmt := top 41
abbrev n__law_sign : List Str := ["_law_number_z"]
abbrev p__law_sign : List Str := ["_law_number_z"]
theorem sc__law_sign : FnScope n__law_sign p__law_sign (defScope s__law_sign) := ⟨rfl, rfl, rfl, by decide +kernel, rfl, by decide +kernel, by decide +kernel⟩
abbrev s__law_is : Stmt := top 42
abbrev n__law_is : List Str := ["_law_found", "_law_due", "_law_m"]
abbrev p__law_is : List Str := ["_law_found", "_law_due"]
theorem sc__law_is : FnScope n__law_is p__law_is (defScope s__law_is) := ⟨rfl, rfl, rfl, by decide +kernel, rfl, by decide +kernel, by decide +kernel⟩
abbrev s__law_letters : Stmt := top 43
abbrev n__law_letters : List Str := []
abbrev p__law_letters : List Str := []
theorem sc__law_letters : FnScope n__law_letters p__law_letters (defScope s__law_letters) := ⟨rfl, rfl, rfl, by decide +kernel, rfl, by decide +kernel, by decide +kernel⟩
abbrev s__law_is_name : Stmt := top 44
abbrev n__law_is_name : List Str := ["_law_text_z", "_law_good", "_law_sign_z"]
abbrev p__law_is_name : List Str := ["_law_text_z"]
theorem sc__law_is_name : FnScope n__law_is_name p__law_is_name (defScope s__law_is_name) := ⟨rfl, rfl, rfl, by decide +kernel, rfl, by decide +kernel, by decide +kernel⟩
abbrev s__law_names : Stmt := top 45
abbrev n__law_names : List Str := ["_law_bag_here", "_law_many_z", "_law_size_here", "_law_letters_here", "_law_at_z", "_law_first", "_law_step", "_law_stem", "_law_found", "_law_k", "_law_one_z"]
abbrev p__law_names : List Str := ["_law_bag_here", "_law_many_z"]
theorem sc__law_names : FnScope n__law_names p__law_names (defScope s__law_names) := ⟨rfl, rfl, rfl, by decide +kernel, rfl, by decide +kernel, by decide +kernel⟩
abbrev s__law_leaf : Stmt := top 46
abbrev n__law_leaf : List Str := ["_law_bag_here", "_law_names_z", "_law_number_z"]
abbrev p__law_leaf : List Str := ["_law_bag_here", "_law_names_z"]
theorem sc__law_leaf : FnScope n__law_leaf p__law_leaf (defScope s__law_leaf) := ⟨rfl, rfl, rfl, by decide +kernel, rfl, by decide +kernel, by decide +kernel⟩
abbrev s__law_term : Stmt := top 47
abbrev n__law_term : List Str := ["_law_bag_here", "_law_names_z", "_law_calls_z", "_law_depth", "_law_way", "_law_one_z"]
abbrev p__law_term : List Str := ["_law_bag_here", "_law_names_z", "_law_calls_z", "_law_depth"]
theorem sc__law_term : FnScope n__law_term p__law_term (defScope s__law_term) := ⟨rfl, rfl, rfl, by decide +kernel, rfl, by decide +kernel, by decide +kernel⟩
abbrev s__law_inner : Stmt := top 48
abbrev n__law_inner : List Str := ["_law_term_z", "_law_word_z"]
abbrev p__law_inner : List Str := ["_law_term_z"]
theorem sc__law_inner : FnScope n__law_inner p__law_inner (defScope s__law_inner) := ⟨rfl, rfl, rfl, by decide +kernel, rfl, by decide +kernel, by decide +kernel⟩
abbrev s__law_words : Stmt := top 49
abbrev n__law_words : List Str := ["_law_term_z", "_law_kind_z", "_law_found", "_law_one_z"]
abbrev p__law_words : List Str := ["_law_term_z", "_law_kind_z"]
theorem sc__law_words : FnScope n__law_words p__law_words (defScope s__law_words) := ⟨rfl, rfl, rfl, by decide +kernel, rfl, by decide +kernel, by decide +kernel⟩
abbrev s__law_small_term : Stmt := top 50
abbrev n__law_small_term : List Str := ["_law_bag_here", "_law_names_z", "_law_depth", "_law_way", "_law_exponent_z", "_law_one_z"]
abbrev p__law_small_term : List Str := ["_law_bag_here", "_law_names_z", "_law_depth"]
theorem sc__law_small_term : FnScope n__law_small_term p__law_small_term (defScope s__law_small_term) := ⟨rfl, rfl, rfl, by decide +kernel, rfl, by decide +kernel, by decide +kernel⟩
abbrev s__law_value : Stmt := top 51
abbrev n__law_value : List Str := ["_law_term_z", "_law_table_z", "_law_word_z", "_law_one_z", "_law_other_z"]
abbrev p__law_value : List Str := ["_law_term_z", "_law_table_z"]
theorem sc__law_value : FnScope n__law_value p__law_value (defScope s__law_value) := ⟨rfl, rfl, rfl, by decide +kernel, rfl, by decide +kernel, by decide +kernel⟩
abbrev s_law : Stmt := top 52
abbrev n_law : List Str := ["_law_script", "_law_bag_here", "_law_turn", "_law_names_z", "_law_more_z", "_law_term_z", "_law_low_z", "_law_high_z", "_law_plain_z", "_law_tower", "_law_due", "_law_kept", "_law_calls_z", "_law_wide", "_law_lost", "_law_missing", "_law_told_z", "_law_name_z"]
abbrev p_law : List Str := ["_law_script"]
theorem sc_law : FnScope n_law p_law (defScope s_law) := ⟨rfl, rfl, rfl, by decide +kernel, rfl, by decide +kernel, by decide +kernel⟩
abbrev s_Tower___init__ : Stmt := inClass (top 23) 0
abbrev n_Tower___init__ : List Str := ["self", "value", "parts", "share"]
abbrev p_Tower___init__ : List Str := ["self", "value", "parts", "share"]
theorem sc_Tower___init__ : FnScope n_Tower___init__ p_Tower___init__ (defScope s_Tower___init__) := ⟨rfl, rfl, rfl, by decide +kernel, rfl, by decide +kernel, by decide +kernel⟩
abbrev s_Tower_power : Stmt := inClass (top 23) 1
abbrev n_Tower_power : List Str := ["exponent", "times", "plain"]
abbrev p_Tower_power : List Str := ["exponent"]
theorem sc_Tower_power : FnScope n_Tower_power p_Tower_power (defScope s_Tower_power) := ⟨rfl, rfl, rfl, by decide +kernel, rfl, by decide +kernel, by decide +kernel⟩
abbrev s_Tower_sign : Stmt := inClass (top 23) 2
abbrev n_Tower_sign : List Str := ["self", "first"]
abbrev p_Tower_sign : List Str := ["self"]
theorem sc_Tower_sign : FnScope n_Tower_sign p_Tower_sign (defScope s_Tower_sign) := ⟨rfl, rfl, rfl, by decide +kernel, rfl, by decide +kernel, by decide +kernel⟩
abbrev s_Tower_above : Stmt := inClass (top 23) 3
abbrev n_Tower_above : List Str := ["self", "other"]
abbrev p_Tower_above : List Str := ["self", "other"]
theorem sc_Tower_above : FnScope n_Tower_above p_Tower_above (defScope s_Tower_above) := ⟨rfl, rfl, rfl, by decide +kernel, rfl, by decide +kernel, by decide +kernel⟩
abbrev s_Tower_small : Stmt := inClass (top 23) 4
abbrev n_Tower_small : List Str := ["self"]
abbrev p_Tower_small : List Str := ["self"]
theorem sc_Tower_small : FnScope n_Tower_small p_Tower_small (defScope s_Tower_small) := ⟨rfl, rfl, rfl, by decide +kernel, rfl, by decide +kernel, by decide +kernel⟩
abbrev s_Tower_length : Stmt := inClass (top 23) 5
abbrev n_Tower_length : List Str := ["self", "first", "exponent", "guess"]
abbrev p_Tower_length : List Str := ["self"]
theorem sc_Tower_length : FnScope n_Tower_length p_Tower_length (defScope s_Tower_length) := ⟨rfl, rfl, rfl, by decide +kernel, rfl, by decide +kernel, by decide +kernel⟩
abbrev s_Tower_text : Stmt := inClass (top 23) 6
abbrev n_Tower_text : List Str := ["self", "plain", "size", "head"]
abbrev p_Tower_text : List Str := ["self"]
theorem sc_Tower_text : FnScope n_Tower_text p_Tower_text (defScope s_Tower_text) := ⟨rfl, rfl, rfl, by decide +kernel, rfl, by decide +kernel, by decide +kernel⟩
abbrev s_Tower___add__ : Stmt := inClass (top 23) 7
abbrev n_Tower___add__ : List Str := ["self", "other"]
abbrev p_Tower___add__ : List Str := ["self", "other"]
theorem sc_Tower___add__ : FnScope n_Tower___add__ p_Tower___add__ (defScope s_Tower___add__) := ⟨rfl, rfl, rfl, by decide +kernel, rfl, by decide +kernel, by decide +kernel⟩
abbrev s_Tower___radd__ : Stmt := inClass (top 23) 8
abbrev n_Tower___radd__ : List Str := ["self", "other"]
abbrev p_Tower___radd__ : List Str := ["self", "other"]
theorem sc_Tower___radd__ : FnScope n_Tower___radd__ p_Tower___radd__ (defScope s_Tower___radd__) := ⟨rfl, rfl, rfl, by decide +kernel, rfl, by decide +kernel, by decide +kernel⟩
abbrev s_Tower___sub__ : Stmt := inClass (top 23) 9
abbrev n_Tower___sub__ : List Str := ["self", "other"]
abbrev p_Tower___sub__ : List Str := ["self", "other"]
theorem sc_Tower___sub__ : FnScope n_Tower___sub__ p_Tower___sub__ (defScope s_Tower___sub__) := ⟨rfl, rfl, rfl, by decide +kernel, rfl, by decide +kernel, by decide +kernel⟩
abbrev s_Tower___rsub__ : Stmt := inClass (top 23) 10
abbrev n_Tower___rsub__ : List Str := ["self", "other"]
abbrev p_Tower___rsub__ : List Str := ["self", "other"]
theorem sc_Tower___rsub__ : FnScope n_Tower___rsub__ p_Tower___rsub__ (defScope s_Tower___rsub__) := ⟨rfl, rfl, rfl, by decide +kernel, rfl, by decide +kernel, by decide +kernel⟩
abbrev s_Tower___neg__ : Stmt := inClass (top 23) 11
abbrev n_Tower___neg__ : List Str := ["self"]
abbrev p_Tower___neg__ : List Str := ["self"]
theorem sc_Tower___neg__ : FnScope n_Tower___neg__ p_Tower___neg__ (defScope s_Tower___neg__) := ⟨rfl, rfl, rfl, by decide +kernel, rfl, by decide +kernel, by decide +kernel⟩
abbrev s_Tower___abs__ : Stmt := inClass (top 23) 12
abbrev n_Tower___abs__ : List Str := ["self"]
abbrev p_Tower___abs__ : List Str := ["self"]
theorem sc_Tower___abs__ : FnScope n_Tower___abs__ p_Tower___abs__ (defScope s_Tower___abs__) := ⟨rfl, rfl, rfl, by decide +kernel, rfl, by decide +kernel, by decide +kernel⟩
abbrev s_Tower___mul__ : Stmt := inClass (top 23) 13
abbrev n_Tower___mul__ : List Str := ["self", "other"]
abbrev p_Tower___mul__ : List Str := ["self", "other"]
theorem sc_Tower___mul__ : FnScope n_Tower___mul__ p_Tower___mul__ (defScope s_Tower___mul__) := ⟨rfl, rfl, rfl, by decide +kernel, rfl, by decide +kernel, by decide +kernel⟩
abbrev s_Tower___rmul__ : Stmt := inClass (top 23) 14
abbrev n_Tower___rmul__ : List Str := ["self", "other"]
abbrev p_Tower___rmul__ : List Str := ["self", "other"]
theorem sc_Tower___rmul__ : FnScope n_Tower___rmul__ p_Tower___rmul__ (defScope s_Tower___rmul__) := ⟨rfl, rfl, rfl, by decide +kernel, rfl, by decide +kernel, by decide +kernel⟩
abbrev s_Tower___mod__ : Stmt := inClass (top 23) 15
abbrev n_Tower___mod__ : List Str := ["self", "other"]
abbrev p_Tower___mod__ : List Str := ["self", "other"]
theorem sc_Tower___mod__ : FnScope n_Tower___mod__ p_Tower___mod__ (defScope s_Tower___mod__) := ⟨rfl, rfl, rfl, by decide +kernel, rfl, by decide +kernel, by decide +kernel⟩
abbrev s_Tower___floordiv__ : Stmt := inClass (top 23) 16
abbrev n_Tower___floordiv__ : List Str := ["self", "other", "rest"]
abbrev p_Tower___floordiv__ : List Str := ["self", "other"]
theorem sc_Tower___floordiv__ : FnScope n_Tower___floordiv__ p_Tower___floordiv__ (defScope s_Tower___floordiv__) := ⟨rfl, rfl, rfl, by decide +kernel, rfl, by decide +kernel, by decide +kernel⟩
abbrev s_Tower___eq__ : Stmt := inClass (top 23) 17
abbrev n_Tower___eq__ : List Str := ["self", "other"]
abbrev p_Tower___eq__ : List Str := ["self", "other"]
theorem sc_Tower___eq__ : FnScope n_Tower___eq__ p_Tower___eq__ (defScope s_Tower___eq__) := ⟨rfl, rfl, rfl, by decide +kernel, rfl, by decide +kernel, by decide +kernel⟩
abbrev s_Tower___repr__ : Stmt := inClass (top 23) 18
abbrev n_Tower___repr__ : List Str := ["self"]
abbrev p_Tower___repr__ : List Str := ["self"]
theorem sc_Tower___repr__ : FnScope n_Tower___repr__ p_Tower___repr__ (defScope s_Tower___repr__) := ⟨rfl, rfl, rfl, by decide +kernel, rfl, by decide +kernel, by decide +kernel⟩
abbrev s_InvalidNumber___init__ : Stmt := inClass (top 3) 0
abbrev dx_InvalidNumber : DefX := ⟨"InvalidNumber", "InvalidNumber.__init__", defArgs s_InvalidNumber___init__, defBody s_InvalidNumber___init__, defScope s_InvalidNumber___init__⟩
abbrev s_UnknownName___init__ : Stmt := inClass (top 4) 0
abbrev dx_UnknownName : DefX := ⟨"UnknownName", "UnknownName.__init__", defArgs s_UnknownName___init__, defBody s_UnknownName___init__, defScope s_UnknownName___init__⟩
/-! ### what the top has made -/
structure Txt (K : PySem.W.Frag) (mg : Str → Option Value) : Prop where
  g_is_whole : mg "is_whole" = some (.ref (He.ga K "is_whole"))
  g_common : mg "common" = some (.ref (He.ga K "common"))
  g_bits : mg "bits" = some (.ref (He.ga K "bits"))
  g_doubled : mg "doubled" = some (.ref (He.ga K "doubled"))
  g_power_rest : mg "power_rest" = some (.ref (He.ga K "power_rest"))
  g_totient : mg "totient" = some (.ref (He.ga K "totient"))
  g_ordered : mg "ordered" = some (.ref (He.ga K "ordered"))
  g_gathered : mg "gathered" = some (.ref (He.ga K "gathered"))
  g_settled : mg "settled" = some (.ref (He.ga K "settled"))
  g_tower_of : mg "tower_of" = some (.ref (He.ga K "tower_of"))
  g_is_number : mg "is_number" = some (.ref (He.ga K "is_number"))
  g_total : mg "total" = some (.ref (He.ga K "total"))
  g_rest_of : mg "rest_of" = some (.ref (He.ga K "rest_of"))
  g_parts_of : mg "parts_of" = some (.ref (He.ga K "parts_of"))
  g_names_within : mg "names_within" = some (.ref (He.ga K "names_within"))
  g_calls_within : mg "calls_within" = some (.ref (He.ga K "calls_within"))
  g_worth : mg "worth" = some (.ref (He.ga K "worth"))
  g_merged : mg "merged" = some (.ref (He.ga K "merged"))
  g_need_known : mg "need_known" = some (.ref (He.ga K "need_known"))
  g_number_of : mg "number_of" = some (.ref (He.ga K "number_of"))
  g__law_pull : mg "_law_pull" = some (.ref (He.ga K "_law_pull"))
  g__law_of : mg "_law_of" = some (.ref (He.ga K "_law_of"))
  g__law_same : mg "_law_same" = some (.ref (He.ga K "_law_same"))
  g__law_bag : mg "_law_bag" = some (.ref (He.ga K "_law_bag"))
  g__law_field : mg "_law_field" = some (.ref (He.ga K "_law_field"))
  g__law_why : mg "_law_why" = some (.ref (He.ga K "_law_why"))
  g__law_two : mg "_law_two" = some (.ref (He.ga K "_law_two"))
  g__law_size : mg "_law_size" = some (.ref (He.ga K "_law_size"))
  g__law_sign : mg "_law_sign" = some (.ref (He.ga K "_law_sign"))
  g__law_is : mg "_law_is" = some (.ref (He.ga K "_law_is"))
  g__law_letters : mg "_law_letters" = some (.ref (He.ga K "_law_letters"))
  g__law_is_name : mg "_law_is_name" = some (.ref (He.ga K "_law_is_name"))
  g__law_names : mg "_law_names" = some (.ref (He.ga K "_law_names"))
  g__law_leaf : mg "_law_leaf" = some (.ref (He.ga K "_law_leaf"))
  g__law_term : mg "_law_term" = some (.ref (He.ga K "_law_term"))
  g__law_inner : mg "_law_inner" = some (.ref (He.ga K "_law_inner"))
  g__law_words : mg "_law_words" = some (.ref (He.ga K "_law_words"))
  g__law_small_term : mg "_law_small_term" = some (.ref (He.ga K "_law_small_term"))
  g__law_value : mg "_law_value" = some (.ref (He.ga K "_law_value"))
  g_law : mg "law" = some (.ref (He.ga K "law"))
  g_WishError : mg "WishError" = some (.ref (He.ga K "WishError"))
  g_Missing : mg "Missing" = some (.ref (He.ga K "Missing"))
  g_InvalidNumber : mg "InvalidNumber" = some (.ref (He.ga K "InvalidNumber"))
  g_UnknownName : mg "UnknownName" = some (.ref (He.ga K "UnknownName"))
  g_NothingLeft : mg "NothingLeft" = some (.ref (He.ga K "NothingLeft"))
  g_Tower : mg "Tower" = some (.ref (He.ga K "Tower"))
  c_PLAIN : ∃ t, mg "PLAIN" = some (.int 256 t)
  c_SMALL : ∃ t, mg "SMALL" = some (.int 18446744073709551616 t)
  c_MOST_DIVISOR : ∃ t, mg "MOST_DIVISOR" = some (.int 1000 t)
  f_isinstance : mg "isinstance" = none
  f_int : mg "int" = none
  f_bool : mg "bool" = none
  f_abs : mg "abs" = none
  f_len : mg "len" = none
  f_tuple : mg "tuple" = none
  f_sum : mg "sum" = none
  f_list : mg "list" = none
  f_all : mg "all" = none
  f_str : mg "str" = none
  f_zip : mg "zip" = none
  f_range : mg "range" = none
  f_max : mg "max" = none
  f_dict : mg "dict" = none
  f_super : mg "super" = none
  f_staticmethod : mg "staticmethod" = none
  f_NotImplemented : mg "NotImplemented" = none
  d_is_whole : FunD K "is_whole" "is_whole" (defArgs s_is_whole) (defBody s_is_whole) (defScope s_is_whole) [] [] (He.fAd K ("is_whole", none)) (fdOf K (He.fAd K ("is_whole", none)))
  d_common : FunD K "common" "common" (defArgs s_common) (defBody s_common) (defScope s_common) [] [] (He.fAd K ("common", none)) (fdOf K (He.fAd K ("common", none)))
  d_bits : FunD K "bits" "bits" (defArgs s_bits) (defBody s_bits) (defScope s_bits) [] [] (He.fAd K ("bits", none)) (fdOf K (He.fAd K ("bits", none)))
  d_doubled : FunD K "doubled" "doubled" (defArgs s_doubled) (defBody s_doubled) (defScope s_doubled) [] [] (He.fAd K ("doubled", none)) (fdOf K (He.fAd K ("doubled", none)))
  d_power_rest : FunD K "power_rest" "power_rest" (defArgs s_power_rest) (defBody s_power_rest) (defScope s_power_rest) [] [] (He.fAd K ("power_rest", none)) (fdOf K (He.fAd K ("power_rest", none)))
  d_totient : FunD K "totient" "totient" (defArgs s_totient) (defBody s_totient) (defScope s_totient) [] [] (He.fAd K ("totient", none)) (fdOf K (He.fAd K ("totient", none)))
  d_ordered : FunD K "ordered" "ordered" (defArgs s_ordered) (defBody s_ordered) (defScope s_ordered) [] [] (He.fAd K ("ordered", none)) (fdOf K (He.fAd K ("ordered", none)))
  d_gathered : FunD K "gathered" "gathered" (defArgs s_gathered) (defBody s_gathered) (defScope s_gathered) [] [] (He.fAd K ("gathered", none)) (fdOf K (He.fAd K ("gathered", none)))
  d_settled : FunD K "settled" "settled" (defArgs s_settled) (defBody s_settled) (defScope s_settled) [] [] (He.fAd K ("settled", none)) (fdOf K (He.fAd K ("settled", none)))
  d_tower_of : FunD K "tower_of" "tower_of" (defArgs s_tower_of) (defBody s_tower_of) (defScope s_tower_of) [] [] (He.fAd K ("tower_of", none)) (fdOf K (He.fAd K ("tower_of", none)))
  d_is_number : FunD K "is_number" "is_number" (defArgs s_is_number) (defBody s_is_number) (defScope s_is_number) [] [] (He.fAd K ("is_number", none)) (fdOf K (He.fAd K ("is_number", none)))
  d_total : FunD K "total" "total" (defArgs s_total) (defBody s_total) (defScope s_total) [] [] (He.fAd K ("total", none)) (fdOf K (He.fAd K ("total", none)))
  d_rest_of : FunD K "rest_of" "rest_of" (defArgs s_rest_of) (defBody s_rest_of) (defScope s_rest_of) [] [] (He.fAd K ("rest_of", none)) (fdOf K (He.fAd K ("rest_of", none)))
  d_parts_of : FunD K "parts_of" "parts_of" (defArgs s_parts_of) (defBody s_parts_of) (defScope s_parts_of) [] [] (He.fAd K ("parts_of", none)) (fdOf K (He.fAd K ("parts_of", none)))
  d_names_within : FunD K "names_within" "names_within" (defArgs s_names_within) (defBody s_names_within) (defScope s_names_within) [] [] (He.fAd K ("names_within", none)) (fdOf K (He.fAd K ("names_within", none)))
  d_calls_within : FunD K "calls_within" "calls_within" (defArgs s_calls_within) (defBody s_calls_within) (defScope s_calls_within) [] [] (He.fAd K ("calls_within", none)) (fdOf K (He.fAd K ("calls_within", none)))
  d_worth : FunD K "worth" "worth" (defArgs s_worth) (defBody s_worth) (defScope s_worth) [] [] (He.fAd K ("worth", none)) (fdOf K (He.fAd K ("worth", none)))
  d_merged : FunD K "merged" "merged" (defArgs s_merged) (defBody s_merged) (defScope s_merged) [] [] (He.fAd K ("merged", none)) (fdOf K (He.fAd K ("merged", none)))
  d_need_known : FunD K "need_known" "need_known" (defArgs s_need_known) (defBody s_need_known) (defScope s_need_known) [] [] (He.fAd K ("need_known", none)) (fdOf K (He.fAd K ("need_known", none)))
  d_number_of : FunD K "number_of" "number_of" (defArgs s_number_of) (defBody s_number_of) (defScope s_number_of) [] [] (He.fAd K ("number_of", none)) (fdOf K (He.fAd K ("number_of", none)))
  d__law_pull : FunD K "_law_pull" "_law_pull" (defArgs s__law_pull) (defBody s__law_pull) (defScope s__law_pull) [] [] (He.fAd K ("_law_pull", none)) (fdOf K (He.fAd K ("_law_pull", none)))
  d__law_of : FunD K "_law_of" "_law_of" (defArgs s__law_of) (defBody s__law_of) (defScope s__law_of) [] [] (He.fAd K ("_law_of", none)) (fdOf K (He.fAd K ("_law_of", none)))
  d__law_same : FunD K "_law_same" "_law_same" (defArgs s__law_same) (defBody s__law_same) (defScope s__law_same) [] [] (He.fAd K ("_law_same", none)) (fdOf K (He.fAd K ("_law_same", none)))
  d__law_bag : FunD K "_law_bag" "_law_bag" (defArgs s__law_bag) (defBody s__law_bag) (defScope s__law_bag) [] [] (He.fAd K ("_law_bag", none)) (fdOf K (He.fAd K ("_law_bag", none)))
  d__law_field : FunD K "_law_field" "_law_field" (defArgs s__law_field) (defBody s__law_field) (defScope s__law_field) [] [] (He.fAd K ("_law_field", none)) (fdOf K (He.fAd K ("_law_field", none)))
  d__law_why : FunD K "_law_why" "_law_why" (defArgs s__law_why) (defBody s__law_why) (defScope s__law_why) [] [] (He.fAd K ("_law_why", none)) (fdOf K (He.fAd K ("_law_why", none)))
  d__law_two : FunD K "_law_two" "_law_two" (defArgs s__law_two) (defBody s__law_two) (defScope s__law_two) [] [] (He.fAd K ("_law_two", none)) (fdOf K (He.fAd K ("_law_two", none)))
  d__law_size : FunD K "_law_size" "_law_size" (defArgs s__law_size) (defBody s__law_size) (defScope s__law_size) [] [] (He.fAd K ("_law_size", none)) (fdOf K (He.fAd K ("_law_size", none)))
  d__law_sign : FunD K "_law_sign" "_law_sign" (defArgs s__law_sign) (defBody s__law_sign) (defScope s__law_sign) [] [] (He.fAd K ("_law_sign", none)) (fdOf K (He.fAd K ("_law_sign", none)))
  d__law_is : FunD K "_law_is" "_law_is" (defArgs s__law_is) (defBody s__law_is) (defScope s__law_is) [] [] (He.fAd K ("_law_is", none)) (fdOf K (He.fAd K ("_law_is", none)))
  d__law_letters : FunD K "_law_letters" "_law_letters" (defArgs s__law_letters) (defBody s__law_letters) (defScope s__law_letters) [] [] (He.fAd K ("_law_letters", none)) (fdOf K (He.fAd K ("_law_letters", none)))
  d__law_is_name : FunD K "_law_is_name" "_law_is_name" (defArgs s__law_is_name) (defBody s__law_is_name) (defScope s__law_is_name) [] [] (He.fAd K ("_law_is_name", none)) (fdOf K (He.fAd K ("_law_is_name", none)))
  d__law_names : FunD K "_law_names" "_law_names" (defArgs s__law_names) (defBody s__law_names) (defScope s__law_names) [] [] (He.fAd K ("_law_names", none)) (fdOf K (He.fAd K ("_law_names", none)))
  d__law_leaf : FunD K "_law_leaf" "_law_leaf" (defArgs s__law_leaf) (defBody s__law_leaf) (defScope s__law_leaf) [] [] (He.fAd K ("_law_leaf", none)) (fdOf K (He.fAd K ("_law_leaf", none)))
  d__law_term : FunD K "_law_term" "_law_term" (defArgs s__law_term) (defBody s__law_term) (defScope s__law_term) [] [] (He.fAd K ("_law_term", none)) (fdOf K (He.fAd K ("_law_term", none)))
  d__law_inner : FunD K "_law_inner" "_law_inner" (defArgs s__law_inner) (defBody s__law_inner) (defScope s__law_inner) [] [] (He.fAd K ("_law_inner", none)) (fdOf K (He.fAd K ("_law_inner", none)))
  d__law_words : FunD K "_law_words" "_law_words" (defArgs s__law_words) (defBody s__law_words) (defScope s__law_words) [] [] (He.fAd K ("_law_words", none)) (fdOf K (He.fAd K ("_law_words", none)))
  d__law_small_term : FunD K "_law_small_term" "_law_small_term" (defArgs s__law_small_term) (defBody s__law_small_term) (defScope s__law_small_term) [] [] (He.fAd K ("_law_small_term", none)) (fdOf K (He.fAd K ("_law_small_term", none)))
  d__law_value : FunD K "_law_value" "_law_value" (defArgs s__law_value) (defBody s__law_value) (defScope s__law_value) [] [] (He.fAd K ("_law_value", none)) (fdOf K (He.fAd K ("_law_value", none)))
  d_law : FunD K "law" "law" (defArgs s_law) (defBody s_law) (defScope s_law) [] [] (He.fAd K ("law", none)) (fdOf K (He.fAd K ("law", none)))
  k_Tower : Cls K (He.ga K "Tower")
  i_Tower : C8.InsC K (He.ga K "Tower")
  it_Tower : IsTys K (He.ga K "Tower")
  n_Tower_low : NoAttr K (He.ga K "Tower") "low"
  n_Tower_parts : NoAttr K (He.ga K "Tower") "parts"
  n_Tower_share : NoAttr K (He.ga K "Tower") "share"
  mk_Tower : Mk K (He.ga K "Tower") (He.ma K (He.ga K "Tower") "__init__")
  d_Tower___init__ : FunD K "__init__" "Tower.__init__" (defArgs s_Tower___init__) (defBody s_Tower___init__) (defScope s_Tower___init__) [(.int 0)] [("parts", (.ref (kwA ("Tower", some "__init__") "parts" K))), ("share", (.int 1))] (He.fAd K ("Tower", some "__init__")) (fdOf K (He.fAd K ("Tower", some "__init__")))
  e_Tower___init___parts : ∀ H : Hp, SqT K H (kwA ("Tower", some "__init__") "parts" K) []
  m_Tower___init__ : Meth K (He.ga K "Tower") "__init__" (He.ma K (He.ga K "Tower") "__init__")
  d_Tower_power : FunD K "power" "Tower.power" (defArgs s_Tower_power) (defBody s_Tower_power) (defScope s_Tower_power) [] [] (sgA "Tower" "power" K) (fdOf K (sgA "Tower" "power" K))
  sm_Tower_power : SMet K (He.ga K "Tower") "power" (He.ma K (He.ga K "Tower") "power") (sgA "Tower" "power" K)
  d_Tower_sign : FunD K "sign" "Tower.sign" (defArgs s_Tower_sign) (defBody s_Tower_sign) (defScope s_Tower_sign) [] [] (He.fAd K ("Tower", some "sign")) (fdOf K (He.fAd K ("Tower", some "sign")))
  m_Tower_sign : Meth K (He.ga K "Tower") "sign" (He.ma K (He.ga K "Tower") "sign")
  d_Tower_above : FunD K "above" "Tower.above" (defArgs s_Tower_above) (defBody s_Tower_above) (defScope s_Tower_above) [] [] (He.fAd K ("Tower", some "above")) (fdOf K (He.fAd K ("Tower", some "above")))
  m_Tower_above : Meth K (He.ga K "Tower") "above" (He.ma K (He.ga K "Tower") "above")
  d_Tower_small : FunD K "small" "Tower.small" (defArgs s_Tower_small) (defBody s_Tower_small) (defScope s_Tower_small) [] [] (He.fAd K ("Tower", some "small")) (fdOf K (He.fAd K ("Tower", some "small")))
  m_Tower_small : Meth K (He.ga K "Tower") "small" (He.ma K (He.ga K "Tower") "small")
  d_Tower_length : FunD K "length" "Tower.length" (defArgs s_Tower_length) (defBody s_Tower_length) (defScope s_Tower_length) [] [] (He.fAd K ("Tower", some "length")) (fdOf K (He.fAd K ("Tower", some "length")))
  m_Tower_length : Meth K (He.ga K "Tower") "length" (He.ma K (He.ga K "Tower") "length")
  d_Tower_text : FunD K "text" "Tower.text" (defArgs s_Tower_text) (defBody s_Tower_text) (defScope s_Tower_text) [] [] (He.fAd K ("Tower", some "text")) (fdOf K (He.fAd K ("Tower", some "text")))
  m_Tower_text : Meth K (He.ga K "Tower") "text" (He.ma K (He.ga K "Tower") "text")
  d_Tower___add__ : FunD K "__add__" "Tower.__add__" (defArgs s_Tower___add__) (defBody s_Tower___add__) (defScope s_Tower___add__) [] [] (He.fAd K ("Tower", some "__add__")) (fdOf K (He.fAd K ("Tower", some "__add__")))
  m_Tower___add__ : Meth K (He.ga K "Tower") "__add__" (He.ma K (He.ga K "Tower") "__add__")
  o_Tower___add__ : OwnB K (He.ga K "Tower") .Add (He.ma K (He.ga K "Tower") "__add__")
  d_Tower___radd__ : FunD K "__radd__" "Tower.__radd__" (defArgs s_Tower___radd__) (defBody s_Tower___radd__) (defScope s_Tower___radd__) [] [] (He.fAd K ("Tower", some "__radd__")) (fdOf K (He.fAd K ("Tower", some "__radd__")))
  m_Tower___radd__ : Meth K (He.ga K "Tower") "__radd__" (He.ma K (He.ga K "Tower") "__radd__")
  o_Tower___radd__ : OwnR K (He.ga K "Tower") .Add (He.ma K (He.ga K "Tower") "__radd__")
  d_Tower___sub__ : FunD K "__sub__" "Tower.__sub__" (defArgs s_Tower___sub__) (defBody s_Tower___sub__) (defScope s_Tower___sub__) [] [] (He.fAd K ("Tower", some "__sub__")) (fdOf K (He.fAd K ("Tower", some "__sub__")))
  m_Tower___sub__ : Meth K (He.ga K "Tower") "__sub__" (He.ma K (He.ga K "Tower") "__sub__")
  o_Tower___sub__ : OwnB K (He.ga K "Tower") .Sub (He.ma K (He.ga K "Tower") "__sub__")
  d_Tower___rsub__ : FunD K "__rsub__" "Tower.__rsub__" (defArgs s_Tower___rsub__) (defBody s_Tower___rsub__) (defScope s_Tower___rsub__) [] [] (He.fAd K ("Tower", some "__rsub__")) (fdOf K (He.fAd K ("Tower", some "__rsub__")))
  m_Tower___rsub__ : Meth K (He.ga K "Tower") "__rsub__" (He.ma K (He.ga K "Tower") "__rsub__")
  o_Tower___rsub__ : OwnR K (He.ga K "Tower") .Sub (He.ma K (He.ga K "Tower") "__rsub__")
  d_Tower___neg__ : FunD K "__neg__" "Tower.__neg__" (defArgs s_Tower___neg__) (defBody s_Tower___neg__) (defScope s_Tower___neg__) [] [] (He.fAd K ("Tower", some "__neg__")) (fdOf K (He.fAd K ("Tower", some "__neg__")))
  m_Tower___neg__ : Meth K (He.ga K "Tower") "__neg__" (He.ma K (He.ga K "Tower") "__neg__")
  d_Tower___abs__ : FunD K "__abs__" "Tower.__abs__" (defArgs s_Tower___abs__) (defBody s_Tower___abs__) (defScope s_Tower___abs__) [] [] (He.fAd K ("Tower", some "__abs__")) (fdOf K (He.fAd K ("Tower", some "__abs__")))
  m_Tower___abs__ : Meth K (He.ga K "Tower") "__abs__" (He.ma K (He.ga K "Tower") "__abs__")
  d_Tower___mul__ : FunD K "__mul__" "Tower.__mul__" (defArgs s_Tower___mul__) (defBody s_Tower___mul__) (defScope s_Tower___mul__) [] [] (He.fAd K ("Tower", some "__mul__")) (fdOf K (He.fAd K ("Tower", some "__mul__")))
  m_Tower___mul__ : Meth K (He.ga K "Tower") "__mul__" (He.ma K (He.ga K "Tower") "__mul__")
  o_Tower___mul__ : OwnB K (He.ga K "Tower") .Mult (He.ma K (He.ga K "Tower") "__mul__")
  d_Tower___rmul__ : FunD K "__rmul__" "Tower.__rmul__" (defArgs s_Tower___rmul__) (defBody s_Tower___rmul__) (defScope s_Tower___rmul__) [] [] (He.fAd K ("Tower", some "__rmul__")) (fdOf K (He.fAd K ("Tower", some "__rmul__")))
  m_Tower___rmul__ : Meth K (He.ga K "Tower") "__rmul__" (He.ma K (He.ga K "Tower") "__rmul__")
  o_Tower___rmul__ : OwnR K (He.ga K "Tower") .Mult (He.ma K (He.ga K "Tower") "__rmul__")
  d_Tower___mod__ : FunD K "__mod__" "Tower.__mod__" (defArgs s_Tower___mod__) (defBody s_Tower___mod__) (defScope s_Tower___mod__) [] [] (He.fAd K ("Tower", some "__mod__")) (fdOf K (He.fAd K ("Tower", some "__mod__")))
  m_Tower___mod__ : Meth K (He.ga K "Tower") "__mod__" (He.ma K (He.ga K "Tower") "__mod__")
  o_Tower___mod__ : OwnB K (He.ga K "Tower") .Mod (He.ma K (He.ga K "Tower") "__mod__")
  d_Tower___floordiv__ : FunD K "__floordiv__" "Tower.__floordiv__" (defArgs s_Tower___floordiv__) (defBody s_Tower___floordiv__) (defScope s_Tower___floordiv__) [] [] (He.fAd K ("Tower", some "__floordiv__")) (fdOf K (He.fAd K ("Tower", some "__floordiv__")))
  m_Tower___floordiv__ : Meth K (He.ga K "Tower") "__floordiv__" (He.ma K (He.ga K "Tower") "__floordiv__")
  o_Tower___floordiv__ : OwnB K (He.ga K "Tower") .FloorDiv (He.ma K (He.ga K "Tower") "__floordiv__")
  d_Tower___eq__ : FunD K "__eq__" "Tower.__eq__" (defArgs s_Tower___eq__) (defBody s_Tower___eq__) (defScope s_Tower___eq__) [] [] (He.fAd K ("Tower", some "__eq__")) (fdOf K (He.fAd K ("Tower", some "__eq__")))
  m_Tower___eq__ : Meth K (He.ga K "Tower") "__eq__" (He.ma K (He.ga K "Tower") "__eq__")
  d_Tower___repr__ : FunD K "__repr__" "Tower.__repr__" (defArgs s_Tower___repr__) (defBody s_Tower___repr__) (defScope s_Tower___repr__) [] [] (He.fAd K ("Tower", some "__repr__")) (fdOf K (He.fAd K ("Tower", some "__repr__")))
  m_Tower___repr__ : Meth K (He.ga K "Tower") "__repr__" (He.ma K (He.ga K "Tower") "__repr__")
  x_InvalidNumber : MkC .ve K (He.ga K "InvalidNumber") ["tag", "value", "name", "limit", "many", "user", "position", "line"]
  xm_InvalidNumber : PySem.W.exmAny K (.ref (He.ga K "InvalidNumber")) [.ref (He.ga K "WishError"), .ref (He.ga K "Missing"), .ref (He.ga K "NothingLeft")] = some true
  xi_InvalidNumber : ∀ {P : Program}, IsPG P → PySem.W.InitFn .ve K P (He.ga K "InvalidNumber") (He.ma K (He.ga K "InvalidNumber") "__init__") "InvalidNumber.__init__" (defArgs s_InvalidNumber___init__) (defBody s_InvalidNumber___init__) (defScope s_InvalidNumber___init__)
  x_UnknownName : MkC .le K (He.ga K "UnknownName") ["tag", "value", "name", "limit", "many", "user", "position", "line"]
  xm_UnknownName : PySem.W.exmAny K (.ref (He.ga K "UnknownName")) [.ref (He.ga K "WishError"), .ref (He.ga K "Missing"), .ref (He.ga K "NothingLeft")] = some true
  xi_UnknownName : ∀ {P : Program}, IsPG P → PySem.W.InitFn .le K P (He.ga K "UnknownName") (He.ma K (He.ga K "UnknownName") "__init__") "UnknownName.__init__" (defArgs s_UnknownName___init__) (defBody s_UnknownName___init__) (defScope s_UnknownName___init__)
section
variable {K : PySem.W.Frag} {mg : Str → Option Value}
theorem b_is_whole (T : Txt K mg) : Binds K (fdOf K (He.fAd K ("is_whole", none))) p_is_whole [] := FunD.bindsN (ps := p_is_whole) T.d_is_whole fun _ _ _ _ _ _ us hl => match us, hl with | [_], _ => rfl
theorem b_common (T : Txt K mg) : Binds K (fdOf K (He.fAd K ("common", none))) p_common [] := FunD.bindsN (ps := p_common) T.d_common fun _ _ _ _ _ _ us hl => match us, hl with | [_, _], _ => rfl
theorem b_bits (T : Txt K mg) : Binds K (fdOf K (He.fAd K ("bits", none))) p_bits [] := FunD.bindsN (ps := p_bits) T.d_bits fun _ _ _ _ _ _ us hl => match us, hl with | [_], _ => rfl
theorem b_doubled (T : Txt K mg) : Binds K (fdOf K (He.fAd K ("doubled", none))) p_doubled [] := FunD.bindsN (ps := p_doubled) T.d_doubled fun _ _ _ _ _ _ us hl => match us, hl with | [_], _ => rfl
theorem b_power_rest (T : Txt K mg) : Binds K (fdOf K (He.fAd K ("power_rest", none))) p_power_rest [] := FunD.bindsN (ps := p_power_rest) T.d_power_rest fun _ _ _ _ _ _ us hl => match us, hl with | [_, _], _ => rfl
theorem b_totient (T : Txt K mg) : Binds K (fdOf K (He.fAd K ("totient", none))) p_totient [] := FunD.bindsN (ps := p_totient) T.d_totient fun _ _ _ _ _ _ us hl => match us, hl with | [_], _ => rfl
theorem b_ordered (T : Txt K mg) : Binds K (fdOf K (He.fAd K ("ordered", none))) p_ordered [] := FunD.bindsN (ps := p_ordered) T.d_ordered fun _ _ _ _ _ _ us hl => match us, hl with | [_], _ => rfl
theorem b_gathered (T : Txt K mg) : Binds K (fdOf K (He.fAd K ("gathered", none))) p_gathered [] := FunD.bindsN (ps := p_gathered) T.d_gathered fun _ _ _ _ _ _ us hl => match us, hl with | [_, _], _ => rfl
theorem b_settled (T : Txt K mg) : Binds K (fdOf K (He.fAd K ("settled", none))) p_settled [] := FunD.bindsN (ps := p_settled) T.d_settled fun _ _ _ _ _ _ us hl => match us, hl with | [_, _, _], _ => rfl
theorem b_tower_of (T : Txt K mg) : Binds K (fdOf K (He.fAd K ("tower_of", none))) p_tower_of [] := FunD.bindsN (ps := p_tower_of) T.d_tower_of fun _ _ _ _ _ _ us hl => match us, hl with | [_], _ => rfl
theorem b_is_number (T : Txt K mg) : Binds K (fdOf K (He.fAd K ("is_number", none))) p_is_number [] := FunD.bindsN (ps := p_is_number) T.d_is_number fun _ _ _ _ _ _ us hl => match us, hl with | [_], _ => rfl
theorem b_total (T : Txt K mg) : Binds K (fdOf K (He.fAd K ("total", none))) p_total [] := FunD.bindsN (ps := p_total) T.d_total fun _ _ _ _ _ _ us hl => match us, hl with | [_, _, _], _ => rfl
theorem b_rest_of (T : Txt K mg) : Binds K (fdOf K (He.fAd K ("rest_of", none))) p_rest_of [] := FunD.bindsN (ps := p_rest_of) T.d_rest_of fun _ _ _ _ _ _ us hl => match us, hl with | [_, _], _ => rfl
theorem b_parts_of (T : Txt K mg) : Binds K (fdOf K (He.fAd K ("parts_of", none))) p_parts_of [] := FunD.bindsN (ps := p_parts_of) T.d_parts_of fun _ _ _ _ _ _ us hl => match us, hl with | [_], _ => rfl
theorem b_names_within (T : Txt K mg) : Binds K (fdOf K (He.fAd K ("names_within", none))) p_names_within [] := FunD.bindsN (ps := p_names_within) T.d_names_within fun _ _ _ _ _ _ us hl => match us, hl with | [_], _ => rfl
theorem b_calls_within (T : Txt K mg) : Binds K (fdOf K (He.fAd K ("calls_within", none))) p_calls_within [] := FunD.bindsN (ps := p_calls_within) T.d_calls_within fun _ _ _ _ _ _ us hl => match us, hl with | [_], _ => rfl
theorem b_worth (T : Txt K mg) : Binds K (fdOf K (He.fAd K ("worth", none))) p_worth [] := FunD.bindsN (ps := p_worth) T.d_worth fun _ _ _ _ _ _ us hl => match us, hl with | [_, _], _ => rfl
theorem b_merged (T : Txt K mg) : Binds K (fdOf K (He.fAd K ("merged", none))) p_merged [] := FunD.bindsN (ps := p_merged) T.d_merged fun _ _ _ _ _ _ us hl => match us, hl with | [_, _], _ => rfl
theorem b_need_known (T : Txt K mg) : Binds K (fdOf K (He.fAd K ("need_known", none))) p_need_known [] := FunD.bindsN (ps := p_need_known) T.d_need_known fun _ _ _ _ _ _ us hl => match us, hl with | [_, _, _], _ => rfl
theorem b__law_pull (T : Txt K mg) : Binds K (fdOf K (He.fAd K ("_law_pull", none))) p__law_pull [] := FunD.bindsN (ps := p__law_pull) T.d__law_pull fun _ _ _ _ _ _ us hl => match us, hl with | [_, _], _ => rfl
theorem b__law_of (T : Txt K mg) : Binds K (fdOf K (He.fAd K ("_law_of", none))) p__law_of [] := FunD.bindsN (ps := p__law_of) T.d__law_of fun _ _ _ _ _ _ us hl => match us, hl with | [_, _], _ => rfl
theorem b__law_same (T : Txt K mg) : Binds K (fdOf K (He.fAd K ("_law_same", none))) p__law_same [] := FunD.bindsN (ps := p__law_same) T.d__law_same fun _ _ _ _ _ _ us hl => match us, hl with | [_, _], _ => rfl
theorem b__law_bag (T : Txt K mg) : Binds K (fdOf K (He.fAd K ("_law_bag", none))) p__law_bag [] := FunD.bindsN (ps := p__law_bag) T.d__law_bag fun _ _ _ _ _ _ us hl => match us, hl with | [_], _ => rfl
theorem b__law_field (T : Txt K mg) : Binds K (fdOf K (He.fAd K ("_law_field", none))) p__law_field [] := FunD.bindsN (ps := p__law_field) T.d__law_field fun _ _ _ _ _ _ us hl => match us, hl with | [_], _ => rfl
theorem b__law_why (T : Txt K mg) : Binds K (fdOf K (He.fAd K ("_law_why", none))) p__law_why [] := FunD.bindsN (ps := p__law_why) T.d__law_why fun _ _ _ _ _ _ us hl => match us, hl with | [_], _ => rfl
theorem b__law_two (T : Txt K mg) : Binds K (fdOf K (He.fAd K ("_law_two", none))) p__law_two [] := FunD.bindsN (ps := p__law_two) T.d__law_two fun _ _ _ _ _ _ us hl => match us, hl with | [_], _ => rfl
theorem b__law_size (T : Txt K mg) : Binds K (fdOf K (He.fAd K ("_law_size", none))) p__law_size [] := FunD.bindsN (ps := p__law_size) T.d__law_size fun _ _ _ _ _ _ us hl => match us, hl with | [_], _ => rfl
theorem b__law_sign (T : Txt K mg) : Binds K (fdOf K (He.fAd K ("_law_sign", none))) p__law_sign [] := FunD.bindsN (ps := p__law_sign) T.d__law_sign fun _ _ _ _ _ _ us hl => match us, hl with | [_], _ => rfl
theorem b__law_is (T : Txt K mg) : Binds K (fdOf K (He.fAd K ("_law_is", none))) p__law_is [] := FunD.bindsN (ps := p__law_is) T.d__law_is fun _ _ _ _ _ _ us hl => match us, hl with | [_, _], _ => rfl
theorem b__law_letters (T : Txt K mg) : Binds K (fdOf K (He.fAd K ("_law_letters", none))) p__law_letters [] := FunD.bindsN (ps := p__law_letters) T.d__law_letters fun _ _ _ _ _ _ us hl => match us, hl with | [], _ => rfl
theorem b__law_is_name (T : Txt K mg) : Binds K (fdOf K (He.fAd K ("_law_is_name", none))) p__law_is_name [] := FunD.bindsN (ps := p__law_is_name) T.d__law_is_name fun _ _ _ _ _ _ us hl => match us, hl with | [_], _ => rfl
theorem b__law_names (T : Txt K mg) : Binds K (fdOf K (He.fAd K ("_law_names", none))) p__law_names [] := FunD.bindsN (ps := p__law_names) T.d__law_names fun _ _ _ _ _ _ us hl => match us, hl with | [_, _], _ => rfl
theorem b__law_leaf (T : Txt K mg) : Binds K (fdOf K (He.fAd K ("_law_leaf", none))) p__law_leaf [] := FunD.bindsN (ps := p__law_leaf) T.d__law_leaf fun _ _ _ _ _ _ us hl => match us, hl with | [_, _], _ => rfl
theorem b__law_term (T : Txt K mg) : Binds K (fdOf K (He.fAd K ("_law_term", none))) p__law_term [] := FunD.bindsN (ps := p__law_term) T.d__law_term fun _ _ _ _ _ _ us hl => match us, hl with | [_, _, _, _], _ => rfl
theorem b__law_inner (T : Txt K mg) : Binds K (fdOf K (He.fAd K ("_law_inner", none))) p__law_inner [] := FunD.bindsN (ps := p__law_inner) T.d__law_inner fun _ _ _ _ _ _ us hl => match us, hl with | [_], _ => rfl
theorem b__law_words (T : Txt K mg) : Binds K (fdOf K (He.fAd K ("_law_words", none))) p__law_words [] := FunD.bindsN (ps := p__law_words) T.d__law_words fun _ _ _ _ _ _ us hl => match us, hl with | [_, _], _ => rfl
theorem b__law_small_term (T : Txt K mg) : Binds K (fdOf K (He.fAd K ("_law_small_term", none))) p__law_small_term [] := FunD.bindsN (ps := p__law_small_term) T.d__law_small_term fun _ _ _ _ _ _ us hl => match us, hl with | [_, _, _], _ => rfl
theorem b__law_value (T : Txt K mg) : Binds K (fdOf K (He.fAd K ("_law_value", none))) p__law_value [] := FunD.bindsN (ps := p__law_value) T.d__law_value fun _ _ _ _ _ _ us hl => match us, hl with | [_, _], _ => rfl
theorem b_law (T : Txt K mg) : Binds K (fdOf K (He.fAd K ("law", none))) p_law [] := FunD.bindsN (ps := p_law) T.d_law fun _ _ _ _ _ _ us hl => match us, hl with | [_], _ => rfl
theorem bx_Tower___init___1 (T : Txt K mg) : ∃ ds, Vals ([(.int 0), (.ref (kwA ("Tower", some "__init__") "parts" K)), (.int 1)] : List V) ds ∧ Binds K (fdOf K (He.fAd K ("Tower", some "__init__"))) p_Tower___init__ ds := FunD.binds (ps := p_Tower___init__) T.d_Tower___init__ 1 0 (List.cons_ne_nil _ _) rfl (fun _ _ _ _ _ _ _ us its ks h1 h2 h3 => match us, h1, its, h2, ks, h3 with | [_], _, [_], _, [_, _], _ => ⟨_, rfl, by first | rfl | exact ⟨_, _, _, _, _, _, rfl, rfl, _, _, _, _, _, _, rfl, rfl, rfl⟩⟩) (List.cons_ne_nil _ _)
noncomputable def ds_Tower___init___1 (T : Txt K mg) : List Value := (bx_Tower___init___1 T).choose
theorem dv_Tower___init___1 (T : Txt K mg) : Vals ([(.int 0), (.ref (kwA ("Tower", some "__init__") "parts" K)), (.int 1)] : List V) (ds_Tower___init___1 T) := (bx_Tower___init___1 T).choose_spec.1
theorem b_Tower___init___1 (T : Txt K mg) : Binds K (fdOf K (He.fAd K ("Tower", some "__init__"))) p_Tower___init__ (ds_Tower___init___1 T) := (bx_Tower___init___1 T).choose_spec.2
theorem bx_Tower___init___2 (T : Txt K mg) : ∃ ds, Vals ([(.ref (kwA ("Tower", some "__init__") "parts" K)), (.int 1)] : List V) ds ∧ Binds K (fdOf K (He.fAd K ("Tower", some "__init__"))) p_Tower___init__ ds := FunD.binds (ps := p_Tower___init__) T.d_Tower___init__ 2 1 (List.cons_ne_nil _ _) rfl (fun _ _ _ _ _ _ _ us its ks h1 h2 h3 => match us, h1, its, h2, ks, h3 with | [_, _], _, [_], _, [_, _], _ => ⟨_, rfl, by first | rfl | exact ⟨_, _, _, _, _, _, rfl, rfl, _, _, _, _, _, _, rfl, rfl, rfl⟩⟩) (List.cons_ne_nil _ _)
noncomputable def ds_Tower___init___2 (T : Txt K mg) : List Value := (bx_Tower___init___2 T).choose
theorem dv_Tower___init___2 (T : Txt K mg) : Vals ([(.ref (kwA ("Tower", some "__init__") "parts" K)), (.int 1)] : List V) (ds_Tower___init___2 T) := (bx_Tower___init___2 T).choose_spec.1
theorem b_Tower___init___2 (T : Txt K mg) : Binds K (fdOf K (He.fAd K ("Tower", some "__init__"))) p_Tower___init__ (ds_Tower___init___2 T) := (bx_Tower___init___2 T).choose_spec.2
def kg_Tower___init___1_parts_share {α : Type} : List α → List α → List α → List α → List α | [p0, p1], [d0], [], [w0, w1] => [p0, p1, w0, w1] | _, _, _, _ => []
theorem kr_Tower___init___1_parts_share {vs ds mz zs : List V} {us its mv ws : List Value} (h1 : Vals vs us) (h2 : Vals ds its) (h3 : Vals mz mv) (h4 : Vals zs ws) : Vals (kg_Tower___init___1_parts_share vs ds mz zs) (kg_Tower___init___1_parts_share us its mv ws) := by
  rcases h1 with _ | ⟨p0, h1⟩ <;> (try rcases h1 with _ | ⟨p1, h1⟩) <;> (try rcases h1 with _ | ⟨p2, h1⟩) <;> (try rcases h2 with _ | ⟨d0, h2⟩) <;> (try rcases h2 with _ | ⟨d1, h2⟩) <;> (try rcases h3 with _ | ⟨m0, h3⟩) <;> (try rcases h3 with _ | ⟨m1, h3⟩) <;> (try rcases h4 with _ | ⟨w0, h4⟩) <;> (try rcases h4 with _ | ⟨w1, h4⟩) <;> (try rcases h4 with _ | ⟨w2, h4⟩) <;> first | exact .nil | exact .cons p0 (.cons p1 (.cons w0 (.cons w1 (.nil))))
theorem kx_Tower___init___1_parts_share (T : Txt K mg) : ∃ its mv : List Value, KBn K (fdOf K (He.fAd K ("Tower", some "__init__"))) p_Tower___init__ 2 ["parts", "share"] (fun us ws => kg_Tower___init___1_parts_share us its mv ws) (fun vs zs => kg_Tower___init___1_parts_share vs [(.int 0)] [] zs) := FunD.kbinds (ps := p_Tower___init__) T.d_Tower___init__ 2 ["parts", "share"] [] (fun a b c e => kg_Tower___init___1_parts_share a b c e) (List.cons_ne_nil _ _) (List.cons_ne_nil _ _) (fun q hq => by exact nomatch hq) kr_Tower___init___1_parts_share (fun _ _ _ _ _ _ _ us its mv ws h1 h2 h3 h4 => match us, h1, its, h2, mv, h3, ws, h4 with | [_, _], _, [_], _, [], _, [_, _], _ => ⟨_, rfl, by first | rfl | exact ⟨_, _, _, _, _, _, rfl, rfl, rfl⟩⟩)
noncomputable def ki_Tower___init___1_parts_share (T : Txt K mg) : List Value := (kx_Tower___init___1_parts_share T).choose
noncomputable def km_Tower___init___1_parts_share (T : Txt K mg) : List Value := (kx_Tower___init___1_parts_share T).choose_spec.choose
theorem kb_Tower___init___1_parts_share (T : Txt K mg) : KBn K (fdOf K (He.fAd K ("Tower", some "__init__"))) p_Tower___init__ 2 ["parts", "share"] (fun us ws => kg_Tower___init___1_parts_share us (ki_Tower___init___1_parts_share T) (km_Tower___init___1_parts_share T) ws) (fun vs zs => kg_Tower___init___1_parts_share vs [(.int 0)] [] zs) := (kx_Tower___init___1_parts_share T).choose_spec.choose_spec
def kg_Tower___init___1_parts {α : Type} : List α → List α → List α → List α → List α | [p0, p1], [d0], [m0], [w0] => [p0, p1, w0, m0] | _, _, _, _ => []
theorem kr_Tower___init___1_parts {vs ds mz zs : List V} {us its mv ws : List Value} (h1 : Vals vs us) (h2 : Vals ds its) (h3 : Vals mz mv) (h4 : Vals zs ws) : Vals (kg_Tower___init___1_parts vs ds mz zs) (kg_Tower___init___1_parts us its mv ws) := by
  rcases h1 with _ | ⟨p0, h1⟩ <;> (try rcases h1 with _ | ⟨p1, h1⟩) <;> (try rcases h1 with _ | ⟨p2, h1⟩) <;> (try rcases h2 with _ | ⟨d0, h2⟩) <;> (try rcases h2 with _ | ⟨d1, h2⟩) <;> (try rcases h3 with _ | ⟨m0, h3⟩) <;> (try rcases h3 with _ | ⟨m1, h3⟩) <;> (try rcases h4 with _ | ⟨w0, h4⟩) <;> (try rcases h4 with _ | ⟨w1, h4⟩) <;> (try rcases h4 with _ | ⟨w2, h4⟩) <;> first | exact .nil | exact .cons p0 (.cons p1 (.cons w0 (.cons m0 (.nil))))
theorem kx_Tower___init___1_parts (T : Txt K mg) : ∃ its mv : List Value, KBn K (fdOf K (He.fAd K ("Tower", some "__init__"))) p_Tower___init__ 2 ["parts"] (fun us ws => kg_Tower___init___1_parts us its mv ws) (fun vs zs => kg_Tower___init___1_parts vs [(.int 0)] [(.int 1)] zs) := FunD.kbinds (ps := p_Tower___init__) T.d_Tower___init__ 2 ["parts"] [("share", (.int 1))] (fun a b c e => kg_Tower___init___1_parts a b c e) (List.cons_ne_nil _ _) (List.cons_ne_nil _ _) (fun q hq => by rcases List.mem_cons.mp hq with rfl | hq; exact List.mem_of_getElem? (i := 1) rfl; exact nomatch hq) kr_Tower___init___1_parts (fun _ _ _ _ _ _ _ us its mv ws h1 h2 h3 h4 => match us, h1, its, h2, mv, h3, ws, h4 with | [_, _], _, [_], _, [_], _, [_], _ => ⟨_, rfl, by first | rfl | exact ⟨_, _, _, _, _, _, rfl, rfl, rfl⟩⟩)
noncomputable def ki_Tower___init___1_parts (T : Txt K mg) : List Value := (kx_Tower___init___1_parts T).choose
noncomputable def km_Tower___init___1_parts (T : Txt K mg) : List Value := (kx_Tower___init___1_parts T).choose_spec.choose
theorem kb_Tower___init___1_parts (T : Txt K mg) : KBn K (fdOf K (He.fAd K ("Tower", some "__init__"))) p_Tower___init__ 2 ["parts"] (fun us ws => kg_Tower___init___1_parts us (ki_Tower___init___1_parts T) (km_Tower___init___1_parts T) ws) (fun vs zs => kg_Tower___init___1_parts vs [(.int 0)] [(.int 1)] zs) := (kx_Tower___init___1_parts T).choose_spec.choose_spec
theorem b_Tower_power (T : Txt K mg) : Binds K (fdOf K (sgA "Tower" "power" K)) p_Tower_power [] := FunD.bindsN (ps := p_Tower_power) T.d_Tower_power fun _ _ _ _ _ _ us hl => match us, hl with | [_], _ => rfl
theorem b_Tower_sign (T : Txt K mg) : Binds K (fdOf K (He.fAd K ("Tower", some "sign"))) p_Tower_sign [] := FunD.bindsN (ps := p_Tower_sign) T.d_Tower_sign fun _ _ _ _ _ _ us hl => match us, hl with | [_], _ => rfl
theorem b_Tower_above (T : Txt K mg) : Binds K (fdOf K (He.fAd K ("Tower", some "above"))) p_Tower_above [] := FunD.bindsN (ps := p_Tower_above) T.d_Tower_above fun _ _ _ _ _ _ us hl => match us, hl with | [_, _], _ => rfl
theorem b_Tower_small (T : Txt K mg) : Binds K (fdOf K (He.fAd K ("Tower", some "small"))) p_Tower_small [] := FunD.bindsN (ps := p_Tower_small) T.d_Tower_small fun _ _ _ _ _ _ us hl => match us, hl with | [_], _ => rfl
theorem b_Tower_length (T : Txt K mg) : Binds K (fdOf K (He.fAd K ("Tower", some "length"))) p_Tower_length [] := FunD.bindsN (ps := p_Tower_length) T.d_Tower_length fun _ _ _ _ _ _ us hl => match us, hl with | [_], _ => rfl
theorem b_Tower_text (T : Txt K mg) : Binds K (fdOf K (He.fAd K ("Tower", some "text"))) p_Tower_text [] := FunD.bindsN (ps := p_Tower_text) T.d_Tower_text fun _ _ _ _ _ _ us hl => match us, hl with | [_], _ => rfl
theorem b_Tower___add__ (T : Txt K mg) : Binds K (fdOf K (He.fAd K ("Tower", some "__add__"))) p_Tower___add__ [] := FunD.bindsN (ps := p_Tower___add__) T.d_Tower___add__ fun _ _ _ _ _ _ us hl => match us, hl with | [_, _], _ => rfl
theorem b_Tower___radd__ (T : Txt K mg) : Binds K (fdOf K (He.fAd K ("Tower", some "__radd__"))) p_Tower___radd__ [] := FunD.bindsN (ps := p_Tower___radd__) T.d_Tower___radd__ fun _ _ _ _ _ _ us hl => match us, hl with | [_, _], _ => rfl
theorem b_Tower___sub__ (T : Txt K mg) : Binds K (fdOf K (He.fAd K ("Tower", some "__sub__"))) p_Tower___sub__ [] := FunD.bindsN (ps := p_Tower___sub__) T.d_Tower___sub__ fun _ _ _ _ _ _ us hl => match us, hl with | [_, _], _ => rfl
theorem b_Tower___rsub__ (T : Txt K mg) : Binds K (fdOf K (He.fAd K ("Tower", some "__rsub__"))) p_Tower___rsub__ [] := FunD.bindsN (ps := p_Tower___rsub__) T.d_Tower___rsub__ fun _ _ _ _ _ _ us hl => match us, hl with | [_, _], _ => rfl
theorem b_Tower___neg__ (T : Txt K mg) : Binds K (fdOf K (He.fAd K ("Tower", some "__neg__"))) p_Tower___neg__ [] := FunD.bindsN (ps := p_Tower___neg__) T.d_Tower___neg__ fun _ _ _ _ _ _ us hl => match us, hl with | [_], _ => rfl
theorem b_Tower___abs__ (T : Txt K mg) : Binds K (fdOf K (He.fAd K ("Tower", some "__abs__"))) p_Tower___abs__ [] := FunD.bindsN (ps := p_Tower___abs__) T.d_Tower___abs__ fun _ _ _ _ _ _ us hl => match us, hl with | [_], _ => rfl
theorem b_Tower___mul__ (T : Txt K mg) : Binds K (fdOf K (He.fAd K ("Tower", some "__mul__"))) p_Tower___mul__ [] := FunD.bindsN (ps := p_Tower___mul__) T.d_Tower___mul__ fun _ _ _ _ _ _ us hl => match us, hl with | [_, _], _ => rfl
theorem b_Tower___rmul__ (T : Txt K mg) : Binds K (fdOf K (He.fAd K ("Tower", some "__rmul__"))) p_Tower___rmul__ [] := FunD.bindsN (ps := p_Tower___rmul__) T.d_Tower___rmul__ fun _ _ _ _ _ _ us hl => match us, hl with | [_, _], _ => rfl
theorem b_Tower___mod__ (T : Txt K mg) : Binds K (fdOf K (He.fAd K ("Tower", some "__mod__"))) p_Tower___mod__ [] := FunD.bindsN (ps := p_Tower___mod__) T.d_Tower___mod__ fun _ _ _ _ _ _ us hl => match us, hl with | [_, _], _ => rfl
theorem b_Tower___floordiv__ (T : Txt K mg) : Binds K (fdOf K (He.fAd K ("Tower", some "__floordiv__"))) p_Tower___floordiv__ [] := FunD.bindsN (ps := p_Tower___floordiv__) T.d_Tower___floordiv__ fun _ _ _ _ _ _ us hl => match us, hl with | [_, _], _ => rfl
theorem b_Tower___eq__ (T : Txt K mg) : Binds K (fdOf K (He.fAd K ("Tower", some "__eq__"))) p_Tower___eq__ [] := FunD.bindsN (ps := p_Tower___eq__) T.d_Tower___eq__ fun _ _ _ _ _ _ us hl => match us, hl with | [_, _], _ => rfl
theorem b_Tower___repr__ (T : Txt K mg) : Binds K (fdOf K (He.fAd K ("Tower", some "__repr__"))) p_Tower___repr__ [] := FunD.bindsN (ps := p_Tower___repr__) T.d_Tower___repr__ fun _ _ _ _ _ _ us hl => match us, hl with | [_], _ => rfl
end
end PW
namespace PW
open PySem PySem.Spec PyProof.Rows L2
/-! ### the head: facts by names, the run -/
def d_is_whole : He.DefD := ⟨("is_whole", none), "is_whole", "is_whole", defArgs s_is_whole, defBody s_is_whole, defScope s_is_whole, [], []⟩
def d_common : He.DefD := ⟨("common", none), "common", "common", defArgs s_common, defBody s_common, defScope s_common, [], []⟩
def d_bits : He.DefD := ⟨("bits", none), "bits", "bits", defArgs s_bits, defBody s_bits, defScope s_bits, [], []⟩
def d_doubled : He.DefD := ⟨("doubled", none), "doubled", "doubled", defArgs s_doubled, defBody s_doubled, defScope s_doubled, [], []⟩
def d_power_rest : He.DefD := ⟨("power_rest", none), "power_rest", "power_rest", defArgs s_power_rest, defBody s_power_rest, defScope s_power_rest, [], []⟩
def d_totient : He.DefD := ⟨("totient", none), "totient", "totient", defArgs s_totient, defBody s_totient, defScope s_totient, [], []⟩
def d_ordered : He.DefD := ⟨("ordered", none), "ordered", "ordered", defArgs s_ordered, defBody s_ordered, defScope s_ordered, [], []⟩
def d_gathered : He.DefD := ⟨("gathered", none), "gathered", "gathered", defArgs s_gathered, defBody s_gathered, defScope s_gathered, [], []⟩
def d_settled : He.DefD := ⟨("settled", none), "settled", "settled", defArgs s_settled, defBody s_settled, defScope s_settled, [], []⟩
def d_tower_of : He.DefD := ⟨("tower_of", none), "tower_of", "tower_of", defArgs s_tower_of, defBody s_tower_of, defScope s_tower_of, [], []⟩
def d_is_number : He.DefD := ⟨("is_number", none), "is_number", "is_number", defArgs s_is_number, defBody s_is_number, defScope s_is_number, [], []⟩
def d_total : He.DefD := ⟨("total", none), "total", "total", defArgs s_total, defBody s_total, defScope s_total, [], []⟩
def d_rest_of : He.DefD := ⟨("rest_of", none), "rest_of", "rest_of", defArgs s_rest_of, defBody s_rest_of, defScope s_rest_of, [], []⟩
def d_parts_of : He.DefD := ⟨("parts_of", none), "parts_of", "parts_of", defArgs s_parts_of, defBody s_parts_of, defScope s_parts_of, [], []⟩
def d_names_within : He.DefD := ⟨("names_within", none), "names_within", "names_within", defArgs s_names_within, defBody s_names_within, defScope s_names_within, [], []⟩
def d_calls_within : He.DefD := ⟨("calls_within", none), "calls_within", "calls_within", defArgs s_calls_within, defBody s_calls_within, defScope s_calls_within, [], []⟩
def d_worth : He.DefD := ⟨("worth", none), "worth", "worth", defArgs s_worth, defBody s_worth, defScope s_worth, [], []⟩
def d_merged : He.DefD := ⟨("merged", none), "merged", "merged", defArgs s_merged, defBody s_merged, defScope s_merged, [], []⟩
def d_need_known : He.DefD := ⟨("need_known", none), "need_known", "need_known", defArgs s_need_known, defBody s_need_known, defScope s_need_known, [], []⟩
def d_number_of : He.DefD := ⟨("number_of", none), "number_of", "number_of", defArgs s_number_of, defBody s_number_of, defScope s_number_of, [], []⟩
def d__law_pull : He.DefD := ⟨("_law_pull", none), "_law_pull", "_law_pull", defArgs s__law_pull, defBody s__law_pull, defScope s__law_pull, [], []⟩
def d__law_of : He.DefD := ⟨("_law_of", none), "_law_of", "_law_of", defArgs s__law_of, defBody s__law_of, defScope s__law_of, [], []⟩
def d__law_same : He.DefD := ⟨("_law_same", none), "_law_same", "_law_same", defArgs s__law_same, defBody s__law_same, defScope s__law_same, [], []⟩
def d__law_bag : He.DefD := ⟨("_law_bag", none), "_law_bag", "_law_bag", defArgs s__law_bag, defBody s__law_bag, defScope s__law_bag, [], []⟩
def d__law_field : He.DefD := ⟨("_law_field", none), "_law_field", "_law_field", defArgs s__law_field, defBody s__law_field, defScope s__law_field, [], []⟩
def d__law_why : He.DefD := ⟨("_law_why", none), "_law_why", "_law_why", defArgs s__law_why, defBody s__law_why, defScope s__law_why, [], []⟩
def d__law_two : He.DefD := ⟨("_law_two", none), "_law_two", "_law_two", defArgs s__law_two, defBody s__law_two, defScope s__law_two, [], []⟩
def d__law_size : He.DefD := ⟨("_law_size", none), "_law_size", "_law_size", defArgs s__law_size, defBody s__law_size, defScope s__law_size, [], []⟩
def d__law_sign : He.DefD := ⟨("_law_sign", none), "_law_sign", "_law_sign", defArgs s__law_sign, defBody s__law_sign, defScope s__law_sign, [], []⟩
def d__law_is : He.DefD := ⟨("_law_is", none), "_law_is", "_law_is", defArgs s__law_is, defBody s__law_is, defScope s__law_is, [], []⟩
def d__law_letters : He.DefD := ⟨("_law_letters", none), "_law_letters", "_law_letters", defArgs s__law_letters, defBody s__law_letters, defScope s__law_letters, [], []⟩
def d__law_is_name : He.DefD := ⟨("_law_is_name", none), "_law_is_name", "_law_is_name", defArgs s__law_is_name, defBody s__law_is_name, defScope s__law_is_name, [], []⟩
def d__law_names : He.DefD := ⟨("_law_names", none), "_law_names", "_law_names", defArgs s__law_names, defBody s__law_names, defScope s__law_names, [], []⟩
def d__law_leaf : He.DefD := ⟨("_law_leaf", none), "_law_leaf", "_law_leaf", defArgs s__law_leaf, defBody s__law_leaf, defScope s__law_leaf, [], []⟩
def d__law_term : He.DefD := ⟨("_law_term", none), "_law_term", "_law_term", defArgs s__law_term, defBody s__law_term, defScope s__law_term, [], []⟩
def d__law_inner : He.DefD := ⟨("_law_inner", none), "_law_inner", "_law_inner", defArgs s__law_inner, defBody s__law_inner, defScope s__law_inner, [], []⟩
def d__law_words : He.DefD := ⟨("_law_words", none), "_law_words", "_law_words", defArgs s__law_words, defBody s__law_words, defScope s__law_words, [], []⟩
def d__law_small_term : He.DefD := ⟨("_law_small_term", none), "_law_small_term", "_law_small_term", defArgs s__law_small_term, defBody s__law_small_term, defScope s__law_small_term, [], []⟩
def d__law_value : He.DefD := ⟨("_law_value", none), "_law_value", "_law_value", defArgs s__law_value, defBody s__law_value, defScope s__law_value, [], []⟩
def d_law : He.DefD := ⟨("law", none), "law", "law", defArgs s_law, defBody s_law, defScope s_law, [], []⟩
def d_Tower___init__ : He.DefD := ⟨("Tower", some "__init__"), "__init__", "Tower.__init__", defArgs s_Tower___init__, defBody s_Tower___init__, defScope s_Tower___init__, [(.int 0)], [("parts", (.adr (kwA ("Tower", some "__init__") "parts"))), ("share", (.int 1))]⟩
def d_Tower_sign : He.DefD := ⟨("Tower", some "sign"), "sign", "Tower.sign", defArgs s_Tower_sign, defBody s_Tower_sign, defScope s_Tower_sign, [], []⟩
def d_Tower_above : He.DefD := ⟨("Tower", some "above"), "above", "Tower.above", defArgs s_Tower_above, defBody s_Tower_above, defScope s_Tower_above, [], []⟩
def d_Tower_small : He.DefD := ⟨("Tower", some "small"), "small", "Tower.small", defArgs s_Tower_small, defBody s_Tower_small, defScope s_Tower_small, [], []⟩
def d_Tower_length : He.DefD := ⟨("Tower", some "length"), "length", "Tower.length", defArgs s_Tower_length, defBody s_Tower_length, defScope s_Tower_length, [], []⟩
def d_Tower_text : He.DefD := ⟨("Tower", some "text"), "text", "Tower.text", defArgs s_Tower_text, defBody s_Tower_text, defScope s_Tower_text, [], []⟩
def d_Tower___add__ : He.DefD := ⟨("Tower", some "__add__"), "__add__", "Tower.__add__", defArgs s_Tower___add__, defBody s_Tower___add__, defScope s_Tower___add__, [], []⟩
def d_Tower___radd__ : He.DefD := ⟨("Tower", some "__radd__"), "__radd__", "Tower.__radd__", defArgs s_Tower___radd__, defBody s_Tower___radd__, defScope s_Tower___radd__, [], []⟩
def d_Tower___sub__ : He.DefD := ⟨("Tower", some "__sub__"), "__sub__", "Tower.__sub__", defArgs s_Tower___sub__, defBody s_Tower___sub__, defScope s_Tower___sub__, [], []⟩
def d_Tower___rsub__ : He.DefD := ⟨("Tower", some "__rsub__"), "__rsub__", "Tower.__rsub__", defArgs s_Tower___rsub__, defBody s_Tower___rsub__, defScope s_Tower___rsub__, [], []⟩
def d_Tower___neg__ : He.DefD := ⟨("Tower", some "__neg__"), "__neg__", "Tower.__neg__", defArgs s_Tower___neg__, defBody s_Tower___neg__, defScope s_Tower___neg__, [], []⟩
def d_Tower___abs__ : He.DefD := ⟨("Tower", some "__abs__"), "__abs__", "Tower.__abs__", defArgs s_Tower___abs__, defBody s_Tower___abs__, defScope s_Tower___abs__, [], []⟩
def d_Tower___mul__ : He.DefD := ⟨("Tower", some "__mul__"), "__mul__", "Tower.__mul__", defArgs s_Tower___mul__, defBody s_Tower___mul__, defScope s_Tower___mul__, [], []⟩
def d_Tower___rmul__ : He.DefD := ⟨("Tower", some "__rmul__"), "__rmul__", "Tower.__rmul__", defArgs s_Tower___rmul__, defBody s_Tower___rmul__, defScope s_Tower___rmul__, [], []⟩
def d_Tower___mod__ : He.DefD := ⟨("Tower", some "__mod__"), "__mod__", "Tower.__mod__", defArgs s_Tower___mod__, defBody s_Tower___mod__, defScope s_Tower___mod__, [], []⟩
def d_Tower___floordiv__ : He.DefD := ⟨("Tower", some "__floordiv__"), "__floordiv__", "Tower.__floordiv__", defArgs s_Tower___floordiv__, defBody s_Tower___floordiv__, defScope s_Tower___floordiv__, [], []⟩
def d_Tower___eq__ : He.DefD := ⟨("Tower", some "__eq__"), "__eq__", "Tower.__eq__", defArgs s_Tower___eq__, defBody s_Tower___eq__, defScope s_Tower___eq__, [], []⟩
def d_Tower___repr__ : He.DefD := ⟨("Tower", some "__repr__"), "__repr__", "Tower.__repr__", defArgs s_Tower___repr__, defBody s_Tower___repr__, defScope s_Tower___repr__, [], []⟩
def d_Tower_power : DefA := ⟨sgA "Tower" "power", "power", "Tower.power", defArgs s_Tower_power, defBody s_Tower_power, defScope s_Tower_power⟩
def fn0 : List He.DefD := [d_is_whole, d_common, d_bits, d_doubled, d_power_rest, d_totient, d_ordered, d_gathered, d_settled, d_tower_of, d_is_number, d_total, d_rest_of, d_parts_of, d_names_within, d_calls_within, d_worth, d_merged, d_need_known, d_number_of, d__law_pull, d__law_of, d__law_same, d__law_bag, d__law_field, d__law_why, d__law_two, d__law_size, d__law_sign, d__law_is]
def fn1 : List He.DefD := [d__law_letters, d__law_is_name, d__law_names, d__law_leaf, d__law_term, d__law_inner, d__law_words, d__law_small_term, d__law_value, d_law, d_Tower___init__, d_Tower_sign, d_Tower_above, d_Tower_small, d_Tower_length, d_Tower_text, d_Tower___add__, d_Tower___radd__, d_Tower___sub__, d_Tower___rsub__, d_Tower___neg__, d_Tower___abs__, d_Tower___mul__, d_Tower___rmul__, d_Tower___mod__, d_Tower___floordiv__, d_Tower___eq__, d_Tower___repr__]
def fn : List He.DefD := fn0 ++ fn1
def fs : List DefA := [d_Tower_power]
def fa0 : List He.Fa := [.glo "is_whole", .glo "common", .glo "bits", .glo "doubled", .glo "power_rest", .glo "totient", .glo "ordered", .glo "gathered", .glo "settled", .glo "tower_of", .glo "is_number", .glo "total", .glo "rest_of", .glo "parts_of", .glo "names_within", .glo "calls_within", .glo "worth", .glo "merged", .glo "need_known", .glo "number_of", .glo "_law_pull", .glo "_law_of", .glo "_law_same", .glo "_law_bag", .glo "_law_field", .glo "_law_why", .glo "_law_two", .glo "_law_size", .glo "_law_sign", .glo "_law_is"]
def fa1 : List He.Fa := [.glo "_law_letters", .glo "_law_is_name", .glo "_law_names", .glo "_law_leaf", .glo "_law_term", .glo "_law_inner", .glo "_law_words", .glo "_law_small_term", .glo "_law_value", .glo "law", .glo "WishError", .glo "Missing", .glo "InvalidNumber", .glo "UnknownName", .glo "NothingLeft", .glo "Tower", .int "PLAIN" 256, .int "SMALL" 18446744073709551616, .int "MOST_DIVISOR" 1000, .free "isinstance", .free "int", .free "bool", .free "abs", .free "len", .free "tuple", .free "sum", .free "list", .free "all", .free "str", .free "zip"]
def fa2 : List He.Fa := [.free "range", .free "max", .free "dict", .free "super", .free "staticmethod", .free "NotImplemented", .cls "Tower", .noat "Tower" "low", .noat "Tower" "parts", .noat "Tower" "share", .mkr "Tower", .meth "Tower" "__init__", .meth "Tower" "sign", .meth "Tower" "above", .meth "Tower" "small", .meth "Tower" "length", .meth "Tower" "text", .meth "Tower" "__add__", .meth "Tower" "__radd__", .meth "Tower" "__sub__", .meth "Tower" "__rsub__", .meth "Tower" "__neg__", .meth "Tower" "__abs__", .meth "Tower" "__mul__", .meth "Tower" "__rmul__", .meth "Tower" "__mod__", .meth "Tower" "__floordiv__", .meth "Tower" "__eq__", .meth "Tower" "__repr__"]
def fa : List He.Fa := fa0 ++ fa1 ++ fa2
def ex (K : PySem.W.Frag) : List Bool := [insB K (He.ga K "Tower"), isTysB K (He.ga K "Tower"), emptyT K (kwA ("Tower", some "__init__") "parts" K), smetB K (He.ga K "Tower") "power" (He.ma K (He.ga K "Tower") "power") (sgA "Tower" "power" K), ownB K (He.ga K "Tower") .Add (He.ma K (He.ga K "Tower") "__add__"), ownR K (He.ga K "Tower") .Add (He.ma K (He.ga K "Tower") "__radd__"), ownB K (He.ga K "Tower") .Sub (He.ma K (He.ga K "Tower") "__sub__"), ownR K (He.ga K "Tower") .Sub (He.ma K (He.ga K "Tower") "__rsub__"), ownB K (He.ga K "Tower") .Mult (He.ma K (He.ga K "Tower") "__mul__"), ownR K (He.ga K "Tower") .Mult (He.ma K (He.ga K "Tower") "__rmul__"), ownB K (He.ga K "Tower") .Mod (He.ma K (He.ga K "Tower") "__mod__"), ownB K (He.ga K "Tower") .FloorDiv (He.ma K (He.ga K "Tower") "__floordiv__"), mkB .ve K (He.ga K "InvalidNumber") ["tag", "value", "name", "limit", "many", "user", "position", "line"], decide (PySem.W.exmAny K (.ref (He.ga K "InvalidNumber")) [.ref (He.ga K "WishError"), .ref (He.ga K "Missing"), .ref (He.ga K "NothingLeft")] = some true), mkB .le K (He.ga K "UnknownName") ["tag", "value", "name", "limit", "many", "user", "position", "line"], decide (PySem.W.exmAny K (.ref (He.ga K "UnknownName")) [.ref (He.ga K "WishError"), .ref (He.ga K "Missing"), .ref (He.ga K "NothingLeft")] = some true)]
def loose0 : List PySem.Str := ["WishError", "Missing", "InvalidNumber", "UnknownName", "NothingLeft", "PLAIN", "SMALL", "MOST_DIVISOR", "is_whole", "common", "bits", "doubled", "power_rest", "totient", "ordered", "gathered", "settled", "tower_of", "is_number", "total", "rest_of", "Tower", "parts_of", "names_within", "calls_within", "worth", "merged", "need_known", "number_of", "_law_pull"]
def loose1 : List PySem.Str := ["_law_of", "_law_same", "_law_bag", "_law_field", "_law_why", "_law_two", "_law_size", "_law_sign", "_law_is", "_law_letters", "_law_is_name", "_law_names", "_law_leaf", "_law_term", "_law_inner", "_law_words", "_law_small_term", "_law_value"]
def loose : List PySem.Str := loose0 ++ loose1
abbrev R : PySem.W.OpenRow := PySem.W.OpenLaw.row PySem.Challenge.rw_powerwish_k16_values_of_terms
def fx : List DefX := [dx_InvalidNumber, dx_UnknownName]
def tf : List He.Defn := [("law", none)]
abbrev hk : PySem.W.Hook := hookN 6 fa fn fs fx tf ex
def ob (s : PySem.W.SharedT) : AlN := obsN 6 fa fn fs fx tf ex (HandSHeadRun.getT s)
theorem ob_eq (s : PySem.W.SharedT) : ob s = hk.obs s.abs := obsN_eq (HandSHeadRun.getT_eq s)
theorem run (w : World) : HandSHeadRun.RunEq R (PySem.W.view R.prog [52]) hk ob 6000 loose w := by
  intro os
  kernel_rfl
theorem txt_of {K : PySem.W.Frag} {h : Heap} {mg : Str → Option Value} (X : K.In h) (G : h.Ns mainGlobals mg) (c0 : SaysN fa fn fs fx tf ex h K) (c : SaysM fa fn fs ex K) : Txt K mg where
  g_is_whole := He.glo_ok X G (c.d.fact 0 (f := .glo "is_whole") rfl)
  g_common := He.glo_ok X G (c.d.fact 1 (f := .glo "common") rfl)
  g_bits := He.glo_ok X G (c.d.fact 2 (f := .glo "bits") rfl)
  g_doubled := He.glo_ok X G (c.d.fact 3 (f := .glo "doubled") rfl)
  g_power_rest := He.glo_ok X G (c.d.fact 4 (f := .glo "power_rest") rfl)
  g_totient := He.glo_ok X G (c.d.fact 5 (f := .glo "totient") rfl)
  g_ordered := He.glo_ok X G (c.d.fact 6 (f := .glo "ordered") rfl)
  g_gathered := He.glo_ok X G (c.d.fact 7 (f := .glo "gathered") rfl)
  g_settled := He.glo_ok X G (c.d.fact 8 (f := .glo "settled") rfl)
  g_tower_of := He.glo_ok X G (c.d.fact 9 (f := .glo "tower_of") rfl)
  g_is_number := He.glo_ok X G (c.d.fact 10 (f := .glo "is_number") rfl)
  g_total := He.glo_ok X G (c.d.fact 11 (f := .glo "total") rfl)
  g_rest_of := He.glo_ok X G (c.d.fact 12 (f := .glo "rest_of") rfl)
  g_parts_of := He.glo_ok X G (c.d.fact 13 (f := .glo "parts_of") rfl)
  g_names_within := He.glo_ok X G (c.d.fact 14 (f := .glo "names_within") rfl)
  g_calls_within := He.glo_ok X G (c.d.fact 15 (f := .glo "calls_within") rfl)
  g_worth := He.glo_ok X G (c.d.fact 16 (f := .glo "worth") rfl)
  g_merged := He.glo_ok X G (c.d.fact 17 (f := .glo "merged") rfl)
  g_need_known := He.glo_ok X G (c.d.fact 18 (f := .glo "need_known") rfl)
  g_number_of := He.glo_ok X G (c.d.fact 19 (f := .glo "number_of") rfl)
  g__law_pull := He.glo_ok X G (c.d.fact 20 (f := .glo "_law_pull") rfl)
  g__law_of := He.glo_ok X G (c.d.fact 21 (f := .glo "_law_of") rfl)
  g__law_same := He.glo_ok X G (c.d.fact 22 (f := .glo "_law_same") rfl)
  g__law_bag := He.glo_ok X G (c.d.fact 23 (f := .glo "_law_bag") rfl)
  g__law_field := He.glo_ok X G (c.d.fact 24 (f := .glo "_law_field") rfl)
  g__law_why := He.glo_ok X G (c.d.fact 25 (f := .glo "_law_why") rfl)
  g__law_two := He.glo_ok X G (c.d.fact 26 (f := .glo "_law_two") rfl)
  g__law_size := He.glo_ok X G (c.d.fact 27 (f := .glo "_law_size") rfl)
  g__law_sign := He.glo_ok X G (c.d.fact 28 (f := .glo "_law_sign") rfl)
  g__law_is := He.glo_ok X G (c.d.fact 29 (f := .glo "_law_is") rfl)
  g__law_letters := He.glo_ok X G (c.d.fact 30 (f := .glo "_law_letters") rfl)
  g__law_is_name := He.glo_ok X G (c.d.fact 31 (f := .glo "_law_is_name") rfl)
  g__law_names := He.glo_ok X G (c.d.fact 32 (f := .glo "_law_names") rfl)
  g__law_leaf := He.glo_ok X G (c.d.fact 33 (f := .glo "_law_leaf") rfl)
  g__law_term := He.glo_ok X G (c.d.fact 34 (f := .glo "_law_term") rfl)
  g__law_inner := He.glo_ok X G (c.d.fact 35 (f := .glo "_law_inner") rfl)
  g__law_words := He.glo_ok X G (c.d.fact 36 (f := .glo "_law_words") rfl)
  g__law_small_term := He.glo_ok X G (c.d.fact 37 (f := .glo "_law_small_term") rfl)
  g__law_value := He.glo_ok X G (c.d.fact 38 (f := .glo "_law_value") rfl)
  g_law := He.glo_ok X G (c.d.fact 39 (f := .glo "law") rfl)
  g_WishError := He.glo_ok X G (c.d.fact 40 (f := .glo "WishError") rfl)
  g_Missing := He.glo_ok X G (c.d.fact 41 (f := .glo "Missing") rfl)
  g_InvalidNumber := He.glo_ok X G (c.d.fact 42 (f := .glo "InvalidNumber") rfl)
  g_UnknownName := He.glo_ok X G (c.d.fact 43 (f := .glo "UnknownName") rfl)
  g_NothingLeft := He.glo_ok X G (c.d.fact 44 (f := .glo "NothingLeft") rfl)
  g_Tower := He.glo_ok X G (c.d.fact 45 (f := .glo "Tower") rfl)
  c_PLAIN := He.int_ok X G (c.d.fact 46 (f := .int "PLAIN" 256) rfl)
  c_SMALL := He.int_ok X G (c.d.fact 47 (f := .int "SMALL" 18446744073709551616) rfl)
  c_MOST_DIVISOR := He.int_ok X G (c.d.fact 48 (f := .int "MOST_DIVISOR" 1000) rfl)
  f_isinstance := He.free_ok X G (c.d.fact 49 (f := .free "isinstance") rfl)
  f_int := He.free_ok X G (c.d.fact 50 (f := .free "int") rfl)
  f_bool := He.free_ok X G (c.d.fact 51 (f := .free "bool") rfl)
  f_abs := He.free_ok X G (c.d.fact 52 (f := .free "abs") rfl)
  f_len := He.free_ok X G (c.d.fact 53 (f := .free "len") rfl)
  f_tuple := He.free_ok X G (c.d.fact 54 (f := .free "tuple") rfl)
  f_sum := He.free_ok X G (c.d.fact 55 (f := .free "sum") rfl)
  f_list := He.free_ok X G (c.d.fact 56 (f := .free "list") rfl)
  f_all := He.free_ok X G (c.d.fact 57 (f := .free "all") rfl)
  f_str := He.free_ok X G (c.d.fact 58 (f := .free "str") rfl)
  f_zip := He.free_ok X G (c.d.fact 59 (f := .free "zip") rfl)
  f_range := He.free_ok X G (c.d.fact 60 (f := .free "range") rfl)
  f_max := He.free_ok X G (c.d.fact 61 (f := .free "max") rfl)
  f_dict := He.free_ok X G (c.d.fact 62 (f := .free "dict") rfl)
  f_super := He.free_ok X G (c.d.fact 63 (f := .free "super") rfl)
  f_staticmethod := He.free_ok X G (c.d.fact 64 (f := .free "staticmethod") rfl)
  f_NotImplemented := He.free_ok X G (c.d.fact 65 (f := .free "NotImplemented") rfl)
  d_is_whole := funD_of (c.d.def_ 0 (d := d_is_whole) rfl)
  d_common := funD_of (c.d.def_ 1 (d := d_common) rfl)
  d_bits := funD_of (c.d.def_ 2 (d := d_bits) rfl)
  d_doubled := funD_of (c.d.def_ 3 (d := d_doubled) rfl)
  d_power_rest := funD_of (c.d.def_ 4 (d := d_power_rest) rfl)
  d_totient := funD_of (c.d.def_ 5 (d := d_totient) rfl)
  d_ordered := funD_of (c.d.def_ 6 (d := d_ordered) rfl)
  d_gathered := funD_of (c.d.def_ 7 (d := d_gathered) rfl)
  d_settled := funD_of (c.d.def_ 8 (d := d_settled) rfl)
  d_tower_of := funD_of (c.d.def_ 9 (d := d_tower_of) rfl)
  d_is_number := funD_of (c.d.def_ 10 (d := d_is_number) rfl)
  d_total := funD_of (c.d.def_ 11 (d := d_total) rfl)
  d_rest_of := funD_of (c.d.def_ 12 (d := d_rest_of) rfl)
  d_parts_of := funD_of (c.d.def_ 13 (d := d_parts_of) rfl)
  d_names_within := funD_of (c.d.def_ 14 (d := d_names_within) rfl)
  d_calls_within := funD_of (c.d.def_ 15 (d := d_calls_within) rfl)
  d_worth := funD_of (c.d.def_ 16 (d := d_worth) rfl)
  d_merged := funD_of (c.d.def_ 17 (d := d_merged) rfl)
  d_need_known := funD_of (c.d.def_ 18 (d := d_need_known) rfl)
  d_number_of := funD_of (c.d.def_ 19 (d := d_number_of) rfl)
  d__law_pull := funD_of (c.d.def_ 20 (d := d__law_pull) rfl)
  d__law_of := funD_of (c.d.def_ 21 (d := d__law_of) rfl)
  d__law_same := funD_of (c.d.def_ 22 (d := d__law_same) rfl)
  d__law_bag := funD_of (c.d.def_ 23 (d := d__law_bag) rfl)
  d__law_field := funD_of (c.d.def_ 24 (d := d__law_field) rfl)
  d__law_why := funD_of (c.d.def_ 25 (d := d__law_why) rfl)
  d__law_two := funD_of (c.d.def_ 26 (d := d__law_two) rfl)
  d__law_size := funD_of (c.d.def_ 27 (d := d__law_size) rfl)
  d__law_sign := funD_of (c.d.def_ 28 (d := d__law_sign) rfl)
  d__law_is := funD_of (c.d.def_ 29 (d := d__law_is) rfl)
  d__law_letters := funD_of (c.d.def_ 30 (d := d__law_letters) rfl)
  d__law_is_name := funD_of (c.d.def_ 31 (d := d__law_is_name) rfl)
  d__law_names := funD_of (c.d.def_ 32 (d := d__law_names) rfl)
  d__law_leaf := funD_of (c.d.def_ 33 (d := d__law_leaf) rfl)
  d__law_term := funD_of (c.d.def_ 34 (d := d__law_term) rfl)
  d__law_inner := funD_of (c.d.def_ 35 (d := d__law_inner) rfl)
  d__law_words := funD_of (c.d.def_ 36 (d := d__law_words) rfl)
  d__law_small_term := funD_of (c.d.def_ 37 (d := d__law_small_term) rfl)
  d__law_value := funD_of (c.d.def_ 38 (d := d__law_value) rfl)
  d_law := funD_of (c.d.def_ 39 (d := d_law) rfl)
  k_Tower := He.cls_ok (c.d.fact 66 (f := .cls "Tower") rfl)
  i_Tower := insB_ok (He.cls_ok (c.d.fact 66 (f := .cls "Tower") rfl)) (exN c.b 0 rfl)
  it_Tower := isTysB_ok (exN c.b 1 rfl)
  n_Tower_low := He.noat_ok (c.d.fact 67 (f := .noat "Tower" "low") rfl)
  n_Tower_parts := He.noat_ok (c.d.fact 68 (f := .noat "Tower" "parts") rfl)
  n_Tower_share := He.noat_ok (c.d.fact 69 (f := .noat "Tower" "share") rfl)
  mk_Tower := He.mkr_ok (c.d.fact 70 (f := .mkr "Tower") rfl)
  d_Tower___init__ := funD_of (c.d.def_ 40 (d := d_Tower___init__) rfl)
  e_Tower___init___parts := fun H => emptyT_ok (exN c.b 2 rfl) H
  m_Tower___init__ := He.meth_ok (c.d.fact 71 (f := .meth "Tower" "__init__") rfl)
  d_Tower_power := funD_of (c.s d_Tower_power (List.mem_of_getElem? (i := 0) rfl))
  sm_Tower_power := smetB_ok (exN c.b 3 rfl)
  d_Tower_sign := funD_of (c.d.def_ 41 (d := d_Tower_sign) rfl)
  m_Tower_sign := He.meth_ok (c.d.fact 72 (f := .meth "Tower" "sign") rfl)
  d_Tower_above := funD_of (c.d.def_ 42 (d := d_Tower_above) rfl)
  m_Tower_above := He.meth_ok (c.d.fact 73 (f := .meth "Tower" "above") rfl)
  d_Tower_small := funD_of (c.d.def_ 43 (d := d_Tower_small) rfl)
  m_Tower_small := He.meth_ok (c.d.fact 74 (f := .meth "Tower" "small") rfl)
  d_Tower_length := funD_of (c.d.def_ 44 (d := d_Tower_length) rfl)
  m_Tower_length := He.meth_ok (c.d.fact 75 (f := .meth "Tower" "length") rfl)
  d_Tower_text := funD_of (c.d.def_ 45 (d := d_Tower_text) rfl)
  m_Tower_text := He.meth_ok (c.d.fact 76 (f := .meth "Tower" "text") rfl)
  d_Tower___add__ := funD_of (c.d.def_ 46 (d := d_Tower___add__) rfl)
  m_Tower___add__ := He.meth_ok (c.d.fact 77 (f := .meth "Tower" "__add__") rfl)
  o_Tower___add__ := ownB_ok (exN c.b 4 rfl)
  d_Tower___radd__ := funD_of (c.d.def_ 47 (d := d_Tower___radd__) rfl)
  m_Tower___radd__ := He.meth_ok (c.d.fact 78 (f := .meth "Tower" "__radd__") rfl)
  o_Tower___radd__ := ownR_ok (exN c.b 5 rfl)
  d_Tower___sub__ := funD_of (c.d.def_ 48 (d := d_Tower___sub__) rfl)
  m_Tower___sub__ := He.meth_ok (c.d.fact 79 (f := .meth "Tower" "__sub__") rfl)
  o_Tower___sub__ := ownB_ok (exN c.b 6 rfl)
  d_Tower___rsub__ := funD_of (c.d.def_ 49 (d := d_Tower___rsub__) rfl)
  m_Tower___rsub__ := He.meth_ok (c.d.fact 80 (f := .meth "Tower" "__rsub__") rfl)
  o_Tower___rsub__ := ownR_ok (exN c.b 7 rfl)
  d_Tower___neg__ := funD_of (c.d.def_ 50 (d := d_Tower___neg__) rfl)
  m_Tower___neg__ := He.meth_ok (c.d.fact 81 (f := .meth "Tower" "__neg__") rfl)
  d_Tower___abs__ := funD_of (c.d.def_ 51 (d := d_Tower___abs__) rfl)
  m_Tower___abs__ := He.meth_ok (c.d.fact 82 (f := .meth "Tower" "__abs__") rfl)
  d_Tower___mul__ := funD_of (c.d.def_ 52 (d := d_Tower___mul__) rfl)
  m_Tower___mul__ := He.meth_ok (c.d.fact 83 (f := .meth "Tower" "__mul__") rfl)
  o_Tower___mul__ := ownB_ok (exN c.b 8 rfl)
  d_Tower___rmul__ := funD_of (c.d.def_ 53 (d := d_Tower___rmul__) rfl)
  m_Tower___rmul__ := He.meth_ok (c.d.fact 84 (f := .meth "Tower" "__rmul__") rfl)
  o_Tower___rmul__ := ownR_ok (exN c.b 9 rfl)
  d_Tower___mod__ := funD_of (c.d.def_ 54 (d := d_Tower___mod__) rfl)
  m_Tower___mod__ := He.meth_ok (c.d.fact 85 (f := .meth "Tower" "__mod__") rfl)
  o_Tower___mod__ := ownB_ok (exN c.b 10 rfl)
  d_Tower___floordiv__ := funD_of (c.d.def_ 55 (d := d_Tower___floordiv__) rfl)
  m_Tower___floordiv__ := He.meth_ok (c.d.fact 86 (f := .meth "Tower" "__floordiv__") rfl)
  o_Tower___floordiv__ := ownB_ok (exN c.b 11 rfl)
  d_Tower___eq__ := funD_of (c.d.def_ 56 (d := d_Tower___eq__) rfl)
  m_Tower___eq__ := He.meth_ok (c.d.fact 87 (f := .meth "Tower" "__eq__") rfl)
  d_Tower___repr__ := funD_of (c.d.def_ 57 (d := d_Tower___repr__) rfl)
  m_Tower___repr__ := He.meth_ok (c.d.fact 88 (f := .meth "Tower" "__repr__") rfl)
  x_InvalidNumber := mkB_ok (exN c.b 12 rfl)
  xm_InvalidNumber := of_decide_eq_true (exN c.b 13 rfl)
  xi_InvalidNumber := fun {P} hP => DefX.init (d := dx_InvalidNumber) (c0.x dx_InvalidNumber (List.mem_of_getElem? (i := 0) rfl)).1 (c0.x dx_InvalidNumber (List.mem_of_getElem? (i := 0) rfl)).2 (mkB_ok (exN c.b 12 rfl)) hP
  x_UnknownName := mkB_ok (exN c.b 14 rfl)
  xm_UnknownName := of_decide_eq_true (exN c.b 15 rfl)
  xi_UnknownName := fun {P} hP => DefX.init (d := dx_UnknownName) (c0.x dx_UnknownName (List.mem_of_getElem? (i := 1) rfl)).1 (c0.x dx_UnknownName (List.mem_of_getElem? (i := 1) rfl)).2 (mkB_ok (exN c.b 14 rfl)) hP
end PW
/-! ### != [], str of an int or a text -/
namespace PW
open PySem PySem.Spec PyProof.Rows L2 PySem.SeqAt
section
variable {X : Cx}
/-- str of an int or of a text -/
def cStrOr : List V → Hp → VK → Prop := fun xs H Q => (∃ i, xs = [.int i] ∧ i.natAbs.log2 < 1920 ∧ Q (.str (toString i)) H) ∨ ∃ a, xs = [.str a] ∧ Q (.str a) H
theorem call_strT : CallR X (.type "str") (fun xs H Q => ∃ a, xs = [.str a] ∧ Q (.str a) H) := fun pins s σ H xs us Q I r h => by
  obtain ⟨z, rfl, q⟩ := h
  obtain ⟨u, rfl, t, rfl⟩ := vals1 r
  exact PySem.P.str_of_str ⟨.str z, H, I, ⟨_, rfl⟩, q⟩
theorem call_strOr : CallR X (.type "str") cStrOr := fun pins s σ H xs us Q I r h => h.elim (call_str_int pins s σ H xs us Q I r) (call_strT pins s σ H xs us Q I r)
theorem r_strI {i : Int} {H : Hp} {Q : VK} (h : i.natAbs.log2 < 1920) (q : Q (.str (toString i)) H) : cStrOr [.int i] H Q := .inl ⟨i, rfl, h, q⟩
theorem r_strS {z : Str} {H : Hp} {Q : VK} (q : Q (.str z) H) : cStrOr [.str z] H Q := .inr ⟨z, rfl, q⟩
theorem r_ixS {z : Str} {i : Int} {c : Nat} {H : Hp} {Q : VK} (hz : z.length ≤ sizeLine) (h : atI z.cps.toList i = some c) (q : Q (.str ⟨#[c]⟩) H) : rIxS (.str z) (.int i) H Q := ⟨z, i, c, rfl, rfl, hz, h, q⟩
theorem eqv_strs {ns : List Str} : PyData.eqv (.list (ns.map .str)) (.list []) = ns.isEmpty := by
  cases ns <;> rfl
theorem dp_strs {K : PySem.W.Frag} {H : Hp} {a : Addr} {ns : List Str} (h : SqL K H a (ns.map V.str)) : Dp K H (.ref a) (.list (ns.map .str)) := by
  refine .lst h ?_
  clear h
  induction ns with
  | nil => exact .nil
  | cons x r ih => exact .cons (.str x) ih
theorem shaped_strs {ns : List Str} (h : ∀ z ∈ ns, PyData.strOk z = true) : SeqAt.shaped (.list (ns.map .str)) = true := by
  have h1 : PyData.canLayAll0 (ns.map .str) = true := by
    induction ns with
    | nil => rfl
    | cons x r ih =>
      simp only [List.map_cons, PyData.canLayAll0, PyData.canLay0]
      rw [h x List.mem_cons_self, ih fun z hz => h z (List.mem_cons_of_mem _ hz)]
      rfl
  have h2 : PyData.depthAll (ns.map .str) ≤ 0 := by
    clear h h1
    induction ns with
    | nil => exact Nat.le_refl _
    | cons x r ih =>
      simp only [List.map_cons, PyData.depthAll, PyData.depth]
      omega
  unfold SeqAt.shaped
  simp only [PyData.canLay0, PyData.depth]
  rw [h1, Bool.true_and]
  exact decide_eq_true (by omega)
/-- ns != [] -/
theorem r_neNs {K : PySem.W.Frag} {H : Hp} {a b : Addr} {ns : List Str} {Q : VK} (h : SqL K H a (ns.map V.str)) (ok : ∀ z ∈ ns, PyData.strOk z = true) (h2 : SqL K H b []) (q : Q (.bl (!ns.isEmpty)) H) : rNeD K (.ref a) (.ref b) H Q :=
  ⟨_, .list [], dp_strs h, .lst h2 .nil, shaped_strs ok, by decide +kernel, by rw [eqv_strs]; exact q⟩
end
end PW
/-! ### {**a, **b}: dicts joined -/
namespace PySem
open Sem (wp)
section
variable {prog : Program} {w : World} {K : Type} [DecidableEq K] {knd : KeyKind prog w K} {A : Around} {E : Value → Shared → Prop} {s : Shared}
theorem wpAny_dictPut_pairs {d : Addr} {kvs : List (K × Value)} {k : K} {key v : Value} {Q : Unit → Shared → Prop} (hkey : knd.is k key = true) (hm : s.heap.DictOf knd d kvs)
    (hQ : ∀ h', h'.DictOf knd d (stored kvs k v) → Heap.SameBut d s.heap h' → Q () { s with heap := h' })
    (hsz : kvs.length ≤ sizeLine := by size_fits) :
    wpAny (model prog w) A (dictPut d (knd.hash k) key v) Q E s := by
  obtain ⟨o, es, ep, ho, hc, hd, hk, hp, hn⟩ := hm
  have hes : es.size ≤ sizeLine := by
    have e1 := hp.length
    have e2 : es.toList.length = es.size := by simp
    omega
  unfold dictPut
  refine wpAny_bind (wpAny_dictFind_of hkey ho hd hk ?_)
  have hidx : (es.findIdx? fun e => knd.is k e.key) = kvs.findIdx? fun kv => decide (kv.1 = k) := by
    rw [← hp.findIdx k]
    obtain ⟨l⟩ := es
    simp
  cases hi : es.findIdx? fun e => knd.is k e.key with
  | some i =>
    refine wpAny_updateDict ho hd (hQ _ ⟨_, _, ep, Heap.get?_update_self _ ho (Obj.isFreed_of_dict (Obj.data_mapDict hd _)),
      hc.mapDict _, Obj.data_mapDict hd _, hk.modify _ _, ?_, ?_⟩ (Heap.SameBut.update ..))
    · rw [stored, if_pos (any_of_findIdx_some (hidx ▸ hi))]
      have hl : (es.toList.findIdx? fun e => knd.is k e.key) = some i := by
        rw [← hi]
        obtain ⟨l⟩ := es
        simp
      have := hp.modify hn hl v
      obtain ⟨l⟩ := es
      simpa using this
    · rw [stored, if_pos (any_of_findIdx_some (hidx ▸ hi)), keys_map_store]
      exact hn
  | none =>
    have hnot : k ∉ kvs.map (·.1) := not_mem_of_findIdx_none (hidx ▸ hi)
    have hany : ¬ (kvs.any fun kv => decide (kv.1 = k)) = true := by
      rw [List.any_eq_true]
      rintro ⟨kv, hkv, he⟩
      exact hnot (List.mem_map.mpr ⟨kv, hkv, of_decide_eq_true he⟩)
    refine wpAny_updateDictKeys (hz := hes) ho hd (hQ _ ⟨_, _, ep + 1, Heap.get?_update_self _ ho (Obj.isFreed_of_dict (Obj.data_mapDictKeys hd _)),
      hc.mapDictKeys _, Obj.data_mapDictKeys hd _, hk.push hkey _, ?_, ?_⟩ (Heap.SameBut.update ..))
    · rw [stored, if_neg hany]
      have := hp.append hkey (knd.hash k) v
      obtain ⟨l⟩ := es
      simpa using this
    · rw [stored, if_neg hany, List.map_append, List.nodup_append]
      refine ⟨hn, by simp, ?_⟩
      intro a ha b hb
      simp only [List.map_cons, List.map_nil, List.mem_singleton] at hb
      subst hb
      exact fun e => hnot (e ▸ ha)
theorem wpAny_mergeMapping {d o : Addr} {kvs more : List (K × Value)} {Q : Unit → Shared → Prop} (hdo : d ≠ o) (hoS : (o == sysModules) = false) (hnr : ∀ k a, knd.is k (.ref a) = false)
    (hd : s.heap.DictOf knd d kvs) (ho : s.heap.DictOf knd o more)
    (hQ : ∀ h', h'.DictOf knd d (merged kvs more) → h'.DictOf knd o more → Heap.SameBut d s.heap h' → Q () { s with heap := h' })
    (hsz : kvs.length + more.length ≤ sizeLine := by size_fits) :
    wpAny (model prog w) A (mergeMapping d (.ref o) false) Q E s := by
  obtain ⟨od, esd, epd, hod, hcd, hdd, hkd, hpd, hnd⟩ := id hd
  obtain ⟨oo, eso, epo, hoo, hco, hdo', hko, hpo, hno⟩ := id ho
  have hlen : more.length = eso.size := by rw [← hpo.length]; simp
  have loop : wpAny (model prog w) A (do
      let l ← dictEntries o
      let epoch ← dictEpoch o
      forIn (List.range l.size) PUnit.unit fun i (_ : PUnit) => (do
          let l' ← dictEntries o
          match l'[i]? with
            | some e => do
              holding [e.key, e.val] (dictPut d e.hash e.key e.val)
              let ep' ← dictEpoch o
              if (ep' != epoch) = true then do
                  (unsupported "dict.changed-during-merge" : Sem PUnit)
                  pure (ForInStep.yield PUnit.unit)
                else pure (ForInStep.yield PUnit.unit)
            | _ => do
              (unsupported "dict.changed-during-merge" : Sem PUnit)
              pure (ForInStep.yield PUnit.unit) : Sem (ForInStep PUnit))
      pure ()) Q E s := by
    refine wpAny_bind (wpAny_dictEntries hoo hdo' ?_)
    refine wpAny_bind (wpAny_dictEpoch hoo hdo' ?_)
    refine wpAny_bind ?_
    rw [List.range_eq_range']
    refine wpAny_forIn_list _
      (fun rest _ s' => ∃ h' i, s' = { s with heap := h' } ∧ rest = List.range' i (eso.size - i) ∧ i ≤ eso.size ∧ h'.DictOf knd d (merged kvs (more.take i)) ∧ h'.get? o = some oo ∧ Heap.SameBut d s.heap h')
      _ ?_ ?_ _ _ ⟨s.heap, 0, rfl, by simp, Nat.zero_le _, by simpa [merged] using hd, hoo, Heap.SameBut.refl _ _⟩
    · rintro x rest b s' ⟨h', i, rfl, hr, hi, hd', hoo', hs'⟩
      have hlt : i < eso.size := by
        rcases Nat.lt_or_ge i eso.size with h | h
        · exact h
        · rw [Nat.sub_eq_zero_of_le h] at hr
          simp at hr
      obtain ⟨rfl, hrest⟩ : x = i ∧ rest = List.range' (i + 1) (eso.size - (i + 1)) := by
        have e : eso.size - i = (eso.size - (i + 1)) + 1 := by omega
        rw [e, List.range'_succ] at hr
        injection hr with h1 h2
        exact ⟨h1, h2⟩
      refine wpAny_bind (wpAny_dictEntries hoo' hdo' ?_)
      rw [Array.getElem?_eq_getElem hlt]
      obtain ⟨kv, hkv⟩ : ∃ kv, more[x]? = some kv := ⟨more[x]'(by rw [hlen]; exact hlt), List.getElem?_eq_getElem _⟩
      obtain ⟨k, v⟩ := kv
      obtain ⟨hkey, hval⟩ := hpo.get? (e := eso[x]) (by simp [hlt]) hkv
      obtain ⟨k', hkey', hhash⟩ := hko eso[x] (Array.getElem_mem hlt)
      obtain rfl : k' = k := knd.inj _ _ _ hkey' hkey
      show wpAny _ _ (holding [eso[x].key, eso[x].val] (dictPut d eso[x].hash eso[x].key eso[x].val) >>= _) _ _ _
      rw [hhash, hval]
      have hmx : (merged kvs (more.take x)).length ≤ sizeLine := by
        have e1 := merged_length_le kvs (more.take x)
        have e2 : (more.take x).length ≤ more.length := by rw [List.length_take]; omega
        omega
      refine wpAny_bind (wpAny_holding (wpAny_dictPut_pairs (hsz := hmx) hkey hd' fun h'' hd'' hs'' => ?_))
      have hoo'' : h''.get? o = some oo := (hs''.2 o (Ne.symm hdo)).trans hoo'
      refine wpAny_bind (wpAny_dictEpoch hoo'' hdo' ?_)
      rw [if_neg (by simp)]
      exact wpAny_pure ⟨h'', x + 1, rfl, hrest, hlt, by rw [merged_take_succ kvs more x (k', v) hkv]; exact hd'', hoo'', hs'.trans hs''⟩
    · rintro b s' ⟨h', i, rfl, hr, hi, hd', hoo', hs'⟩
      have hin : i = eso.size := by
        rcases Nat.lt_or_ge i eso.size with h | h
        · have e : eso.size - i = (eso.size - (i + 1)) + 1 := by omega
          rw [e, List.range'_succ] at hr
          exact nomatch hr
        · exact Nat.le_antisymm hi h
      refine wpAny_pure (hQ h' ?_ ⟨oo, eso, epo, hoo', hco, hdo', hko, hpo, hno⟩ hs')
      rw [hin, ← hlen, List.take_length] at hd'
      exact hd'
  unfold mergeMapping
  refine wpAny_bind (wpAny_isInstance (U := "dict") (b := true) (ho.typeIs) (by first | rfl | kernel_rfl) ?_)
  first | (rw [if_pos rfl]; refine wpAny_bind (wpAny_specialOf ho.typeIs PySem.F.slot_dict_iter.lookup ?_); rw [show ((some (Value.builtin "dict.__iter__") : Option Value) == some (.builtin "dict.__iter__")) = true from by decide +kernel]) | skip
  refine wpAny_bind (wpAny_pure ?_)
  dsimp only
  rw [if_neg (by rw [hoS]; exact Bool.false_ne_true)]
  refine wpAny_bind (wpAny_dictEntries hod hdd ?_)
  split
  · refine wpAny_bind (wpAny_dictEntries hoo hdo' ?_)
    refine wpAny_bind ?_
    rw [← Array.forIn_toList]
    refine wpAny_forIn_list _ (fun rest _ s' => s' = s ∧ ∀ e ∈ rest, ∃ k, knd.is k e.key = true) _ ?_ ?_ _ _ ⟨rfl, fun e he => by
      obtain ⟨k, h1, _⟩ := hko e (by simpa using he)
      exact ⟨k, h1⟩⟩
    · rintro x rest b s' ⟨rfl, hr⟩
      obtain ⟨k, hk⟩ := hr x List.mem_cons_self
      have fin : ∀ (z : Sem (ForInStep PUnit)), z = pure (ForInStep.yield PUnit.unit) → wpAny (model prog w) A z (fun r s'' => match r with | .yield b' => (s'' = s' ∧ ∀ e ∈ rest, ∃ k, knd.is k e.key = true) | .done b' => False) E s' := fun z e => by
        subst e
        exact wpAny_pure ⟨rfl, fun e he => hr e (List.mem_cons_of_mem _ he)⟩
      split
      · rename_i a e
        rw [e, hnr] at hk
        cases hk
      · exact wpAny_pure ⟨rfl, fun e he => hr e (List.mem_cons_of_mem _ he)⟩
    · rintro b s' ⟨rfl, _⟩
      exact loop
  · exact loop
end
end PySem
namespace PW
open PySem PySem.Spec PyProof.Rows L2
theorem d_merge {X : Cx} {pins : List (Addr × Obj)} {σ : L2.St} {H : Hp} {s : Shared} {d o : Addr} {tk mk : List (Key × V)} {A : Around} {E : Value → Shared → Prop} {Q : Unit → Shared → Prop} (I : Inv X pins σ H s) (ed : H d = some (.dK tk)) (eo : Rd H o (.dK mk)) (hdo : d ≠ o) (hsz : tk.length + mk.length ≤ sizeLine)
    (h : ∀ s', Inv X pins σ (upd H d (.dK (mergeK tk mk))) s' → Q () s') : wpAny (model X.prog X.w) A (mergeMapping d (.ref o) false) Q E s := by
  obtain ⟨z, hd, vs, rel, dd⟩ := dk_of I.hok ed
  obtain ⟨z2, hd2, vs2, rel2, dd2⟩ := dk_rd I.hok eo
  refine wpAny_mergeMapping (knd := mixKind X.prog X.w) hdo hd2 (fun k a => by cases k <;> rfl) dd dd2 (fun h' dd' _ hs => h _ ?_) (hsz := by rw [← rel.length, ← rel2.length]; exact hsz)
  have he : ∃ q, h'.get? d = some q := let ⟨q, _, _, hq, _⟩ := dd'; ⟨q, hq⟩
  exact d_write (t' := s.toks) I (by rw [ed]; exact True.intro) hs he (dk_new (Nat.le_trans (length_mergeK mk tk) hsz) hd (rel2.merge rel) dd')
/-- {**a, **b} -/
def tDisp2 (ta tb : TE) : TE := fun σ H Q => ∀ p, H p = none → ta σ (upd H p (.dK [])) fun x H1 => H1 p = some (.dK []) ∧ ∃ a kvs, x = .ref a ∧ p ≠ a ∧ Rd H1 a (.dK kvs) ∧ kvs.length ≤ 1000000 ∧
  tb σ (upd H1 p (.dK (mergeK [] kvs))) fun y H2 => H2 p = some (.dK (mergeK [] kvs)) ∧ ∃ b kvs2, y = .ref b ∧ p ≠ b ∧ Rd H2 b (.dK kvs2) ∧ kvs2.length ≤ 1000000 ∧ Q (.ref p) (upd H2 p (.dK (mergeK (mergeK [] kvs) kvs2)))
/-- one mapping joined, as a display does it -/
def mergeX (d : Addr) (m : Value) : Sem PUnit :=
  (((holding [.ref d, m] (mergeMapping d m false)).onRaise fun x => do let _ ← holding [.ref d, m, x] (runValue (.builtin "proto.let_go" {}))).tryCatch fun e => do
        if ← isInstance e (.type "AttributeError") then
          rule "dict.display.not-a-mapping"; raiseError "TypeError" s!"'{← typeNameOf m}' object is not a mapping"
        throw e).onRaise fun x => do let _ ← holding [.ref d, x] (runValue (.builtin "proto.let_go" {}))
theorem dictDisplay_star2 (t1 t2 : Sem Value) : dictDisplay [(none, t1), (none, t2)] = (do
    let d ← alloc { cls := .type "dict", data := .dict #[] }
    let m ← holding [.ref d] t1
    mergeX d m
    let m ← holding [.ref d] t2
    mergeX d m
    pure (.ref d)) := by
  unfold dictDisplay mergeX
  simp only [List.forIn_cons, List.forIn_nil, pure_bind, bind_assoc, List.isEmpty_nil, if_true]
theorem wpAny_mergeX {M : Model} {A : Around} {E : Value → Shared → Prop} {s : Shared} {d : Addr} {m : Value} {Q : PUnit → Shared → Prop} (h : wpAny M A (mergeMapping d m false) Q (fun _ _ => False) s) : wpAny M A (mergeX d m) Q E s := by
  unfold mergeX
  exact wpAny_onRaise (wpAny_tryCatch (wpAny_onRaise (wpAny_holding (wpAny_mono h (fun _ _ x => x) fun _ _ z => z.elim))))
theorem pe_disp2 {X : Cx} {pos : Pos} {e1 e2 : Expr} {ta tb : TE} (h1 : PE X e1 ta) (h2 : PE X e2 tb) : PE X (.Dict [none, none] [e1, e2] pos) (tDisp2 ta tb) := by
  refine ⟨fun pins s σ H Q I q => ?_⟩
  have hn := I.hok.fresh (Nat.le_refl s.heap.objs.size)
  have I1 := I.laid (a := s.heap.objs.size) (o := .dK []) (h' := s.heap.push { cls := .type "dict", data := .dict #[] }) (t' := s.toks) (fun _ _ q => Heap.get?_push_of_some _ q) (Nat.le_refl _) (dk_empty s.heap I.big)
  rw [arm_eval_Dict]
  refine wpAny_bind (wpAny_standAt ?_)
  show wpAny _ _ (dictDisplay [(none, _), (none, _)]) _ _ _
  rw [dictDisplay_star2]
  refine wpAny_bind (wpAny_alloc ?_)
  refine wpAny_bind (wpAny_holding (wpAny_bind (thn (h1.run pins _ σ _ _ I1 (q _ hn)) fun u s1 ⟨x, H1, J1, rx, e, a, kvs, ex, ne, ea, hl, q1⟩ => wpAny_bind (wpAny_standAt (wpAny_pure ?_)))))
  subst ex
  obtain rfl : u = Value.ref a := rx
  have hs1 : ([] : List (Key × V)).length + kvs.length ≤ sizeLine := by
    rw [List.length_nil, sizeLine_eq]
    omega
  refine wpAny_bind (wpAny_mergeX (d_merge J1 e ea ne hs1 fun s2 J2 => ?_))
  refine wpAny_bind (wpAny_holding (wpAny_bind (thn (h2.run pins _ σ _ _ J2 q1) fun u s3 ⟨y, H3, J3, ry, e3, b, kvs2, ey, ne2, eb, hl2, q3⟩ => wpAny_bind (wpAny_standAt (wpAny_pure ?_)))))
  subst ey
  obtain rfl : u = Value.ref b := ry
  have hm : (mergeK [] kvs).length ≤ 1000000 := by
    have := length_mergeK kvs []
    rw [List.length_nil] at this
    omega
  refine wpAny_bind (wpAny_mergeX (d_merge J3 e3 eb ne2 (by rw [sizeLine_eq]; omega) fun s4 J4 => ?_))
  exact wpAny_pure ⟨.ref s.heap.objs.size, _, J4, rfl, q3⟩
/-- {**a, k: v} -/
theorem dictDisplay_starP (t1 k t2 : Sem Value) : dictDisplay [(none, t1), (some k, t2)] = (do
    let d ← alloc { cls := .type "dict", data := .dict #[] }
    let m ← holding [.ref d] t1
    mergeX d m
    let sub ← holding [.ref d] (subDict [(k, t2)])
    (holding [.ref d, .ref sub] (mergeMapping d (.ref sub) false)).onRaise fun x => do let _ ← holding [.ref d, x] (runValue (.builtin "proto.let_go" {}))
    pure (.ref d)) := by
  unfold dictDisplay mergeX
  simp [List.forIn_cons, List.forIn_nil]
def tDispP (ta tk tv : TE) : TE := fun σ H Q => ∀ p, H p = none → ta σ (upd H p (.dK [])) fun x H1 => H1 p = some (.dK []) ∧ ∃ a kvs, x = .ref a ∧ p ≠ a ∧ Rd H1 a (.dK kvs) ∧ kvs.length ≤ 1000000 ∧
  ∀ r, (upd H1 p (.dK (mergeK [] kvs))) r = none → tk σ (upd (upd H1 p (.dK (mergeK [] kvs))) r (.dK [])) fun y H2 => tv σ H2 fun v H3 => H3 p = some (.dK (mergeK [] kvs)) ∧ H3 r = some (.dK []) ∧ p ≠ r ∧ ∃ key, y = kV key ∧
    Q (.ref p) (upd (upd H3 r (.dK [(key, v)])) p (.dK (putK (mergeK [] kvs) key v)))
end PW
/-! ### [d1, d2] != [e1, e2] of dicts that are alike -/
namespace PySem.SeqAt
open PySem AutoSeq1 MeetsSeq MeetsSeq2 MeetsSeq3 SeqRoads2
section
variable {prog : Program} {w : World}
/-- the walk of two lists whose items are alike finds no difference -/
theorem pw_ne_walk (l b : Addr) (xs ys : Array Value) (n n2 : Nat) (dx dy : Option Addr) (sx sy : Array (Option Value)) (hs : xs.size = ys.size) : ∀ (k i : Nat), xs.size = i + k → MeetsIn prog w (Builtin.«list.__eq__.loop» ⟨[.ref l, .ref b, rawInt i, rawInt 3], []⟩)
    (fun A R s => (s.heap.get? l = some { cls := .type "list", dict := dx, data := .seq xs n, slots := sx } ∧ s.heap.get? b = some { cls := .type "list", dict := dy, data := .seq ys n2, slots := sy }) ∧
      (∀ j (h1 : j < xs.size) (h2 : j < ys.size), EqP prog w A.in1 s xs[j] ys[j] true) ∧ R (.ok (.ret (.bool false))) s)
  | 0, i, hk => by
    rintro A R ⟨hp, g, d, tk, os⟩ ⟨⟨hx, hy⟩, _, q⟩
    wp_walk using AutoSeq1.wpAny_loadPart' hx, AutoSeq1.wpAny_loadPart' hy
    rw [show xs[((i : Nat) : Int).toNat]? = none by simp; omega, show ys[((i : Nat) : Int).toNat]? = none by simp; omega]
    wp_walk using AutoSeq1.wpAny_loadPart' hx, AutoSeq1.wpAny_loadPart' hy
    have e : (xs.size != ys.size) = false := by rw [hs]; simp
    show R (.ok (.ret (.bool (xs.size != ys.size)))) ⟨hp, g, d, tk, os⟩
    rw [e]
    exact q
  | k + 1, i, hk => by
    rintro A R ⟨hp, g, d, tk, os⟩ ⟨⟨hx, hy⟩, al, q⟩
    have i1 : i < xs.size := by omega
    have i2 : i < ys.size := by omega
    wp_walk using AutoSeq1.wpAny_loadPart' hx, AutoSeq1.wpAny_loadPart' hy
    rw [show xs[((i : Nat) : Int).toNat]? = some xs[i] by simp [i1], show ys[((i : Nat) : Int).toNat]? = some ys[i] by simp [i2]]
    refine wpAny_bind (al i i1 i2 _ _ ?_)
    wp_walk
    rw [show ((i : Int) + 1) = ((i + 1 : Nat) : Int) by push_cast; rfl]
    refine ⟨plainId_quiet plain_eq_loop _, codeAny_builtin entry_eq_loop ?_⟩
    rw [Around.under_plainId plain_eq_loop _]
    exact pw_ne_walk l b xs ys n n2 dx dy sx sy hs k (i + 1) (by omega) A R _ ⟨⟨hx, hy⟩, al, q⟩
theorem pw_ne_lists (l b : Addr) (xs ys : Array Value) (n n2 : Nat) (dx dy : Option Addr) (sx sy : Array (Option Value)) (hs : xs.size = ys.size) : MeetsIn prog w (Builtin.«list.__ne__» ⟨[.ref l, .ref b], []⟩)
    (fun A R s => (s.heap.get? l = some { cls := .type "list", dict := dx, data := .seq xs n, slots := sx } ∧ s.heap.get? b = some { cls := .type "list", dict := dy, data := .seq ys n2, slots := sy }) ∧
      (∀ j (h1 : j < xs.size) (h2 : j < ys.size), EqP prog w A.in1 s xs[j] ys[j] true) ∧ R (.ok (.ret (.bool false))) s) := by
  rintro A R ⟨hp, g, d, tk, os⟩ ⟨⟨hx, hy⟩, al, q⟩
  have sub := AutoSeq1.sub_list_list
  have hn : ¬ (xs.size != ys.size) = true := by rw [hs]; simp
  wp_walk using AutoSeq1.wpAny_loadPart' hx, AutoSeq1.wpAny_loadPart' hy
  refine ⟨plainId_quiet plain_eq_loop _, codeAny_builtin entry_eq_loop ?_⟩
  rw [Around.under_plainId plain_eq_loop _]
  exact pw_ne_walk l b xs ys n n2 dx dy sx sy hs xs.size 0 (by omega) A R _ ⟨⟨hx, hy⟩, al, q⟩
theorem pw_ne_rc {A : Around} {s : Shared} {l b : Addr} {xs ys : Array Value} (hl : s.heap.IsList l xs) (hb : s.heap.IsList b ys) (hs : xs.size = ys.size) (hu : A.units < cLine)
    (al : ∀ j (h1 : j < xs.size) (h2 : j < ys.size), EqP prog w A.in1 s xs[j] ys[j] true) {E Q : Value → Shared → Prop} (q : Q (.bool false) s) : wpAny (model prog w) A (richCompare .NotEq (.ref l) (.ref b)) Q E s := by
  obtain ⟨⟨c1, d1, t1, s1⟩, o1, e1, n1, f1⟩ := id hl
  obtain ⟨⟨c2, d2, t2, s2⟩, o2, e2, n2, f2⟩ := id hb
  dsimp only at e1 e2 f1 f2
  subst e1 e2 f1 f2
  refine wpAny_richCompare_same_room (op := .NotEq) ⟨_, o1, rfl⟩ ⟨_, o2, rfl⟩ F.slot_list_ne (call_meetsIn F.slot_list_ne ⟨_, o1, rfl⟩ F.entry_list_ne (F.args_list_ne_2 _ _) (pw_ne_lists l b xs ys n1 n2 d1 d2 s1 s2 hs) ?_) hu
  refine ⟨⟨o1, o2⟩, al, ?_⟩
  show Value.bool false ≠ Value.notImplemented ∧ Q (.bool false) s
  exact ⟨(fun z => nomatch z), q⟩
end
end PySem.SeqAt
namespace PW
open PySem PySem.Spec PyProof.Rows L2
def rNeLD : R2 := fun x y H Q => ∃ (l k a1 b1 a2 b2 : Addr) (m1 m2 : List (Key × V)), x = .ref l ∧ y = .ref k ∧ H l = some (.lst [.ref a1, .ref b1]) ∧ H k = some (.lst [.ref a2, .ref b2]) ∧ (H a1 = some (.dK m1) ∧ H a2 = some (.dK m1) ∧ H b1 = some (.dK m2) ∧ H b2 = some (.dK m2)) ∧
  (a1 ≠ a2 ∧ b1 ≠ b2) ∧ ((m1.map (·.1)).Nodup ∧ (m2.map (·.1)).Nodup ∧ (∀ p ∈ m1, flatB p.2 = true) ∧ ∀ p ∈ m2, flatB p.2 = true) ∧ Q (.bl false) H
section
variable {X : Cx}
theorem eqP_dicts {pins : List (Addr × Obj)} {σ : L2.St} {H : Hp} {s : Shared} {a b : Addr} {m : List (Key × V)} {A : Around} (I : Inv X pins σ H s) (ha : H a = some (.dK m)) (hb : H b = some (.dK m)) (ne : a ≠ b) (nd : (m.map (·.1)).Nodup) (fl : ∀ p ∈ m, flatB p.2 = true) (hu : A.units < cLine) : SeqAt.EqP X.prog X.w A s (.ref a) (.ref b) true :=
  SeqAt.eqP_refs ne fun E Q q => by
    obtain ⟨_, ya, va, ra, da⟩ := (show ObjOk X.prog X.w H s.heap a (.dK m) from I.hok a _ ha)
    obtain ⟨_, yb, vb, rb, db⟩ := (show ObjOk X.prog X.w H s.heap b (.dK m) from I.hok b _ hb)
    have hl : va.length = vb.length := ra.length.symm.trans rb.length
    have z : wpAny (model X.prog X.w) A (compareOp .Eq (.ref a) (.ref b)) Q E s := PySem.W.keq_eq (knd := mixKind X.prog X.w) (r := true) ya yb da db hu (fun _ => hits_all rb ra fun p hp => ⟨val_nodup nd p hp, fl p hp⟩) (by rw [hl]; simpa using q)
    exact z
theorem op_neLD (hu : X.A.units + 1 < cLine) : OpR X (compareOp .NotEq) rNeLD := by
  intro pins s σ H x y v u Q I rx ry h
  obtain ⟨l, k, a1, b1, a2, b2, m1, m2, rfl, rfl, hl, hk, ⟨h1, h2, h3, h4⟩, ⟨n1, n2⟩, ⟨d1, d2, f1, f2⟩, q⟩ := h
  obtain rfl : v = Value.ref l := rx
  obtain rfl : u = Value.ref k := ry
  obtain ⟨_, us, nu, ru, il⟩ := (show ObjOk X.prog X.w H s.heap l (.lst [.ref a1, .ref b1]) from I.hok l _ hl)
  obtain ⟨_, ws, nw, rw_, ik⟩ := (show ObjOk X.prog X.w H s.heap k (.lst [.ref a2, .ref b2]) from I.hok k _ hk)
  obtain rfl : us = [Value.ref a1, Value.ref b1] := by
    cases ru with
    | cons r1 r2 =>
      cases r2 with
      | cons r3 r4 =>
        cases r4
        rw [show _ = Value.ref a1 from r1, show _ = Value.ref b1 from r3]
  obtain rfl : ws = [Value.ref a2, Value.ref b2] := by
    cases rw_ with
    | cons r1 r2 =>
      cases r2 with
      | cons r3 r4 =>
        cases r4
        rw [show _ = Value.ref a2 from r1, show _ = Value.ref b2 from r3]
  have hu' : X.A.in1.units < cLine := by
    have : X.A.in1.units ≤ X.A.units + 1 := by first | exact Nat.le_refl _ | simp [Around.in1, Around.units]
    omega
  show wpAny _ _ (richCompare .NotEq (.ref l) (.ref k)) _ _ _
  refine SeqAt.pw_ne_rc (xs := #[Value.ref a1, Value.ref b1]) (ys := #[Value.ref a2, Value.ref b2]) ⟨_, il, rfl, _, rfl⟩ ⟨_, ik, rfl, _, rfl⟩ rfl (by omega) (fun j h1' h2' => ?_) ⟨.bl false, H, I, rfl, q⟩
  match j, h1', h2' with
  | 0, _, _ => exact eqP_dicts I h1 h2 n1 d1 f1 hu'
  | 1, _, _ => exact eqP_dicts I h3 h4 n2 d2 f2 hu'
end
end PW
/-! ### bits -/
namespace PW
open PySem PySem.Spec PyProof.Rows L2
abbrev bt (i : Int) : Nat := Builtin.Int.intBits i
theorem bt_le {k : Nat} {i : Int} : bt i ≤ k ↔ i.natAbs < 2 ^ k := by
  unfold bt Builtin.Int.intBits
  by_cases h0 : i = 0
  · subst h0
    have hp : 0 < 2 ^ k := Nat.two_pow_pos k
    simp [hp]
  · have hb : (i == 0) = false := by simpa using h0
    have hne : i.natAbs ≠ 0 := by omega
    rw [hb]
    simp only [Bool.false_eq_true, if_false]
    rw [← Nat.log2_lt hne]
    exact Nat.succ_le_iff
theorem bt_self (i : Int) : i.natAbs < 2 ^ bt i := bt_le.mp (Nat.le_refl _)
theorem bt_zero : bt 0 = 0 := rfl
theorem bt_neg (i : Int) : bt (-i) = bt i := by
  have h1 : bt (-i) ≤ bt i := bt_le.mpr (by rw [Int.natAbs_neg]; exact bt_self i)
  have h2 : bt i ≤ bt (-i) := bt_le.mpr (by have := bt_self (-i); rwa [Int.natAbs_neg] at this)
  omega
theorem bt_pos {i : Int} (h : i ≠ 0) : 1 ≤ bt i := by
  rcases Nat.eq_zero_or_pos (bt i) with e | e
  · have := bt_self i
    rw [e] at this
    omega
  · exact e
theorem bt_low {i : Int} (h : i ≠ 0) : 2 ^ (bt i - 1) ≤ i.natAbs := by
  rcases Nat.lt_or_ge i.natAbs (2 ^ (bt i - 1)) with q | q
  · have h1 := bt_le.mpr q
    have h2 := bt_pos h
    omega
  · exact q
theorem bt_add (i j : Int) : bt (i + j) ≤ max (bt i) (bt j) + 1 := by
  refine bt_le.mpr ?_
  have h1 := bt_self i
  have h2 := bt_self j
  have h3 : 2 ^ bt i ≤ 2 ^ max (bt i) (bt j) := Nat.pow_le_pow_right (by decide) (Nat.le_max_left ..)
  have h4 : 2 ^ bt j ≤ 2 ^ max (bt i) (bt j) := Nat.pow_le_pow_right (by decide) (Nat.le_max_right ..)
  rw [Nat.pow_succ]
  omega
theorem bt_mul (i j : Int) : bt (i * j) ≤ bt i + bt j := by
  refine bt_le.mpr ?_
  rw [Int.natAbs_mul, Nat.pow_add]
  exact Nat.mul_lt_mul'' (bt_self i) (bt_self j)
/-- times a factor that is not above 2 ^ k -/
theorem bt_mulK (i : Int) {j : Int} {k : Nat} (h : j.natAbs ≤ 2 ^ k) : bt (i * j) ≤ bt i + k := by
  refine bt_le.mpr ?_
  rw [Int.natAbs_mul, Nat.pow_add]
  rcases Nat.eq_zero_or_pos j.natAbs with e | e
  · rw [e, Nat.mul_zero]
    exact Nat.mul_pos (Nat.pow_pos (by decide)) (Nat.pow_pos (by decide))
  · exact Nat.lt_of_lt_of_le ((Nat.mul_lt_mul_right e).mpr (bt_self i)) (Nat.mul_le_mul_left _ h)
theorem bt_mono {i j : Int} (h : i.natAbs ≤ j.natAbs) : bt i ≤ bt j := bt_le.mpr (Nat.lt_of_le_of_lt h (bt_self j))
theorem bt_div (i j : Int) : bt (i / j) ≤ bt i + 1 := by
  refine bt_le.mpr ?_
  have h1 := bt_self i
  have h2 : (i / j).natAbs ≤ i.natAbs + 1 := by
    have := Int.natAbs_ediv_le_natAbs i j
    omega
  rw [Nat.pow_succ]
  omega
theorem natAbs_dvd_div {i j : Int} (h : j ∣ i) : (i / j).natAbs = i.natAbs / j.natAbs := Int.natAbs_ediv_of_dvd h
theorem bt_divD {i j : Int} (h : j ∣ i) : bt (i / j) ≤ bt i := bt_mono (by rw [natAbs_dvd_div h]; exact Nat.div_le_self _ _)
theorem bt_pow (k : Nat) : bt (2 ^ k) = k + 1 := by
  have h1 : bt (2 ^ k) ≤ k + 1 := bt_le.mpr (by rw [Int.natAbs_pow]; exact Nat.pow_lt_pow_right (by decide) (Nat.lt_succ_self k))
  have h2 : ¬ bt (2 ^ k) ≤ k := fun h => by
    have := bt_le.mp h
    rw [Int.natAbs_pow] at this
    exact Nat.lt_irrefl _ this
  omega
theorem bt_mulPow (i : Int) (k : Nat) : bt (i * 2 ^ k) ≤ bt i + k := bt_mulK i (by rw [Int.natAbs_pow]; exact Nat.le_refl _)
/-! ### rows: multiples of powers of two, the greatest first -/
abbrev Rw : Type := List (Int × Nat)
def sumR : Rw → Int
  | [] => 0
  | (c, e) :: r => c * 2 ^ e + sumR r
def wtR : Rw → Nat
  | [] => 0
  | (c, _) :: r => bt c + 265 + wtR r
/-- what the next exponent must be above -/
def limR : Rw → Int → Nat
  | [], low => bt low + 256
  | (c, e) :: _, _ => e + bt c + 8
def Far : Rw → Int → Prop
  | [], _ => True
  | (c, e) :: r, low => c ≠ 0 ∧ limR r low < e ∧ Far r low
theorem two_nat (k : Nat) : ((2 : Int) ^ k).natAbs = 2 ^ k := by rw [Int.natAbs_pow]; rfl
theorem Far.small : ∀ {r : Rw} {low : Int}, Far r low → (sumR r + low).natAbs < 2 ^ (limR r low - 7)
  | [], low, _ => by
    show (0 + low).natAbs < 2 ^ (bt low + 256 - 7)
    rw [Int.zero_add]
    exact Nat.lt_of_lt_of_le (bt_self low) (Nat.pow_le_pow_right (by decide) (by omega))
  | (c, e) :: r, low, ⟨h1, h2, h3⟩ => by
    have ih := h3.small
    show (c * 2 ^ e + sumR r + low).natAbs < 2 ^ (e + bt c + 8 - 7)
    have e1 : e + bt c + 8 - 7 = bt c + e + 1 := by omega
    rw [e1, Int.add_assoc]
    have h4 : (c * 2 ^ e).natAbs < 2 ^ (bt c + e) := by
      rw [Int.natAbs_mul, two_nat, Nat.pow_add]
      exact (Nat.mul_lt_mul_right (Nat.pow_pos (by decide))).mpr (bt_self c)
    have h5 : 2 ^ (limR r low - 7) ≤ 2 ^ (bt c + e) := Nat.pow_le_pow_right (by decide) (by omega)
    rw [Nat.pow_succ]
    omega
theorem far_head {c : Int} {e : Nat} {r : Rw} {low : Int} (h : Far ((c, e) :: r) low) : (sumR r + low).natAbs < 2 ^ (e - 7) := by
  have h1 := h.2.2.small
  exact Nat.lt_of_lt_of_le h1 (Nat.pow_le_pow_right (by decide) (by have := h.2.1; omega))
theorem Far.lim7 : ∀ {r : Rw} {low : Int}, Far r low → 256 ≤ limR r low
  | [], low, _ => by show 256 ≤ bt low + 256; omega
  | (c, e) :: r, low, h => by
    have := h.2.2.lim7
    have h2 := h.2.1
    show 256 ≤ e + bt c + 8
    omega
/-- the first multiple tells the sign and the size -/
theorem far_sum {c : Int} {e : Nat} {r : Rw} {low : Int} (h : Far ((c, e) :: r) low) : ∃ x : Int, sumR ((c, e) :: r) + low = c * 2 ^ e + x ∧ x.natAbs * 128 < 2 ^ e ∧ 256 < e := by
  refine ⟨sumR r + low, Int.add_assoc .., ?_, ?_⟩
  · have h1 := far_head h
    have h2 := h.2.2.lim7
    have h3 := h.2.1
    have e1 : e = (e - 7) + 7 := by omega
    rw [e1, Nat.pow_add]
    have : (2 : Nat) ^ 7 = 128 := by decide
    rw [this]
    have e2 : e - 7 + 7 - 7 = e - 7 := by omega
    exact (Nat.mul_lt_mul_right (by decide)).mpr h1
  · have h2 := h.2.2.lim7
    have h3 := h.2.1
    omega
theorem far_pos {c : Int} {e : Nat} {r : Rw} {low : Int} (h : Far ((c, e) :: r) low) : (0 < c ↔ 0 < sumR ((c, e) :: r) + low) ∧ (c < 0 ↔ sumR ((c, e) :: r) + low < 0) := by
  obtain ⟨x, e1, e2, _⟩ := far_sum h
  have hc := h.1
  have hp : (0 : Int) < 2 ^ e := Int.pow_pos (by decide)
  have hx : (x.natAbs : Int) * 128 < 2 ^ e := by
    have := Int.ofNat_lt.mpr e2
    push_cast at this
    exact this
  rw [e1]
  rcases Int.lt_or_gt_of_ne hc with q | q
  · have : c * 2 ^ e ≤ -1 * 2 ^ e := Int.mul_le_mul_of_nonneg_right (by omega) (Int.le_of_lt hp)
    constructor <;> constructor <;> intro z <;> omega
  · have : 1 * 2 ^ e ≤ c * 2 ^ e := Int.mul_le_mul_of_nonneg_right (by omega) (Int.le_of_lt hp)
    constructor <;> constructor <;> intro z <;> omega
end PW
/-! ### rows gathered and settled, in plain numbers -/
namespace PW
open PySem PySem.Spec PyProof.Rows L2
structure Sz where
  z : Nat
  n : Nat
  s : Nat
structure Sz.Le (a b : Sz) : Prop where
  z : a.z ≤ b.z
  n : a.n ≤ b.n
  s : a.s ≤ b.s
theorem Sz.Le.refl (a : Sz) : a.Le a := ⟨Nat.le_refl _, Nat.le_refl _, Nat.le_refl _⟩
structure Wf (S : Sz) (low : Int) (rows : Rw) (share v : Int) : Prop where
  far : Far rows low
  pos : 0 < share
  val : v * share = sumR rows + low
  emp : rows = [] → share = 1
  top : ∀ c e r, rows = (c, e) :: r → share = 1 ∨ 256 + bt share < e
  z : wtR rows + bt low ≤ S.z
  n : rows.length ≤ S.n
  s : share.toNat ≤ 2 ^ S.s
theorem Wf.mono {S S' : Sz} {low : Int} {rows : Rw} {share v : Int} (w : Wf S low rows share v) (h : S.Le S') : Wf S' low rows share v :=
  ⟨w.far, w.pos, w.val, w.emp, w.top, Nat.le_trans w.z h.z, Nat.le_trans w.n h.n, Nat.le_trans w.s (Nat.pow_le_pow_right (by decide) h.s)⟩
theorem Wf.plain (i : Int) : Wf ⟨bt i, 0, 0⟩ i [] 1 i :=
  ⟨trivial, (by decide), (by show i * 1 = 0 + i; omega), fun _ => rfl, fun _ _ _ h => (nomatch h), (by show 0 + bt i ≤ bt i; omega), Nat.le_refl _, (by show (1 : Int).toNat ≤ 2 ^ 0; decide)⟩
theorem Wf.low_eq {S : Sz} {low : Int} {share v : Int} (w : Wf S low [] share v) : v = low ∧ share = 1 := by
  have h1 := w.emp rfl
  have h2 := w.val
  rw [h1] at h2
  have h3 : v * 1 = 0 + low := h2
  exact ⟨by omega, h1⟩
theorem mul_pos_iff {a b : Int} (h : 0 < b) : (0 < a * b ↔ 0 < a) ∧ (a * b < 0 ↔ a < 0) := by
  rcases Int.lt_trichotomy a 0 with q | q | q
  · have : a * b < 0 := Int.mul_neg_of_neg_of_pos q h
    constructor <;> constructor <;> intro z <;> omega
  · subst q
    rw [Int.zero_mul]
    constructor <;> constructor <;> intro z <;> omega
  · have : 0 < a * b := Int.mul_pos q h
    constructor <;> constructor <;> intro z <;> omega
theorem Wf.sign {S : Sz} {low : Int} {c : Int} {e : Nat} {r : Rw} {share v : Int} (w : Wf S low ((c, e) :: r) share v) : (0 < c ↔ 0 < v) ∧ (c < 0 ↔ v < 0) := by
  have h1 := far_pos w.far
  have h2 := mul_pos_iff (a := v) w.pos
  rw [w.val] at h2
  exact ⟨h1.1.trans h2.1, h1.2.trans h2.2⟩
/-- the sum's size by the first row -/
theorem far_size {c : Int} {e : Nat} {r : Rw} {low : Int} (h : Far ((c, e) :: r) low) : 2 ^ (bt c + e - 2) ≤ (sumR ((c, e) :: r) + low).natAbs ∧ (sumR ((c, e) :: r) + low).natAbs < 2 ^ (bt c + e + 1) := by
  obtain ⟨x, e1, e2, e3⟩ := far_sum h
  have hc := h.1
  have h1 := bt_low hc
  have h2 := bt_self c
  have h3 := bt_pos hc
  rw [e1]
  have h4 : (c * 2 ^ e).natAbs = c.natAbs * 2 ^ e := by rw [Int.natAbs_mul, two_nat]
  have h5 : 2 ^ (bt c - 1) * 2 ^ e ≤ c.natAbs * 2 ^ e := Nat.mul_le_mul_right _ h1
  have h6 : c.natAbs * 2 ^ e < 2 ^ bt c * 2 ^ e := (Nat.mul_lt_mul_right (Nat.pow_pos (by decide))).mpr h2
  rw [← Nat.pow_add] at h5 h6
  have h7 : 2 ^ e ≤ 2 ^ (bt c - 1 + e) := Nat.pow_le_pow_right (by decide) (by omega)
  have h8 : bt c - 1 + e = (bt c + e - 2) + 1 := by omega
  have h9 : 2 ^ (bt c - 1 + e) = 2 ^ (bt c + e - 2) * 2 := by rw [h8, Nat.pow_succ]
  have h10 : 2 ^ (bt c + e + 1) = 2 ^ (bt c + e) * 2 := Nat.pow_succ ..
  have h11 : 2 ^ e ≤ 2 ^ (bt c + e) := Nat.pow_le_pow_right (by decide) (by omega)
  constructor <;> omega
theorem natAbs_mul_pos {v share : Int} (h : 0 < share) : (v * share).natAbs = v.natAbs * share.toNat := by
  rw [Int.natAbs_mul]
  have : share.natAbs = share.toNat := by omega
  rw [this]
theorem bt_posL {i : Int} (h : 0 < i) : 2 ^ (bt i - 1) ≤ i.toNat := by
  have := bt_low (i := i) (by omega)
  omega
theorem bt_posU {i : Int} (h : 0 < i) : i.toNat < 2 ^ bt i := by
  have := bt_self i
  omega
theorem pow_split {a b c : Nat} (h : a = b + c) : 2 ^ a = 2 ^ b * 2 ^ c := by rw [h, Nat.pow_add]
/-- a number with rows is not small -/
theorem Wf.big {S : Sz} {low : Int} {c : Int} {e : Nat} {r : Rw} {share v : Int} (w : Wf S low ((c, e) :: r) share v) : 2 ^ 64 ≤ v.natAbs := by
  have h1 := (far_size w.far).1
  obtain ⟨_, _, _, e3⟩ := far_sum w.far
  have hb := bt_pos w.far.1
  rw [← w.val, natAbs_mul_pos w.pos] at h1
  have hu := bt_posU w.pos
  rcases Nat.lt_or_ge v.natAbs (2 ^ 64) with q | q
  · exfalso
    have hk : bt share + 64 ≤ bt c + e - 2 := by
      rcases w.top c e r rfl with rfl | t
      · have : bt 1 = 1 := by decide
        omega
      · omega
    have h2 : v.natAbs * share.toNat < 2 ^ 64 * 2 ^ bt share := Nat.mul_lt_mul'' q hu
    rw [← Nat.pow_add] at h2
    have h3 : 2 ^ (64 + bt share) ≤ 2 ^ (bt c + e - 2) := Nat.pow_le_pow_right (by decide) (by omega)
    omega
  · exact q
/-- the size of a number by its first row: the power of two below it -/
theorem Wf.size {S : Sz} {low : Int} {c : Int} {e : Nat} {r : Rw} {share v : Int} (w : Wf S low ((c, e) :: r) share v) : 2 ^ (bt c + e - 2) ≤ v.natAbs * 2 ^ bt share ∧ v.natAbs * 2 ^ (bt share - 1) < 2 ^ (bt c + e + 1) := by
  obtain ⟨h1, h2⟩ := far_size w.far
  rw [← w.val, natAbs_mul_pos w.pos] at h1 h2
  have hu := bt_posU w.pos
  have hl := bt_posL w.pos
  constructor
  · exact Nat.le_trans h1 (Nat.mul_le_mul_left _ (Nat.le_of_lt hu))
  · exact Nat.lt_of_le_of_lt (Nat.mul_le_mul_left _ hl) h2
theorem div_size {c : Int} {e : Nat} {r : Rw} {low share v : Int} (hf : Far ((c, e) :: r) low) (hp : 0 < share) (hv : v * share = sumR ((c, e) :: r) + low) (ht : e ≤ 256 + bt share) : bt v ≤ bt c + 258 := by
  have h2 := (far_size hf).2
  rw [← hv, natAbs_mul_pos hp] at h2
  have hl := bt_posL hp
  have hs := bt_pos (i := share) (by omega)
  refine bt_le.mpr ?_
  rcases Nat.lt_or_ge v.natAbs (2 ^ (bt c + 258)) with q | q
  · exact q
  · exfalso
    have h3 : 2 ^ (bt c + 258) * 2 ^ (bt share - 1) ≤ v.natAbs * share.toNat := Nat.mul_le_mul q hl
    rw [← Nat.pow_add] at h3
    have h4 : 2 ^ (bt c + e + 1) ≤ 2 ^ (bt c + 258 + (bt share - 1)) := Nat.pow_le_pow_right (by decide) (by omega)
    omega
/-! ### sums and weights -/
theorem sumR_append (a b : Rw) : sumR (a ++ b) = sumR a + sumR b := by
  induction a with
  | nil => show sumR b = 0 + sumR b; omega
  | cons q r ih =>
    obtain ⟨c, e⟩ := q
    show c * 2 ^ e + sumR (r ++ b) = c * 2 ^ e + sumR r + sumR b
    rw [ih]
    omega
theorem wtR_append (a b : Rw) : wtR (a ++ b) = wtR a + wtR b := by
  induction a with
  | nil => show wtR b = 0 + wtR b; omega
  | cons q r ih =>
    obtain ⟨c, e⟩ := q
    show bt c + 265 + wtR (r ++ b) = bt c + 265 + wtR r + wtR b
    rw [ih]
    omega
theorem sumR_reverse (a : Rw) : sumR a.reverse = sumR a := by
  induction a with
  | nil => rfl
  | cons q r ih =>
    obtain ⟨c, e⟩ := q
    rw [List.reverse_cons, sumR_append, ih]
    show sumR r + (c * 2 ^ e + 0) = c * 2 ^ e + sumR r
    omega
theorem wtR_reverse (a : Rw) : wtR a.reverse = wtR a := by
  induction a with
  | nil => rfl
  | cons q r ih =>
    obtain ⟨c, e⟩ := q
    rw [List.reverse_cons, wtR_append, ih]
    show wtR r + (bt c + 265 + 0) = bt c + 265 + wtR r
    omega
def nz (a : Rw) : Rw := a.filter fun q => q.1 != 0
theorem sumR_nz (a : Rw) : sumR (nz a) = sumR a := by
  induction a with
  | nil => rfl
  | cons q r ih =>
    obtain ⟨c, e⟩ := q
    show sumR (List.filter _ ((c, e) :: r)) = c * 2 ^ e + sumR r
    rw [List.filter_cons]
    by_cases h : c = 0
    · subst h
      rw [if_neg (by simp)]
      have := ih
      unfold nz at this
      rw [this, Int.zero_mul]
      omega
    · rw [if_pos (by simpa using h)]
      show c * 2 ^ e + sumR (nz r) = _
      rw [ih]
theorem wtR_nz (a : Rw) : wtR (nz a) ≤ wtR a := by
  induction a with
  | nil => exact Nat.le_refl _
  | cons q r ih =>
    obtain ⟨c, e⟩ := q
    show wtR (List.filter _ ((c, e) :: r)) ≤ bt c + 265 + wtR r
    rw [List.filter_cons]
    have h2 : wtR (List.filter (fun q => q.1 != 0) r) ≤ wtR r := ih
    split
    · show bt c + 265 + wtR (List.filter _ r) ≤ _
      omega
    · omega
/-- rows times a factor -/
def mulR (k : Int) (a : Rw) : Rw := a.map fun q => (q.1 * k, q.2)
theorem sumR_mul (k : Int) (a : Rw) : sumR (mulR k a) = sumR a * k := by
  induction a with
  | nil => show (0 : Int) = 0 * k; omega
  | cons q r ih =>
    obtain ⟨c, e⟩ := q
    show c * k * 2 ^ e + sumR (mulR k r) = (c * 2 ^ e + sumR r) * k
    rw [ih, Int.add_mul, Int.mul_assoc, Int.mul_comm k, ← Int.mul_assoc]
theorem wtR_mul {k : Int} {m : Nat} (h : k.natAbs ≤ 2 ^ m) (a : Rw) : wtR (mulR k a) ≤ wtR a + a.length * m := by
  induction a with
  | nil => exact Nat.zero_le _
  | cons q r ih =>
    obtain ⟨c, e⟩ := q
    show bt (c * k) + 265 + wtR (mulR k r) ≤ bt c + 265 + wtR r + (r.length + 1) * m
    have := bt_mulK c h
    rw [Nat.add_mul]
    omega
/-! ### gathering -/
theorem far_one {c : Int} {e : Nat} {low : Int} (hc : c ≠ 0) (h : bt low + 256 < e) : Far [(c, e)] low := ⟨hc, h, trivial⟩
theorem far_push {c f : Int} {e l : Nat} {r : Rw} {low : Int} (hc : c ≠ 0) (h : l + bt f + 8 < e) (q : Far ((f, l) :: r) low) : Far ((c, e) :: (f, l) :: r) low := ⟨hc, h, q⟩
theorem far_put {f g : Int} {l : Nat} {r : Rw} {low : Int} (hg : g ≠ 0) (q : Far ((f, l) :: r) low) : Far ((g, l) :: r) low := ⟨hg, q.2.1, q.2.2⟩
theorem low_wt {c low : Int} {e : Nat} (h : e ≤ bt low + 256) : bt (low + c * 2 ^ e) ≤ bt low + (bt c + 265) := by
  have h1 := bt_add low (c * 2 ^ e)
  have h2 := bt_mulPow c e
  omega
theorem put_wt {c f : Int} {g : Nat} (h : g ≤ bt f + 8) : bt (f + c * 2 ^ g) ≤ bt f + bt c + 9 := by
  have h1 := bt_add f (c * 2 ^ g)
  have h2 := bt_mulPow c g
  omega
theorem put_sum {c f : Int} {g l : Nat} : (f + c * 2 ^ g) * 2 ^ l = f * 2 ^ l + c * 2 ^ (l + g) := by
  rw [Int.add_mul, Int.mul_assoc, ← Int.pow_add, Nat.add_comm g l]
/-! ### divided by a common divisor -/
def divR (g : Int) (a : Rw) : Rw := a.map fun q => (q.1 / g, q.2)
theorem sumR_div {g : Int} : ∀ {a : Rw}, (∀ q ∈ a, g ∣ q.1) → sumR (divR g a) * g = sumR a
  | [], _ => by show (0 : Int) * g = 0; omega
  | (c, e) :: r, h => by
    have ih := sumR_div (a := r) fun q hq => h q (List.mem_cons_of_mem _ hq)
    show (c / g * 2 ^ e + sumR (divR g r)) * g = c * 2 ^ e + sumR r
    have h1 : c / g * g = c := Int.ediv_mul_cancel (h (c, e) (List.mem_cons_self ..))
    rw [Int.add_mul, ih, Int.mul_assoc, Int.mul_comm (2 ^ e), ← Int.mul_assoc, h1]
theorem wtR_div {g : Int} : ∀ {a : Rw}, (∀ q ∈ a, g ∣ q.1) → wtR (divR g a) ≤ wtR a
  | [], _ => Nat.le_refl _
  | (c, e) :: r, h => by
    have ih := wtR_div (a := r) fun q hq => h q (List.mem_cons_of_mem _ hq)
    have h1 := bt_divD (h (c, e) (List.mem_cons_self ..))
    show bt (c / g) + 265 + wtR (divR g r) ≤ bt c + 265 + wtR r
    have h2 : bt (c / g) ≤ bt c := h1
    omega
theorem div_ne {c g : Int} (hc : c ≠ 0) (h : g ∣ c) : c / g ≠ 0 := fun e => by
  have := Int.ediv_mul_cancel h
  rw [e, Int.zero_mul] at this
  exact hc this.symm
theorem far_div {g low : Int} (hl : g ∣ low) : ∀ {a : Rw}, (∀ q ∈ a, g ∣ q.1) → Far a low → Far (divR g a) (low / g)
  | [], _, _ => trivial
  | [(c, e)], h, f => by
    have h1 := h (c, e) (List.mem_cons_self ..)
    have h2 := bt_divD hl
    refine ⟨div_ne f.1 h1, ?_, trivial⟩
    have := f.2.1
    show bt (low / g) + 256 < e
    have h3 : bt low + 256 < e := this
    omega
  | (c, e) :: (c', e') :: r, h, f => by
    have h1 := h (c, e) (List.mem_cons_self ..)
    have h2 := h (c', e') (List.mem_cons_of_mem _ (List.mem_cons_self ..))
    have ih := far_div hl (a := (c', e') :: r) (fun q hq => h q (List.mem_cons_of_mem _ hq)) f.2.2
    refine ⟨div_ne f.1 h1, ?_, ih⟩
    have h3 : e' + bt c' + 8 < e := f.2.1
    have h4 := bt_divD h2
    show e' + bt (c' / g) + 8 < e
    have h5 : bt (c' / g) ≤ bt c' := h4
    omega
/-- settled by a divisor -/
theorem Wf.settle {S : Sz} {ap : Rw} {low share g v : Int} (hf : Far ap low) (hne : ap ≠ []) (hg : 0 < g) (hs : g ∣ share) (hl : g ∣ low) (ha : ∀ q ∈ ap, g ∣ q.1) (hp : 0 < share) (hv : v * share = sumR ap + low)
    (ht : ∀ c e r, divR g ap = (c, e) :: r → share / g = 1 ∨ 256 + bt (share / g) < e) (hz : wtR ap + bt low ≤ S.z) (hn : ap.length ≤ S.n) (h2 : share.toNat ≤ 2 ^ S.s) : Wf S (low / g) (divR g ap) (share / g) v := by
  have e1 : share / g * g = share := Int.ediv_mul_cancel hs
  have e2 : low / g * g = low := Int.ediv_mul_cancel hl
  have e3 := sumR_div ha
  have hp2 : 0 < share / g := by
    by_cases q0 : 0 < share / g
    · exact q0
    · have q : share / g ≤ 0 := by omega
      have : share / g * g ≤ 0 := Int.mul_nonpos_of_nonpos_of_nonneg q (Int.le_of_lt hg)
      omega
  refine ⟨far_div hl ha hf, hp2, ?_, fun e => ?_, ht, ?_, ?_, ?_⟩
  · have : v * (share / g) * g = (sumR (divR g ap) + low / g) * g := by rw [Int.mul_assoc, e1, Int.add_mul, e2, e3, hv]
    exact Int.eq_of_mul_eq_mul_right (by omega) this
  · have h3 : (divR g ap).length = 0 := by rw [e]; rfl
    unfold divR at h3
    rw [List.length_map] at h3
    exact absurd (List.eq_nil_of_length_eq_zero h3) hne
  · have h3 := wtR_div ha
    have h4 := bt_divD hl
    omega
  · unfold divR
    rw [List.length_map]
    exact hn
  · have : share / g ≤ share := Int.ediv_le_self _ (Int.le_of_lt hp)
    omega
end PW
/-! ### is_whole, common, bits, doubled -/
namespace PW
open PySem PySem.Spec PyProof.Rows L2
/-- the class Tower -/
abbrev TwC (K : PySem.W.Frag) : Addr := He.ga K "Tower"
/-- the kind of a value, as far as is_whole and is_number ask -/
inductive Wh (K : PySem.W.Frag) (H : Hp) : V → Bool → Bool → Prop where
  | int (i : Int) : Wh K H (.int i) true false
  | tw {a dx : Addr} {fs : List (Str × V)} (h : H a = some (.ins (TwC K) dx fs)) : Wh K H (.ref a) false true
  | other {x : V} {n : String} (h : TyX K H x (.type n)) (m : n ∈ ["bool", "str", "NoneType", "list", "tuple", "dict"]) : Wh K H x false false
def spWhole (K : PySem.W.Frag) : Sp := fun vs H Q _ => ∃ x b t, vs = [x] ∧ Wh K H x b t ∧ Q (.bl b) H
def spNumber (K : PySem.W.Frag) : Sp := fun vs H Q _ => ∃ x b t, vs = [x] ∧ Wh K H x b t ∧ Q (.bl (t || b)) H
def spCommon : Sp := fun vs H Q _ => ∃ a b : Int, vs = [.int a, .int b] ∧ 0 < a ∧ ∀ g : Int, 0 < g → g ∣ a → g ∣ b → Q (.int g) H
def spBits : Sp := fun vs H Q _ => ∃ a : Int, vs = [.int a] ∧ Q (.int (bt a : Nat)) H
def spDoubled : Sp := fun vs H Q _ => ∃ a : Nat, vs = [.int (a : Nat)] ∧ a ≤ 60000000 ∧ Q (.int (2 ^ a)) H
theorem abs_int (a : Int) : (if a < 0 then -a else a) = (a.natAbs : Int) := by
  split <;> omega
theorem two_odd {s m : Nat} (h : m % 2 = 1) : s * m = (s + s) * (m / 2) + s := by
  have e : m = 2 * (m / 2) + 1 := by omega
  generalize m / 2 = k at e
  subst e
  rw [Nat.mul_add, Nat.mul_one, ← Nat.mul_assoc, Nat.mul_comm s 2, Nat.two_mul]
theorem two_even {s m : Nat} (h : m % 2 = 0) : s * m = (s + s) * (m / 2) := by
  have e : m = 2 * (m / 2) := by omega
  generalize m / 2 = k at e
  subst e
  rw [← Nat.mul_assoc, Nat.mul_comm s 2, Nat.two_mul]
section
variable {P : Program} {w : World} {K : PySem.W.Frag} {mg : Str → Option Value} {base : Heap}
theorem ok_is_whole (T : Txt K mg) : FnOk P w K mg base CX0 1 (He.ga K "is_whole") (fdOf K (He.ga K "is_whole")) p_is_whole (spWhole K) := by
  refine FunD.ok T.d_is_whole sc_is_whole (fun vs H Q E h => ?_) (fun cdv A outer s H vs Q E hr h => ?_)
  · obtain ⟨x, b, t, rfl, _⟩ := h
    rfl
  · obtain ⟨x, b, t, rfl, hw, q⟩ := h
    refine ⟨_, PSs.nox ((pss_one (ps_ret (pe_and (pe_callB call_isi (by rfl) T.f_isinstance (by decide +kernel) (pa_cons (pv 0) (pa_cons (pe_bltn (v := .ty "int") (u := .type "int") (by rfl) T.f_int (by decide +kernel) rfl) pa_nil))) (pe_one (pe_not (pe_callB call_isi (by rfl) T.f_isinstance (by decide +kernel) (pa_cons (pv 0) (pa_cons (pe_bltn (v := .ty "bool") (u := .type "bool") (by rfl) T.f_bool (by decide +kernel) rfl) pa_nil))))))))), ?_⟩
    show tRet _ _ [some x] H
    cases hw with
    | int i =>
      walk_at "go"
      exact q
    | tw h =>
      have ty := ty_ins T.i_Tower h
      have k1 : PySem.W.kitOne K (.ref (TwC K)) (.type "int") = some false := T.it_Tower.r "int" (by decide)
      walk_at "go"
      exact q
    | other h m =>
      simp only [List.mem_cons, List.not_mem_nil, or_false] at m
      rcases m with rfl | rfl | rfl | rfl | rfl | rfl
      all_goals
        walk_at "go"
        exact q
theorem ok_is_number (T : Txt K mg) : FnOk P w K mg base CX0 2 (He.ga K "is_number") (fdOf K (He.ga K "is_number")) p_is_number (spNumber K) := by
  refine FunD.ok T.d_is_number sc_is_number (fun vs H Q E h => ?_) (fun cdv A outer s H vs Q E hr h => ?_)
  · obtain ⟨x, b, t, rfl, _⟩ := h
    rfl
  · obtain ⟨x, b, t, rfl, hw, q⟩ := h
    have G_is_whole := ok_is_whole (P := P) (w := w) (base := base) T
    refine ⟨_, PSs.nox ((pss_one (ps_ret (pe_or (pe_callB call_isi (by rfl) T.f_isinstance (by decide +kernel) (pa_cons (pv 0) (pa_cons (pe_glob (v := .ref _) rfl T.g_Tower rfl) pa_nil))) (pe_one (pe_call G_is_whole hr rfl T.g_is_whole T.d_is_whole.kp (b_is_whole T) .nil pass0 (pa_cons (pv 0) pa_nil))))))), ?_⟩
    show tRet _ _ [some x] H
    have hw' := hw
    cases hw with
    | int i =>
      have k1 : PySem.W.kitOne K (.type "int") (.ref (TwC K)) = some false := T.it_Tower.l "int" (by decide)
      walk_at "go"
      exact ⟨_, _, _, rfl, hw', q⟩
    | tw h =>
      have ty := ty_ins T.i_Tower h
      have k1 := T.i_Tower.me
      walk_at "go"
      exact q
    | @other _ n h m =>
      have k1 : PySem.W.kitOne K (.type n) (.ref (TwC K)) = some false := T.it_Tower.l n (by
        simp only [List.mem_cons, List.not_mem_nil, or_false] at m ⊢
        rcases m with rfl | rfl | rfl | rfl | rfl | rfl <;> simp)
      walk_at "go"
      exact ⟨_, _, _, rfl, hw', q⟩
theorem ok_bits (T : Txt K mg) : FnOk P w K mg base CX0 1 (He.ga K "bits") (fdOf K (He.ga K "bits")) p_bits spBits := by
  refine FunD.ok T.d_bits sc_bits (fun vs H Q E h => ?_) (fun cdv A outer s H vs Q E hr h => ?_)
  · obtain ⟨x, rfl, _⟩ := h
    rfl
  · obtain ⟨a, rfl, q⟩ := h
    refine ⟨_, PSs.nox ((pss_one (ps_ret (pe_bits (pe_callB call_absN (by rfl) T.f_abs (by decide +kernel) (pa_cons (pv 0) pa_nil)))))), ?_⟩
    show tRet _ _ [some (V.int a)] H
    walk_at "go"
    rw [abs_int]
    have e : Builtin.Int.intBits ((a.natAbs : Nat) : Int) = bt a := Nat.le_antisymm (bt_mono (by omega)) (bt_mono (by omega))
    rw [e]
    exact q
theorem ok_common (T : Txt K mg) : FnOk P w K mg base CX0 1 (He.ga K "common") (fdOf K (He.ga K "common")) p_common spCommon := by
  refine FunD.ok T.d_common sc_common (fun vs H Q E h => ?_) (fun cdv A outer s H vs Q E hr h => ?_)
  · obtain ⟨a, b, rfl, _⟩ := h
    rfl
  · obtain ⟨a, b, rfl, ha, q⟩ := h
    refine ⟨_, PSs.nox ((pss_cons (ps_par (i := 0) (j := 1) (by rfl) sc_common.nd rfl rfl (by decide) rfl rfl (pa_cons (pe_callB call_absN (by rfl) T.f_abs (by decide +kernel) (pa_cons (pv 0) pa_nil)) (pa_cons (pe_callB call_absN (by rfl) T.f_abs (by decide +kernel) (pa_cons (pv 1) pa_nil)) pa_nil)) (by rfl))
    (pss_cons (ps_while PassesOwn.never (pt_cmpR op_gt (pv 1) pe_int (nomark _))
      (pss_one (ps_par (i := 0) (j := 1) (by rfl) sc_common.nd rfl rfl (by decide) rfl rfl (pa_cons (pv 1) (pa_cons (pe_op op_mod (pv 0) (pv 1)) pa_nil)) (by rfl))))
    (pss_one (ps_ret (pv 0)))))), ?_⟩
    show tSeq _ _ _ [some (V.int a), some (V.int b)] H
    walk_at "go"
    rw [abs_int, abs_int]
    refine while_it (fun m σ H' => H' = H ∧ ∃ x y : Int, σ = [some (V.int x), some (V.int y)] ∧ 0 ≤ x ∧ 0 ≤ y ∧ m = y.toNat ∧ (∀ g : Int, g ∣ x → g ∣ y → g ∣ a ∧ g ∣ b) ∧ (0 < x ∨ 0 < y)) (m0 := b.natAbs) ⟨rfl, _, _, rfl, by omega, by omega, by omega, fun g h1 h2 => ⟨Int.dvd_natAbs.mp h1, Int.dvd_natAbs.mp h2⟩, by omega⟩ ?_
    rintro m σ H' ⟨rfl, x, y, rfl, hx, hy, rfl, hg, hp⟩
    walk_at "go"
    refine r_if2 (fun e => ?_) (fun e => ?_)
    · have hy0 : 0 < y := of_decide_eq_true e
      refine r_turn ?_
      walk_at "go"
      have h1 := Int.emod_nonneg x (show y ≠ 0 by omega)
      have h2 := Int.emod_lt_of_pos x hy0
      refine ⟨(x % y).toNat, by omega, rfl, y, x % y, rfl, by omega, h1, rfl, fun g h3 h4 => hg g ?_ h3, by omega⟩
      have h5 : x = y * (x / y) + x % y := (Int.mul_ediv_add_emod x y).symm
      rw [h5]
      exact Int.dvd_add (Int.dvd_mul_of_dvd_left h3) h4
    · have hy0 : ¬ 0 < y := of_decide_eq_false e
      walk_at "go"
      have hy1 : y = 0 := by omega
      have := hg x (Int.dvd_refl x) (by rw [hy1]; exact Int.dvd_zero x)
      exact q x (by omega) this.1 this.2
theorem ok_doubled (T : Txt K mg) : FnOk P w K mg base CX0 1 (He.ga K "doubled") (fdOf K (He.ga K "doubled")) p_doubled spDoubled := by
  refine FunD.ok T.d_doubled sc_doubled (fun vs H Q E h => ?_) (fun cdv A outer s H vs Q E hr h => ?_)
  · obtain ⟨a, rfl, _⟩ := h
    rfl
  · obtain ⟨a, rfl, ha, q⟩ := h
    refine ⟨_, PSs.nox ((pss_cons (ps_par3 (i := 1) (j := 2) (l := 3) (by rfl) sc_doubled.nd rfl rfl rfl (by decide) (by decide) (by decide) rfl rfl rfl (pa_cons pe_int (pa_cons pe_int (pa_cons (pv 0) pa_nil))) (by rfl))
    (pss_cons (ps_while PassesOwn.never (pt_cmpR op_gt (pv 3) pe_int (nomark _))
      (pss_cons (ps_if (pt_cmpR op_eq (pe_op op_mod (pv 3) pe_int) pe_int (nomark _))
          (pss_one (ps_set (i := 1) sc_doubled.nd rfl (Or.inl rfl) (pe_op op_mulX (pv 1) (pv 2))))
          pss_nil)
        (pss_cons (ps_set (i := 3) sc_doubled.nd rfl (Or.inl rfl) (pe_op op_fdivW (pv 3) pe_int))
        (pss_one (ps_if (pt_cmpR op_gt (pv 3) pe_int (nomark _))
          (pss_one (ps_set (i := 2) sc_doubled.nd rfl (Or.inl rfl) (pe_op op_mulX (pv 2) (pv 2))))
          pss_nil)))))
    (pss_one (ps_ret (pv 1)))))), ?_⟩
    show tSeq _ _ _ [some (V.int (a : Nat)), none, none, none] H
    walk_at "go"
    refine while_it (fun m σ H' => H' = H ∧ ∃ f s l : Nat, σ = [some (V.int (a : Nat)), some (V.int (2 ^ f)), some (V.int (2 ^ s)), some (V.int (l : Nat))] ∧ m = l ∧ f + s * l = a ∧ (0 < l → 0 < s)) (m0 := a) ⟨rfl, 0, 1, a, rfl, rfl, by omega, fun _ => by decide⟩ ?_
    rintro m σ H' ⟨rfl, f, s, l, rfl, rfl, hf, hs⟩
    walk_at "go"
    refine r_if2 (fun e => ?_) (fun e => ?_)
    · have hl0 : (0 : Int) < (m : Nat) := of_decide_eq_true e
      have hs0 := hs (by omega)
      have hsl : s ≤ s * m := Nat.le_mul_of_pos_right _ (by omega)
      refine r_turn ?_
      have cm : ∀ x y : Nat, x + y ≤ 130000000 → CMulX (2 ^ x) (2 ^ y) := fun x y h => by
        refine mulx_ok (a := x + 1) (b := y + 1) ?_ ?_ (by omega)
        · rw [two_nat]
          exact Nat.pow_lt_pow_right (by decide) (Nat.lt_succ_self x)
        · rw [two_nat]
          exact Nat.pow_lt_pow_right (by decide) (Nat.lt_succ_self y)
      have c1 := cm f s (by omega)
      have c2 := cm s s (by omega)
      have e1 : (2 : Int) ^ f * 2 ^ s = 2 ^ (f + s) := (Int.pow_add 2 f s).symm
      have e2 : (2 : Int) ^ s * 2 ^ s = 2 ^ (s + s) := (Int.pow_add 2 s s).symm
      walk_at "go"
      refine r_if2 (fun o => ?_) (fun o => ?_)
      · have ho : ((m : Nat) : Int) % 2 = 1 := V.int.inj (of_decide_eq_true o)
        walk_at "go"
        refine r_if2 (fun z => ?_) (fun z => ?_)
        · walk_at "go"
          refine ⟨m / 2, by omega, rfl, f + s, s + s, m / 2, by rw [e1, e2]; rfl, rfl, ?_, fun _ => by omega⟩
          rw [two_odd (s := s) (show m % 2 = 1 by omega)] at hf
          omega
        · walk_at "go"
          refine ⟨m / 2, by omega, rfl, f + s, s, m / 2, by rw [e1]; rfl, rfl, ?_, fun _ => by omega⟩
          rw [two_odd (s := s) (show m % 2 = 1 by omega)] at hf
          have z0 : m / 2 = 0 := by
            have : ¬ (0 : Int) < (m : Nat) / 2 := of_decide_eq_false z
            omega
          rw [z0] at hf ⊢
          omega
      · have ho : ¬ ((m : Nat) : Int) % 2 = 1 := fun z => of_decide_eq_false o (congrArg V.int z)
        walk_at "go"
        refine r_if2 (fun z => ?_) (fun z => ?_)
        · walk_at "go"
          refine ⟨m / 2, by omega, rfl, f, s + s, m / 2, by rw [e2]; rfl, rfl, ?_, fun _ => by omega⟩
          rw [two_even (s := s) (show m % 2 = 0 by omega)] at hf
          omega
        · walk_at "go"
          refine ⟨m / 2, by omega, rfl, f, s, m / 2, rfl, rfl, ?_, fun _ => by omega⟩
          rw [two_even (s := s) (show m % 2 = 0 by omega)] at hf
          have z0 : m / 2 = 0 := by
            have : ¬ (0 : Int) < (m : Nat) / 2 := of_decide_eq_false z
            omega
          rw [z0] at hf ⊢
          omega
    · have hl0 : ¬ (0 : Int) < (m : Nat) := of_decide_eq_false e
      walk_at "go"
      have : f = a := by
        have : m = 0 := by omega
        subst this
        omega
      subst this
      exact q
end
end PW
/-! ### numbers in the heap; __init__, tower_of, sign, small -/
namespace PW
open PySem PySem.Spec PyProof.Rows L2
def fsT (low : Int) (p : Addr) (share : Int) : List (Str × V) := [("low", .int low), ("parts", .ref p), ("share", .int share)]
theorem lk_low {l s : Int} {p : Addr} : (fsT l p s).lookup ("low" : Str) = some (.int l) := rfl
theorem lk_parts {l s : Int} {p : Addr} : (fsT l p s).lookup ("parts" : Str) = some (.ref p) := rfl
theorem lk_share {l s : Int} {p : Addr} : (fsT l p s).lookup ("share" : Str) = some (.int s) := rfl
/-- at a stands the number v, of depth below d + 1 and of size S -/
def IsT (K : PySem.W.Frag) (cap : Sz) (H : Hp) : Nat → Sz → Addr → Int → Prop
  | 0, _, _, _ => False
  | d + 1, S, a, v => ∃ (dx : Addr) (low : Int) (p : Addr) (share : Int) (xs : List V) (rows : Rw), H a = some (.ins (TwC K) dx (fsT low p share)) ∧ SqT K H p xs ∧
      Paired (fun (x : V) (q : Int × Nat) => ∃ t r, x = .ref t ∧ SqT K H t [.int q.1, .ref r] ∧ IsT K cap H d cap r ((q.2 : Nat) : Int)) xs rows ∧ Wf S low rows share v
def RowV (K : PySem.W.Frag) (cap : Sz) (H : Hp) (d : Nat) (x : V) (q : Int × Nat) : Prop := ∃ t r, x = .ref t ∧ SqT K H t [.int q.1, .ref r] ∧ IsT K cap H d cap r ((q.2 : Nat) : Int)
abbrev RowsV (K : PySem.W.Frag) (cap : Sz) (H : Hp) (d : Nat) : List V → Rw → Prop := Paired (RowV K cap H d)
theorem isT_succ {K : PySem.W.Frag} {H : Hp} {d : Nat} {S : Sz} {a : Addr} {v : Int} : IsT K cap H (d + 1) S a v ↔ ∃ (dx : Addr) (low : Int) (p : Addr) (share : Int) (xs : List V) (rows : Rw), H a = some (.ins (TwC K) dx (fsT low p share)) ∧ SqT K H p xs ∧ RowsV K cap H d xs rows ∧ Wf S low rows share v := Iff.rfl
theorem IsT.ex {K : PySem.W.Frag} {H H' : Hp} (x : Ex H H') : ∀ {d : Nat} {S : Sz} {a : Addr} {v : Int}, IsT K cap H d S a v → IsT K cap H' d S a v
  | 0, _, _, _, h => h.elim
  | d + 1, S, a, v, h => by
    obtain ⟨dx, low, p, share, xs, rows, h1, h2, h3, h4⟩ := h
    refine ⟨dx, low, p, share, xs, rows, x _ _ h1, x.tup h2, L2.Paired.mapP h3 fun y q hq => ?_, h4⟩
    obtain ⟨t, r, e, k1, k2⟩ := hq
    exact ⟨t, r, e, x.tup k1, IsT.ex x k2⟩
theorem IsT.mono {K : PySem.W.Frag} {H : Hp} {S S' : Sz} (x : S.Le S') : ∀ {d : Nat} {a : Addr} {v : Int}, IsT K cap H d S a v → IsT K cap H d S' a v
  | 0, _, _, h => h.elim
  | d + 1, a, v, h => by
    obtain ⟨dx, low, p, share, xs, rows, h1, h2, h3, h4⟩ := h
    exact ⟨dx, low, p, share, xs, rows, h1, h2, h3, h4.mono x⟩
theorem IsT.up {K : PySem.W.Frag} {H : Hp} : ∀ {d : Nat} {S : Sz} {a : Addr} {v : Int}, IsT K cap H d S a v → IsT K cap H (d + 1) S a v
  | 0, _, _, _, h => h.elim
  | d + 1, S, a, v, h => by
    obtain ⟨dx, low, p, share, xs, rows, h1, h2, h3, h4⟩ := h
    refine ⟨dx, low, p, share, xs, rows, h1, h2, L2.Paired.mapP h3 fun y q hq => ?_, h4⟩
    obtain ⟨t, r, e, k1, k2⟩ := hq
    exact ⟨t, r, e, k1, IsT.up k2⟩
theorem IsT.deep {K : PySem.W.Frag} {H : Hp} {S : Sz} {a : Addr} {v : Int} {d d' : Nat} (h : IsT K cap H d S a v) (l : d ≤ d') : IsT K cap H d' S a v := by
  induction l with
  | refl => exact h
  | step _ ih => exact ih.up
theorem IsT.ins {K : PySem.W.Frag} {H : Hp} {d : Nat} {S : Sz} {a : Addr} {v : Int} (h : IsT K cap H d S a v) : ∃ dx fs, H a = some (.ins (TwC K) dx fs) := by
  cases d with
  | zero => exact h.elim
  | succ d =>
    obtain ⟨dx, low, p, share, xs, rows, h1, _⟩ := h
    exact ⟨dx, _, h1⟩
theorem RowV.ex {K : PySem.W.Frag} {H H' : Hp} (x : Ex H H') {d : Nat} {y : V} {q : Int × Nat} (h : RowV K cap H d y q) : RowV K cap H' d y q := by
  obtain ⟨t, r, e, k1, k2⟩ := h
  exact ⟨t, r, e, x.tup k1, k2.ex x⟩
theorem RowsV.ex {K : PySem.W.Frag} {H H' : Hp} (x : Ex H H') {d : Nat} {xs : List V} {rows : Rw} (h : RowsV K cap H d xs rows) : RowsV K cap H' d xs rows := L2.Paired.mapP h fun _ _ q => q.ex x
/-- a number or an integer -/
def NumV (K : PySem.W.Frag) (cap : Sz) (H : Hp) (d : Nat) (S : Sz) (x : V) (v : Int) : Prop := (∃ a, x = .ref a ∧ IsT K cap H d S a v) ∨ (x = .int v ∧ Sz.Le ⟨bt v, 0, 0⟩ S ∧ 1 ≤ d)
theorem NumV.ex {K : PySem.W.Frag} {H H' : Hp} (x : Ex H H') {d : Nat} {S : Sz} {y : V} {v : Int} (h : NumV K cap H d S y v) : NumV K cap H' d S y v := by
  rcases h with ⟨a, e, h⟩ | h
  · exact .inl ⟨a, e, h.ex x⟩
  · exact .inr h
theorem NumV.wh {K : PySem.W.Frag} {H : Hp} {d : Nat} {S : Sz} {y : V} {v : Int} (h : NumV K cap H d S y v) : ∃ b t, Wh K H y b t ∧ (t || b) = true := by
  rcases h with ⟨a, rfl, h⟩ | ⟨rfl, _⟩
  · obtain ⟨dx, fs, e⟩ := h.ins
    exact ⟨_, _, .tw e, rfl⟩
  · exact ⟨_, _, .int v, rfl⟩
def sgn (v : Int) : Int := if 0 < v then 1 else if v < 0 then -1 else 0
def smallV (v : Int) : V := if v.natAbs < 2 ^ 64 then .int v else .non
def spInit (K : PySem.W.Frag) : Sp := fun vs H Q _ => ∃ x dx i p s, vs = [.ref x, .int i, .ref p, .int s] ∧ H x = some (.ins (TwC K) dx []) ∧ Q .non (upd H x (.ins (TwC K) dx (fsT i p s)))
def spTowerOf (K : PySem.W.Frag) : Sp := fun vs H Q _ => ∃ cap x d S v, vs = [x] ∧ NumV K cap H d S x v ∧ ∀ r H', Ex H H' → IsT K cap H' d S r v → Q (.ref r) H'
def spSign (K : PySem.W.Frag) : Sp := fun vs H Q _ => ∃ cap a d S v, vs = [.ref a] ∧ IsT K cap H d S a v ∧ ∀ H', Ex H H' → Q (.int (sgn v)) H'
def spSmall (K : PySem.W.Frag) : Sp := fun vs H Q _ => ∃ cap a d S v, vs = [.ref a] ∧ IsT K cap H d S a v ∧ ∀ H', Ex H H' → Q (smallV v) H'
theorem Wf.smallV {S : Sz} {low : Int} {rows : Rw} {share v : Int} (w : Wf S low rows share v) : PW.smallV v = if rows.isEmpty && decide (low.natAbs < 2 ^ 64) then V.int low else V.non := by
  cases rows with
  | nil =>
    have := w.low_eq.1
    subst this
    unfold PW.smallV
    by_cases h : v.natAbs < 2 ^ 64
    · rw [if_pos h, if_pos (by simpa using h)]
    · rw [if_neg h, if_neg (by simpa using h)]
  | cons q r =>
    obtain ⟨c, e⟩ := q
    have := w.big
    unfold PW.smallV
    rw [if_neg (by omega), if_neg (by simp)]
theorem Wf.sgn {S : Sz} {low : Int} {rows : Rw} {share v : Int} (w : Wf S low rows share v) : PW.sgn v = PW.sgn (match rows with | [] => low | q :: _ => q.1) := by
  cases rows with
  | nil =>
    have := w.low_eq.1
    subst this
    rfl
  | cons q r =>
    obtain ⟨c, e⟩ := q
    obtain ⟨h1, h2⟩ := w.sign
    show PW.sgn v = PW.sgn c
    unfold PW.sgn
    by_cases p1 : 0 < c
    · rw [if_pos (h1.mp p1), if_pos p1]
    · rw [if_neg (fun z => p1 (h1.mpr z)), if_neg p1]
      by_cases p2 : c < 0
      · rw [if_pos (h2.mp p2), if_pos p2]
      · rw [if_neg (fun z => p2 (h2.mpr z)), if_neg p2]
section
variable {P : Program} {w : World} {K : PySem.W.Frag} {mg : Str → Option Value} {base : Heap}
theorem ok_init (T : Txt K mg) : FnOk P w K mg base CX0 2 (He.ma K (He.ga K "Tower") "__init__") (fdOf K (He.fAd K ("Tower", some "__init__"))) p_Tower___init__ (spInit K) := by
  refine FunD.ok T.d_Tower___init__ sc_Tower___init__ (fun vs H Q E h => ?_) (fun cdv A outer s H vs Q E hr h => ?_)
  · obtain ⟨x, dx, i, p, s, rfl, _⟩ := h
    rfl
  · obtain ⟨x, dx, i, p, s, rfl, hx, q⟩ := h
    have G_is_whole := ok_is_whole (P := P) (w := w) (base := base) T
    have kT := T.k_Tower
    have n1 := T.n_Tower_low
    have n2 := T.n_Tower_parts
    have n3 := T.n_Tower_share
    refine ⟨_, PSs.nox ((pss_cons (ps_if (pt_not (pt_val (pe_call G_is_whole hr rfl T.g_is_whole T.d_is_whole.kp (b_is_whole T) .nil pass0 (pa_cons (pv 1) pa_nil))))
      (pss_one ps_never)
      pss_nil)
    (pss_cons (ps_fld (pv 0) (pv 1) rfl)
    (pss_cons (ps_fld (pv 0) (pv 2) rfl)
    (pss_one (ps_fld (pv 0) (pv 3) rfl)))))), ?_⟩
    show tSeq _ _ _ [some (V.ref x), some (V.int i), some (V.ref p), some (V.int s)] H
    walk_at "K"
    walk_at "go"
    refine ⟨_, _, _, rfl, .int i, ?_⟩
    walk_at "go"
    rw [upd_upd, upd_upd]
    exact q
/-- a new number, plain -/
theorem isT_plain {H : Hp} {x dx e : Addr} {i : Int} (hx : H x = none) (hd : H dx = none) (hn : dx ≠ x) (he : ∀ H, SqT K H e []) : IsT K cap (upd (upd H dx (.own x)) x (.ins (TwC K) dx (fsT i e 1))) 1 ⟨bt i, 0, 0⟩ x i :=
  ⟨dx, i, e, 1, [], [], upd_same, he _, .nil, Wf.plain i⟩
theorem ex_made {H : Hp} {x dx : Addr} {o : HO} (hx : H x = none) (hd : H dx = none) (hn : dx ≠ x) : Ex H (upd (upd H dx (.own x)) x o) := (Ex.new hd).trans (Ex.new (by rw [upd_ne (Ne.symm hn)]; exact hx))
theorem init_made {H : Hp} {x dx p : Addr} {i s : Int} {Q : VK} {E : XK} (q : Q .non (upd (upd H dx (.own x)) x (.ins (TwC K) dx (fsT i p s)))) :
    spInit K [.ref x, .int i, .ref p, .int s] (upd (upd H dx (.own x)) x (.ins (TwC K) dx [])) Q E := ⟨x, dx, i, p, s, rfl, upd_same, by rw [upd_upd]; exact q⟩
theorem ok_tower_of (T : Txt K mg) : FnOk P w K mg base CX0 4 (He.ga K "tower_of") (fdOf K (He.ga K "tower_of")) p_tower_of (spTowerOf K) := by
  refine FunD.ok T.d_tower_of sc_tower_of (fun vs H Q E h => ?_) (fun cdv A outer s H vs Q E hr h => ?_)
  · obtain ⟨cap, x, d, S, v, rfl, _⟩ := h
    rfl
  · obtain ⟨cap, x, d, S, v, rfl, hx, q⟩ := h
    have G_Tower___init__ := ok_init (P := P) (w := w) (base := base) T
    refine ⟨_, PSs.nox ((pss_one (ps_ret (pe_ifExp (pt_val (pe_callB call_isi (by rfl) T.f_isinstance (by decide +kernel) (pa_cons (pv 0) (pa_cons (pe_glob (v := .ref _) rfl T.g_Tower rfl) pa_nil)))) (pv 0) (pe_make T.mk_Tower G_Tower___init__ hr rfl T.g_Tower (b_Tower___init___2 T) (dv_Tower___init___2 T) pass0 (pa_cons (pv 0) pa_nil)))))), ?_⟩
    show tRet _ _ [some x] H
    walk_at "K"
    rcases hx with ⟨a, rfl, h⟩ | ⟨rfl, hS, hd⟩
    · obtain ⟨dx, fs, e⟩ := h.ins
      have ty := ty_ins T.i_Tower e
      have k1 := T.i_Tower.me
      walk_at "go"
      exact q _ _ (Ex.refl _) h
    · have k1 : PySem.W.kitOne K (.type "int") (.ref (TwC K)) = some false := T.it_Tower.l "int" (by decide)
      walk_at "go"
      intro x dx hx hd2 hn
      refine init_made ⟨rfl, q _ _ (ex_made hx hd2 hn) ?_⟩
      exact ((isT_plain hx hd2 hn (fun H => T.e_Tower___init___parts H)).mono hS).deep hd
theorem ok_sign (T : Txt K mg) : FnOk P w K mg base CX0 1 (He.ma K (He.ga K "Tower") "sign") (fdOf K (He.fAd K ("Tower", some "sign"))) p_Tower_sign (spSign K) := by
  refine FunD.ok T.d_Tower_sign sc_Tower_sign (fun vs H Q E h => ?_) (fun cdv A outer s H vs Q E hr h => ?_)
  · obtain ⟨cap, a, d, S, v, rfl, _⟩ := h
    rfl
  · obtain ⟨cap, a, d, S, v, rfl, hx, q⟩ := h
    have kT := T.k_Tower
    have n1 := T.n_Tower_low
    have n2 := T.n_Tower_parts
    refine ⟨_, PSs.nox ((pss_cons (ps_set (i := 1) sc_Tower_sign.nd rfl (Or.inl rfl) (pe_ifExp (pt_cmpR (PW.op_neE hr.units0) (pe_fld (pv 0) rfl) (pe_tup pa_nil) (nomark _)) (pe_ix ix_seq (pe_ix ix_tup (pe_fld (pv 0) rfl) pe_int (fun _ _ => rfl)) pe_int (fun _ _ => rfl)) (pe_fld (pv 0) rfl)))
    (pss_one (ps_ret (pe_ifExp (pt_cmpR op_gt (pv 1) pe_int (nomark _)) pe_int (pe_ifExp (pt_cmpR op_lt (pv 1) pe_int (nomark _)) (pe_un un_neg pe_int) pe_int)))))), ?_⟩
    show tSeq _ _ _ [some (V.ref a), none] H
    walk_at "K"
    cases d with
    | zero => exact hx.elim
    | succ d =>
    obtain ⟨dx, low, p, share, xs, rows, h1, h2, h3, wf⟩ := hx
    refine r_seqP (fun σ' H' => ∃ i : Int, σ' = [some (V.ref a), some (V.int i)] ∧ Ex H H' ∧ sgn v = sgn i) ?_ ?_
    · rintro σ' H' ⟨i, rfl, x, e⟩
      have q' := q H' x
      rw [e] at q'
      unfold sgn at q'
      walk_at "go"
      refine r_if2 (fun e => ?_) (fun e => ?_)
      · rw [if_pos (of_decide_eq_true e)] at q'
        walk_at "go"
        exact q'
      · rw [if_neg (of_decide_eq_false e)] at q'
        walk_at "go"
        refine r_if2 (fun e => ?_) (fun e => ?_)
        · rw [if_pos (of_decide_eq_true e)] at q'
          walk_at "go"
          exact q'
        · rw [if_neg (of_decide_eq_false e)] at q'
          walk_at "go"
          exact q'
    · intro N hN
      walk_at "go"
      intro p0 hp0
      walk_at "go"
      cases h3 with
      | nil =>
        refine r_ifF' rfl ?_
        walk_at "go"
        exact hN _ _ ⟨low, rfl, Ex.new hp0, wf.sgn⟩
      | @cons x0 q0 xr rr hr0 hrr =>
        obtain ⟨t, r, rfl, k1, k2⟩ := hr0
        refine r_ifT' rfl ?_
        walk_at "go"
        exact hN _ _ ⟨q0.1, rfl, Ex.new hp0, wf.sgn⟩
theorem ok_small (T : Txt K mg) : FnOk P w K mg base CX0 1 (He.ma K (He.ga K "Tower") "small") (fdOf K (He.fAd K ("Tower", some "small"))) p_Tower_small (spSmall K) := by
  refine FunD.ok T.d_Tower_small sc_Tower_small (fun vs H Q E h => ?_) (fun cdv A outer s H vs Q E hr h => ?_)
  · obtain ⟨cap, a, d, S, v, rfl, _⟩ := h
    rfl
  · obtain ⟨cap, a, d, S, v, rfl, hx, q⟩ := h
    have kT := T.k_Tower
    have n1 := T.n_Tower_low
    have n2 := T.n_Tower_parts
    refine ⟨_, PSs.nox ((pss_one (ps_ret (pe_ifExp (PW.pt (pw_and (pt_cmpR (PW.op_eqE hr.units0) (pe_fld (pv 0) rfl) (pe_tup pa_nil) (nomark _)) (pw_and1 (pt_cmpR op_lt (pe_callB call_absN (by rfl) T.f_abs (by decide +kernel) (pa_cons (pe_fld (pv 0) rfl) pa_nil)) (pe_gint rfl T.c_SMALL) (nomark _))))) (pe_fld (pv 0) rfl) pe_non)))), ?_⟩
    show tRet _ _ [some (V.ref a)] H
    walk_at "K"
    cases d with
    | zero => exact hx.elim
    | succ d =>
    obtain ⟨dx, low, p, share, xs, rows, h1, h2, h3, wf⟩ := hx
    walk_at "go"
    intro p0 hp0
    walk_at "go"
    have q' := q (upd H p0 (.tup [])) (Ex.new hp0)
    rw [wf.smallV] at q'
    have e0 : xs.isEmpty = rows.isEmpty := by cases h3 <;> rfl
    rw [e0]
    refine r_if2 (fun e => ?_) (fun e => ?_)
    · walk_at "go"
      rw [abs_int]
      generalize hB : (18446744073709551616 : Int) = B
      refine r_if2 (fun e2 => ?_) (fun e2 => ?_)
      · have : low.natAbs < 2 ^ 64 := by
          have := of_decide_eq_true e2
          omega
        rw [if_pos (by rw [e, decide_eq_true this]; rfl)] at q'
        walk_at "go"
        exact q'
      · have : ¬ low.natAbs < 2 ^ 64 := by
          have := of_decide_eq_false e2
          omega
        rw [if_neg (by rw [e, decide_eq_false this]; simp)] at q'
        walk_at "go"
        exact q'
    · rw [if_neg (by rw [e]; simp)] at q'
      walk_at "go"
      exact q'
end
end PW
/-! ### above, -, ordered -/
namespace PW
open PySem PySem.Spec PyProof.Rows L2
section
variable {α β : Type} {F : α → β → Prop}
theorem prd_get : ∀ {xs : List α} {ys : List β} {i : Nat} {x : α}, Paired F xs ys → xs[i]? = some x → ∃ y, ys[i]? = some y ∧ F x y
  | _, _, _, _, .nil, h => by cases h
  | _, _, 0, _, .cons r t, h => by
    injection h with h
    subst h
    exact ⟨_, rfl, r⟩
  | _, _, i + 1, _, .cons r t, h => prd_get (i := i) t h
theorem prd_append : ∀ {xs xs' : List α} {ys ys' : List β}, Paired F xs ys → Paired F xs' ys' → Paired F (xs ++ xs') (ys ++ ys')
  | _, _, _, _, .nil, h => h
  | _, _, _, _, .cons r t, h => .cons r (prd_append t h)
theorem prd_take : ∀ {n : Nat} {xs : List α} {ys : List β}, Paired F xs ys → Paired F (xs.take n) (ys.take n)
  | 0, _, _, _ => .nil
  | _ + 1, _, _, .nil => .nil
  | _ + 1, _, _, .cons r t => .cons r (prd_take t)
theorem prd_drop : ∀ {n : Nat} {xs : List α} {ys : List β}, Paired F xs ys → Paired F (xs.drop n) (ys.drop n)
  | 0, _, _, h => h
  | _ + 1, _, _, .nil => .nil
  | n + 1, _, _, .cons r t => prd_drop (n := n) t
theorem prd_rev : ∀ {xs : List α} {ys : List β}, Paired F xs ys → Paired F xs.reverse ys.reverse
  | _, _, .nil => .nil
  | _, _, .cons r t => by
    rw [List.reverse_cons, List.reverse_cons]
    exact prd_append (prd_rev t) (.cons r .nil)
theorem prd_len {xs : List α} {ys : List β} (h : Paired F xs ys) : xs.length = ys.length := Paired.length h
end
/-- sizes that sums take -/
def LIM : Sz := ⟨4000000, 1200, 1200⟩
def totSz (a b : Sz) (m : Nat) : Sz := ⟨a.z + b.z + a.n * b.s + b.n * (m + a.s) + a.s + b.s + m + 1, a.n + b.n, a.s + b.s⟩
def spTotal (K : PySem.W.Frag) (cap : Sz) (d : Nat) : Sp := fun vs H Q _ => ∃ a b f S1 S2 m v u, vs = [.ref a, .ref b, .int f] ∧ IsT K cap H d S1 a v ∧ IsT K cap H d S2 b u ∧ S1.Le LIM ∧ S2.Le LIM ∧ f.natAbs ≤ 2 ^ m ∧ m ≤ 1200 ∧
  ∀ r H', Ex H H' → IsT K cap H' d (totSz S1 S2 m) r (v + f * u) → Q (.ref r) H'
def spSub (K : PySem.W.Frag) (cap : Sz) (d : Nat) : Sp := fun vs H Q _ => ∃ a x S1 S2 v u, vs = [.ref a, x] ∧ IsT K cap H d S1 a v ∧ NumV K cap H d S2 x u ∧ S1.Le LIM ∧ S2.Le LIM ∧ ∀ r H', Ex H H' → IsT K cap H' d (totSz S1 S2 0) r (v - u) → Q (.ref r) H'
def spAbove (K : PySem.W.Frag) (cap : Sz) (d : Nat) : Sp := fun vs H Q _ => ∃ a x S1 S2 v u, vs = [.ref a, x] ∧ IsT K cap H d S1 a v ∧ NumV K cap H d S2 x u ∧ S1.Le LIM ∧ S2.Le LIM ∧ ∀ H', Ex H H' → Q (.bl (decide (u < v))) H'
def Desc : Rw → Prop := List.Pairwise fun a b => b.2 ≤ a.2
def spOrdered (K : PySem.W.Frag) (cap : Sz) (d : Nat) : Sp := fun vs H Q _ => ∃ p xs rows, vs = [.ref p] ∧ SqL K H p xs ∧ RowsV K cap H d xs rows ∧ rows.length ≤ 2400 ∧
  ∀ r H' ys rf, Ex H H' → H' r = some (.lst ys) → RowsV K cap H' d ys rf → Desc rf → rf.Perm rows → Q (.ref r) H'
theorem desc_ins {c : Int} {e : Nat} : ∀ {rf : Rw} {n : Nat}, Desc rf → (∀ j q, j < n → rf[j]? = some q → e < q.2) → (∀ q, rf[n]? = some q → q.2 ≤ e) → Desc (rf.take n ++ [(c, e)] ++ rf.drop n)
  | [], n, _, _, _ => by
    rw [List.take_nil, List.drop_nil]
    exact List.pairwise_singleton _ _
  | q :: r, 0, hd, _, h2 => by
    have h3 := h2 q rfl
    have hd' := List.pairwise_cons.mp hd
    refine List.pairwise_cons.mpr ⟨fun b hb => ?_, hd⟩
    rcases List.mem_cons.mp hb with rfl | hb
    · exact h3
    · exact Nat.le_trans (hd'.1 b hb) h3
  | q :: r, n + 1, hd, h1, h2 => by
    have hd' := List.pairwise_cons.mp hd
    have ih := desc_ins (c := c) (e := e) (n := n) hd'.2 (fun j p hj hp => h1 (j + 1) p (by omega) hp) (fun p hp => h2 p hp)
    refine List.pairwise_cons.mpr ⟨fun b hb => ?_, ih⟩
    have hb2 : b ∈ r.take n ++ [(c, e)] ++ r.drop n := hb
    rw [List.mem_append, List.mem_append] at hb2
    rcases hb2 with (hb2 | hb2) | hb2
    · exact hd'.1 b (List.mem_of_mem_take hb2)
    · rw [List.mem_singleton] at hb2
      subst hb2
      exact Nat.le_of_lt (h1 0 q (by omega) rfl)
    · exact hd'.1 b (List.mem_of_mem_drop hb2)
theorem perm_ins {α : Type} {x : α} {rf rows : List α} {n i : Nat} (h : rf.Perm (rows.take i)) (hx : rows[i]? = some x) : (rf.take n ++ [x] ++ rf.drop n).Perm (rows.take (i + 1)) := by
  have h1 : (rf.take n ++ [x] ++ rf.drop n).Perm (x :: (rf.take n ++ rf.drop n)) := by
    rw [List.append_assoc]
    exact List.perm_middle
  rw [List.take_append_drop] at h1
  have h2 : rows.take (i + 1) = rows.take i ++ [x] := by
    rw [List.take_add_one, hx]
    rfl
  rw [h2]
  exact h1.trans ((List.Perm.cons x h).trans (List.perm_append_singleton x _).symm)
theorem Ex.hideN {H H' : Hp} {D : Addr} (e : Ex H H') (h : H D = none) : Ex H (PW.hide H' D) := fun a o ha => by
  rw [hide_ne (ne_of_none ha h)]
  exact e a o ha
theorem r_whileP {c : TT} {tb : TS} {D : Ends} {σ : L2.St} {H : Hp} (P : L2.St → Hp → Prop) (hq : ∀ σ' H', P σ' H' → D.nx σ' H') (h : ∀ N : L2.St → Hp → Prop, (∀ σ' H', P σ' H' → N σ' H') → tWhile c tb { D with nx := N } σ H) : tWhile c tb D σ H := h D.nx hq
theorem IsT.ins' {K : PySem.W.Frag} {H : Hp} {d : Nat} {S : Sz} {a : Addr} {v : Int} (h : IsT K cap H d S a v) : ∃ dx l p s, H a = some (.ins (TwC K) dx (fsT l p s)) := by
  cases d with
  | zero => exact h.elim
  | succ d =>
    obtain ⟨dx, low, p, share, xs, rows, h1, _⟩ := h
    exact ⟨dx, _, _, _, h1⟩
section
variable {P : Program} {w : World} {K : PySem.W.Frag} {mg : Str → Option Value} {base : Heap}
theorem fnOk_none {CX : CXT} {k : Nat} {f : Addr} {fd : FuncData} {ps : List Str} {sp : Sp} (h : ∀ vs H Q E, ¬ sp vs H Q E) : FnOk P w K mg base CX k f fd ps sp :=
  ⟨fun _ _ _ _ z => (h _ _ _ _ z).elim, fun _ _ _ _ _ _ _ _ _ _ _ _ _ z => (h _ _ _ _ z).elim⟩
theorem ok_ordered {k d : Nat} {cap : Sz} (cap_lim : cap.Le LIM) (T : Txt K mg) (G_Tower_above : FnOk P w K mg base CX0 k (He.ma K (He.ga K "Tower") "above") (fdOf K (He.fAd K ("Tower", some "above"))) p_Tower_above (spAbove K cap d)) :
    FnOk P w K mg base CX0 (k + 1) (He.ga K "ordered") (fdOf K (He.ga K "ordered")) p_ordered (spOrdered K cap d) := by
  refine FunD.ok T.d_ordered sc_ordered (fun vs H Q E h => ?_) (fun cdv A outer s H vs Q E hr h => ?_)
  · obtain ⟨p, xs, rows, rfl, _⟩ := h
    rfl
  · obtain ⟨p, xs, rows, rfl, hp, hrows, hl, q⟩ := h
    refine ⟨_, PSs.nox ((pss_cons (ps_set (i := 1) sc_ordered.nd rfl (Or.inl rfl) (pe_lst pa_nil))
    (pss_cons (ps_for PassesOwn.never rfl (pi_list (pv 0)) (pg_tup rfl (pgs_cons (pg_name (i := 2) sc_ordered.nd rfl (Or.inl rfl) (hf := by first | exact Or.inl rfl | exact Or.inr rfl)) (pgs_cons (pg_name (i := 3) sc_ordered.nd rfl (Or.inl rfl) (hf := by first | exact Or.inl rfl | exact Or.inr rfl)) pgs_nil)))
      (pss_cons (ps_set (i := 4) sc_ordered.nd rfl (Or.inl rfl) pe_int)
        (pss_cons (ps_while PassesOwn.never (PW.pt (pw_and (pt_cmpR op_lt (pv 4) (pe_callB call_lenN (by rfl) T.f_len (by decide +kernel) (pa_cons (pv 1) pa_nil)) (nomark _)) (pw_and1 (pt_val (pe_meth (pe_ix ix_seq (pe_ix ix_list (pv 1) (pv 4) (fun _ _ => rfl)) pe_int (fun _ _ => rfl)) T.k_Tower T.m_Tower_above G_Tower_above hr (b_Tower_above T) .nil pass0 (pa_cons (pv 3) pa_nil))))))
          (pss_one (ps_set (i := 4) sc_ordered.nd rfl (Or.inl rfl) (pe_op op_add (pv 4) pe_int))))
        (pss_one (ps_expr (pe_bm PySem.F.plainAttrs_list PySem.F.slot_list_insert PySem.F.type_list_insert mt_insert (pv 1) (pa_cons (pv 4) (pa_cons (pe_tup (pa_cons (pv 2) (pa_cons (pv 3) pa_nil))) pa_nil))))))))
    (pss_one (ps_ret (pv 1)))))), ?_⟩
    show tSeq _ _ _ [some (V.ref p), none, none, none, none] H
    walk_at "K"
    walk_at "go"
    intro f hf
    have hp1 := (Ex.new (o := .lst []) hf).lst hp
    walk_at "go"
    refine for_it walk_list (fun i σ H' => (∃ c e a, σ = [some (V.ref p), some (V.ref f), c, e, a]) ∧ Ex H H' ∧ ∃ ys rf, H' f = some (.lst ys) ∧ RowsV K cap (hide H' f) d ys rf ∧ Desc rf ∧ rf.Perm (rows.take i)) ?_ (fun i σ H' _ h => h.2.1.lst hp) ?_ ?_
    · exact ⟨⟨none, none, none, rfl⟩, Ex.new hf, [], [], upd_same, .nil, List.Pairwise.nil, List.Perm.nil⟩
    · rintro i x σ H1 H1' hi ⟨⟨c0, e0, a0, rfl⟩, x1, ys, rf, hys, hrf, hd, hpm⟩ ⟨rfl, hx⟩
      obtain ⟨⟨cc, ee⟩, hq, t, r, rfl, kt, kr⟩ := prd_get hrows hx
      have kt1 : SqT K H1' t [.int cc, .ref r] := x1.tup kt
      have hlen := prd_len hrf
      have hpl := hpm.length_eq
      rw [List.length_take] at hpl
      walk_at "go"
      refine r_whileP (fun σ' H' => ∃ at_ : Nat, σ' = [some (V.ref p), some (V.ref f), some (V.int cc), some (V.ref r), some (V.int (at_ : Nat))] ∧ Ex H1' H' ∧ at_ ≤ ys.length ∧ (∀ j q, j < at_ → rf[j]? = some q → ee < q.2) ∧ (∀ q, rf[at_]? = some q → q.2 ≤ ee)) ?_ ?_
      · rintro σ' H2 ⟨n, rfl, x2, hn, h1, h2⟩
        have hys2 := x2 _ _ hys
        walk_at "go"
        intro t2 ht2
        have hys3 : (L2.upd H2 t2 (.tup [.int cc, .ref r])) f = some (.lst ys) := (upd_ne (ne_of_none hys2 ht2)).trans hys2
        walk_at "go"
        refine ⟨_, _, _, _, rfl, rfl, hys3, Nat.lt_of_lt_of_le (show ys.length < 10000 by omega) (by decide), (by omega), (by omega), ?_⟩
        have tf : t2 ≠ f := Ne.symm (ne_of_none hys2 ht2)
        refine ⟨⟨_, _, _, rfl⟩, ?_, _, rf.take n ++ [(cc, ee)] ++ rf.drop n, upd_same, ?_, desc_ins hd h1 h2, perm_ins hpm hq⟩
        · exact ((x1.trans x2).trans (Ex.new ht2)).mut hf
        · rw [hide_upd]
          have xh : Ex (hide H1' f) (hide (L2.upd H2 t2 (.tup [.int cc, .ref r])) f) := (x2.trans (Ex.new ht2)).hides f
          have hr2 := hrf.ex xh
          have xk : Ex H (hide (L2.upd H2 t2 (.tup [.int cc, .ref r])) f) := ((x1.trans x2).trans (Ex.new ht2)).hideN hf
          refine prd_append (prd_append (prd_take hr2) (.cons ⟨t2, r, rfl, ?_, kr.ex xk⟩ .nil)) (prd_drop hr2)
          exact SqT.of ((hide_ne tf).trans upd_same)
      · intro N hN
        refine while_it (fun m σ H2 => ∃ n : Nat, σ = [some (V.ref p), some (V.ref f), some (V.int cc), some (V.ref r), some (V.int (n : Nat))] ∧ Ex H1' H2 ∧ n ≤ ys.length ∧ m = ys.length - n ∧ ∀ j q, j < n → rf[j]? = some q → ee < q.2) (m0 := ys.length) ⟨0, rfl, Ex.refl _, by omega, by omega, fun j q h => by omega⟩ ?_
        rintro m σ H2 ⟨n, rfl, x2, hn, rfl, h1⟩
        have hys2 := x2 _ _ hys
        walk_at "go"
        refine r_if2 (fun e => ?_) (fun e => ?_)
        · have hlt : n < ys.length := by
            have := of_decide_eq_true e
            omega
          obtain ⟨⟨c1, e1⟩, hq1, t1, r1, ey, kt1', kr1⟩ := prd_get (i := n) hrf (List.getElem?_eq_getElem hlt)
          have xh : Ex (hide H1' f) H2 := (Ex.hide H1' f).trans x2
          have kt2 : SqT K H2 t1 [.int c1, .ref r1] := xh.tup kt1'
          obtain ⟨dx, l0, p0, s0, hi1⟩ := kr1.ins'
          have hi2 := xh _ _ hi1
          walk_at "go"
          refine r_ixL (SqL.of hys2) (atI_nat ((List.getElem?_eq_getElem hlt).trans (congrArg some ey))) ?_
          walk_at "go"
          refine ⟨r1, .ref r, cap, cap, _, _, rfl, kr1.ex xh, .inl ⟨r, rfl, kr.ex (x1.trans x2)⟩, cap_lim, cap_lim, fun H3 x3 => ?_⟩
          walk_at "go"
          refine r_if2 (fun e2 => ?_) (fun e2 => ?_)
          · have hgt : ((ee : Nat) : Int) < (e1 : Nat) := of_decide_eq_true e2
            refine r_turn ?_
            walk_at "go"
            refine ⟨ys.length - (n + 1), by omega, n + 1, rfl, x2.trans x3, by omega, rfl, fun j q hj hjq => ?_⟩
            rcases Nat.lt_or_ge j n with z | z
            · exact h1 j q z hjq
            · have : j = n := by omega
              subst this
              rw [hq1] at hjq
              injection hjq with hjq
              subst hjq
              show ee < e1
              omega
          · have hle : ¬ ((ee : Nat) : Int) < (e1 : Nat) := of_decide_eq_false e2
            refine hN _ _ ⟨n, rfl, x2.trans x3, hn, h1, fun q hq => ?_⟩
            rw [hq1] at hq
            injection hq with hq
            subst hq
            show e1 ≤ ee
            omega
        · have hge : ¬ ((n : Nat) : Int) < ((ys.length : Nat) : Int) := of_decide_eq_false e
          walk_at "go"
          refine hN _ _ ⟨n, rfl, x2, hn, h1, fun q hq => ?_⟩
          have := (List.getElem?_eq_some_iff.mp hq).1
          omega
    · rintro σ H' ⟨⟨c, e, a, rfl⟩, x1, ys, rf, hys, hrf, hd, hpm⟩
      walk_at "go"
      have e1 : rows.take xs.length = rows := by rw [prd_len hrows, List.take_length]
      rw [e1] at hpm
      exact q f H' ys rf x1 hys (hrf.ex (Ex.hide H' f)) hd hpm
end
end PW
/-! ### gathered -/
namespace PW
open PySem PySem.Spec PyProof.Rows L2
theorem SqT.hideL {K : PySem.W.Frag} {H : Hp} {A p : Addr} {zs xs : List V} (hA : H A = some (.lst zs)) (h : SqT K H p xs) : SqT K (PW.hide H A) p xs := by
  have ne : ∀ o, H p = some o → o ≠ .lst zs → p ≠ A := fun o e n e2 => by
    subst e2
    rw [e] at hA
    injection hA with hA
    exact n hA
  rcases h with (h | ⟨o, h⟩) | h
  · exact .inl (.inl ((hide_ne (ne _ h (by intro z; cases z))).trans h))
  · exact .inl (.inr ⟨o, (hide_ne (ne _ h (by intro z; cases z))).trans h⟩)
  · exact .inr h
theorem IsT.hideL {K : PySem.W.Frag} {H : Hp} {A : Addr} {zs : List V} (hA : H A = some (.lst zs)) : ∀ {d : Nat} {S : Sz} {a : Addr} {v : Int}, IsT K cap H d S a v → IsT K cap (PW.hide H A) d S a v
  | 0, _, _, _, h => h.elim
  | d + 1, S, a, v, h => by
    obtain ⟨dx, low, p, share, xs, rows, h1, h2, h3, h4⟩ := h
    have n1 : a ≠ A := ne_of h1 hA (by intro z; cases z)
    refine ⟨dx, low, p, share, xs, rows, (hide_ne n1).trans h1, SqT.hideL hA h2, L2.Paired.mapP h3 fun y q hq => ?_, h4⟩
    obtain ⟨t, r, e, k1, k2⟩ := hq
    exact ⟨t, r, e, SqT.hideL hA k1, IsT.hideL hA k2⟩
theorem RowsV.hideL {K : PySem.W.Frag} {H : Hp} {A : Addr} {zs : List V} (hA : H A = some (.lst zs)) {d : Nat} {xs : List V} {rows : Rw} (h : RowsV K cap H d xs rows) : RowsV K cap (PW.hide H A) d xs rows :=
  L2.Paired.mapP h fun _ _ hq => by
    obtain ⟨t, r, e, k1, k2⟩ := hq
    exact ⟨t, r, e, SqT.hideL hA k1, k2.hideL hA⟩
theorem prd_snoc {α β : Type} {F : α → β → Prop} : ∀ {xs : List α} {ys : List β}, Paired F xs ys → xs ≠ [] → ∃ xs' x ys' y, xs = xs' ++ [x] ∧ ys = ys' ++ [y] ∧ Paired F xs' ys' ∧ F x y
  | _, _, .nil, h => absurd rfl h
  | _, _, .cons (a := a) (b := b) r .nil, _ => ⟨[], a, [], b, rfl, rfl, .nil, r⟩
  | _, _, .cons (a := a) (b := b) r (.cons r2 t), _ => by
    obtain ⟨xs', x, ys', y, e1, e2, e3, e4⟩ := prd_snoc (.cons r2 t) (List.cons_ne_nil _ _)
    exact ⟨a :: xs', x, b :: ys', y, by rw [e1]; rfl, by rw [e2]; rfl, .cons r e3, e4⟩
theorem drop_cons {α : Type} {xs : List α} {i : Nat} {x : α} (h : xs[i]? = some x) : xs.drop i = x :: xs.drop (i + 1) := by
  obtain ⟨hl, e⟩ := List.getElem?_eq_some_iff.mp h
  rw [List.drop_eq_getElem_cons hl, e]
/-- what is gathered so far (ap, the greatest last), and what is left -/
structure GI (Z N : Nat) (tot : Int) (ap : Rw) (lo : Int) (rest : Rw) : Prop where
  far : Far ap.reverse lo
  sum : sumR ap + lo + sumR rest = tot
  wt : wtR ap + bt lo + wtR rest ≤ Z
  len : ap.length + rest.length ≤ N
  le : ∀ q ∈ ap, ∀ q' ∈ rest, q.2 ≤ q'.2
  ord : rest.Pairwise fun a b => a.2 ≤ b.2
  nz : ∀ q ∈ rest, q.1 ≠ 0
theorem GI.low {Z N : Nat} {tot : Int} {lo c : Int} {e : Nat} {rest : Rw} (g : GI Z N tot [] lo ((c, e) :: rest)) (h : e ≤ bt lo + 256) : GI Z N tot [] (lo + c * 2 ^ e) rest := by
  have h1 := g.sum
  have h2 := g.wt
  have h3 := g.len
  have h4 := low_wt (c := c) (low := lo) h
  refine ⟨trivial, ?_, ?_, ?_, (fun _ z => nomatch z), (List.pairwise_cons.mp g.ord).2, fun q hq => g.nz q (List.mem_cons_of_mem _ hq)⟩
  · have h5 : sumR ([] : Rw) + lo + (c * 2 ^ e + sumR rest) = tot := h1
    omega
  · have h5 : wtR ([] : Rw) + bt lo + (bt c + 265 + wtR rest) ≤ Z := h2
    omega
  · have h5 : ([] : Rw).length + (rest.length + 1) ≤ N := h3
    omega
theorem GI.push {Z N : Nat} {tot : Int} {lo c : Int} {e : Nat} {ap rest : Rw} (g : GI Z N tot ap lo ((c, e) :: rest)) (h : limR ap.reverse lo < e) : GI Z N tot (ap ++ [(c, e)]) lo rest := by
  have h1 := g.sum
  have h2 := g.wt
  have h3 := g.len
  have ho := List.pairwise_cons.mp g.ord
  refine ⟨?_, ?_, ?_, ?_, ?_, ho.2, fun q hq => g.nz q (List.mem_cons_of_mem _ hq)⟩
  · rw [List.reverse_append]
    exact ⟨g.nz (c, e) (List.mem_cons_self ..), h, g.far⟩
  · rw [sumR_append]
    have h5 : sumR ap + lo + (c * 2 ^ e + sumR rest) = tot := h1
    show sumR ap + (c * 2 ^ e + 0) + lo + sumR rest = tot
    omega
  · rw [wtR_append]
    have h5 : wtR ap + bt lo + (bt c + 265 + wtR rest) ≤ Z := h2
    show wtR ap + (bt c + 265 + 0) + bt lo + wtR rest ≤ Z
    omega
  · have h5 : ap.length + (rest.length + 1) ≤ N := h3
    rw [List.length_append]
    show ap.length + 1 + rest.length ≤ N
    omega
  · intro q hq q' hq'
    rcases List.mem_append.mp hq with hq | hq
    · exact g.le q hq q' (List.mem_cons_of_mem _ hq')
    · rw [List.mem_singleton] at hq
      subst hq
      exact ho.1 q' hq'
theorem GI.merge {Z N : Nat} {tot : Int} {lo c f : Int} {l g : Nat} {ap rest : Rw} (q : GI Z N tot (ap ++ [(f, l)]) lo ((c, l + g) :: rest)) (h : g ≤ bt f + 8) (hf : f + c * 2 ^ g ≠ 0) : GI Z N tot (ap ++ [(f + c * 2 ^ g, l)]) lo rest := by
  have h0 := q.far
  have h1 := q.sum
  have h2 := q.wt
  have h3 := q.len
  have h4 := put_wt (c := c) (f := f) h
  have h6 := put_sum (c := c) (f := f) (g := g) (l := l)
  have ho := List.pairwise_cons.mp q.ord
  rw [List.reverse_append] at h0
  rw [sumR_append] at h1
  rw [wtR_append] at h2
  rw [List.length_append] at h3
  refine ⟨?_, ?_, ?_, ?_, ?_, ho.2, fun z hz => q.nz z (List.mem_cons_of_mem _ hz)⟩
  · rw [List.reverse_append]
    exact far_put hf h0
  · rw [sumR_append]
    have h5 : sumR ap + (f * 2 ^ l + 0) + lo + (c * 2 ^ (l + g) + sumR rest) = tot := h1
    show sumR ap + ((f + c * 2 ^ g) * 2 ^ l + 0) + lo + sumR rest = tot
    rw [h6]
    omega
  · rw [wtR_append]
    have h5 : wtR ap + (bt f + 265 + 0) + bt lo + (bt c + 265 + wtR rest) ≤ Z := h2
    show wtR ap + (bt (f + c * 2 ^ g) + 265 + 0) + bt lo + wtR rest ≤ Z
    omega
  · rw [List.length_append]
    have h5 : ap.length + 1 + (rest.length + 1) ≤ N := h3
    show ap.length + 1 + rest.length ≤ N
    omega
  · intro z hz z' hz'
    rcases List.mem_append.mp hz with hz | hz
    · exact q.le z (List.mem_append_left _ hz) z' (List.mem_cons_of_mem _ hz')
    · rw [List.mem_singleton] at hz
      subst hz
      exact q.le (f, l) (List.mem_append_right _ (List.mem_singleton.mpr rfl)) z' (List.mem_cons_of_mem _ hz')
theorem far_tail {q : Int × Nat} : ∀ {r : Rw} {low : Int}, Far (q :: r) low → Far r low
  | _, _, h => h.2.2
theorem GI.gone {Z N : Nat} {tot : Int} {lo c f : Int} {l g : Nat} {ap rest : Rw} (q : GI Z N tot (ap ++ [(f, l)]) lo ((c, l + g) :: rest)) (hf : f + c * 2 ^ g = 0) : GI Z N tot ap lo rest := by
  have h0 := q.far
  have h1 := q.sum
  have h2 := q.wt
  have h3 := q.len
  have h6 := put_sum (c := c) (f := f) (g := g) (l := l)
  rw [hf, Int.zero_mul] at h6
  have ho := List.pairwise_cons.mp q.ord
  rw [List.reverse_append] at h0
  rw [sumR_append] at h1
  rw [wtR_append] at h2
  rw [List.length_append] at h3
  refine ⟨far_tail h0, ?_, ?_, ?_, fun z hz z' hz' => q.le z (List.mem_append_left _ hz) z' (List.mem_cons_of_mem _ hz'), ho.2, fun z hz => q.nz z (List.mem_cons_of_mem _ hz)⟩
  · have h5 : sumR ap + (f * 2 ^ l + 0) + lo + (c * 2 ^ (l + g) + sumR rest) = tot := h1
    omega
  · have h5 : wtR ap + (bt f + 265 + 0) + bt lo + (bt c + 265 + wtR rest) ≤ Z := h2
    omega
  · have h5 : ap.length + 1 + (rest.length + 1) ≤ N := h3
    omega
def spGathered (K : PySem.W.Frag) (cap : Sz) (d : Nat) : Sp := fun vs H Q _ => ∃ p lo xs rows, vs = [.ref p, .int lo] ∧ SqL K H p xs ∧ RowsV K cap H d xs rows ∧ rows.length ≤ 2400 ∧ (∀ q ∈ rows, q.1 ≠ 0) ∧ wtR rows + bt lo ≤ 20000000 ∧
  ∀ r H' A ys ap lo', Ex H H' → SqT K H' r [.ref A, .int lo'] → SqL K H' A ys → RowsV K cap H' d ys ap → Far ap lo' → sumR ap + lo' = sumR rows + lo → wtR ap + bt lo' ≤ wtR rows + bt lo → ap.length ≤ rows.length → Q (.ref r) H'
theorem sumR_perm {a b : Rw} (h : a.Perm b) : sumR a = sumR b := by
  induction h with
  | nil => rfl
  | cons x _ ih =>
    show x.1 * 2 ^ x.2 + sumR _ = x.1 * 2 ^ x.2 + sumR _
    rw [ih]
  | swap x y l =>
    show y.1 * 2 ^ y.2 + (x.1 * 2 ^ x.2 + sumR l) = x.1 * 2 ^ x.2 + (y.1 * 2 ^ y.2 + sumR l)
    omega
  | trans _ _ i1 i2 => exact i1.trans i2
theorem wtR_perm {a b : Rw} (h : a.Perm b) : wtR a = wtR b := by
  induction h with
  | nil => rfl
  | cons x _ ih =>
    show bt x.1 + 265 + wtR _ = bt x.1 + 265 + wtR _
    rw [ih]
  | swap x y l =>
    show bt y.1 + 265 + (bt x.1 + 265 + wtR l) = bt x.1 + 265 + (bt y.1 + 265 + wtR l)
    omega
  | trans _ _ i1 i2 => exact i1.trans i2
theorem smallV_nat (e : Nat) : smallV (e : Int) = if e < 2 ^ 64 then .int e else .non := by
  unfold smallV
  rw [Int.natAbs_natCast]
theorem wt_mem {q : Int × Nat} : ∀ {rows : Rw}, q ∈ rows → bt q.1 + 265 ≤ wtR rows
  | [], h => nomatch h
  | z :: r, h => by
    show bt q.1 + 265 ≤ bt z.1 + 265 + wtR r
    rcases List.mem_cons.mp h with rfl | h
    · omega
    · have := wt_mem h
      omega
theorem cm_row {c : Int} {e : Nat} (h1 : bt c ≤ 30000000) (h2 : e ≤ 30000000) : CMulX c (2 ^ e) :=
  mulx_ok (a := bt c) (b := e + 1) (bt_self c) (by rw [two_nat]; exact Nat.pow_lt_pow_right (by decide) (by omega)) (by omega)
end PW
namespace PW
open PySem PySem.Spec PyProof.Rows L2
section
variable {P : Program} {w : World} {K : PySem.W.Frag} {mg : Str → Option Value} {base : Heap}
/-- an op of two numbers asks -/
theorem rOwn_num {C a : Addr} {y : V} {d : Nat} {S S2 : Sz} {v u : Int} {sp : Sp} {E : XK} {H : Hp} {Q : VK} (hC : C = TwC K) (ha : IsT K cap H d S a v) (hy : NumV K cap H d S2 y u) (q : sp [.ref a, y] H Q E) : rOwnB C sp E (.ref a) y H Q := by
  subst hC
  obtain ⟨dx, fs, h⟩ := ha.ins
  refine ⟨a, dx, fs, rfl, h, ?_, q⟩
  rcases hy with ⟨b, rfl, hb⟩ | ⟨rfl, _⟩
  · obtain ⟨dy, gs, h2⟩ := hb.ins
    exact .inr ⟨b, dy, gs, rfl, h2⟩
  · exact .inl ⟨u, rfl⟩
theorem ok_gathered {k d : Nat} {cap : Sz} (cap_lim : cap.Le LIM) (T : Txt K mg)
    (G_ordered : FnOk P w K mg base CX0 k (He.ga K "ordered") (fdOf K (He.ga K "ordered")) p_ordered (spOrdered K cap d))
    (G_bits : FnOk P w K mg base CX0 k (He.ga K "bits") (fdOf K (He.ga K "bits")) p_bits spBits)
    (G_doubled : FnOk P w K mg base CX0 k (He.ga K "doubled") (fdOf K (He.ga K "doubled")) p_doubled spDoubled)
    (G_Tower_small : FnOk P w K mg base CX0 k (He.ma K (He.ga K "Tower") "small") (fdOf K (He.fAd K ("Tower", some "small"))) p_Tower_small (spSmall K))
    (G_Tower___sub__ : FnOk P w K mg base CX0 k (He.ma K (He.ga K "Tower") "__sub__") (fdOf K (He.fAd K ("Tower", some "__sub__"))) p_Tower___sub__ (spSub K cap d)) :
    FnOk P w K mg base CX0 (k + 1) (He.ga K "gathered") (fdOf K (He.ga K "gathered")) p_gathered (spGathered K cap d) := by
  refine FunD.ok T.d_gathered sc_gathered (fun vs H Q E h => ?_) (fun cdv A outer s H vs Q E hr h => ?_)
  · obtain ⟨p, lo, xs, rows, rfl, _⟩ := h
    rfl
  · obtain ⟨p, lo, xs, rows, rfl, hp, hrows, hl, hnz, hwt, q⟩ := h
    refine ⟨_, PSs.nox ((pss_cons (ps_set (i := 2) sc_gathered.nd rfl (Or.inl rfl) (pe_lst pa_nil))
    (pss_cons (ps_for PassesOwn.never rfl (pi_list (pe_revL (pe_call G_ordered hr rfl T.g_ordered T.d_ordered.kp (b_ordered T) .nil pass0 (pa_cons (pv 0) pa_nil)))) (pg_tup rfl (pgs_cons (pg_name (i := 3) sc_gathered.nd rfl (Or.inl rfl) (hf := by first | exact Or.inl rfl | exact Or.inr rfl)) (pgs_cons (pg_name (i := 4) sc_gathered.nd rfl (Or.inl rfl) (hf := by first | exact Or.inl rfl | exact Or.inr rfl)) pgs_nil)))
      (pss_cons (ps_if (pt_cmpR (PW.op_eqE hr.units0) (pv 2) (pe_lst pa_nil) (nomark _))
          (pss_cons (ps_set (i := 5) sc_gathered.nd rfl (Or.inl rfl) (pe_meth0 (pv 4) T.k_Tower T.m_Tower_small G_Tower_small hr (b_Tower_small T) .nil pass0))
            (pss_cons (ps_if (PW.pt (pw_and (pt_cmp (pc_notN (pv 5)) rfl) (pw_and1 (pt_cmpR op_le (pv 5) (pe_op op_add (pe_call G_bits hr rfl T.g_bits T.d_bits.kp (b_bits T) .nil pass0 (pa_cons (pv 1) pa_nil)) (pe_gint rfl T.c_PLAIN)) (nomark _)))))
              (pss_one (ps_set (i := 1) sc_gathered.nd rfl (Or.inl rfl) (pe_op op_add (pv 1) (pe_op op_mulX (pv 3) (pe_call G_doubled hr rfl T.g_doubled T.d_doubled.kp (b_doubled T) .nil pass0 (pa_cons (pv 5) pa_nil))))))
              (pss_one (ps_expr (pe_bm PySem.F.plainAttrs_list PySem.F.slot_list_append PySem.F.type_list_append mt_append (pv 2) (pa_cons (pe_tup (pa_cons (pv 3) (pa_cons (pv 4) pa_nil))) pa_nil)))))
            (pss_one ps_continue)))
          pss_nil)
        (pss_cons (ps_asg (pe_ix ix_list (pv 2) (pe_un un_neg pe_int) (fun _ _ => rfl)) (pg_tup rfl (pgs_cons (pg_name (i := 6) sc_gathered.nd rfl (Or.inl rfl) (hf := by first | exact Or.inl rfl | exact Or.inr rfl)) (pgs_cons (pg_name (i := 7) sc_gathered.nd rfl (Or.inl rfl) (hf := by first | exact Or.inl rfl | exact Or.inr rfl)) pgs_nil))))
        (pss_cons (ps_set (i := 5) sc_gathered.nd rfl (Or.inl rfl) (pe_meth0 (pe_op (PW.op_ownB T.o_Tower___sub__ G_Tower___sub__ hr (b_Tower___sub__ T) pass0) (pv 4) (pv 7)) T.k_Tower T.m_Tower_small G_Tower_small hr (b_Tower_small T) .nil pass0))
        (pss_cons (ps_if (PW.pt (pw_or (pt_cmp (pc_isN (pv 5)) rfl) (pw_or1 (pt_cmpR op_gt (pv 5) (pe_op op_add (pe_call G_bits hr rfl T.g_bits T.d_bits.kp (b_bits T) .nil pass0 (pa_cons (pv 6) pa_nil)) pe_int) (nomark _)))))
          (pss_cons (ps_expr (pe_bm PySem.F.plainAttrs_list PySem.F.slot_list_append PySem.F.type_list_append mt_append (pv 2) (pa_cons (pe_tup (pa_cons (pv 3) (pa_cons (pv 4) pa_nil))) pa_nil)))
            (pss_one ps_continue))
          pss_nil)
        (pss_cons (ps_set (i := 6) sc_gathered.nd rfl (Or.inl rfl) (pe_op op_add (pv 6) (pe_op op_mulX (pv 3) (pe_call G_doubled hr rfl T.g_doubled T.d_doubled.kp (b_doubled T) .nil pass0 (pa_cons (pv 5) pa_nil)))))
        (pss_cons (ps_expr (pe_bm0 PySem.F.plainAttrs_list PySem.F.slot_list_pop PySem.F.type_list_pop mt_pop (pv 2)))
        (pss_one (ps_if (pt_cmpR op_ne (pv 6) pe_int (nomark _))
          (pss_one (ps_expr (pe_bm PySem.F.plainAttrs_list PySem.F.slot_list_append PySem.F.type_list_append mt_append (pv 2) (pa_cons (pe_tup (pa_cons (pv 6) (pa_cons (pv 7) pa_nil))) pa_nil))))
          pss_nil)))))))))
    (pss_one (ps_ret (pe_tup (pa_cons (pe_revL (pv 2)) (pa_cons (pv 1) pa_nil)))))))), ?_⟩
    show tSeq _ _ _ [some (V.ref p), some (V.int lo), none, none, none, none, none, none] H
    walk_at "K"
    walk_at "go"
    intro A hA
    walk_at "go"
    refine ⟨p, xs, rows, rfl, (Ex.new hA).lst hp, hrows.ex (Ex.new hA), hl, fun r0 H2 ys rf x2 hr0 hrf hdesc hperm => ?_⟩
    have xA : Ex H H2 := (Ex.new hA).trans x2
    have hA2 : H2 A = some (.lst []) := x2 _ _ upd_same
    walk_at "go"
    intro L hL
    walk_at "go"
    have hAL : A ≠ L := ne_of_none hA2 hL
    have xB : Ex (PW.hide H2 A) (PW.hide (L2.upd H2 L (.lst ys.reverse)) A) := (Ex.new hL).hides A
    have hAB : (L2.upd H2 L (.lst ys.reverse)) A = some (.lst []) := (upd_ne hAL).trans hA2
    have hLB : PW.hide (L2.upd H2 L (.lst ys.reverse)) A L = some (.lst ys.reverse) := (hide_ne (Ne.symm hAL)).trans upd_same
    have hrB : RowsV K cap (PW.hide (L2.upd H2 L (.lst ys.reverse)) A) d ys.reverse rf.reverse := prd_rev ((hrf.hideL hA2).ex xB)
    have xH : Ex H (PW.hide (L2.upd H2 L (.lst ys.reverse)) A) := (xA.trans (Ex.new hL)).hideN hA
    generalize L2.upd H2 L (.lst ys.reverse) = Hb at hAB hLB hrB xH ⊢
    have hm : ∀ q, q ∈ rf.reverse ↔ q ∈ rows := fun q => by rw [List.mem_reverse]; exact hperm.mem_iff
    have g0 : GI (wtR rows + bt lo) rows.length (sumR rows + lo) [] lo rf.reverse := by
      refine ⟨trivial, ?_, ?_, ?_, (fun _ z => nomatch z), ?_, fun q hq => hnz q ((hm q).mp hq)⟩
      · rw [sumR_reverse, sumR_perm hperm]
        show (0 : Int) + lo + sumR rows = _
        omega
      · rw [wtR_reverse, wtR_perm hperm]
        show 0 + bt lo + wtR rows ≤ _
        omega
      · rw [List.length_reverse, hperm.length_eq]
        show 0 + rows.length ≤ _
        omega
      · exact List.pairwise_reverse.mpr hdesc
    have hlen : ys.reverse.length = rf.reverse.length := prd_len hrB
    generalize rf.reverse = asc at hrB g0 hm hlen
    clear hrf hdesc hperm hr0 xB x2 xA
    refine for_it (walk_list (xs := ys.reverse)) (fun i σ H' => (∃ (lo' : Int) (c e g f l : Option V), σ = [some (V.ref p), some (.int lo'), some (.ref A), c, e, g, f, l] ∧ Ex (PW.hide Hb A) (PW.hide H' A) ∧
      ∃ zs ap, H' A = some (.lst zs) ∧ RowsV K cap (PW.hide H' A) d zs ap ∧ GI (wtR rows + bt lo) rows.length (sumR rows + lo) ap lo' (asc.drop i))) ?_ (fun i σ H' _ h => ?_) ?_ ?_
    · exact ⟨lo, _, _, _, _, _, rfl, Ex.refl _, [], [], hAB, .nil, g0⟩
    · obtain ⟨_, _, _, _, _, _, _, x, _⟩ := h
      exact SqL.of (Ex.hide H' A _ _ (x _ _ hLB))
    · rintro i x σ H1 H1' hi ⟨lo', c0, e0, g0', f0, l0, rfl, x1, zs, ap, hz, hra, gi⟩ ⟨rfl, hx⟩
      obtain ⟨⟨cc, ee⟩, hq, t, r, rfl, kt, kr⟩ := prd_get hrB hx
      have xU : Ex (PW.hide Hb A) H1' := x1.trans (Ex.hide H1' A)
      have kt1 : SqT K H1' t [.int cc, .ref r] := xU.tup kt
      have kr1 := kr.ex xU
      obtain ⟨dx, fl, fp, fs, hri⟩ := kr1.ins'
      rw [drop_cons hq] at gi
      have gw := gi.wt
      have gw2 : wtR ap + bt lo' + (bt cc + 265 + wtR (asc.drop (i + 1))) ≤ wtR rows + bt lo := gw
      have gl := gi.len
      have gl2 : ap.length + ((asc.drop (i + 1)).length + 1) ≤ rows.length := gl
      have zl := prd_len hra
      have push : ∀ (H4 : Hp) (t2 : Addr) (g1 f1 l1 : Option V), Ex H1' H4 → H4 t2 = none → limR ap.reverse lo' < ee →
          ∃ (lo2 : Int) (c e g f l : Option V), [some (V.ref p), some (.int lo'), some (.ref A), some (.int cc), some (.ref r), g1, f1, l1] = [some (V.ref p), some (.int lo2), some (.ref A), c, e, g, f, l] ∧ Ex (PW.hide Hb A) (PW.hide (L2.upd (L2.upd H4 t2 (.tup [.int cc, .ref r])) A (.lst (zs ++ [.ref t2]))) A) ∧
      ∃ zs2 ap2, (L2.upd (L2.upd H4 t2 (.tup [.int cc, .ref r])) A (.lst (zs ++ [.ref t2]))) A = some (.lst zs2) ∧ RowsV K cap (PW.hide (L2.upd (L2.upd H4 t2 (.tup [.int cc, .ref r])) A (.lst (zs ++ [.ref t2]))) A) d zs2 ap2 ∧ GI (wtR rows + bt lo) rows.length (sumR rows + lo) ap2 lo2 (asc.drop (i + 1)) := by
        intro H4 t2 g1 f1 l1 x4 ht2 hlim
        have xx : Ex H1' (L2.upd H4 t2 (.tup [.int cc, .ref r])) := x4.trans (Ex.new ht2)
        have tA : t2 ≠ A := Ne.symm (ne_of_none (x4 _ _ hz) ht2)
        refine ⟨lo', _, _, _, _, _, rfl, ?_, _, ap ++ [(cc, ee)], upd_same, ?_, gi.push hlim⟩
        · rw [hide_upd]
          exact x1.trans (xx.hides A)
        · rw [hide_upd]
          exact prd_append (hra.ex (xx.hides A)) (.cons ⟨t2, r, rfl, SqT.of ((hide_ne tA).trans upd_same), kr.ex (x1.trans (xx.hides A))⟩ .nil)
      walk_at "go"
      intro p0 hp0
      walk_at "go"
      by_cases hz0 : zs = []
      · subst hz0
        have ha0 : ap = [] := List.eq_nil_of_length_eq_zero (by rw [← zl]; rfl)
        subst ha0
        refine r_ifT' rfl ?_
        walk_at "go"
        refine ⟨cap, r, d, cap, _, rfl, kr1.ex (Ex.new hp0), fun H3 x3 => ?_⟩
        have x13 : Ex H1' H3 := (Ex.new hp0).trans x3
        rw [smallV_nat]
        have hA3 := x13 _ _ hz
        by_cases h64 : ee < 2 ^ 64
        · rw [if_pos h64]
          walk_at "go"
          refine ⟨lo', rfl, ?_⟩
          walk_at "go"
          refine r_if2 (fun e => ?_) (fun e => ?_)
          · have hle : ((ee : Nat) : Int) ≤ (bt lo' : Nat) + 256 := of_decide_eq_true e
            have cm : CMulX cc (2 ^ ee) := cm_row (by omega) (by omega)
            walk_at "go"
            refine ⟨ee, rfl, by omega, ?_⟩
            walk_at "go"
            exact ⟨_, _, _, _, _, _, rfl, x1.trans (x13.hides A), [], [], hA3, .nil, gi.low (by omega)⟩
          · have hgt : ¬ ((ee : Nat) : Int) ≤ (bt lo' : Nat) + 256 := of_decide_eq_false e
            walk_at "go"
            intro t2 ht2
            walk_at "go"
            exact push H3 t2 _ _ _ x13 ht2 (by show bt lo' + 256 < ee; omega)
        · rw [if_neg h64]
          walk_at "go"
          intro t2 ht2
          walk_at "go"
          exact push H3 t2 _ _ _ x13 ht2 (by show bt lo' + 256 < ee; omega)
      · obtain ⟨zs', z, ap', ⟨f, l⟩, rfl, rfl, hra', t1, r1, rfl, kt', kr'⟩ := prd_snoc hra hz0
        have e0 : (zs' ++ [V.ref t1]).isEmpty = false := by simp
        rw [e0]
        walk_at "go"
        have hle : l ≤ ee := gi.le (f, l) (List.mem_append_right _ (List.mem_singleton.mpr rfl)) (cc, ee) (List.mem_cons_self ..)
        obtain ⟨g, rfl⟩ : ∃ g, ee = l + g := ⟨ee - l, by omega⟩
        have hzl : (zs' ++ [V.ref t1]).length = zs'.length + 1 := by rw [List.length_append]; rfl
        have hal : (ap' ++ [(f, l)]).length = ap'.length + 1 := by rw [List.length_append]; rfl
        have hwf : wtR (ap' ++ [(f, l)]) = wtR ap' + (bt f + 265 + 0) := wtR_append _ _
        have hlr : limR (ap' ++ [(f, l)]).reverse lo' = l + bt f + 8 := by rw [List.reverse_append]; rfl
        have x0 : Ex H1' (L2.upd H1' p0 (.lst [])) := Ex.new hp0
        have hA0 := x0 _ _ hz
        have kt2 : SqT K (L2.upd H1' p0 (.lst [])) t1 [.int f, .ref r1] := ((Ex.hide H1' A).trans x0).tup kt'
        have kr2 := kr'.ex ((Ex.hide H1' A).trans x0)
        refine r_ixL (SqL.of hA0) (atI_last _ _) ?_
        walk_at "go"
        refine rOwn_num rfl (kr1.ex x0) (.inl ⟨r1, rfl, kr2⟩) ?_
        refine ⟨r, .ref r1, cap, cap, _, _, rfl, kr1.ex x0, .inl ⟨r1, rfl, kr2⟩, cap_lim, cap_lim, fun r3 H3 x3 k3 => ?_⟩
        obtain ⟨dx3, fl3, fp3, fs3, hri3⟩ := k3.ins'
        walk_at "go"
        refine ⟨cap, r3, d, _, _, rfl, k3, fun H4 x4 => ?_⟩
        have x14 : Ex H1' H4 := (x0.trans x3).trans x4
        have hA4 := x14 _ _ hz
        have eg : ((l + g : Nat) : Int) - (l : Nat) = (g : Nat) := by omega
        rw [eg, smallV_nat]
        have hl4 : (zs' ++ [V.ref t1]).length < sizeLine := Nat.lt_of_lt_of_le (show (zs' ++ [V.ref t1]).length < 10000 by omega) (by decide)
        by_cases h64 : g < 2 ^ 64
        · rw [if_pos h64]
          walk_at "go"
          refine ⟨f, rfl, ?_⟩
          walk_at "go"
          refine r_if2 (fun e => ?_) (fun e => ?_)
          · have hgt := of_decide_eq_true e
            walk_at "go"
            intro t2 ht2
            have hA5 : (L2.upd H4 t2 (.tup [.int cc, .ref r])) A = some (.lst (zs' ++ [V.ref t1])) := (upd_ne (ne_of_none hA4 ht2)).trans hA4
            walk_at "go"
            refine r_append hA5 hl4 ?_
            walk_at "go"
            exact push H4 t2 _ _ _ x14 ht2 (by rw [hlr]; omega)
          · have hgt := of_decide_eq_false e
            have cm : CMulX cc (2 ^ g) := cm_row (by omega) (by omega)
            walk_at "go"
            refine ⟨g, rfl, by omega, ?_⟩
            walk_at "go"
            refine r_pop (y := .ref t1) hA4 (by rw [hzl]; simp) ?_
            rw [List.dropLast_concat]
            walk_at "go"
            refine r_if2 (fun e => ?_) (fun e => ?_)
            · have hf0 : f + cc * 2 ^ g ≠ 0 := fun z => by
                rw [z] at e
                exact absurd e (by decide)
              walk_at "go"
              intro t2 ht2
              have hA6 : (L2.upd (L2.upd H4 A (.lst zs')) t2 (.tup [.int (f + cc * 2 ^ g), .ref r1])) A = some (.lst zs') := (upd_ne (ne_of_none upd_same ht2)).trans upd_same
              have hl6 : zs'.length < sizeLine := Nat.lt_of_lt_of_le (show zs'.length < 10000 by omega) (by decide)
              walk_at "go"
              refine r_append hA6 hl6 ?_
              walk_at "go"
              have tA : t2 ≠ A := Ne.symm (ne_of_none upd_same ht2)
              have ht3 : (PW.hide H4 A) t2 = none := by
                rw [upd_ne tA] at ht2
                exact (hide_ne tA).trans ht2
              have xx : Ex (PW.hide H1' A) (PW.hide (L2.upd (L2.upd H4 A (.lst zs')) t2 (.tup [.int (f + cc * 2 ^ g), .ref r1])) A) := by
                refine (x14.hides A).trans fun a o ha => ?_
                have na : a ≠ A := fun z => by
                  rw [z, hide_same] at ha
                  cases ha
                rw [hide_ne na, upd_ne (ne_of_none ha ht3), upd_ne na]
                rw [hide_ne na] at ha
                exact ha
              refine ⟨lo', _, _, _, _, _, rfl, ?_, _, ap' ++ [(f + cc * 2 ^ g, l)], upd_same, ?_, gi.merge (by omega) hf0⟩
              · rw [hide_upd]
                exact x1.trans xx
              · rw [hide_upd]
                exact prd_append (RowsV.ex xx hra') (.cons ⟨t2, r1, rfl, SqT.of ((hide_ne tA).trans upd_same), kr'.ex xx⟩ .nil)
            · have hf0 : f + cc * 2 ^ g = 0 := by
                have := of_decide_eq_true (show decide (V.int (f + cc * 2 ^ g) = V.int 0) = true by
                  rw [Bool.not_eq_false'] at e
                  exact e)
                exact V.int.inj this
              walk_at "go"
              refine ⟨lo', _, _, _, _, _, rfl, ?_, _, ap', upd_same, ?_, gi.gone hf0⟩
              · rw [hide_upd]
                exact x1.trans (x14.hides A)
              · rw [hide_upd]
                exact RowsV.ex (x14.hides A) hra'
        · rw [if_neg h64]
          walk_at "go"
          intro t2 ht2
          have hA5 : (L2.upd H4 t2 (.tup [.int cc, .ref r])) A = some (.lst (zs' ++ [V.ref t1])) := (upd_ne (ne_of_none hA4 ht2)).trans hA4
          walk_at "go"
          refine r_append hA5 hl4 ?_
          walk_at "go"
          exact push H4 t2 _ _ _ x14 ht2 (by rw [hlr]; omega)
    · rintro σ H' ⟨lo', c0, e0, g0', f0, l0, rfl, x1, zs, ap, hz, hra, gi⟩
      rw [hlen, List.drop_length] at gi
      walk_at "go"
      intro R hR
      walk_at "go"
      intro r hr'
      have x3 : Ex H' (L2.upd (L2.upd H' R (.lst zs.reverse)) r (.tup [.ref R, .int lo'])) := (Ex.new hR).trans (Ex.new hr')
      have xU : Ex H (L2.upd (L2.upd H' R (.lst zs.reverse)) r (.tup [.ref R, .int lo'])) := ((xH.trans x1).trans (Ex.hide H' A)).trans x3
      have g1 := gi.sum
      have g2 := gi.wt
      have g3 := gi.len
      refine q r _ R zs.reverse ap.reverse lo' xU (SqT.of upd_same) (SqL.of ((Ex.new hr') _ _ upd_same)) (prd_rev (hra.ex ((Ex.hide H' A).trans x3))) gi.far ?_ ?_ ?_
      · rw [sumR_reverse]
        have : sumR ap + lo' + 0 = sumR rows + lo := g1
        omega
      · rw [wtR_reverse]
        have : wtR ap + bt lo' + 0 ≤ wtR rows + bt lo := g2
        omega
      · rw [List.length_reverse]
        have : ap.length + 0 ≤ rows.length := g3
        omega
end
end PW
/-! ### settled -/
namespace PW
open PySem PySem.Spec PyProof.Rows L2
theorem lc_itW {J : It} {n : Nat} {G : Hp → Prop} {Y : Nat → Hp → V → Hp → Prop} (w : Walk J n G Y) {g : TG} {tt : TT} {te : TE} {vs : List Nat} {σ σw : L2.St} {H1 : Hp} {D : Addr} {Qd : Hp → Prop} (hw : wipe σ vs = σw) (Pv : Nat → Hp → Prop) (h0 : Pv 0 (upd H1 D (.lst []))) (hG : ∀ i H, i ≤ n → Pv i H → G H)
    (hs : ∀ i x H H', i < n → Pv i H → Y i H x H' → g x σw H' fun σ2 H2 => wipe σ2 vs = σw ∧ tt σ2 H2 fun b H3 =>
      if b = true then te σ2 H3 fun y H4 => ∃ acc, H4 D = some (.lst acc) ∧ acc.length < sizeLine ∧ Pv (i + 1) (upd H4 D (.lst (acc ++ [y]))) else Pv (i + 1) H3) (hd : ∀ H, Pv n H → Qd H) : LcW J g tt te vs σ H1 D Qd := by
  subst hw
  exact lc_it w Pv h0 hG hs hd
theorem prd_of {α β : Type} {F : α → β → Prop} : ∀ {xs : List α} {ys : List β}, xs.length = ys.length → (∀ (i : Nat) x y, xs[i]? = some x → ys[i]? = some y → F x y) → Paired F xs ys
  | [], [], _, _ => .nil
  | [], _ :: _, h, _ => nomatch h
  | _ :: _, [], h, _ => nomatch h
  | x :: xs, y :: ys, h, f => .cons (f 0 x y rfl rfl) (prd_of (Nat.succ.inj h) fun i a b h1 h2 => f (i + 1) a b h1 h2)
theorem nz_snoc (a : Rw) (c : Int) (e : Nat) : nz (a ++ [(c, e)]) = nz a ++ (if c = 0 then [] else [(c, e)]) := by
  unfold nz
  rw [List.filter_append]
  by_cases h : c = 0
  · subst h
    rfl
  · rw [if_neg h]
    have : (List.filter (fun q : Int × Nat => q.1 != 0) [(c, e)]) = [(c, e)] := by
      rw [List.filter_cons, if_pos (by simpa using h)]
      rfl
    rw [this]
theorem take_snoc {α : Type} {xs : List α} {i : Nat} {x : α} (h : xs[i]? = some x) : xs.take (i + 1) = xs.take i ++ [x] := by
  rw [List.take_add_one, h]
  rfl
theorem nz_len (a : Rw) : (nz a).length ≤ a.length := List.length_filter_le _ _
theorem nz_ne {a : Rw} {q : Int × Nat} (h : q ∈ nz a) : q.1 ≠ 0 := by
  have := (List.mem_filter.mp h).2
  simpa using this
theorem log_share {g s : Int} {m : Nat} (h0 : 0 < g) (h : g ≤ s) (hs : s.toNat ≤ 2 ^ m) (hm : m ≤ 2400) : g.natAbs.log2 < 9000 := by
  have h2 : g.natAbs ≤ 2 ^ m := by omega
  have h3 : g.natAbs < 2 ^ 2401 := Nat.lt_of_le_of_lt h2 (Nat.pow_lt_pow_right (by decide) (by omega))
  exact Nat.lt_trans (PySem.Flt.log2_lt_of (by decide) h3) (by decide)
theorem far_le : ∀ {r : Rw} {c : Int} {e : Nat} {low : Int}, Far ((c, e) :: r) low → ∀ q ∈ (c, e) :: r, q.2 ≤ e
  | r, c, e, low, h, q, hq => by
    rcases List.mem_cons.mp hq with rfl | hq
    · exact Nat.le_refl _
    · cases r with
      | nil => cases hq
      | cons z r =>
        obtain ⟨c', e'⟩ := z
        have h1 : e' + bt c' + 8 < e := h.2.1
        have := far_le (r := r) (c := c') (e := e') h.2.2 q hq
        omega
theorem sum_int (a : Rw) : (a.map fun q => q.1 * 2 ^ q.2).sum = sumR a := by
  induction a with
  | nil => rfl
  | cons q r ih =>
    rw [List.map_cons, List.sum_cons, ih]
    rfl
def spSettled (K : PySem.W.Frag) (cap : Sz) (d : Nat) : Sp := fun vs H Q _ => ∃ p lo sh xs rows m v, vs = [.ref p, .int lo, .int sh] ∧ SqL K H p xs ∧ RowsV K cap H d xs rows ∧ rows.length ≤ 2400 ∧ wtR rows + bt lo ≤ 20000000 ∧ 0 < sh ∧ sh.toNat ≤ 2 ^ m ∧ m ≤ 2400 ∧ v * sh = sumR rows + lo ∧
  ∀ r H', Ex H H' → IsT K cap H' (d + 1) ⟨wtR rows + bt lo, rows.length, m⟩ r v → Q (.ref r) H'
theorem div_exact {v s a : Int} (hs : 0 < s) (h : v * s = a) : a / s = v := by
  rw [← h]
  exact Int.mul_ediv_cancel _ (by omega)
theorem toNat_le_div {s g : Int} {m : Nat} (hg : 0 < g) (h0 : 0 < s) (h : s.toNat ≤ 2 ^ m) : (s / g).toNat ≤ 2 ^ m := by
  have : s / g ≤ s := Int.ediv_le_self _ (Int.le_of_lt h0)
  omega
theorem div_pos {s g : Int} (hg : 0 < g) (h0 : 0 < s) (h : g ∣ s) : 0 < s / g := by
  have e1 : s / g * g = s := Int.ediv_mul_cancel h
  by_cases q0 : 0 < s / g
  · exact q0
  · have q : s / g ≤ 0 := by omega
    have : s / g * g ≤ 0 := Int.mul_nonpos_of_nonpos_of_nonneg q (Int.le_of_lt hg)
    omega
theorem settle_val {ap : Rw} {low share g v : Int} (hg : 0 < g) (hs : g ∣ share) (hl : g ∣ low) (ha : ∀ q ∈ ap, g ∣ q.1) (hv : v * share = sumR ap + low) : v * (share / g) = sumR (divR g ap) + low / g := by
  have e1 : share / g * g = share := Int.ediv_mul_cancel hs
  have e2 : low / g * g = low := Int.ediv_mul_cancel hl
  have e3 := sumR_div ha
  have : v * (share / g) * g = (sumR (divR g ap) + low / g) * g := by rw [Int.mul_assoc, e1, Int.add_mul, e2, e3, hv]
  exact Int.eq_of_mul_eq_mul_right (by omega) this
theorem bt_share {s : Int} {m : Nat} (h0 : 0 < s) (h : s.toNat ≤ 2 ^ m) : bt s ≤ m + 1 := bt_le.mpr (Nat.lt_of_le_of_lt (show s.natAbs ≤ 2 ^ m by omega) (Nat.pow_lt_pow_right (by decide) (Nat.lt_succ_self m)))
section
variable {P : Program} {w : World} {K : PySem.W.Frag} {mg : Str → Option Value} {base : Heap}
theorem mk_rows {cap : Sz} {H : Hp} {d : Nat} {S : Sz} {lo sh v : Int} {rws : Rw} {xs vs zs : List V} {gV : List V → List V → List V} {Q : VK} {E : XK} {tp : Addr} (ht : SqT K H tp xs) (hr : RowsV K cap H d xs rws) (w : Wf S lo rws sh v) (q : ∀ r H', Ex H H' → IsT K cap H' (d + 1) S r v → Q (.ref r) H')
    (hg : ∀ x : Addr, gV (.ref x :: vs) zs = [.ref x, .int lo, .ref tp, .int sh] := by intro x; rfl) : MkKN (TwC K) (spInit K) gV vs zs E Q H := fun x dx hx hd hn => by
  rw [hg]
  exact init_made ⟨rfl, q _ _ (ex_made hx hd hn) ⟨dx, lo, tp, sh, xs, rws, upd_same, (ex_made hx hd hn).tup ht, RowsV.ex (ex_made hx hd hn) hr, w⟩⟩
theorem mk_plain {cap : Sz} {H : Hp} {d : Nat} {S : Sz} {i : Int} {Q : VK} {E : XK} {e : Addr} (he : ∀ H, SqT K H e []) (hS : Sz.Le ⟨bt i, 0, 0⟩ S) (q : ∀ r H', Ex H H' → IsT K cap H' (d + 1) S r i → Q (.ref r) H') :
    MkN (TwC K) (spInit K) [.int i, .ref e, .int 1] E Q H := fun x dx hx hd hn =>
  init_made ⟨rfl, q _ _ (ex_made hx hd hn) (((isT_plain hx hd hn he).mono hS).deep (by omega))⟩
theorem ok_settled {k d : Nat} {cap : Sz} (T : Txt K mg)
    (G_gathered : FnOk P w K mg base CX0 (k + 1) (He.ga K "gathered") (fdOf K (He.ga K "gathered")) p_gathered (spGathered K cap d))
    (G_bits : FnOk P w K mg base CX0 (k + 1) (He.ga K "bits") (fdOf K (He.ga K "bits")) p_bits spBits)
    (G_doubled : FnOk P w K mg base CX0 (k + 1) (He.ga K "doubled") (fdOf K (He.ga K "doubled")) p_doubled spDoubled)
    (G_common : FnOk P w K mg base CX0 (k + 1) (He.ga K "common") (fdOf K (He.ga K "common")) p_common spCommon)
    (G_Tower_small : FnOk P w K mg base CX0 (k + 1) (He.ma K (He.ga K "Tower") "small") (fdOf K (He.fAd K ("Tower", some "small"))) p_Tower_small (spSmall K))
    (G_Tower___init__ : FnOk P w K mg base CX0 k (He.ma K (He.ga K "Tower") "__init__") (fdOf K (He.fAd K ("Tower", some "__init__"))) p_Tower___init__ (spInit K)) :
    FnOk P w K mg base CX0 (k + 2) (He.ga K "settled") (fdOf K (He.ga K "settled")) p_settled (spSettled K cap d) := by
  refine FunD.ok T.d_settled sc_settled (fun vs H Q E h => ?_) (fun cdv A outer s H vs Q E hr h => ?_)
  · obtain ⟨p, lo, sh, xs, rows, m, v, rfl, _⟩ := h
    rfl
  · obtain ⟨p, lo, sh, xs, rows, m, v, rfl, hp, hrows, hl, hwt, hsh, hs2, hm, hv, q⟩ := h
    refine ⟨_, PSs.nox ((pss_cons (ps_asg (pe_call G_gathered hr rfl T.g_gathered T.d_gathered.kp (b_gathered T) .nil pass0 (pa_cons (pe_lc (own := [("part", 9)]) rfl sc_settled.nd (pi_list (pv 0)) (blkOk_by (own := [("part", 9)]) (N := n_settled) (sc := defScope s_settled) (by decide +kernel)) (fun _ _ _ _ _ => (pg_name (i := 9) sc_settled.nd rfl (Or.inl rfl) (hf := by first | exact Or.inl rfl | exact Or.inr rfl))) (fun _ _ _ _ _ => (pts_one (pt_cmpR op_ne (pe_ix (PW.ix_seqK (K := K) rfl) (pv 9) pe_int (fun _ _ => rfl)) pe_int (nomark _)))) (fun _ _ _ _ _ => (pv 9))) (pa_cons (pv 1) pa_nil))) (pg_tup rfl (pgs_cons (pg_name (i := 3) sc_settled.nd rfl (Or.inl rfl) (hf := by first | exact Or.inl rfl | exact Or.inr rfl)) (pgs_cons (pg_name (i := 1) sc_settled.nd rfl (Or.inl rfl) (hf := by first | exact Or.inl rfl | exact Or.inr rfl)) pgs_nil))))
    (pss_cons (ps_if (pt_cmpR (PW.op_eqE hr.units0) (pv 3) (pe_lst pa_nil) (nomark _))
      (pss_one (ps_ret (pe_make T.mk_Tower G_Tower___init__ hr rfl T.g_Tower (b_Tower___init___2 T) (dv_Tower___init___2 T) pass0 (pa_cons (pe_op op_fdivW (pv 1) (pv 2)) pa_nil))))
      pss_nil)
    (pss_cons (ps_set (i := 4) sc_settled.nd rfl (Or.inr rfl) (pe_call G_common hr rfl T.g_common T.d_common.kp (b_common T) .nil pass0 (pa_cons (pv 2) (pa_cons (pv 1) pa_nil))))
    (pss_cons (ps_for PassesOwn.never rfl (pi_list (pv 3)) (pg_tup rfl (pgs_cons (pg_name (i := 5) sc_settled.nd rfl (Or.inl rfl) (hf := by first | exact Or.inl rfl | exact Or.inr rfl)) (pgs_cons (pg_name (i := 6) sc_settled.nd rfl (Or.inl rfl) (hf := by first | exact Or.inl rfl | exact Or.inr rfl)) pgs_nil)))
      (pss_one (ps_set (i := 4) sc_settled.nd rfl (Or.inr rfl) (pe_call G_common hr rfl T.g_common T.d_common.kp (b_common T) .nil pass0 (pa_cons (pv 4) (pa_cons (pv 5) pa_nil))))))
    (pss_cons (ps_setLc (i := 7) (own := [("coefficient", 5), ("exponent", 6)]) (g := (gTup K 2 (gCons (gName 5) (gCons (gName 6) gNil)))) rfl sc_settled.nd rfl rfl (sw_true rfl rfl rfl (by decide +kernel)) (pi_list (pv 3)) (blkOk_by (own := [("coefficient", 5), ("exponent", 6)]) (N := n_settled) (sc := defScope s_settled) (by decide +kernel)) (fun _ _ _ _ _ => by (refine' PW.pg_tupX (K := K) ?a1 ?b1 ?c1 ?d1 ?h1; (case a1 => rfl); (case b1 => rfl); (case c1 => rfl); (case d1 => rfl); refine' PW.pgs_consX ?a2 ?b2 ?h2; (case a2 => rfl); (case b2 => (refine PW.pg_nameX 5 ?_ ?_ ?_ ?_; exact sc_settled.nd; rfl; (first | exact Or.inl rfl | exact Or.inr rfl); (first | exact Or.inl rfl | exact Or.inr rfl))); refine' PW.pgs_consX ?a3 ?b3 ?h3; (case a3 => rfl); (case b3 => (refine PW.pg_nameX 6 ?_ ?_ ?_ ?_; exact sc_settled.nd; rfl; (first | exact Or.inl rfl | exact Or.inr rfl); (first | exact Or.inl rfl | exact Or.inr rfl))); exact pgs_nil)) (fun _ _ _ _ _ => pts_nil) (fun _ _ _ _ _ => (pe_tup (pa_cons (pe_op op_fdivW (pv 5) (pv 4)) (pa_cons (pv 6) pa_nil)))))
    (pss_cons (ps_par (i := 1) (j := 2) (by rfl) sc_settled.nd rfl rfl (by decide) rfl rfl (pa_cons (pe_op op_fdivW (pv 1) (pv 4)) (pa_cons (pe_op op_fdivW (pv 2) (pv 4)) pa_nil)) (by rfl))
    (pss_cons (ps_set (i := 8) sc_settled.nd rfl (Or.inl rfl) (pe_meth0 (pe_ix ix_seq (pe_ix ix_list (pv 7) pe_int (fun _ _ => rfl)) pe_int (fun _ _ => rfl)) T.k_Tower T.m_Tower_small G_Tower_small hr (b_Tower_small T) .nil pass0))
    (pss_cons (ps_if (PW.pt (pw_and (pt_cmpR op_gt (pv 2) pe_int (nomark _)) (pw_and (pt_cmp (pc_notN (pv 8)) rfl) (pw_and1 (pt_cmpR op_le (pv 8) (pe_op op_add (pe_gint rfl T.c_PLAIN) (pe_call G_bits hr rfl T.g_bits T.d_bits.kp (b_bits T) .nil pass0 (pa_cons (pv 2) pa_nil))) (nomark _))))))
      (pss_one (ps_ret (pe_make T.mk_Tower G_Tower___init__ hr rfl T.g_Tower (b_Tower___init___2 T) (dv_Tower___init___2 T) pass0 (pa_cons (pe_op op_fdivW (pe_op op_add (pv 1) (pe_callB (cr_sum rfl) (by rfl) T.f_sum (by decide +kernel) (pa_cons (pe_lc (own := [("exponent", 6), ("many", 10)]) (g := (gTup K 2 (gCons (gName 10) (gCons (gName 6) gNil)))) rfl sc_settled.nd (pi_list (pv 7)) (blkOk_by (own := [("exponent", 6), ("many", 10)]) (N := n_settled) (sc := defScope s_settled) (by decide +kernel)) (fun _ _ _ _ _ => by (refine' PW.pg_tupX (K := K) ?a4 ?b4 ?c4 ?d4 ?h4; (case a4 => rfl); (case b4 => rfl); (case c4 => rfl); (case d4 => rfl); refine' PW.pgs_consX ?a5 ?b5 ?h5; (case a5 => rfl); (case b5 => (refine PW.pg_nameX 10 ?_ ?_ ?_ ?_; exact sc_settled.nd; rfl; (first | exact Or.inl rfl | exact Or.inr rfl); (first | exact Or.inl rfl | exact Or.inr rfl))); refine' PW.pgs_consX ?a6 ?b6 ?h6; (case a6 => rfl); (case b6 => (refine PW.pg_nameX 6 ?_ ?_ ?_ ?_; exact sc_settled.nd; rfl; (first | exact Or.inl rfl | exact Or.inr rfl); (first | exact Or.inl rfl | exact Or.inr rfl))); exact pgs_nil)) (fun _ _ _ _ _ => pts_nil) (fun _ _ _ _ _ => (pe_op op_mulX (pv 10) (pe_call G_doubled hr rfl T.g_doubled T.d_doubled.kp (b_doubled T) .nil pass0 (pa_cons (pe_meth0 (pv 6) T.k_Tower T.m_Tower_small G_Tower_small hr (b_Tower_small T) .nil pass0) pa_nil))))) pa_nil))) (pv 2)) pa_nil))))
      pss_nil)
    (pss_one (ps_ret (pe_makeK T.mk_Tower G_Tower___init__ hr rfl T.g_Tower (kb_Tower___init___1_parts_share T) pass0 (pa_cons (pv 1) pa_nil) (pk_cons (pe_callTy call_tupleN (by rfl) T.f_tuple (by decide +kernel) (pa_cons (pv 7) pa_nil)) (pk_cons (pv 2) pk_nil)))))))))))))), ?_⟩
    show tSeq _ _ _ [some (V.ref p), some (V.int lo), some (V.int sh), none, none, none, none, none, none, none, none] H
    walk_at "K"
    refine r_seqP (fun σ' H' => ∃ A lo' ys ap, σ' = [some (V.ref p), some (V.int lo'), some (V.int sh), some (V.ref A), none, none, none, none, none, none, none] ∧ Ex H H' ∧ SqL K H' A ys ∧ RowsV K cap H' d ys ap ∧ Far ap lo' ∧ sumR ap + lo' = sumR rows + lo ∧ wtR ap + bt lo' ≤ wtR rows + bt lo ∧ ap.length ≤ rows.length) ?_ ?_
    · clear hrows hp
      rintro σ' H1 ⟨A, lo', ys, ap, rfl, x1, hA, hap, hfar, hsum, hwt2, hlen⟩
      have hsv : v * sh = sumR ap + lo' := hv.trans hsum.symm
      walk_at "go"
      intro p0 hp0
      have x2 : Ex H (L2.upd H1 p0 (.lst [])) := x1.trans (Ex.new hp0)
      have hA2 := (Ex.new (o := .lst []) hp0).lst hA
      have hap2 := RowsV.ex (Ex.new (o := .lst []) hp0) hap
      generalize hH2 : L2.upd H1 p0 (.lst []) = H2 at x2 hA2 hap2 ⊢
      have hp2 : SqL K H2 p0 [] := by
        rw [← hH2]
        exact SqL.of upd_same
      clear hA hap x1 hp0 hH2 H1
      have hap3 := hap2
      cases hap2 with
      | nil =>
        have e1 : lo' / sh = v := div_exact hsh (by rw [hsv]; show (0 : Int) + lo' = lo'; omega)
        have e2 : bt v ≤ bt lo' := by
          rw [← e1]
          refine bt_divD ⟨v, ?_⟩
          rw [Int.mul_comm, hsv]
          show lo' = (0 : Int) + lo'
          omega
        have l9 := log_share hsh (Int.le_refl sh) hs2 hm
        have cd : CDivW lo' sh := ⟨hsh, l9⟩
        walk_at "go"
        rw [e1]
        refine mk_plain T.e_Tower___init___parts ⟨?_, Nat.zero_le _, Nat.zero_le _⟩ fun r H' x4 ht => q r H' (x2.trans x4) ht
        show bt v ≤ wtR rows + bt lo
        have : wtR ([] : Rw) + bt lo' ≤ wtR rows + bt lo := hwt2
        omega
      | @cons y0 q0 yr ar hr0 hrr =>
        obtain ⟨c0, e0⟩ := q0
        obtain ⟨t0, r0, rfl, k1, k2⟩ := hr0
        have hfl := hfar
        walk_at "go"
        refine r_ifF' rfl ?_
        walk_at "go"
        refine ⟨sh, lo', rfl, hsh, fun g1 hg1 hg1s hg1l => ?_⟩
        walk_at "go"
        have hxl := prd_len hap3
        refine for_it (walk_list (xs := V.ref t0 :: yr)) (fun i σ H' => H' = H2 ∧ ∃ (g : Int) (c e : Option V), σ = [some (V.ref p), some (V.int lo'), some (V.int sh), some (V.ref A), some (.int g), c, e, none, none, none, none] ∧ 0 < g ∧ g ∣ sh ∧ g ∣ lo' ∧ ∀ q ∈ (((c0, e0) :: ar : Rw)).take i, g ∣ q.1)
          ⟨rfl, g1, none, none, rfl, hg1, hg1s, hg1l, fun q hq => nomatch hq⟩ (fun i σ H' _ h => by rw [h.1]; exact hA2) ?_ ?_
        · rintro i x σ H1 H1' hi ⟨hH, g, c, e, rfl, h1, h2, h3, h4⟩ ⟨rfl, hx⟩
          subst hH
          obtain ⟨⟨cc, ee⟩, hq, t, r, rfl, kt, kr⟩ := prd_get hap3 hx
          have kt' : SqT K H1' t [.int cc, .ref r] := kt
          walk_at "go"
          refine ⟨g, cc, rfl, h1, fun g2 hg2 a1 a2 => ?_⟩
          walk_at "go"
          refine ⟨rfl, g2, _, _, rfl, hg2, Int.dvd_trans a1 h2, Int.dvd_trans a1 h3, fun q hq2 => ?_⟩
          rw [take_snoc hq] at hq2
          rcases List.mem_append.mp hq2 with z | z
          · exact Int.dvd_trans a1 (h4 q z)
          · rw [List.mem_singleton] at z
            subst z
            exact a2
        · rintro σ H' ⟨hH, g, c, e, rfl, h1, h2, h3, h4⟩
          subst hH
          rw [hxl, List.take_length] at h4
          have l9 : g.natAbs.log2 < 9000 := log_share h1 (Int.le_of_dvd hsh h2) hs2 hm
          have hll : (V.ref t0 :: yr).length ≤ 100000 := by
            rw [hxl]
            omega
          walk_at "go"
          intro D hD
          refine lc_grow (walk_list (xs := V.ref t0 :: yr)) (σw := [some (V.ref p), some (V.int lo'), some (V.int sh), some (V.ref A), some (.int g), none, none, none, none, none, none]) rfl
            (fun i H v => ∃ cc ee t r, (((c0, e0) :: ar : Rw))[i]? = some (cc, ee) ∧ v = .ref t ∧ SqT K H t [.int (cc / g), .ref r] ∧ IsT K cap H d cap r ((ee : Nat) : Int)) hD hll (fun _ x => x.lst hA2) (fun i Ha Hb v x h => ?_) ?_ ?_
          · obtain ⟨cc, ee, t, r, hq, rfl, kt, kr⟩ := h
            exact ⟨cc, ee, t, r, hq, rfl, x.tup kt, kr.ex x⟩
          · rintro i x Ha Hb acc R hi xa ha ⟨rfl, hx⟩ hR
            obtain ⟨⟨cc, ee⟩, hq, t, r, rfl, kt, kr⟩ := prd_get hap3 hx
            have kt' : SqT K Hb t [.int cc, .ref r] := xa.tup kt
            have cd : CDivW cc g := ⟨h1, l9⟩
            walk_at "go"
            refine ⟨rfl, ?_⟩
            walk_at "go"
            intro t2 ht2
            have tD : t2 ≠ D := Ne.symm (ne_of_none ha ht2)
            have xb : Ex H' (PW.hide (L2.upd Hb t2 (.tup [.int (cc / g), .ref r])) D) := (xa.trans (Ex.new ht2)).hideN hD
            exact hR _ _ ⟨cc, ee, t2, r, hq, rfl, SqT.of ((hide_ne tD).trans upd_same), kr.ex xb⟩ (Ex.new ht2)
          · rintro Hc acc xc hacc hl2 hE
            have hrows2 : RowsV K cap (PW.hide Hc D) d acc ((c0 / g, e0) :: divR g ar) := by
              refine prd_of (hl2.trans (hxl.trans (by show _ = (List.map _ _).length + 1; rw [List.length_map]; rfl))) fun i x y hx hy => ?_
              obtain ⟨cc, ee, t, r, hq, rfl, kt, kr⟩ := hE i x hx
              have hy2 : (divR g ((c0, e0) :: ar))[i]? = some y := hy
              unfold divR at hy2
              rw [List.getElem?_map, hq] at hy2
              injection hy2 with hy2
              subst hy2
              exact ⟨t, r, rfl, kt, kr⟩
            have hrows3 : RowsV K cap Hc d acc ((c0 / g, e0) :: divR g ar) := hrows2.ex (Ex.hide Hc D)
            clear hrows2 hE
            have hal : acc.length = ((c0 / g, e0) :: divR g ar).length := prd_len hrows3
            have hrows4 := hrows3
            cases hrows3 with
            | @cons z0 q1 zr ar2 hz hzz =>
            obtain ⟨t1, r1, rfl, kt1, kr1⟩ := hz
            have kt1' : SqT K Hc t1 [.int (c0 / g), .ref r1] := kt1
            have kr1' : IsT K cap Hc d cap r1 ((e0 : Nat) : Int) := kr1
            obtain ⟨dx, fl, fp, fs, hri⟩ := kr1.ins'
            have cd1 : CDivW lo' g := ⟨h1, l9⟩
            have cd2 : CDivW sh g := ⟨h1, l9⟩
            have hp2' := div_pos h1 hsh h2
            have hd4 := far_div h3 h4 hfar
            have hsv2 := settle_val h1 h2 h3 h4 hsv
            have hS2 := toNat_le_div h1 hsh hs2
            have hbs := bt_share hp2' hS2
            have hq0 : bt (c0 / g) ≤ bt c0 := bt_divD (h4 (c0, e0) (List.mem_cons_self ..))
            have hwt4 : bt c0 + 265 + wtR ar + bt lo' ≤ wtR rows + bt lo := hwt2
            have fin : ∀ (Hd : Hp) (tp : Addr), Ex Hc Hd → Hd tp = none → (sh / g = 1 ∨ 256 + bt (sh / g) < e0) → ∃ (S : Sz) (rws : Rw), RowsV K cap (L2.upd Hd tp (.tup (V.ref t1 :: zr))) d (V.ref t1 :: zr) rws ∧ Wf S (lo' / g) rws (sh / g) v ∧
                ∀ r H', Ex (L2.upd Hd tp (.tup (V.ref t1 :: zr))) H' → IsT K cap H' (d + 1) S r v → Q (.ref r) H' := fun Hd tp xd htp hc => by
              have wf : Wf ⟨wtR rows + bt lo, rows.length, m⟩ (lo' / g) (divR g ((c0, e0) :: ar)) (sh / g) v := Wf.settle hfar (List.cons_ne_nil _ _) h1 h2 h3 h4 hsh hsv (fun c' e' r' he => by
                have he2 : (c0 / g, e0) :: divR g ar = (c', e') :: r' := he
                injection he2 with he3 he4
                injection he3 with he5 he6
                subst he6
                exact hc) hwt2 hlen hs2
              exact ⟨_, _, RowsV.ex (xd.trans (Ex.new htp)) hrows4, wf, fun r H5 x5 h5 => q r H5 (((x2.trans xc).trans (xd.trans (Ex.new htp))).trans x5) h5⟩
            walk_at "go"
            refine ⟨cap, r1, d, cap, _, rfl, kr1', fun Hd xd => ?_⟩
            rw [smallV_nat]
            have hacc2 := xd _ _ hacc
            by_cases h64 : e0 < 2 ^ 64
            · rw [if_pos h64]
              walk_at "go"
              refine r_if2 (fun b1 => ?_) (fun b1 => ?_)
              · walk_at "go"
                refine ⟨sh / g, rfl, ?_⟩
                walk_at "go"
                refine r_if2 (fun b2 => ?_) (fun b2 => ?_)
                · have hle : ((e0 : Nat) : Int) ≤ 256 + (bt (sh / g) : Nat) := of_decide_eq_true b2
                  have l10 := log_share hp2' (Int.le_refl _) hS2 hm
                  have hal4 : (V.ref t1 :: zr).length ≤ 100000 := by
                    rw [← hl2] at hll
                    exact hll
                  walk_at "go"
                  intro D3 hD3
                  refine lc_grow (walk_list (xs := V.ref t1 :: zr)) (σw := [some (V.ref p), some (V.int (lo' / g)), some (V.int (sh / g)), some (V.ref A), some (.int g), c, none, some (V.ref D), some (.int ((e0 : Nat) : Int)), none, none]) rfl
                    (fun i _ v => ∃ q, ((c0 / g, e0) :: divR g ar)[i]? = some q ∧ v = .int (q.1 * 2 ^ q.2)) hD3 hal4 (fun _ x => x.lst (SqL.of hacc2)) (fun i Ha Hb v x h => h) ?_ ?_
                  · rintro i x Ha Hb acc R hi xa ha ⟨rfl, hx⟩ hR
                    obtain ⟨⟨cc, ee⟩, hq, t, r, ey, kt, kr⟩ := prd_get hrows4 hx
                    subst ey
                    have xq := xd.trans xa
                    have kt' : SqT K Hb t [.int cc, .ref r] := xq.tup kt
                    have kr' : IsT K cap Hb d cap r ((ee : Nat) : Int) := kr.ex xq
                    obtain ⟨dx', fl', fp', fs', hri'⟩ := kr'.ins'
                    have hee : ee ≤ e0 := far_le (r := divR g ar) (c := c0 / g) (low := lo' / g) hd4 (cc, ee) (List.mem_of_getElem? hq)
                    have hwm : bt cc + 265 ≤ wtR (divR g ((c0, e0) :: ar)) := wt_mem (q := (cc, ee)) (List.mem_of_getElem? hq)
                    have hwm2 := wtR_div h4
                    have cm : CMulX cc (2 ^ ee) := cm_row (by omega) (by omega)
                    walk_at "go"
                    refine ⟨rfl, ?_⟩
                    walk_at "go"
                    refine ⟨cap, r, d, cap, _, rfl, kr', fun He xe => ?_⟩
                    rw [smallV_nat, if_pos (by omega)]
                    walk_at "go"
                    refine ⟨ee, rfl, by omega, ?_⟩
                    walk_at "go"
                    exact hR _ _ ⟨(cc, ee), hq, rfl⟩ xe
                  · rintro He acc3 xe hacc3 hl3 hE3
                    have hacc4 := acc_map (l := ((c0 / g, e0) :: divR g ar)) (f := fun q => V.int (q.1 * 2 ^ q.2)) (hl3.trans hal) hE3
                    have hsm := sum_int ((c0 / g, e0) :: divR g ar)
                    walk_at "go"
                    refine r_sum (ns := ((c0 / g, e0) :: divR g ar).map fun q => q.1 * 2 ^ q.2) (SqL.of (by rw [hacc3, hacc4, List.map_map]; rfl)) ?_
                    rw [hsm]
                    have cd5 : CDivW (lo' / g + sumR ((c0 / g, e0) :: divR g ar)) (sh / g) := ⟨hp2', l10⟩
                    have ev : (lo' / g + sumR ((c0 / g, e0) :: divR g ar)) / (sh / g) = v := div_exact hp2' (by rw [hsv2, Int.add_comm]; rfl)
                    walk_at "go"
                    rw [ev]
                    refine mk_plain T.e_Tower___init___parts ⟨?_, Nat.zero_le _, Nat.zero_le _⟩ fun r H' x4 ht => q r H' (((x2.trans xc).trans (xd.trans xe)).trans x4) ht
                    have hds : bt v ≤ bt (c0 / g) + 258 := div_size hd4 hp2' hsv2 (show e0 ≤ 256 + bt (sh / g) by omega)
                    show bt v ≤ wtR rows + bt lo
                    omega
                · have hgt : ¬ ((e0 : Nat) : Int) ≤ 256 + (bt (sh / g) : Nat) := of_decide_eq_false b2
                  walk_at "go"
                  intro tp htp
                  walk_at "go"
                  obtain ⟨S', rws, hrw, wf, hq⟩ := fin Hd tp xd htp (.inr (by omega))
                  exact mk_rows (SqT.of upd_same) hrw wf hq
              · have hgt : ¬ (1 : Int) < sh / g := of_decide_eq_false b1
                walk_at "go"
                intro tp htp
                walk_at "go"
                obtain ⟨S', rws, hrw, wf, hq⟩ := fin Hd tp xd htp (.inl (by omega))
                exact mk_rows (SqT.of upd_same) hrw wf hq
            · rw [if_neg h64]
              have hbig : 256 + bt (sh / g) < e0 := by omega
              walk_at "go"
              refine r_if2 (fun b1 => ?_) (fun b1 => ?_)
              · walk_at "go"
                intro tp htp
                walk_at "go"
                obtain ⟨S', rws, hrw, wf, hq⟩ := fin Hd tp xd htp (.inr hbig)
                exact mk_rows (SqT.of upd_same) hrw wf hq
              · walk_at "go"
                intro tp htp
                walk_at "go"
                obtain ⟨S', rws, hrw, wf, hq⟩ := fin Hd tp xd htp (.inr hbig)
                exact mk_rows (SqT.of upd_same) hrw wf hq
    · intro N hN
      walk_at "go"
      intro D hD
      refine lc_itW (walk_list (xs := xs)) (σw := [some (V.ref p), some (V.int lo), some (V.int sh), none, none, none, none, none, none, none, none]) rfl (fun i H' => Ex H H' ∧ ∃ ys, H' D = some (.lst ys) ∧ RowsV K cap (PW.hide H' D) d ys (nz (rows.take i)) ∧ ys.length ≤ i) ⟨Ex.new hD, [], upd_same, .nil, Nat.le_refl _⟩ (fun i H' _ h => h.1.lst hp) ?_ ?_
      · rintro i x H1 H1' hi ⟨x1, ys, hys, hra, hyl⟩ ⟨rfl, hx⟩
        obtain ⟨⟨cc, ee⟩, hq, t, r, rfl, kt, kr⟩ := prd_get hrows hx
        have kt1 : SqT K H1' t [.int cc, .ref r] := x1.tup kt
        have xl := prd_len hrows
        rw [take_snoc hq, nz_snoc]
        walk_at "go"
        refine ⟨rfl, ?_⟩
        walk_at "go"
        refine r_if2 (fun e => ?_) (fun e => ?_)
        · have hc : cc ≠ 0 := fun z => by
            rw [z] at e
            exact absurd e (by decide)
          rw [if_neg hc]
          walk_at "go"
          refine ⟨ys, hys, Nat.lt_of_lt_of_le (show ys.length < 10000 by omega) (by decide), x1.mut hD, _, upd_same, ?_, by rw [List.length_append]; show ys.length + 1 ≤ i + 1; omega⟩
          rw [hide_upd]
          exact prd_append hra (.cons ⟨t, r, rfl, (x1.hideN hD).tup kt, kr.ex (x1.hideN hD)⟩ .nil)
        · have hc : cc = 0 := by
            have := of_decide_eq_true (show decide (V.int cc = V.int 0) = true by
              rw [Bool.not_eq_false'] at e
              exact e)
            exact V.int.inj this
          rw [if_pos hc, List.append_nil]
          exact ⟨x1, ys, hys, hra, by omega⟩
      · rintro H1 ⟨x1, ys, hys, hra, hyl⟩
        have e1 : rows.take xs.length = rows := by rw [prd_len hrows, List.take_length]
        rw [e1] at hra
        have w1 := wtR_nz rows
        have w2 := nz_len rows
        walk_at "go"
        refine ⟨D, lo, ys, nz rows, rfl, SqL.of hys, hra.ex (Ex.hide H1 D), by omega, fun q hq => nz_ne hq, by omega, fun r0 H2 A zs ap lo' x2 hr0 hA hap hfar hsum hwt2 hlen => ?_⟩
        walk_at "go"
        rw [sumR_nz] at hsum
        exact hN _ _ ⟨A, lo', zs, ap, rfl, x1.trans x2, hA, hap, hfar, hsum, by omega, by omega⟩
end
end PW
/-! ### total, -, above; by depth -/
namespace PW
open PySem PySem.Spec PyProof.Rows L2
theorem mulR_len (k : Int) (a : Rw) : (mulR k a).length = a.length := List.length_map _
theorem prd_mul {K : PySem.W.Frag} {H : Hp} {d : Nat} {acc : List V} {rows : Rw} {k : Int} (hl : acc.length = rows.length) (hE : ∀ (i : Nat) v, acc[i]? = some v → ∃ cc ee t r, rows[i]? = some (cc, ee) ∧ v = .ref t ∧ SqT K H t [.int (cc * k), .ref r] ∧ IsT K cap H d cap r ((ee : Nat) : Int)) : RowsV K cap H d acc (mulR k rows) := by
  refine prd_of (hl.trans (mulR_len k rows).symm) fun i x y hx hy => ?_
  obtain ⟨cc, ee, t, r, hq, rfl, kt, kr⟩ := hE i x hx
  unfold mulR at hy
  rw [List.getElem?_map, hq] at hy
  injection hy with hy
  subst hy
  exact ⟨t, r, rfl, kt, kr⟩
structure Lcm (s1 s2 g : Int) : Prop where
  e : s1 * s2 / g = s1 * (s2 / g)
  l : s1 * (s2 / g) / s1 = s2 / g
  r : s1 * (s2 / g) / s2 = s1 / g
  c : s1 * (s2 / g) = s2 * (s1 / g)
  p1 : 0 < s1 / g
  p2 : 0 < s2 / g
  l1 : s1 / g ≤ s1
  l2 : s2 / g ≤ s2
theorem lcm_of {s1 s2 g : Int} (h1 : 0 < s1) (h2 : 0 < s2) (hg : 0 < g) (d1 : g ∣ s1) (d2 : g ∣ s2) : Lcm s1 s2 g := by
  have e1 : s1 / g * g = s1 := Int.ediv_mul_cancel d1
  have e2 : s2 / g * g = s2 := Int.ediv_mul_cancel d2
  have hc : s1 * (s2 / g) = s2 * (s1 / g) := by
    have : s1 * (s2 / g) * g = s2 * (s1 / g) * g := by rw [Int.mul_assoc, e2, Int.mul_assoc, e1, Int.mul_comm]
    exact Int.eq_of_mul_eq_mul_right (by omega) this
  refine ⟨Int.mul_ediv_assoc _ d2, Int.mul_ediv_cancel_left _ (by omega), ?_, hc, div_pos hg h1 d1, div_pos hg h2 d2, Int.ediv_le_self _ (by omega), Int.ediv_le_self _ (by omega)⟩
  rw [hc]
  exact Int.mul_ediv_cancel_left _ (by omega)
theorem tot_val {v u f s1 s2 a1 a2 l1 l2 : Int} {r1 r2 : Rw} (hc : s1 * a2 = s2 * a1) (h1 : v * s1 = sumR r1 + l1) (h2 : u * s2 = sumR r2 + l2) :
    (v + f * u) * (s1 * a2) = sumR (mulR a2 r1 ++ mulR (f * a1) r2) + (l1 * a2 + l2 * (f * a1)) := by
  rw [sumR_append, sumR_mul, sumR_mul, Int.add_mul, ← Int.mul_assoc, h1, hc]
  have : f * u * (s2 * a1) = (u * s2) * (f * a1) := by
    rw [Int.mul_comm f u, Int.mul_assoc u f, Int.mul_assoc u s2, ← Int.mul_assoc f s2, Int.mul_comm f s2, Int.mul_assoc s2 f]
  rw [this, h2, Int.add_mul, Int.add_mul]
  omega
theorem nat_le_pow {s : Int} {k : Nat} (h0 : 0 ≤ s) (h : s.toNat ≤ 2 ^ k) : s.natAbs ≤ 2 ^ k := by omega
theorem tot_size {S1 S2 : Sz} {m : Nat} {r1 r2 : Rw} {l1 l2 a1 a2 f : Int} (z1 : wtR r1 + bt l1 ≤ S1.z) (z2 : wtR r2 + bt l2 ≤ S2.z) (n1 : r1.length ≤ S1.n) (n2 : r2.length ≤ S2.n) (hf : f.natAbs ≤ 2 ^ m) (ha1 : a1.natAbs ≤ 2 ^ S1.s) (ha2 : a2.natAbs ≤ 2 ^ S2.s) :
    wtR (mulR a2 r1 ++ mulR (f * a1) r2) + bt (l1 * a2 + l2 * (f * a1)) ≤ (totSz S1 S2 m).z := by
  have hfa : (f * a1).natAbs ≤ 2 ^ (m + S1.s) := by
    rw [Int.natAbs_mul, Nat.pow_add]
    exact Nat.mul_le_mul hf ha1
  have h1 := wtR_mul ha2 r1
  have h2 := wtR_mul hfa r2
  have h3 := bt_mulK l1 ha2
  have h4 := bt_mulK l2 hfa
  have h5 := bt_add (l1 * a2) (l2 * (f * a1))
  have h6 : r1.length * S2.s ≤ S1.n * S2.s := Nat.mul_le_mul_right _ n1
  have h7 : r2.length * (m + S1.s) ≤ S2.n * (m + S1.s) := Nat.mul_le_mul_right _ n2
  rw [wtR_append]
  show _ ≤ S1.z + S2.z + S1.n * S2.s + S2.n * (m + S1.s) + S1.s + S2.s + m + 1
  omega
theorem tot_lim {S1 S2 : Sz} {m : Nat} (h1 : S1.Le LIM) (h2 : S2.Le LIM) (hm : m ≤ 1200) : (totSz S1 S2 m).z ≤ 20000000 := by
  have a1 : S1.z ≤ 4000000 := h1.z
  have a2 : S2.z ≤ 4000000 := h2.z
  have b1 : S1.n ≤ 1200 := h1.n
  have b2 : S2.n ≤ 1200 := h2.n
  have c1 : S1.s ≤ 1200 := h1.s
  have c2 : S2.s ≤ 1200 := h2.s
  have h6 : S1.n * S2.s ≤ 1200 * 1200 := Nat.mul_le_mul b1 c2
  have h7 : S2.n * (m + S1.s) ≤ 1200 * 2400 := Nat.mul_le_mul b2 (by omega)
  show S1.z + S2.z + S1.n * S2.s + S2.n * (m + S1.s) + S1.s + S2.s + m + 1 ≤ 20000000
  omega
section
variable {P : Program} {w : World} {K : PySem.W.Frag} {mg : Str → Option Value} {base : Heap}
theorem ok_total {k d : Nat} {cap : Sz} (T : Txt K mg)
    (G_settled : FnOk P w K mg base CX0 k (He.ga K "settled") (fdOf K (He.ga K "settled")) p_settled (spSettled K cap d))
    (G_common : FnOk P w K mg base CX0 k (He.ga K "common") (fdOf K (He.ga K "common")) p_common spCommon) :
    FnOk P w K mg base CX0 (k + 1) (He.ga K "total") (fdOf K (He.ga K "total")) p_total (spTotal K cap (d + 1)) := by
  refine FunD.ok T.d_total sc_total (fun vs H Q E h => ?_) (fun cdv A outer s H vs Q E hr h => ?_)
  · obtain ⟨a, b, f, S1, S2, m, v, u, rfl, _⟩ := h
    rfl
  · obtain ⟨a, b, f, S1, S2, m, v, u, rfl, ⟨dx1, l1, p1, s1, xs1, r1, ha, hp1, hr1, w1⟩, ⟨dx2, l2, p2, s2, xs2, r2, hb, hp2, hr2, w2⟩, hS1, hS2, hf, hm, q⟩ := h
    have kT := T.k_Tower
    have n1 := T.n_Tower_low
    have n2 := T.n_Tower_parts
    have n3 := T.n_Tower_share
    have c1 : S1.s ≤ 1200 := hS1.s
    have c2 : S2.s ≤ 1200 := hS2.s
    have e1 : S1.n ≤ 1200 := hS1.n
    have e2 : S2.n ≤ 1200 := hS2.n
    have y1 : S1.z ≤ 4000000 := hS1.z
    have y2 : S2.z ≤ 4000000 := hS2.z
    have t1 := w1.n
    have t2 := w2.n
    have b1 := bt_share w1.pos w1.s
    have b2 := bt_share w2.pos w2.s
    have cm0 : CMulX s1 s2 := mulx_ok (bt_self s1) (bt_self s2) (by omega)
    refine ⟨_, PSs.nox ((pss_cons (ps_set (i := 3) sc_total.nd rfl (Or.inl rfl) (pe_op op_fdivW (pe_op op_mulX (pe_fld (pv 0) rfl) (pe_fld (pv 1) rfl)) (pe_call G_common hr rfl T.g_common T.d_common.kp (b_common T) .nil pass0 (pa_cons (pe_fld (pv 0) rfl) (pa_cons (pe_fld (pv 1) rfl) pa_nil)))))
    (pss_cons (ps_asg (pe_tup (pa_cons (pe_op op_fdivW (pv 3) (pe_fld (pv 0) rfl)) (pa_cons (pe_op op_mulX (pv 2) (pe_op op_fdivW (pv 3) (pe_fld (pv 1) rfl))) pa_nil))) (pg_tup rfl (pgs_cons (pg_name (i := 4) sc_total.nd rfl (Or.inr rfl) (hf := by first | exact Or.inl rfl | exact Or.inr rfl)) (pgs_cons (pg_name (i := 5) sc_total.nd rfl (Or.inr rfl) (hf := by first | exact Or.inl rfl | exact Or.inr rfl)) pgs_nil))))
    (pss_cons (ps_setLc (i := 6) (own := [("coefficient", 7), ("exponent", 8)]) (g := (gTup K 2 (gCons (gName 7) (gCons (gName 8) gNil)))) rfl sc_total.nd rfl rfl (sw_true rfl rfl rfl (by decide +kernel)) (pi_tup (pe_fld (pv 0) rfl)) (blkOk_by (own := [("coefficient", 7), ("exponent", 8)]) (N := n_total) (sc := defScope s_total) (by decide +kernel)) (fun _ _ _ _ _ => by (refine' PW.pg_tupX (K := K) ?a1 ?b1 ?c1 ?d1 ?h1; (case a1 => rfl); (case b1 => rfl); (case c1 => rfl); (case d1 => rfl); refine' PW.pgs_consX ?a2 ?b2 ?h2; (case a2 => rfl); (case b2 => (refine PW.pg_nameX 7 ?_ ?_ ?_ ?_; exact sc_total.nd; rfl; (first | exact Or.inl rfl | exact Or.inr rfl); (first | exact Or.inl rfl | exact Or.inr rfl))); refine' PW.pgs_consX ?a3 ?b3 ?h3; (case a3 => rfl); (case b3 => (refine PW.pg_nameX 8 ?_ ?_ ?_ ?_; exact sc_total.nd; rfl; (first | exact Or.inl rfl | exact Or.inr rfl); (first | exact Or.inl rfl | exact Or.inr rfl))); exact pgs_nil)) (fun _ _ _ _ _ => pts_nil) (fun _ _ _ _ _ => (pe_tup (pa_cons (pe_op op_mulX (pv 7) (pv 4)) (pa_cons (pv 8) pa_nil)))))
    (pss_cons (ps_set (i := 6) sc_total.nd rfl (Or.inl rfl) (pe_op op_cat (pv 6) (pe_lc (own := [("coefficient", 7), ("exponent", 8)]) (g := (gTup K 2 (gCons (gName 7) (gCons (gName 8) gNil)))) rfl sc_total.nd (pi_tup (pe_fld (pv 1) rfl)) (blkOk_by (own := [("coefficient", 7), ("exponent", 8)]) (N := n_total) (sc := defScope s_total) (by decide +kernel)) (fun _ _ _ _ _ => by (refine' PW.pg_tupX (K := K) ?a4 ?b4 ?c4 ?d4 ?h4; (case a4 => rfl); (case b4 => rfl); (case c4 => rfl); (case d4 => rfl); refine' PW.pgs_consX ?a5 ?b5 ?h5; (case a5 => rfl); (case b5 => (refine PW.pg_nameX 7 ?_ ?_ ?_ ?_; exact sc_total.nd; rfl; (first | exact Or.inl rfl | exact Or.inr rfl); (first | exact Or.inl rfl | exact Or.inr rfl))); refine' PW.pgs_consX ?a6 ?b6 ?h6; (case a6 => rfl); (case b6 => (refine PW.pg_nameX 8 ?_ ?_ ?_ ?_; exact sc_total.nd; rfl; (first | exact Or.inl rfl | exact Or.inr rfl); (first | exact Or.inl rfl | exact Or.inr rfl))); exact pgs_nil)) (fun _ _ _ _ _ => pts_nil) (fun _ _ _ _ _ => (pe_tup (pa_cons (pe_op op_mulX (pv 7) (pv 5)) (pa_cons (pv 8) pa_nil)))))))
    (pss_one (ps_ret (pe_call G_settled hr rfl T.g_settled T.d_settled.kp (b_settled T) .nil pass0 (pa_cons (pv 6) (pa_cons (pe_op op_add (pe_op op_mulX (pe_fld (pv 0) rfl) (pv 4)) (pe_op op_mulX (pe_fld (pv 1) rfl) (pv 5))) (pa_cons (pv 3) pa_nil))))))))))), ?_⟩
    show tSeq _ _ _ [some (V.ref a), some (V.ref b), some (V.int f), none, none, none, none, none, none] H
    walk_at "K"
    walk_at "go"
    refine ⟨s1, s2, rfl, w1.pos, fun g hg g1 g2 => ?_⟩
    have L := lcm_of w1.pos w2.pos hg g1 g2
    have lg := log_share hg (Int.le_of_dvd w1.pos g1) w1.s (by omega)
    have ls1 := log_share w1.pos (Int.le_refl s1) w1.s (by omega)
    have ls2 := log_share w2.pos (Int.le_refl s2) w2.s (by omega)
    have cd0 : CDivW (s1 * s2) g := ⟨hg, lg⟩
    have cd1 : CDivW (s1 * (s2 / g)) s1 := ⟨w1.pos, ls1⟩
    have cd2 : CDivW (s1 * (s2 / g)) s2 := ⟨w2.pos, ls2⟩
    have ha1 : (s1 / g).natAbs ≤ 2 ^ S1.s := nat_le_pow (Int.le_of_lt L.p1) (toNat_le_div hg w1.pos w1.s)
    have ha2 : (s2 / g).natAbs ≤ 2 ^ S2.s := nat_le_pow (Int.le_of_lt L.p2) (toNat_le_div hg w2.pos w2.s)
    have ba1 : bt (s1 / g) ≤ S1.s + 1 := bt_share L.p1 (toNat_le_div hg w1.pos w1.s)
    have ba2 : bt (s2 / g) ≤ S2.s + 1 := bt_share L.p2 (toNat_le_div hg w2.pos w2.s)
    have bf : bt f ≤ m + 1 := bt_le.mpr (Nat.lt_of_le_of_lt hf (Nat.pow_lt_pow_right (by decide) (Nat.lt_succ_self m)))
    have cm1 : CMulX f (s1 / g) := mulx_ok (bt_self f) (bt_self _) (by omega)
    have bfa : bt (f * (s1 / g)) ≤ m + S1.s + 2 := Nat.le_trans (bt_mul _ _) (by omega)
    have wz1 := w1.z
    have wz2 := w2.z
    walk_at "go"
    rw [L.e]
    walk_at "go"
    rw [L.l, L.r]
    have cmA : ∀ c : Int, c ∈ (r1.map (·.1)) → CMulX c (s2 / g) := fun c hc => by
      obtain ⟨q, hq, rfl⟩ := List.mem_map.mp hc
      have := wt_mem hq
      exact mulx_ok (bt_self q.1) (bt_self _) (by omega)
    have cmB : ∀ c : Int, c ∈ (r2.map (·.1)) → CMulX c (f * (s1 / g)) := fun c hc => by
      obtain ⟨q, hq, rfl⟩ := List.mem_map.mp hc
      have := wt_mem hq
      exact mulx_ok (bt_self q.1) (bt_self _) (by omega)
    have cm2 : CMulX l1 (s2 / g) := mulx_ok (bt_self l1) (bt_self _) (by omega)
    have cm3 : CMulX l2 (f * (s1 / g)) := mulx_ok (bt_self l2) (bt_self _) (by omega)
    have hz := tot_size w1.z w2.z w1.n w2.n hf ha1 ha2
    have hzl := tot_lim (m := m) hS1 hS2 hm
    have hv := tot_val (f := f) L.c w1.val w2.val
    have hx1 := prd_len hr1
    have hx2 := prd_len hr2
    have hpos : 0 < s1 * (s2 / g) := Int.mul_pos w1.pos L.p2
    have hsh : (s1 * (s2 / g)).toNat ≤ 2 ^ (S1.s + S2.s) := by
      rw [Nat.pow_add]
      have h1 : (s1 * (s2 / g)).natAbs = s1.natAbs * (s2 / g).natAbs := Int.natAbs_mul _ _
      have h2 : s1.natAbs * (s2 / g).natAbs ≤ 2 ^ S1.s * 2 ^ S2.s := Nat.mul_le_mul (nat_le_pow (Int.le_of_lt w1.pos) w1.s) ha2
      omega
    generalize s2 / g = a2 at *
    generalize s1 / g = a1 at *
    walk_at "go"
    intro tp htp
    generalize f * a1 = fa at *
    walk_at "go"
    have x0 : Ex H (L2.upd H tp (.tup [.int a2, .int fa])) := Ex.new htp
    generalize L2.upd H tp (.tup [.int a2, .int fa]) = H0 at x0 ⊢
    replace ha := x0 _ _ ha
    replace hb := x0 _ _ hb
    replace hp1 := x0.tup hp1
    replace hp2 := x0.tup hp2
    replace hr1 := RowsV.ex x0 hr1
    replace hr2 := RowsV.ex x0 hr2
    replace q : ∀ (r : Addr) (H' : Hp), Ex H0 H' → IsT K cap H' (d + 1) (totSz S1 S2 m) r (v + f * u) → Q (V.ref r) H' := fun r H' x => q r H' (x0.trans x)
    clear x0 htp H
    walk_at "go"
    intro D hD
    refine lc_grow (walk_tup (xs := xs1)) (σw := [some (V.ref a), some (V.ref b), some (V.int f), some (V.int (s1 * a2)), some (V.int a2), some (V.int fa), none, none, none]) rfl
      (fun i H v => ∃ cc ee t r, r1[i]? = some (cc, ee) ∧ v = .ref t ∧ SqT K H t [.int (cc * a2), .ref r] ∧ IsT K cap H d cap r ((ee : Nat) : Int)) hD (by omega) (fun _ x => x.tup hp1) (fun i Ha Hb v x h => ?_) ?_ ?_
    · obtain ⟨cc, ee, t, r, hq, rfl, kt, kr⟩ := h
      exact ⟨cc, ee, t, r, hq, rfl, x.tup kt, kr.ex x⟩
    · rintro i x Ha Hb acc R hi xa hacc ⟨rfl, hx⟩ hR
      obtain ⟨⟨cc, ee⟩, hq, t, r, rfl, kt, kr⟩ := prd_get hr1 hx
      have kt' : SqT K Hb t [.int cc, .ref r] := xa.tup kt
      have cm := cmA cc (List.mem_map.mpr ⟨(cc, ee), List.mem_of_getElem? hq, rfl⟩)
      walk_at "go"
      refine ⟨rfl, ?_⟩
      walk_at "go"
      intro t2 ht2
      have tD : t2 ≠ D := Ne.symm (ne_of_none hacc ht2)
      exact hR _ _ ⟨cc, ee, t2, r, hq, rfl, SqT.of ((hide_ne tD).trans upd_same), kr.ex ((xa.trans (Ex.new ht2)).hideN hD)⟩ (Ex.new ht2)
    · rintro Hc acc xc hacc hl2 hE
      have hra := (prd_mul (hl2.trans hx1) hE).ex (Ex.hide Hc D)
      have hb2 := xc _ _ hb
      have hp2c := xc.tup hp2
      walk_at "go"
      intro D2 hD2
      refine lc_grow (walk_tup (xs := xs2)) (σw := [some (V.ref a), some (V.ref b), some (V.int f), some (V.int (s1 * a2)), some (V.int a2), some (V.int fa), some (V.ref D), none, none]) rfl
        (fun i H v => ∃ cc ee t r, r2[i]? = some (cc, ee) ∧ v = .ref t ∧ SqT K H t [.int (cc * fa), .ref r] ∧ IsT K cap H d cap r ((ee : Nat) : Int)) hD2 (by omega) (fun _ x => x.tup (xc.tup hp2)) (fun i Ha Hb v x h => ?_) ?_ ?_
      · obtain ⟨cc, ee, t, r, hq, rfl, kt, kr⟩ := h
        exact ⟨cc, ee, t, r, hq, rfl, x.tup kt, kr.ex x⟩
      · rintro i x Ha Hb acc' R hi xa hacc' ⟨rfl, hx⟩ hR
        obtain ⟨⟨cc, ee⟩, hq, t, r, rfl, kt, kr⟩ := prd_get hr2 hx
        have kt' : SqT K Hb t [.int cc, .ref r] := xa.tup (xc.tup kt)
        have cm := cmB cc (List.mem_map.mpr ⟨(cc, ee), List.mem_of_getElem? hq, rfl⟩)
        walk_at "go"
        refine ⟨rfl, ?_⟩
        walk_at "go"
        intro t2 ht2
        have tD : t2 ≠ D2 := Ne.symm (ne_of_none hacc' ht2)
        exact hR _ _ ⟨cc, ee, t2, r, hq, rfl, SqT.of ((hide_ne tD).trans upd_same), kr.ex (((xc.trans xa).trans (Ex.new ht2)).hideN (Ex.free xc hD2))⟩ (Ex.new ht2)
      · rintro Hd acc2 xd hacc2 hl3 hE2
        have hra2 := (prd_mul (hl3.trans hx2) hE2).ex (Ex.hide Hd D2)
        have hacc3 := xd _ _ hacc
        walk_at "go"
        refine r_cat hacc3 hacc2 (Nat.le_trans (show acc.length + acc2.length ≤ 10000 by omega) (by decide)) fun D3 hD3 => ?_
        have x3 : Ex H0 (L2.upd Hd D3 (.lst (acc ++ acc2))) := (xc.trans xd).trans (Ex.new hD3)
        have ha3 := x3 _ _ ha
        have hb3 := x3 _ _ hb
        walk_at "go"
        refine ⟨D3, _, _, _, mulR a2 r1 ++ mulR fa r2, S1.s + S2.s, v + f * u, rfl, SqL.of upd_same, prd_append (RowsV.ex (xd.trans (Ex.new hD3)) hra) (RowsV.ex (Ex.new hD3) hra2), ?_, Nat.le_trans hz hzl, hpos, hsh, by omega, hv, fun r H' x' hr' => ?_⟩
        · rw [List.length_append, mulR_len, mulR_len]
          omega
        · have hle : Sz.Le ⟨wtR (mulR a2 r1 ++ mulR fa r2) + bt (l1 * a2 + l2 * fa), (mulR a2 r1 ++ mulR fa r2).length, S1.s + S2.s⟩ (totSz S1 S2 m) := by
            refine ⟨hz, ?_, Nat.le_refl _⟩
            show (mulR a2 r1 ++ mulR fa r2).length ≤ S1.n + S2.n
            rw [List.length_append, mulR_len, mulR_len]
            omega
          exact q r H' (x3.trans x') (hr'.mono hle)
end
end PW
/-! ### the operators; by depth -/
namespace PW
open PySem PySem.Spec PyProof.Rows L2
def Z0 : Sz := ⟨0, 0, 0⟩
theorem z0_lim : Z0.Le LIM := ⟨Nat.zero_le _, Nat.zero_le _, Nat.zero_le _⟩
def spAdd (K : PySem.W.Frag) (cap : Sz) (d : Nat) : Sp := fun vs H Q _ => ∃ a x S1 S2 v u, vs = [.ref a, x] ∧ IsT K cap H d S1 a v ∧ NumV K cap H d S2 x u ∧ S1.Le LIM ∧ S2.Le LIM ∧ ∀ r H', Ex H H' → IsT K cap H' d (totSz S1 S2 0) r (v + u) → Q (.ref r) H'
def spRsub (K : PySem.W.Frag) (cap : Sz) (d : Nat) : Sp := fun vs H Q _ => ∃ a x S1 S2 v u, vs = [.ref a, x] ∧ IsT K cap H d S1 a v ∧ NumV K cap H d S2 x u ∧ S1.Le LIM ∧ S2.Le LIM ∧ ∀ r H', Ex H H' → IsT K cap H' d (totSz S2 S1 0) r (u - v) → Q (.ref r) H'
def spNeg (K : PySem.W.Frag) (cap : Sz) (d : Nat) : Sp := fun vs H Q _ => ∃ a S v, vs = [.ref a] ∧ IsT K cap H d S a v ∧ S.Le LIM ∧ ∀ r H', Ex H H' → IsT K cap H' d (totSz Z0 S 0) r (-v) → Q (.ref r) H'
def spAbs (K : PySem.W.Frag) (cap : Sz) (d : Nat) : Sp := fun vs H Q _ => ∃ a S v, vs = [.ref a] ∧ IsT K cap H d S a v ∧ S.Le LIM ∧ ∀ r H', Ex H H' → IsT K cap H' d (totSz Z0 S 0) r (v.natAbs : Nat) → Q (.ref r) H'
def spMul (K : PySem.W.Frag) (cap : Sz) (d : Nat) : Sp := fun vs H Q _ => ∃ a f S m v, vs = [.ref a, .int f] ∧ IsT K cap H d S a v ∧ S.Le LIM ∧ f.natAbs ≤ 2 ^ m ∧ m ≤ 1200 ∧ ∀ r H', Ex H H' → IsT K cap H' d (totSz Z0 S m) r (v * f) → Q (.ref r) H'
def spEq (K : PySem.W.Frag) (cap : Sz) (d : Nat) : Sp := fun vs H Q _ => ∃ a x S1 v, vs = [.ref a, x] ∧ IsT K cap H d S1 a v ∧ S1.Le LIM ∧ ((∃ S2 u, NumV K cap H d S2 x u ∧ S2.Le LIM ∧ ∀ H', Ex H H' → Q (.bl (decide (v = u))) H') ∨ (Wh K H x false false ∧ ∀ H', Ex H H' → Q (.bl false) H'))
theorem sgn_zero {v : Int} : (sgn v = 0) ↔ v = 0 := by
  unfold sgn
  by_cases h1 : 0 < v
  · rw [if_pos h1]
    omega
  · rw [if_neg h1]
    by_cases h2 : v < 0
    · rw [if_pos h2]
      omega
    · rw [if_neg h2]
      omega
theorem sgn_pos {v : Int} : (0 < sgn v) ↔ 0 < v := by
  unfold sgn
  by_cases h1 : 0 < v
  · rw [if_pos h1]
    omega
  · rw [if_neg h1]
    by_cases h2 : v < 0
    · rw [if_pos h2]
      omega
    · rw [if_neg h2]
      omega
theorem sgn_neg {v : Int} : (sgn v < 0) ↔ v < 0 := by
  unfold sgn
  by_cases h1 : 0 < v
  · rw [if_pos h1]
    omega
  · rw [if_neg h1]
    by_cases h2 : v < 0
    · rw [if_pos h2]
      omega
    · rw [if_neg h2]
      omega
theorem IsT.pos {K : PySem.W.Frag} {H : Hp} {d : Nat} {S : Sz} {a : Addr} {v : Int} (h : IsT K cap H d S a v) : 1 ≤ d := by
  cases d with
  | zero => exact h.elim
  | succ d => omega
theorem totZ_le {S : Sz} : S.Le (totSz Z0 S 0) := by
  refine ⟨?_, ?_, ?_⟩
  · show S.z ≤ 0 + S.z + 0 * S.s + S.n * (0 + 0) + 0 + S.s + 0 + 1
    omega
  · show S.n ≤ 0 + S.n
    omega
  · show S.s ≤ 0 + S.s
    omega
theorem NumV.int {K : PySem.W.Frag} {H : Hp} {d : Nat} {i : Int} (h : 1 ≤ d) : NumV K cap H d ⟨bt i, 0, 0⟩ (.int i) i := .inr ⟨rfl, Sz.Le.refl _, h⟩
section
variable {P : Program} {w : World} {K : PySem.W.Frag} {mg : Str → Option Value} {base : Heap}
theorem ok_sub {k d : Nat} {cap : Sz} (T : Txt K mg)
    (G_total : FnOk P w K mg base CX0 k (He.ga K "total") (fdOf K (He.ga K "total")) p_total (spTotal K cap d))
    (G_is_number : FnOk P w K mg base CX0 k (He.ga K "is_number") (fdOf K (He.ga K "is_number")) p_is_number (spNumber K))
    (G_tower_of : FnOk P w K mg base CX0 k (He.ga K "tower_of") (fdOf K (He.ga K "tower_of")) p_tower_of (spTowerOf K)) :
    FnOk P w K mg base CX0 (k + 1) (He.ma K (He.ga K "Tower") "__sub__") (fdOf K (He.fAd K ("Tower", some "__sub__"))) p_Tower___sub__ (spSub K cap d) := by
  refine FunD.ok T.d_Tower___sub__ sc_Tower___sub__ (fun vs H Q E h => ?_) (fun cdv A outer s H vs Q E hr h => ?_)
  · obtain ⟨a, x, S1, S2, v, u, rfl, _⟩ := h
    rfl
  · obtain ⟨a, x, S1, S2, v, u, rfl, ha, hx, hS1, hS2, q⟩ := h
    obtain ⟨b, t, wh, hbt⟩ := hx.wh
    refine ⟨_, PSs.nox ((pss_cons (ps_if (pt_not (pt_val (pe_call G_is_number hr rfl T.g_is_number T.d_is_number.kp (b_is_number T) .nil pass0 (pa_cons (pv 1) pa_nil))))
      (pss_one ps_never)
      pss_nil)
    (pss_one (ps_ret (pe_call G_total hr rfl T.g_total T.d_total.kp (b_total T) .nil pass0 (pa_cons (pv 0) (pa_cons (pe_call G_tower_of hr rfl T.g_tower_of T.d_tower_of.kp (b_tower_of T) .nil pass0 (pa_cons (pv 1) pa_nil)) (pa_cons (pe_un un_neg pe_int) pa_nil)))))))), ?_⟩
    show tSeq _ _ _ [some (V.ref a), some x] H
    walk_at "K"
    walk_at "go"
    refine ⟨x, b, t, rfl, wh, ?_⟩
    rw [hbt]
    walk_at "go"
    refine ⟨cap, x, d, S2, u, rfl, hx, fun r H1 x1 hr1 => ?_⟩
    walk_at "go"
    refine ⟨a, r, _, S1, S2, 0, v, u, rfl, ha.ex x1, hr1, hS1, hS2, by decide, by decide, fun r' H' x' h' => q r' H' (x1.trans x') ?_⟩
    have e : v - u = v + -1 * u := by omega
    rw [e]
    exact h'
theorem ok_above1 {k d : Nat} {cap : Sz} (T : Txt K mg)
    (G_Tower___sub__ : FnOk P w K mg base CX0 k (He.ma K (He.ga K "Tower") "__sub__") (fdOf K (He.fAd K ("Tower", some "__sub__"))) p_Tower___sub__ (spSub K cap d))
    (G_Tower_sign : FnOk P w K mg base CX0 k (He.ma K (He.ga K "Tower") "sign") (fdOf K (He.fAd K ("Tower", some "sign"))) p_Tower_sign (spSign K)) :
    FnOk P w K mg base CX0 (k + 1) (He.ma K (He.ga K "Tower") "above") (fdOf K (He.fAd K ("Tower", some "above"))) p_Tower_above (spAbove K cap d) := by
  refine FunD.ok T.d_Tower_above sc_Tower_above (fun vs H Q E h => ?_) (fun cdv A outer s H vs Q E hr h => ?_)
  · obtain ⟨a, x, S1, S2, v, u, rfl, _⟩ := h
    rfl
  · obtain ⟨a, x, S1, S2, v, u, rfl, ha, hx, hS1, hS2, q⟩ := h
    refine ⟨_, PSs.nox ((pss_one (ps_ret (pe_cmpR op_gt (pe_meth0 (pe_op (PW.op_ownB T.o_Tower___sub__ G_Tower___sub__ hr (b_Tower___sub__ T) pass0) (pv 0) (pv 1)) T.k_Tower T.m_Tower_sign G_Tower_sign hr (b_Tower_sign T) .nil pass0) pe_int (nomark _))))), ?_⟩
    show tRet _ _ [some (V.ref a), some x] H
    walk_at "K"
    walk_at "go"
    refine rOwn_num rfl ha hx ?_
    refine ⟨a, x, S1, S2, v, u, rfl, ha, hx, hS1, hS2, fun r H1 x1 hr1 => ?_⟩
    obtain ⟨dx, fl, fp, fs, hri⟩ := hr1.ins'
    walk_at "go"
    refine ⟨cap, r, d, _, _, rfl, hr1, fun H2 x2 => ?_⟩
    walk_at "go"
    have e : decide (0 < sgn (v - u)) = decide (u < v) := decide_eq_decide.mpr (sgn_pos.trans (by omega))
    rw [e]
    exact q H2 (x1.trans x2)
/-- the level at depth d -/
abbrev lv (d : Nat) : Nat := 4 + 6 * d
theorem ok_core {cap : Sz} (cap_lim : cap.Le LIM) (T : Txt K mg) : ∀ d : Nat, FnOk P w K mg base CX0 (lv d) (He.ga K "total") (fdOf K (He.ga K "total")) p_total (spTotal K cap d) ∧
    FnOk P w K mg base CX0 (lv d) (He.ma K (He.ga K "Tower") "__sub__") (fdOf K (He.fAd K ("Tower", some "__sub__"))) p_Tower___sub__ (spSub K cap d) ∧
    FnOk P w K mg base CX0 (lv d) (He.ma K (He.ga K "Tower") "above") (fdOf K (He.fAd K ("Tower", some "above"))) p_Tower_above (spAbove K cap d)
  | 0 => ⟨fnOk_none (fun vs H Q E h => by obtain ⟨a, b, f, S1, S2, m, v, u, rfl, ha, _⟩ := h; exact ha), fnOk_none (fun vs H Q E h => by obtain ⟨a, x, S1, S2, v, u, rfl, ha, _⟩ := h; exact ha), fnOk_none (fun vs H Q E h => by obtain ⟨a, x, S1, S2, v, u, rfl, ha, _⟩ := h; exact ha)⟩
  | d + 1 => by
    obtain ⟨h1, h2, h3⟩ := ok_core cap_lim T d
    have o := ok_ordered cap_lim T h3
    have g := ok_gathered cap_lim T o ((ok_bits T).mono (by omega)) ((ok_doubled T).mono (by omega)) ((ok_small T).mono (by omega)) (h2.mono (by omega))
    have st := ok_settled (k := lv d + 1) T g ((ok_bits T).mono (by omega)) ((ok_doubled T).mono (by omega)) ((ok_common T).mono (by omega)) ((ok_small T).mono (by omega)) ((ok_init T).mono (by show 2 ≤ 4 + 6 * d + 1; omega))
    have t := ok_total T st ((ok_common T).mono (by omega))
    have s := ok_sub T t ((ok_is_number T).mono (by show 2 ≤ 4 + 6 * d + 4; omega)) ((ok_tower_of T).mono (by show 4 ≤ 4 + 6 * d + 4; omega))
    have a := ok_above1 T s ((ok_sign T).mono (by omega))
    exact ⟨t.mono (by show 4 + 6 * d + 4 ≤ 4 + 6 * (d + 1); omega), s.mono (by show 4 + 6 * d + 5 ≤ 4 + 6 * (d + 1); omega), a.mono (by show 4 + 6 * d + 6 ≤ 4 + 6 * (d + 1); omega)⟩
end
end PW
/-! ### +, - reflected, negative, abs, *, ==, power -/
namespace PW
open PySem PySem.Spec PyProof.Rows L2
theorem IsT.cap {K : PySem.W.Frag} {c c' : Sz} {H : Hp} (x : c.Le c') : ∀ {d : Nat} {S : Sz} {a : Addr} {v : Int}, IsT K c H d S a v → IsT K c' H d S a v
  | 0, _, _, _, h => h.elim
  | d + 1, S, a, v, h => by
    obtain ⟨dx, low, p, share, xs, rows, h1, h2, h3, h4⟩ := h
    refine ⟨dx, low, p, share, xs, rows, h1, h2, L2.Paired.mapP h3 fun y q hq => ?_, h4⟩
    obtain ⟨t, r, e, k1, k2⟩ := hq
    exact ⟨t, r, e, k1, (IsT.cap x k2).mono x⟩
/-- 2 to the power, 0 for a negative one -/
def pw2 (v : Int) : Int := if v < 0 then 0 else 2 ^ v.toNat
def PSZ : Sz := ⟨266, 1, 0⟩
def spPower (K : PySem.W.Frag) (cap : Sz) (d : Nat) : Sp := fun vs H Q _ => ∃ x S v, vs = [x] ∧ NumV K cap H d S x v ∧ S.Le cap ∧ ∀ r H', Ex H H' → IsT K cap H' (d + 1) PSZ r (pw2 v) → Q (.ref r) H'
theorem Wf.pow {e : Nat} (h : 256 < e) : Wf PSZ 0 [(1, e)] 1 (2 ^ e) := by
  have b1 : bt 1 = 1 := by decide
  have b0 : bt 0 = 0 := rfl
  refine ⟨⟨by decide, ?_, trivial⟩, by decide, ?_, fun z => (nomatch z), fun _ _ _ _ => .inl rfl, ?_, Nat.le_refl 1, by decide⟩
  · show bt 0 + 256 < e
    omega
  · show 2 ^ e * 1 = 1 * 2 ^ e + 0 + 0
    omega
  · show bt 1 + 265 + 0 + bt 0 ≤ 266
    omega
section
variable {P : Program} {w : World} {K : PySem.W.Frag} {mg : Str → Option Value} {base : Heap}
theorem ok_add {k d : Nat} {cap : Sz} (T : Txt K mg)
    (G_total : FnOk P w K mg base CX0 k (He.ga K "total") (fdOf K (He.ga K "total")) p_total (spTotal K cap d))
    (G_is_number : FnOk P w K mg base CX0 k (He.ga K "is_number") (fdOf K (He.ga K "is_number")) p_is_number (spNumber K))
    (G_tower_of : FnOk P w K mg base CX0 k (He.ga K "tower_of") (fdOf K (He.ga K "tower_of")) p_tower_of (spTowerOf K)) :
    FnOk P w K mg base CX0 (k + 1) (He.ma K (He.ga K "Tower") "__add__") (fdOf K (He.fAd K ("Tower", some "__add__"))) p_Tower___add__ (spAdd K cap d) := by
  refine FunD.ok T.d_Tower___add__ sc_Tower___add__ (fun vs H Q E h => ?_) (fun cdv A outer s H vs Q E hr h => ?_)
  · obtain ⟨a, x, S1, S2, v, u, rfl, _⟩ := h
    rfl
  · obtain ⟨a, x, S1, S2, v, u, rfl, ha, hx, hS1, hS2, q⟩ := h
    obtain ⟨b, t, wh, hbt⟩ := hx.wh
    refine ⟨_, PSs.nox ((pss_cons (ps_if (pt_not (pt_val (pe_call G_is_number hr rfl T.g_is_number T.d_is_number.kp (b_is_number T) .nil pass0 (pa_cons (pv 1) pa_nil))))
      (pss_one ps_never)
      pss_nil)
    (pss_one (ps_ret (pe_call G_total hr rfl T.g_total T.d_total.kp (b_total T) .nil pass0 (pa_cons (pv 0) (pa_cons (pe_call G_tower_of hr rfl T.g_tower_of T.d_tower_of.kp (b_tower_of T) .nil pass0 (pa_cons (pv 1) pa_nil)) (pa_cons pe_int pa_nil)))))))), ?_⟩
    show tSeq _ _ _ [some (V.ref a), some x] H
    walk_at "K"
    walk_at "go"
    refine ⟨x, b, t, rfl, wh, ?_⟩
    rw [hbt]
    walk_at "go"
    refine ⟨cap, x, d, S2, u, rfl, hx, fun r H1 x1 hr1 => ?_⟩
    walk_at "go"
    refine ⟨a, r, _, S1, S2, 0, v, u, rfl, ha.ex x1, hr1, hS1, hS2, by decide, by decide, fun r' H' x' h' => q r' H' (x1.trans x') ?_⟩
    have e : v + u = v + 1 * u := by omega
    rw [e]
    exact h'
theorem ok_radd {k d : Nat} {cap : Sz} (T : Txt K mg)
    (G_total : FnOk P w K mg base CX0 k (He.ga K "total") (fdOf K (He.ga K "total")) p_total (spTotal K cap d))
    (G_is_number : FnOk P w K mg base CX0 k (He.ga K "is_number") (fdOf K (He.ga K "is_number")) p_is_number (spNumber K))
    (G_tower_of : FnOk P w K mg base CX0 k (He.ga K "tower_of") (fdOf K (He.ga K "tower_of")) p_tower_of (spTowerOf K)) :
    FnOk P w K mg base CX0 (k + 1) (He.ma K (He.ga K "Tower") "__radd__") (fdOf K (He.fAd K ("Tower", some "__radd__"))) p_Tower___radd__ (spAdd K cap d) := by
  refine FunD.ok T.d_Tower___radd__ sc_Tower___radd__ (fun vs H Q E h => ?_) (fun cdv A outer s H vs Q E hr h => ?_)
  · obtain ⟨a, x, S1, S2, v, u, rfl, _⟩ := h
    rfl
  · obtain ⟨a, x, S1, S2, v, u, rfl, ha, hx, hS1, hS2, q⟩ := h
    obtain ⟨b, t, wh, hbt⟩ := hx.wh
    refine ⟨_, PSs.nox ((pss_cons (ps_if (pt_not (pt_val (pe_call G_is_number hr rfl T.g_is_number T.d_is_number.kp (b_is_number T) .nil pass0 (pa_cons (pv 1) pa_nil))))
      (pss_one ps_never)
      pss_nil)
    (pss_one (ps_ret (pe_call G_total hr rfl T.g_total T.d_total.kp (b_total T) .nil pass0 (pa_cons (pv 0) (pa_cons (pe_call G_tower_of hr rfl T.g_tower_of T.d_tower_of.kp (b_tower_of T) .nil pass0 (pa_cons (pv 1) pa_nil)) (pa_cons pe_int pa_nil)))))))), ?_⟩
    show tSeq _ _ _ [some (V.ref a), some x] H
    walk_at "K"
    walk_at "go"
    refine ⟨x, b, t, rfl, wh, ?_⟩
    rw [hbt]
    walk_at "go"
    refine ⟨cap, x, d, S2, u, rfl, hx, fun r H1 x1 hr1 => ?_⟩
    walk_at "go"
    refine ⟨a, r, _, S1, S2, 0, v, u, rfl, ha.ex x1, hr1, hS1, hS2, by decide, by decide, fun r' H' x' h' => q r' H' (x1.trans x') ?_⟩
    have e : v + u = v + 1 * u := by omega
    rw [e]
    exact h'
theorem ok_rsub {k d : Nat} {cap : Sz} (T : Txt K mg)
    (G_total : FnOk P w K mg base CX0 k (He.ga K "total") (fdOf K (He.ga K "total")) p_total (spTotal K cap d))
    (G_is_number : FnOk P w K mg base CX0 k (He.ga K "is_number") (fdOf K (He.ga K "is_number")) p_is_number (spNumber K))
    (G_tower_of : FnOk P w K mg base CX0 k (He.ga K "tower_of") (fdOf K (He.ga K "tower_of")) p_tower_of (spTowerOf K)) :
    FnOk P w K mg base CX0 (k + 1) (He.ma K (He.ga K "Tower") "__rsub__") (fdOf K (He.fAd K ("Tower", some "__rsub__"))) p_Tower___rsub__ (spRsub K cap d) := by
  refine FunD.ok T.d_Tower___rsub__ sc_Tower___rsub__ (fun vs H Q E h => ?_) (fun cdv A outer s H vs Q E hr h => ?_)
  · obtain ⟨a, x, S1, S2, v, u, rfl, _⟩ := h
    rfl
  · obtain ⟨a, x, S1, S2, v, u, rfl, ha, hx, hS1, hS2, q⟩ := h
    obtain ⟨b, t, wh, hbt⟩ := hx.wh
    refine ⟨_, PSs.nox ((pss_cons (ps_if (pt_not (pt_val (pe_call G_is_number hr rfl T.g_is_number T.d_is_number.kp (b_is_number T) .nil pass0 (pa_cons (pv 1) pa_nil))))
      (pss_one ps_never)
      pss_nil)
    (pss_one (ps_ret (pe_call G_total hr rfl T.g_total T.d_total.kp (b_total T) .nil pass0 (pa_cons (pe_call G_tower_of hr rfl T.g_tower_of T.d_tower_of.kp (b_tower_of T) .nil pass0 (pa_cons (pv 1) pa_nil)) (pa_cons (pv 0) (pa_cons (pe_un un_neg pe_int) pa_nil)))))))), ?_⟩
    show tSeq _ _ _ [some (V.ref a), some x] H
    walk_at "K"
    walk_at "go"
    refine ⟨x, b, t, rfl, wh, ?_⟩
    rw [hbt]
    walk_at "go"
    refine ⟨cap, x, d, S2, u, rfl, hx, fun r H1 x1 hr1 => ?_⟩
    walk_at "go"
    refine ⟨r, a, _, S2, S1, 0, u, v, rfl, hr1, ha.ex x1, hS2, hS1, by decide, by decide, fun r' H' x' h' => q r' H' (x1.trans x') ?_⟩
    have e : u - v = u + -1 * v := by omega
    rw [e]
    exact h'
theorem ok_neg {k d : Nat} {cap : Sz} (T : Txt K mg)
    (G_total : FnOk P w K mg base CX0 (k + 1) (He.ga K "total") (fdOf K (He.ga K "total")) p_total (spTotal K cap d))
    (G_Tower___init__ : FnOk P w K mg base CX0 k (He.ma K (He.ga K "Tower") "__init__") (fdOf K (He.fAd K ("Tower", some "__init__"))) p_Tower___init__ (spInit K)) :
    FnOk P w K mg base CX0 (k + 2) (He.ma K (He.ga K "Tower") "__neg__") (fdOf K (He.fAd K ("Tower", some "__neg__"))) p_Tower___neg__ (spNeg K cap d) := by
  refine FunD.ok T.d_Tower___neg__ sc_Tower___neg__ (fun vs H Q E h => ?_) (fun cdv A outer s H vs Q E hr h => ?_)
  · obtain ⟨a, S, v, rfl, _⟩ := h
    rfl
  · obtain ⟨a, S, v, rfl, ha, hS, q⟩ := h
    refine ⟨_, PSs.nox ((pss_one (ps_ret (pe_call G_total hr rfl T.g_total T.d_total.kp (b_total T) .nil pass0 (pa_cons (pe_make T.mk_Tower G_Tower___init__ hr rfl T.g_Tower (b_Tower___init___2 T) (dv_Tower___init___2 T) pass0 (pa_cons pe_int pa_nil)) (pa_cons (pv 0) (pa_cons (pe_un un_neg pe_int) pa_nil))))))), ?_⟩
    show tRet _ _ [some (V.ref a)] H
    walk_at "K"
    walk_at "go"
    have hd := ha.pos
    obtain ⟨d, rfl⟩ : ∃ d', d = d' + 1 := ⟨d - 1, by omega⟩
    refine mk_plain (d := d) (cap := cap) T.e_Tower___init___parts (Sz.Le.refl _) fun r H1 x1 h1 => ?_
    walk_at "go"
    refine ⟨r, a, _, Z0, S, 0, 0, v, rfl, h1, ha.ex x1, z0_lim, hS, by decide, by decide, fun r' H' x' h' => q r' H' (x1.trans x') ?_⟩
    have e : -v = 0 + -1 * v := by omega
    rw [e]
    exact h'
theorem ok_mul {k d : Nat} {cap : Sz} (T : Txt K mg)
    (G_total : FnOk P w K mg base CX0 (k + 1) (He.ga K "total") (fdOf K (He.ga K "total")) p_total (spTotal K cap d))
    (G_is_whole : FnOk P w K mg base CX0 (k + 1) (He.ga K "is_whole") (fdOf K (He.ga K "is_whole")) p_is_whole (spWhole K))
    (G_Tower___init__ : FnOk P w K mg base CX0 k (He.ma K (He.ga K "Tower") "__init__") (fdOf K (He.fAd K ("Tower", some "__init__"))) p_Tower___init__ (spInit K)) :
    FnOk P w K mg base CX0 (k + 2) (He.ma K (He.ga K "Tower") "__mul__") (fdOf K (He.fAd K ("Tower", some "__mul__"))) p_Tower___mul__ (spMul K cap d) := by
  refine FunD.ok T.d_Tower___mul__ sc_Tower___mul__ (fun vs H Q E h => ?_) (fun cdv A outer s H vs Q E hr h => ?_)
  · obtain ⟨a, f, S, m, v, rfl, _⟩ := h
    rfl
  · obtain ⟨a, f, S, m, v, rfl, ha, hS, hf, hm, q⟩ := h
    refine ⟨_, PSs.nox ((pss_cons (ps_if (pt_not (pt_val (pe_call G_is_whole hr rfl T.g_is_whole T.d_is_whole.kp (b_is_whole T) .nil pass0 (pa_cons (pv 1) pa_nil))))
      (pss_one ps_never)
      pss_nil)
    (pss_one (ps_ret (pe_call G_total hr rfl T.g_total T.d_total.kp (b_total T) .nil pass0 (pa_cons (pe_make T.mk_Tower G_Tower___init__ hr rfl T.g_Tower (b_Tower___init___2 T) (dv_Tower___init___2 T) pass0 (pa_cons pe_int pa_nil)) (pa_cons (pv 0) (pa_cons (pv 1) pa_nil)))))))), ?_⟩
    show tSeq _ _ _ [some (V.ref a), some (V.int f)] H
    walk_at "K"
    walk_at "go"
    refine ⟨_, _, _, rfl, .int f, ?_⟩
    walk_at "go"
    have hd := ha.pos
    obtain ⟨d, rfl⟩ : ∃ d', d = d' + 1 := ⟨d - 1, by omega⟩
    refine mk_plain (d := d) (cap := cap) T.e_Tower___init___parts (Sz.Le.refl _) fun r H1 x1 h1 => ?_
    walk_at "go"
    refine ⟨r, a, f, Z0, S, m, 0, v, rfl, h1, ha.ex x1, z0_lim, hS, hf, hm, fun r' H' x' h' => q r' H' (x1.trans x') ?_⟩
    have e : v * f = 0 + f * v := by rw [Int.mul_comm]; omega
    rw [e]
    exact h'
theorem ok_rmul {k d : Nat} {cap : Sz} (T : Txt K mg)
    (G_total : FnOk P w K mg base CX0 (k + 1) (He.ga K "total") (fdOf K (He.ga K "total")) p_total (spTotal K cap d))
    (G_is_whole : FnOk P w K mg base CX0 (k + 1) (He.ga K "is_whole") (fdOf K (He.ga K "is_whole")) p_is_whole (spWhole K))
    (G_Tower___init__ : FnOk P w K mg base CX0 k (He.ma K (He.ga K "Tower") "__init__") (fdOf K (He.fAd K ("Tower", some "__init__"))) p_Tower___init__ (spInit K)) :
    FnOk P w K mg base CX0 (k + 2) (He.ma K (He.ga K "Tower") "__rmul__") (fdOf K (He.fAd K ("Tower", some "__rmul__"))) p_Tower___rmul__ (spMul K cap d) := by
  refine FunD.ok T.d_Tower___rmul__ sc_Tower___rmul__ (fun vs H Q E h => ?_) (fun cdv A outer s H vs Q E hr h => ?_)
  · obtain ⟨a, f, S, m, v, rfl, _⟩ := h
    rfl
  · obtain ⟨a, f, S, m, v, rfl, ha, hS, hf, hm, q⟩ := h
    refine ⟨_, PSs.nox ((pss_cons (ps_if (pt_not (pt_val (pe_call G_is_whole hr rfl T.g_is_whole T.d_is_whole.kp (b_is_whole T) .nil pass0 (pa_cons (pv 1) pa_nil))))
      (pss_one ps_never)
      pss_nil)
    (pss_one (ps_ret (pe_call G_total hr rfl T.g_total T.d_total.kp (b_total T) .nil pass0 (pa_cons (pe_make T.mk_Tower G_Tower___init__ hr rfl T.g_Tower (b_Tower___init___2 T) (dv_Tower___init___2 T) pass0 (pa_cons pe_int pa_nil)) (pa_cons (pv 0) (pa_cons (pv 1) pa_nil)))))))), ?_⟩
    show tSeq _ _ _ [some (V.ref a), some (V.int f)] H
    walk_at "K"
    walk_at "go"
    refine ⟨_, _, _, rfl, .int f, ?_⟩
    walk_at "go"
    have hd := ha.pos
    obtain ⟨d, rfl⟩ : ∃ d', d = d' + 1 := ⟨d - 1, by omega⟩
    refine mk_plain (d := d) (cap := cap) T.e_Tower___init___parts (Sz.Le.refl _) fun r H1 x1 h1 => ?_
    walk_at "go"
    refine ⟨r, a, f, Z0, S, m, 0, v, rfl, h1, ha.ex x1, z0_lim, hS, hf, hm, fun r' H' x' h' => q r' H' (x1.trans x') ?_⟩
    have e : v * f = 0 + f * v := by rw [Int.mul_comm]; omega
    rw [e]
    exact h'
theorem ok_abs {k d : Nat} {cap : Sz} (T : Txt K mg)
    (G_Tower___neg__ : FnOk P w K mg base CX0 k (He.ma K (He.ga K "Tower") "__neg__") (fdOf K (He.fAd K ("Tower", some "__neg__"))) p_Tower___neg__ (spNeg K cap d))
    (G_Tower_sign : FnOk P w K mg base CX0 k (He.ma K (He.ga K "Tower") "sign") (fdOf K (He.fAd K ("Tower", some "sign"))) p_Tower_sign (spSign K)) :
    FnOk P w K mg base CX0 (k + 1) (He.ma K (He.ga K "Tower") "__abs__") (fdOf K (He.fAd K ("Tower", some "__abs__"))) p_Tower___abs__ (spAbs K cap d) := by
  refine FunD.ok T.d_Tower___abs__ sc_Tower___abs__ (fun vs H Q E h => ?_) (fun cdv A outer s H vs Q E hr h => ?_)
  · obtain ⟨a, S, v, rfl, _⟩ := h
    rfl
  · obtain ⟨a, S, v, rfl, ha, hS, q⟩ := h
    refine ⟨_, PSs.nox ((pss_one (ps_ret (pe_ifExp (pt_cmpR op_lt (pe_meth0 (pv 0) T.k_Tower T.m_Tower_sign G_Tower_sign hr (b_Tower_sign T) .nil pass0) pe_int (nomark _)) (pe_un (PW.un_own T.m_Tower___neg__.at_ T.m_Tower___neg__.fn G_Tower___neg__ hr (b_Tower___neg__ T) pass0) (pv 0)) (pv 0))))), ?_⟩
    show tRet _ _ [some (V.ref a)] H
    walk_at "K"
    obtain ⟨dx, fl, fp, fs, hri⟩ := ha.ins'
    walk_at "go"
    refine ⟨cap, a, d, _, _, rfl, ha, fun H1 x1 => ?_⟩
    walk_at "go"
    have hri1 := x1 _ _ hri
    refine r_if2 (fun e => ?_) (fun e => ?_)
    · have h0 := sgn_neg.mp (of_decide_eq_true e)
      walk_at "go"
      refine ⟨a, dx, _, rfl, hri1, a, S, v, rfl, ha.ex x1, hS, fun r H2 x2 h2 => q r H2 (x1.trans x2) ?_⟩
      have e : ((v.natAbs : Nat) : Int) = -v := by omega
      rw [e]
      exact h2
    · have h0 : ¬ v < 0 := fun z => of_decide_eq_false e (sgn_neg.mpr z)
      walk_at "go"
      refine q a H1 x1 ?_
      have e : ((v.natAbs : Nat) : Int) = v := by omega
      rw [e]
      exact (ha.ex x1).mono totZ_le
theorem ok_eq {k d : Nat} {cap : Sz} (T : Txt K mg)
    (G_is_number : FnOk P w K mg base CX0 k (He.ga K "is_number") (fdOf K (He.ga K "is_number")) p_is_number (spNumber K))
    (G_Tower___sub__ : FnOk P w K mg base CX0 k (He.ma K (He.ga K "Tower") "__sub__") (fdOf K (He.fAd K ("Tower", some "__sub__"))) p_Tower___sub__ (spSub K cap d))
    (G_Tower_sign : FnOk P w K mg base CX0 k (He.ma K (He.ga K "Tower") "sign") (fdOf K (He.fAd K ("Tower", some "sign"))) p_Tower_sign (spSign K)) :
    FnOk P w K mg base CX0 (k + 1) (He.ma K (He.ga K "Tower") "__eq__") (fdOf K (He.fAd K ("Tower", some "__eq__"))) p_Tower___eq__ (spEq K cap d) := by
  refine FunD.ok T.d_Tower___eq__ sc_Tower___eq__ (fun vs H Q E h => ?_) (fun cdv A outer s H vs Q E hr h => ?_)
  · obtain ⟨a, x, S, v, rfl, _⟩ := h
    rfl
  · obtain ⟨a, x, S1, v, rfl, ha, hS1, hx⟩ := h
    refine ⟨_, PSs.nox ((pss_cons (ps_if (pt_not (pt_val (pe_call G_is_number hr rfl T.g_is_number T.d_is_number.kp (b_is_number T) .nil pass0 (pa_cons (pv 1) pa_nil))))
      (pss_one (ps_ret pe_bl))
      pss_nil)
    (pss_one (ps_ret (pe_cmpR op_eq (pe_meth0 (pe_op (PW.op_ownB T.o_Tower___sub__ G_Tower___sub__ hr (b_Tower___sub__ T) pass0) (pv 0) (pv 1)) T.k_Tower T.m_Tower_sign G_Tower_sign hr (b_Tower_sign T) .nil pass0) pe_int (nomark _)))))), ?_⟩
    show tSeq _ _ _ [some (V.ref a), some x] H
    walk_at "K"
    walk_at "go"
    rcases hx with ⟨S2, u, hx, hS2, q⟩ | ⟨wh, q⟩
    · obtain ⟨b, t, wh, hbt⟩ := hx.wh
      refine ⟨x, b, t, rfl, wh, ?_⟩
      rw [hbt]
      walk_at "go"
      refine rOwn_num rfl ha hx ?_
      refine ⟨a, x, S1, S2, v, u, rfl, ha, hx, hS1, hS2, fun r H1 x1 hr1 => ?_⟩
      obtain ⟨dx, fl, fp, fs, hri⟩ := hr1.ins'
      walk_at "go"
      refine ⟨cap, r, d, _, _, rfl, hr1, fun H2 x2 => ?_⟩
      walk_at "go"
      have e : decide (V.int (sgn (v - u)) = V.int 0) = decide (v = u) := decide_eq_decide.mpr ⟨fun z => by
        have := sgn_zero.mp (V.int.inj z)
        omega, fun z => congrArg V.int (sgn_zero.mpr (by omega))⟩
      rw [e]
      exact q H2 (x1.trans x2)
    · refine ⟨x, _, _, rfl, wh, ?_⟩
      walk_at "go"
      exact q H (Ex.refl _)
theorem ok_power {k d : Nat} {cap : Sz} (T : Txt K mg)
    (G_is_number : FnOk P w K mg base CX0 (k + 1) (He.ga K "is_number") (fdOf K (He.ga K "is_number")) p_is_number (spNumber K))
    (G_tower_of : FnOk P w K mg base CX0 (k + 1) (He.ga K "tower_of") (fdOf K (He.ga K "tower_of")) p_tower_of (spTowerOf K))
    (G_doubled : FnOk P w K mg base CX0 (k + 1) (He.ga K "doubled") (fdOf K (He.ga K "doubled")) p_doubled spDoubled)
    (G_Tower_small : FnOk P w K mg base CX0 (k + 1) (He.ma K (He.ga K "Tower") "small") (fdOf K (He.fAd K ("Tower", some "small"))) p_Tower_small (spSmall K))
    (G_Tower_sign : FnOk P w K mg base CX0 (k + 1) (He.ma K (He.ga K "Tower") "sign") (fdOf K (He.fAd K ("Tower", some "sign"))) p_Tower_sign (spSign K))
    (G_Tower___init__ : FnOk P w K mg base CX0 k (He.ma K (He.ga K "Tower") "__init__") (fdOf K (He.fAd K ("Tower", some "__init__"))) p_Tower___init__ (spInit K)) :
    FnOk P w K mg base CX0 (k + 2) (sgA "Tower" "power" K) (fdOf K (sgA "Tower" "power" K)) p_Tower_power (spPower K cap d) := by
  refine FunD.ok T.d_Tower_power sc_Tower_power (fun vs H Q E h => ?_) (fun cdv A outer s H vs Q E hr h => ?_)
  · obtain ⟨x, S, v, rfl, _⟩ := h
    rfl
  · obtain ⟨x, S, v, rfl, hx, hS, q⟩ := h
    obtain ⟨b, t, wh, hbt⟩ := hx.wh
    refine ⟨_, PSs.nox ((pss_cons (ps_if (pt_not (pt_val (pe_call G_is_number hr rfl T.g_is_number T.d_is_number.kp (b_is_number T) .nil pass0 (pa_cons (pv 0) pa_nil))))
      (pss_one ps_never)
      pss_nil)
    (pss_cons (ps_set (i := 1) sc_Tower_power.nd rfl (Or.inl rfl) (pe_call G_tower_of hr rfl T.g_tower_of T.d_tower_of.kp (b_tower_of T) .nil pass0 (pa_cons (pv 0) pa_nil)))
    (pss_cons (ps_if (pt_cmpR op_lt (pe_meth0 (pv 1) T.k_Tower T.m_Tower_sign G_Tower_sign hr (b_Tower_sign T) .nil pass0) pe_int (nomark _))
      (pss_one (ps_ret (pe_make T.mk_Tower G_Tower___init__ hr rfl T.g_Tower (b_Tower___init___2 T) (dv_Tower___init___2 T) pass0 (pa_cons pe_int pa_nil))))
      pss_nil)
    (pss_cons (ps_set (i := 2) sc_Tower_power.nd rfl (Or.inl rfl) (pe_meth0 (pv 1) T.k_Tower T.m_Tower_small G_Tower_small hr (b_Tower_small T) .nil pass0))
    (pss_cons (ps_if (PW.pt (pw_and (pt_cmp (pc_notN (pv 2)) rfl) (pw_and1 (pt_cmpR op_le (pv 2) (pe_gint rfl T.c_PLAIN) (nomark _)))))
      (pss_one (ps_ret (pe_make T.mk_Tower G_Tower___init__ hr rfl T.g_Tower (b_Tower___init___2 T) (dv_Tower___init___2 T) pass0 (pa_cons (pe_call G_doubled hr rfl T.g_doubled T.d_doubled.kp (b_doubled T) .nil pass0 (pa_cons (pv 2) pa_nil)) pa_nil))))
      pss_nil)
    (pss_one (ps_ret (pe_makeK T.mk_Tower G_Tower___init__ hr rfl T.g_Tower (kb_Tower___init___1_parts T) pass0 (pa_cons pe_int pa_nil) (pk_cons (pe_tup (pa_cons (pe_tup (pa_cons pe_int (pa_cons (pv 1) pa_nil))) pa_nil)) pk_nil)))))))))), ?_⟩
    show tSeq _ _ _ [some x, none, none] H
    walk_at "K"
    walk_at "go"
    refine ⟨x, b, t, rfl, wh, ?_⟩
    rw [hbt]
    walk_at "go"
    refine ⟨cap, x, d, S, v, rfl, hx, fun r H1 x1 hr1 => ?_⟩
    obtain ⟨dx, fl, fp, fs, hri⟩ := hr1.ins'
    walk_at "go"
    refine ⟨cap, r, d, _, _, rfl, hr1, fun H2 x2 => ?_⟩
    have hri2 := x2 _ _ hri
    walk_at "go"
    refine r_if2 (fun e => ?_) (fun e => ?_)
    · have h0 := sgn_neg.mp (of_decide_eq_true e)
      walk_at "go"
      refine mk_plain (cap := cap) (d := d) (S := PSZ) T.e_Tower___init___parts ⟨Nat.zero_le _, Nat.zero_le _, Nat.zero_le _⟩ fun r' H3 x3 h3 => q r' H3 ((x1.trans x2).trans x3) ?_
      have : pw2 v = 0 := by
        unfold pw2
        rw [if_pos h0]
      rw [this]
      exact h3
    · have h0 : ¬ v < 0 := fun z => of_decide_eq_false e (sgn_neg.mpr z)
      obtain ⟨n, rfl⟩ : ∃ n : Nat, v = n := ⟨v.toNat, by omega⟩
      have hp : pw2 ((n : Nat) : Int) = 2 ^ n := by
        unfold pw2
        rw [if_neg h0, Int.toNat_natCast]
      rw [hp] at q
      walk_at "go"
      refine ⟨cap, r, d, _, _, rfl, hr1.ex x2, fun H3 x3 => ?_⟩
      rw [smallV_nat]
      have hr3 := hr1.ex (x2.trans x3)
      have fin : 256 < n → ∀ (t0 t1 : Addr) (H4 : Hp), Ex H3 H4 → H4 t0 = some (.tup [.int 1, .ref r]) → H4 t1 = none → RowsV K cap (L2.upd H4 t1 (.tup [.ref t0])) d [.ref t0] [(1, n)] ∧ ∀ r' H', Ex (L2.upd H4 t1 (.tup [.ref t0])) H' → IsT K cap H' (d + 1) PSZ r' (2 ^ n) → Q (.ref r') H' := fun hn t0 t1 H4 x4 h0 h1 =>
        ⟨.cons ⟨t0, r, rfl, SqT.of ((Ex.new h1) _ _ h0), (hr3.ex (x4.trans (Ex.new h1))).mono hS⟩ .nil, fun r' H5 x5 h5 => q r' H5 ((((x1.trans x2).trans x3).trans (x4.trans (Ex.new h1))).trans x5) h5⟩
      by_cases h64 : n < 2 ^ 64
      · rw [if_pos h64]
        walk_at "go"
        refine r_if2 (fun e2 => ?_) (fun e2 => ?_)
        · have hle : ((n : Nat) : Int) ≤ 256 := of_decide_eq_true e2
          walk_at "go"
          refine ⟨n, rfl, by omega, ?_⟩
          walk_at "go"
          refine mk_plain (cap := cap) (d := d) (S := PSZ) T.e_Tower___init___parts ⟨?_, Nat.zero_le _, Nat.zero_le _⟩ fun r' H4 x4 h4 => q r' H4 (((x1.trans x2).trans x3).trans x4) h4
          show bt (2 ^ n) ≤ 266
          rw [bt_pow]
          omega
        · have hgt : ¬ ((n : Nat) : Int) ≤ 256 := of_decide_eq_false e2
          walk_at "go"
          intro t0 ht0
          walk_at "go"
          intro t1 ht1
          walk_at "go"
          obtain ⟨hrw, hq⟩ := fin (by omega) t0 t1 _ (Ex.new ht0) upd_same ht1
          exact mk_rows (SqT.of upd_same) hrw (Wf.pow (by omega)) hq
      · rw [if_neg h64]
        walk_at "go"
        intro t0 ht0
        walk_at "go"
        intro t1 ht1
        walk_at "go"
        obtain ⟨hrw, hq⟩ := fin (by omega) t0 t1 _ (Ex.new ht0) upd_same ht1
        exact mk_rows (SqT.of upd_same) hrw (Wf.pow (by omega)) hq
end
end PW
/-! ### powers of two and remainders -/
namespace PW
open PySem PySem.Spec PyProof.Rows L2
/-- 2 to the E has the remainder of 1 -/
def On (n E : Nat) : Prop := 0 < E ∧ 2 ^ E % n = 1 % n
theorem on_iff {n E : Nat} : 2 ^ E % n = 1 % n ↔ n ∣ 2 ^ E - 1 := by
  have h1 : 1 ≤ 2 ^ E := Nat.pow_pos (by decide)
  constructor
  · intro h
    exact Nat.dvd_of_mod_eq_zero (Nat.sub_mod_eq_zero_of_mod_eq h)
  · rintro ⟨t, ht⟩
    have e : 2 ^ E = 1 + n * t := by omega
    rw [e, Nat.add_mul_mod_self_left]
theorem On.mul {n E : Nat} (h : On n E) {k : Nat} (hk : 0 < k) : On n (E * k) := by
  refine ⟨Nat.mul_pos h.1 hk, ?_⟩
  rw [Nat.pow_mul, Nat.pow_mod, h.2, ← Nat.pow_mod, Nat.one_pow]
theorem On.comb {n m E : Nat} (h1 : On n E) (h2 : On m E) (c : Nat.Coprime n m) : On (n * m) E :=
  ⟨h1.1, on_iff.mpr (Nat.Coprime.mul_dvd_of_dvd_of_dvd c (on_iff.mp h1.2) (on_iff.mp h2.2))⟩
theorem on_one {E : Nat} (h : 0 < E) : On 1 E := ⟨h, by rw [Nat.mod_one, Nat.mod_one]⟩
def Pr (p : Nat) : Prop := 2 ≤ p ∧ ∀ d, d ∣ p → d = 1 ∨ d = p
theorem Pr.cop {p i : Nat} (h : Pr p) (hi : ¬ p ∣ i) : Nat.Coprime p i := by
  rcases h.2 (Nat.gcd p i) (Nat.gcd_dvd_left p i) with e | e
  · exact e
  · exact absurd (e ▸ Nat.gcd_dvd_right p i) hi
/-! #### Fermat -/
def evs : Nat → Nat
  | 0 => 1
  | h + 1 => evs h * (2 * (h + 1))
def ods : Nat → Nat
  | 0 => 1
  | h + 1 => ods h * (2 * h + 1)
/-- the product of 2 (h + j), j from 1 to k -/
def ups (h : Nat) : Nat → Nat
  | 0 => 1
  | k + 1 => ups h k * (2 * (h + (k + 1)))
def fac : Nat → Nat
  | 0 => 1
  | k + 1 => fac k * (k + 1)
theorem fac_two (h : Nat) : fac (2 * h) = evs h * ods h := by
  induction h with
  | zero => rfl
  | succ h ih =>
    have e : 2 * (h + 1) = 2 * h + 1 + 1 := by omega
    rw [e]
    show fac (2 * h) * (2 * h + 1) * (2 * h + 1 + 1) = evs h * (2 * (h + 1)) * (ods h * (2 * h + 1))
    rw [ih, e]
    simp only [Nat.mul_assoc, Nat.mul_comm, Nat.mul_left_comm]
theorem ups_mod (h : Nat) : ∀ k, k ≤ h → ups h k % (2 * h + 1) = ods k % (2 * h + 1)
  | 0, _ => rfl
  | k + 1, hk => by
    show ups h k * (2 * (h + (k + 1))) % _ = ods k * (2 * k + 1) % _
    rw [Nat.mul_mod, ups_mod h k (by omega)]
    have e : 2 * (h + (k + 1)) = 2 * k + 1 + (2 * h + 1) := by omega
    rw [e, Nat.add_mod_right, ← Nat.mul_mod]
theorem pow_fac (h : Nat) : ∀ k, 2 ^ (h + k) * fac (h + k) = evs h * ups h k
  | 0 => by
    show 2 ^ h * fac h = evs h * 1
    rw [Nat.mul_one]
    induction h with
    | zero => rfl
    | succ h ih =>
      show 2 ^ (h + 1) * (fac h * (h + 1)) = evs h * (2 * (h + 1))
      rw [← ih, Nat.pow_succ]
      simp only [Nat.mul_assoc, Nat.mul_comm, Nat.mul_left_comm]
  | k + 1 => by
    have ih := pow_fac h k
    show 2 ^ (h + k + 1) * (fac (h + k) * (h + k + 1)) = evs h * (ups h k * (2 * (h + (k + 1))))
    have e : evs h * (ups h k * (2 * (h + (k + 1)))) = (evs h * ups h k) * (2 * (h + (k + 1))) := by rw [Nat.mul_assoc]
    rw [e, ← ih, Nat.pow_succ]
    simp only [Nat.mul_assoc, Nat.mul_comm, Nat.mul_left_comm, Nat.add_assoc]
theorem fac_cop {p : Nat} (h : Pr p) : ∀ k, k < p → Nat.Coprime p (fac k)
  | 0, _ => Nat.coprime_one_right p
  | k + 1, hk => Nat.Coprime.mul_right (fac_cop h k (by omega)) (h.cop fun d => by
      have := Nat.le_of_dvd (by omega) d
      omega)
theorem fermat {p : Nat} (h : Pr p) (ho : p % 2 = 1) : On p (p - 1) := by
  obtain ⟨m, rfl⟩ : ∃ m, p = 2 * m + 1 := ⟨p / 2, by omega⟩
  have hm : 0 < m := by
    have := h.1
    omega
  have e : 2 * m + 1 - 1 = m + m := by omega
  rw [e]
  refine ⟨by omega, on_iff.mpr ?_⟩
  have h1 := pow_fac m m
  have h2 := ups_mod m m (Nat.le_refl m)
  have h3 := fac_two m
  have e2 : 2 * m = m + m := by omega
  rw [e2] at h3
  have c := fac_cop h (m + m) (by omega)
  have h4 : 2 ^ (m + m) * fac (m + m) % (2 * m + 1) = fac (m + m) % (2 * m + 1) := by
    rw [h1, Nat.mul_mod, h2, ← Nat.mul_mod, ← h3]
  have h5 : (2 * m + 1) ∣ 2 ^ (m + m) * fac (m + m) - fac (m + m) := Nat.dvd_of_mod_eq_zero (Nat.sub_mod_eq_zero_of_mod_eq h4)
  have h6 : 2 ^ (m + m) * fac (m + m) - fac (m + m) = fac (m + m) * (2 ^ (m + m) - 1) := by
    rw [Nat.mul_sub, Nat.mul_one, Nat.mul_comm]
  rw [h6] at h5
  exact Nat.Coprime.dvd_of_dvd_mul_left c h5
/-! #### powers of a prime -/
theorem one_add_pow (x : Nat) : ∀ k, ∃ c, (1 + x) ^ k = 1 + k * x + x * x * c
  | 0 => ⟨0, by simp⟩
  | k + 1 => by
    obtain ⟨c, hc⟩ := one_add_pow x k
    refine ⟨c + k + x * c, ?_⟩
    rw [Nat.pow_succ, hc]
    simp only [Nat.add_mul, Nat.mul_add, Nat.one_mul, Nat.mul_one, Nat.mul_assoc, Nat.mul_comm, Nat.mul_left_comm]
    omega
theorem on_lift {p j E : Nat} (hp : 0 < p) (hj : 1 ≤ j) (h : On (p ^ j) E) : On (p ^ (j + 1)) (E * p) := by
  refine ⟨Nat.mul_pos h.1 hp, on_iff.mpr ?_⟩
  obtain ⟨t, ht⟩ := on_iff.mp h.2
  have h1 : 1 ≤ 2 ^ E := Nat.pow_pos (by decide)
  have e : 2 ^ E = 1 + p ^ j * t := by omega
  obtain ⟨c, hc⟩ := one_add_pow (p ^ j * t) p
  rw [Nat.pow_mul, e, hc]
  have e2 : 1 + p * (p ^ j * t) + p ^ j * t * (p ^ j * t) * c - 1 = p * (p ^ j * t) + p ^ j * t * (p ^ j * t) * c := by omega
  rw [e2]
  refine Nat.dvd_add ⟨t, ?_⟩ ?_
  · rw [Nat.pow_succ]
    simp only [Nat.mul_assoc, Nat.mul_comm, Nat.mul_left_comm]
  · have d1 : p ^ (j + 1) ∣ p ^ j * p ^ j := by
      rw [← Nat.pow_add]
      exact Nat.pow_dvd_pow p (by omega)
    have e3 : p ^ j * t * (p ^ j * t) * c = p ^ j * p ^ j * (t * t * c) := by simp only [Nat.mul_assoc, Nat.mul_comm, Nat.mul_left_comm]
    rw [e3]
    exact Nat.dvd_trans d1 (Nat.dvd_mul_right _ _)
theorem on_pp {p : Nat} (h : Pr p) (ho : p % 2 = 1) : ∀ k, On (p ^ (k + 1)) (p ^ k * (p - 1))
  | 0 => by
    have := fermat h ho
    simpa using this
  | k + 1 => by
    have ih := on_lift (p := p) (by have := h.1; omega) (by omega) (on_pp h ho k)
    have e : p ^ (k + 1) * (p - 1) = p ^ k * (p - 1) * p := by
      rw [Nat.pow_succ]
      simp only [Nat.mul_assoc, Nat.mul_comm, Nat.mul_left_comm]
    rw [e]
    exact ih
/-! #### how the totient is found -/
structure TI (n φ r f : Nat) : Prop where
  ex : ∃ D E, n = D * r ∧ φ = E * r ∧ On D E ∧ Nat.Coprime D r
  pos : 0 < r
  no : ∀ d, 2 ≤ d → d < f → ¬ d ∣ r
  le : φ ≤ n
theorem TI.start {n : Nat} (h : 0 < n) : TI n n n 2 :=
  ⟨⟨1, 1, by omega, by omega, on_one (by decide), Nat.coprime_one_left n⟩, h, fun d h1 h2 => by omega, Nat.le_refl n⟩
theorem TI.prime {n φ r f : Nat} (t : TI n φ r f) (hf : 2 ≤ f) (hd : f ∣ r) : Pr f := by
  refine ⟨hf, fun d hdf => ?_⟩
  have hd0 : 0 < d := Nat.pos_of_dvd_of_pos hdf (by omega)
  have hle := Nat.le_of_dvd (by omega) hdf
  by_cases h1 : d = 1
  · exact .inl h1
  · by_cases h2 : d < f
    · exact absurd (Nat.dvd_trans hdf hd) (t.no d (by omega) h2)
    · exact .inr (by omega)
theorem TI.rest {n φ r f : Nat} (t : TI n φ r f) (h1 : 1 < r) (h2 : r < f * f) : Pr r := by
  refine ⟨h1, fun d hdr => ?_⟩
  have hd0 : 0 < d := Nat.pos_of_dvd_of_pos hdr t.pos
  by_cases e1 : d = 1
  · exact .inl e1
  · by_cases e2 : d = r
    · exact .inr e2
    · exfalso
      obtain ⟨c, hc⟩ := hdr
      have hc0 : c ≠ 0 := fun z => by
        rw [z, Nat.mul_zero] at hc
        omega
      have hc1 : c ≠ 1 := fun z => by
        rw [z, Nat.mul_one] at hc
        omega
      have hdf : f ≤ d := by
        rcases Nat.lt_or_ge d f with z | z
        · exact absurd ⟨c, hc⟩ (t.no d (by omega) z)
        · exact z
      have hcf : f ≤ c := by
        rcases Nat.lt_or_ge c f with z | z
        · exact absurd ⟨d, by rw [hc, Nat.mul_comm]⟩ (t.no c (by omega) z)
        · exact z
      have := Nat.mul_le_mul hdf hcf
      omega
theorem TI.next {n φ r f : Nat} (t : TI n φ r f) (hd : ¬ f ∣ r) : TI n φ r (f + 1) :=
  ⟨t.ex, t.pos, fun d h1 h2 => by
    by_cases e : d = f
    · rw [e]
      exact hd
    · exact t.no d h1 (by omega), t.le⟩
/-- the factor's powers taken out -/
theorem TI.out {n φ r f k r' : Nat} (t : TI n φ r f) (hf : 2 ≤ f) (ho : n % 2 = 1) (hr : r = f ^ (k + 1) * r') (hd : ¬ f ∣ r') : TI n (φ - φ / f) r' (f + 1) := by
  obtain ⟨⟨D, E, h1, h2, h3, h4⟩, h5, h6, h7⟩ := t
  have hfr : f ∣ r := ⟨f ^ k * r', by rw [hr, Nat.pow_succ]; simp only [Nat.mul_assoc, Nat.mul_comm, Nat.mul_left_comm]⟩
  have hp : Pr f := TI.prime ⟨⟨D, E, h1, h2, h3, h4⟩, h5, h6, h7⟩ hf hfr
  have hr0 : 0 < r' := Nat.pos_of_ne_zero fun z => by
    rw [z, Nat.mul_zero] at hr
    omega
  have hfo : f % 2 = 1 := by
    rcases Nat.mod_two_eq_zero_or_one f with z | z
    · exfalso
      have : 2 ∣ n := Nat.dvd_trans (Nat.dvd_of_mod_eq_zero z) (Nat.dvd_trans hfr ⟨D, by rw [h1, Nat.mul_comm]⟩)
      omega
    · exact z
  have hq : φ / f = E * f ^ k * r' := by
    have : φ = f * (E * f ^ k * r') := by
      rw [h2, hr, Nat.pow_succ]
      simp only [Nat.mul_assoc, Nat.mul_comm, Nat.mul_left_comm]
    rw [this]
    exact Nat.mul_div_cancel_left _ (by omega)
  have hφ : φ - φ / f = E * (f ^ k * (f - 1)) * r' := by
    have e1 : φ = E * f ^ k * r' * f := by
      rw [h2, hr, Nat.pow_succ]
      simp only [Nat.mul_assoc, Nat.mul_comm, Nat.mul_left_comm]
    rw [hq]
    have e2 : E * (f ^ k * (f - 1)) * r' = E * f ^ k * r' * (f - 1) := by simp only [Nat.mul_assoc, Nat.mul_comm, Nat.mul_left_comm]
    rw [e2, Nat.mul_sub, Nat.mul_one, ← e1]
  have hfk : 0 < f ^ k * (f - 1) := Nat.mul_pos (Nat.pow_pos (by omega)) (by omega)
  have hrd : r' ∣ r := ⟨f ^ (k + 1), by rw [hr, Nat.mul_comm]⟩
  have hfd : f ^ (k + 1) ∣ r := ⟨r', hr⟩
  have c1 : Nat.Coprime D r' := Nat.Coprime.coprime_dvd_right hrd h4
  have c2 : Nat.Coprime D (f ^ (k + 1)) := Nat.Coprime.coprime_dvd_right hfd h4
  have c3 : Nat.Coprime (f ^ (k + 1)) r' := Nat.Coprime.pow_left _ (hp.cop hd)
  refine ⟨⟨D * f ^ (k + 1), E * (f ^ k * (f - 1)), by rw [h1, hr, Nat.mul_assoc], hφ, (h3.mul hfk).comb ?_ c2, Nat.Coprime.mul_left c1 c3⟩, hr0, fun d g1 g2 g3 => ?_, by omega⟩
  · rw [Nat.mul_comm E]
    exact (on_pp hp hfo k).mul h3.1
  · by_cases e : d = f
    · rw [e] at g3
      exact hd g3
    · exact h6 d g1 (by omega) (Nat.dvd_trans g3 hrd)
theorem TI.end1 {n φ r f : Nat} (t : TI n φ r f) (ho : n % 2 = 1) (h1 : 1 < r) (h2 : r < f * f) : On n (φ - φ / r) := by
  have hp := t.rest h1 h2
  obtain ⟨⟨D, E, g1, g2, g3, g4⟩, h5, h6, h7⟩ := t
  have e : φ - φ / r = E * (r - 1) := by
    rw [g2, Nat.mul_div_cancel _ h5, Nat.mul_sub, Nat.mul_one]
  have hro : r % 2 = 1 := by
    rcases Nat.mod_two_eq_zero_or_one r with z | z
    · exfalso
      have : 2 ∣ n := Nat.dvd_trans (Nat.dvd_of_mod_eq_zero z) ⟨D, by rw [g1, Nat.mul_comm]⟩
      omega
    · exact z
  rw [e, g1]
  refine (g3.mul (by omega)).comb ?_ g4
  rw [Nat.mul_comm]
  exact (fermat hp hro).mul g3.1
theorem TI.end2 {n φ r f : Nat} (t : TI n φ r f) (h1 : ¬ 1 < r) : On n φ := by
  obtain ⟨⟨D, E, g1, g2, g3, g4⟩, h5, h6, h7⟩ := t
  have e : r = 1 := by omega
  subst e
  rw [Nat.mul_one] at g1 g2
  rw [g1, g2]
  exact g3
/-! #### far exponents -/
theorem mod_of_parts {o w a b : Nat} (hc : Nat.Coprime o w) (h1 : a % o = b % o) (h2 : a % w = b % w) : a % (o * w) = b % (o * w) := by
  have key : ∀ a b : Nat, b ≤ a → a % o = b % o → a % w = b % w → a % (o * w) = b % (o * w) := fun a b hl h1 h2 => by
    have d1 := Nat.dvd_of_mod_eq_zero (Nat.sub_mod_eq_zero_of_mod_eq h1)
    have d2 := Nat.dvd_of_mod_eq_zero (Nat.sub_mod_eq_zero_of_mod_eq h2)
    obtain ⟨t, ht⟩ := Nat.Coprime.mul_dvd_of_dvd_of_dvd hc d1 d2
    have e : a = b + o * w * t := by omega
    rw [e, Nat.add_mul_mod_self_left]
  rcases Nat.le_total b a with z | z
  · exact key a b z h1 h2
  · exact (key b a z h1.symm h2.symm).symm
theorem odd_cop {o t : Nat} (h : o % 2 = 1) : Nat.Coprime o (2 ^ t) := by
  have h2 : Nat.Coprime 2 o := Pr.cop ⟨Nat.le_refl 2, fun d hd => by
    have := Nat.le_of_dvd (by decide) hd
    have h0 : d ≠ 0 := fun z => by
      rw [z] at hd
      have := Nat.eq_zero_of_zero_dvd hd
      omega
    omega⟩ (fun d => by omega)
  exact (Nat.Coprime.pow_left t h2).symm
theorem far_pow {o t c e e' : Nat} (ho : o % 2 = 1) (hc : On o c) (h1 : t ≤ e) (h2 : t ≤ e') (h : e % c = e' % c) : 2 ^ e % (o * 2 ^ t) = 2 ^ e' % (o * 2 ^ t) := by
  refine mod_of_parts (odd_cop ho) ?_ ?_
  · have key : ∀ e : Nat, 2 ^ e % o = 2 ^ (e % c) % o := fun e => by
      have e1 : e = c * (e / c) + e % c := (Nat.div_add_mod e c).symm
      have e2 : 2 ^ e = (2 ^ c) ^ (e / c) * 2 ^ (e % c) := by
        rw [← Nat.pow_mul, ← Nat.pow_add, ← e1]
      rw [e2, Nat.mul_mod, Nat.pow_mod (2 ^ c), hc.2, ← Nat.pow_mod, Nat.one_pow, ← Nat.mul_mod, Nat.one_mul]
    rw [key e, key e', h]
  · have key : ∀ e : Nat, t ≤ e → 2 ^ e % 2 ^ t = 0 := fun e he => Nat.mod_eq_zero_of_dvd (Nat.pow_dvd_pow 2 he)
    rw [key e h1, key e' h2]
end PW
/-! ### totient, power_rest, rest_of, %, // -/
namespace PW
open PySem PySem.Spec PyProof.Rows L2
def spTotient : Sp := fun vs H Q _ => ∃ n : Nat, vs = [.int (n : Nat)] ∧ 0 < n ∧ n % 2 = 1 ∧ n < 2 ^ 8900 ∧ ∀ E : Nat, On n E → E ≤ n → Q (.int (E : Nat)) H
def spPowerRest : Sp := fun vs H Q _ => ∃ t m : Nat, vs = [.int (t : Nat), .int (m : Nat)] ∧ 0 < m ∧ m < 2 ^ 8900 ∧ Q (.int ((2 ^ t % m : Nat) : Int)) H
def spRest (K : PySem.W.Frag) (cap : Sz) (d : Nat) : Sp := fun vs H Q _ => ∃ a S B v, ∃ m : Nat, vs = [.ref a, .int (m : Nat)] ∧ IsT K cap H d S a v ∧ S.Le LIM ∧ 0 < m ∧ m ≤ 2 ^ B ∧ B + S.s + d * cap.s ≤ 8800 ∧ ∀ H', Ex H H' → Q (.int (v % (m : Int))) H'
def spMod (K : PySem.W.Frag) (cap : Sz) (d : Nat) : Sp := fun vs H Q _ => ∃ a S v, ∃ m : Nat, vs = [.ref a, .int (m : Nat)] ∧ IsT K cap H d S a v ∧ S.Le LIM ∧ 1 ≤ m ∧ m ≤ 1000 ∧ 10 + S.s + d * cap.s ≤ 8800 ∧ ∀ H', Ex H H' → Q (.int (v % (m : Int))) H'
def divSz (S : Sz) : Sz := ⟨S.z + 2 * S.s + 12, S.n, S.s + 10⟩
def spDiv (K : PySem.W.Frag) (cap : Sz) (d : Nat) : Sp := fun vs H Q _ => ∃ a S v, ∃ m : Nat, vs = [.ref a, .int (m : Nat)] ∧ IsT K cap H d S a v ∧ S.Le LIM ∧ 1 ≤ m ∧ m ≤ 1000 ∧ 10 + S.s + d * cap.s ≤ 8800 ∧ ∀ r H', Ex H H' → IsT K cap H' d (divSz S) r (v / (m : Int)) → Q (.ref r) H'
theorem cdN {i : Int} {n : Nat} (h0 : 0 < n) (h : n < 2 ^ 8999) : CDivW i (n : Int) := ⟨by omega, by
  rw [Int.natAbs_natCast]
  exact Nat.lt_trans (PySem.Flt.log2_lt_of (by decide) h) (by decide)⟩
theorem cmN {a b x y : Nat} (ha : a < 2 ^ x) (hb : b < 2 ^ y) (h : x + y ≤ 134217728) : CMulX (a : Int) (b : Int) := mulx_ok (a := x) (b := y) (by rw [Int.natAbs_natCast]; exact ha) (by rw [Int.natAbs_natCast]; exact hb) h
theorem decN {a b : Nat} : decide (V.int (a : Int) = V.int (b : Int)) = decide (a = b) := decide_eq_decide.mpr ⟨fun z => by
  have := V.int.inj z
  omega, fun z => by rw [z]⟩
theorem sq_even {s x : Nat} (h : x % 2 = 0) : s ^ x = (s * s) ^ (x / 2) := by
  have e : x = 2 * (x / 2) := by omega
  have e2 : s * s = s ^ 2 := by rw [Nat.pow_two]
  rw [e2, ← Nat.pow_mul, ← e]
theorem sq_odd {s x : Nat} (h : x % 2 = 1) : s ^ x = s * (s * s) ^ (x / 2) := by
  have e : x = 2 * (x / 2) + 1 := by omega
  have e2 : s * s = s ^ 2 := by rw [Nat.pow_two]
  rw [e2, ← Nat.pow_mul]
  have e3 : s * s ^ (2 * (x / 2)) = s ^ (2 * (x / 2) + 1) := by rw [Nat.pow_succ, Nat.mul_comm]
  rw [e3, ← e]
theorem emod_add_mul {f c w : Int} {e : Nat} {W : Nat} (hw : w = (W : Nat)) (p : Nat) (hp : p = 2 ^ e % W) : (f + c * (p : Nat)) % w = (f + c * 2 ^ e) % w := by
  subst hw hp
  have h1 : ((2 ^ e % W : Nat) : Int) = (2 : Int) ^ e % (W : Int) := by
    rw [Int.natCast_emod]
    congr 1
  rw [h1, Int.add_emod, Int.mul_emod, Int.emod_emod_of_dvd _ (Int.dvd_refl _), ← Int.mul_emod, ← Int.add_emod]
theorem rest_end {v share x : Int} {m : Nat} (hs : 0 < share) (hx : x % ((m : Int) * share) = (v * share) % ((m : Int) * share)) : x % ((m : Int) * share) / share = v % (m : Int) := by
  rw [hx, Int.mul_comm v, Int.mul_comm (m : Int), Int.mul_emod_mul_of_pos _ _ hs]
  exact Int.mul_ediv_cancel_left _ (by omega)
section
variable {P : Program} {w : World} {K : PySem.W.Frag} {mg : Str → Option Value} {base : Heap}
theorem ok_totient (T : Txt K mg) : FnOk P w K mg base CX0 1 (He.ga K "totient") (fdOf K (He.ga K "totient")) p_totient spTotient := by
  refine FunD.ok T.d_totient sc_totient (fun vs H Q E h => ?_) (fun cdv A outer s H vs Q E hr h => ?_)
  · obtain ⟨n, rfl, _⟩ := h
    rfl
  · obtain ⟨n, rfl, hn, ho, hb, q⟩ := h
    refine ⟨_, PSs.nox ((pss_cons (ps_par3 (i := 1) (j := 2) (l := 3) (by rfl) sc_totient.nd rfl rfl rfl (by decide) (by decide) (by decide) rfl rfl rfl (pa_cons (pv 0) (pa_cons (pv 0) (pa_cons pe_int pa_nil))) (by rfl))
    (pss_cons (ps_while PassesOwn.never (pt_cmpR op_le (pe_op op_mulX (pv 3) (pv 3)) (pv 2) (nomark _))
      (pss_cons (ps_if (pt_cmpR op_eq (pe_op op_mod (pv 2) (pv 3)) pe_int (nomark _))
          (pss_cons (ps_set (i := 1) sc_totient.nd rfl (Or.inl rfl) (pe_op op_sub (pv 1) (pe_op op_fdivW (pv 1) (pv 3))))
            (pss_one (ps_while PassesOwn.never (pt_cmpR op_eq (pe_op op_mod (pv 2) (pv 3)) pe_int (nomark _))
              (pss_one (ps_set (i := 2) sc_totient.nd rfl (Or.inl rfl) (pe_op op_fdivW (pv 2) (pv 3)))))))
          pss_nil)
        (pss_one (ps_set (i := 3) sc_totient.nd rfl (Or.inl rfl) (pe_op op_add (pv 3) pe_int)))))
    (pss_one (ps_ret (pe_ifExp (pt_cmpR op_gt (pv 2) pe_int (nomark _)) (pe_op op_sub (pv 1) (pe_op op_fdivW (pv 1) (pv 2))) (pv 1))))))), ?_⟩
    show tSeq _ _ _ [some (V.int (n : Nat)), none, none, none] H
    walk_at "K"
    walk_at "go"
    have hb2 : n + 1 < 2 ^ 8901 := by
      have : (2 : Nat) ^ 8901 = 2 ^ 8900 * 2 := Nat.pow_succ ..
      omega
    have hb3 : (2 : Nat) ^ 8901 ≤ 2 ^ 8999 := Nat.pow_le_pow_right (by decide) (by decide)
    generalize (2 : Nat) ^ 8900 = B0 at hb hb2
    refine while_it (fun m σ H' => H' = H ∧ ∃ φ r f : Nat, σ = [some (V.int (n : Nat)), some (V.int (φ : Nat)), some (V.int (r : Nat)), some (V.int (f : Nat))] ∧ m = n + 2 - f ∧ TI n φ r f ∧ 2 ≤ f ∧ f ≤ n + 1 ∧ r ≤ n) (m0 := n) ⟨rfl, n, n, 2, rfl, by omega, TI.start hn, by omega, by omega, Nat.le_refl n⟩ ?_
    rintro m σ H' ⟨rfl, φ, r, f, rfl, rfl, ti, hf, hfn, hrn⟩
    have cm : CMulX (f : Int) (f : Int) := cmN (x := 8901) (y := 8901) (by omega) (by omega) (by decide)
    have cd : ∀ i, CDivW i (f : Int) := fun i => cdN (by omega) (by omega)
    have cd1 := cd (φ : Int)
    walk_at "go"
    refine r_if2 (fun e => ?_) (fun e => ?_)
    · have hle : ((f : Nat) : Int) * (f : Nat) ≤ (r : Nat) := of_decide_eq_true e
      have hle2 : f * f ≤ r := by exact_mod_cast hle
      have hff : 2 * f ≤ f * f := Nat.mul_le_mul_right f hf
      refine r_turn ?_
      walk_at "go"
      have em : ((r : Nat) : Int) % (f : Nat) = ((r % f : Nat) : Int) := (Int.natCast_emod r f).symm
      rw [em]
      have ez : decide (V.int ((r % f : Nat) : Int) = V.int 0) = decide (r % f = 0) := decN (b := 0)
      rw [ez]
      refine r_if2 (fun e2 => ?_) (fun e2 => ?_)
      · have hd : f ∣ r := Nat.dvd_of_mod_eq_zero (of_decide_eq_true e2)
        have ed : ((φ : Nat) : Int) - ((φ : Nat) : Int) / (f : Nat) = ((φ - φ / f : Nat) : Int) := by
          have := Nat.div_le_self φ f
          rw [Int.ofNat_sub this]
          rfl
        walk_at "go"
        rw [ed]
        refine while_it (fun m' σ H2 => H2 = H' ∧ ∃ x k : Nat, σ = [some (V.int (n : Nat)), some (V.int ((φ - φ / f : Nat) : Int)), some (V.int (x : Nat)), some (V.int (f : Nat))] ∧ m' = x ∧ r = f ^ k * x ∧ 0 < x ∧ (1 ≤ k ∨ f ∣ x)) (m0 := r) ⟨rfl, r, 0, rfl, rfl, by rw [Nat.pow_zero, Nat.one_mul], ti.pos, .inr hd⟩ ?_
        rintro m' σ H2 ⟨rfl, x, k, rfl, rfl, hrk, hx, hk⟩
        have cd2 := cd (m' : Int)
        walk_at "go"
        have em2 : ((m' : Nat) : Int) % (f : Nat) = ((m' % f : Nat) : Int) := (Int.natCast_emod m' f).symm
        rw [em2]
        have ez2 : decide (V.int ((m' % f : Nat) : Int) = V.int 0) = decide (m' % f = 0) := decN (b := 0)
        rw [ez2]
        refine r_if2 (fun e3 => ?_) (fun e3 => ?_)
        · obtain ⟨y, hy⟩ := Nat.dvd_of_mod_eq_zero (of_decide_eq_true e3)
          have hy0 : 0 < y := Nat.pos_of_ne_zero fun z => by
            rw [z, Nat.mul_zero] at hy
            omega
          have hyd : m' / f = y := by
            rw [hy]
            exact Nat.mul_div_cancel_left _ (by omega)
          have hlt : y < m' := by
            have : 2 * y ≤ f * y := Nat.mul_le_mul_right y hf
            omega
          refine r_turn ?_
          walk_at "go"
          refine ⟨y, hlt, rfl, y, k + 1, ?_, rfl, ?_, hy0, .inl (by omega)⟩
          · have : ((m' : Nat) : Int) / (f : Nat) = ((y : Nat) : Int) := by
              rw [← hyd]
              rfl
            rw [this]
          · rw [hrk, hy, Nat.pow_succ, Nat.mul_assoc]
        · have hnd : ¬ f ∣ m' := fun z => of_decide_eq_false e3 (Nat.mod_eq_zero_of_dvd z)
          have hk1 : 1 ≤ k := hk.elim id fun z => absurd z hnd
          obtain ⟨k', rfl⟩ : ∃ k', k = k' + 1 := ⟨k - 1, by omega⟩
          have ti2 := ti.out hf ho hrk hnd
          have hxr : m' ≤ r := by
            rw [hrk]
            exact Nat.le_mul_of_pos_left _ (Nat.pow_pos (by omega))
          walk_at "go"
          exact ⟨n + 2 - (f + 1), by omega, rfl, _, m', f + 1, rfl, rfl, ti2, by omega, by omega, by omega⟩
      · have hnd : ¬ f ∣ r := fun z => of_decide_eq_false e2 (Nat.mod_eq_zero_of_dvd z)
        walk_at "go"
        exact ⟨n + 2 - (f + 1), by omega, rfl, φ, r, f + 1, rfl, rfl, ti.next hnd, by omega, by omega, hrn⟩
    · have hgt : ¬ ((f : Nat) : Int) * (f : Nat) ≤ (r : Nat) := of_decide_eq_false e
      have hgt2 : ¬ f * f ≤ r := fun z => hgt (by exact_mod_cast z)
      have cd3 : CDivW (φ : Int) (r : Int) := cdN ti.pos (by omega)
      walk_at "go"
      refine r_if2 (fun e2 => ?_) (fun e2 => ?_)
      · have h1 : 1 < r := by
          have := of_decide_eq_true e2
          omega
        have ed : ((φ : Nat) : Int) - ((φ : Nat) : Int) / (r : Nat) = ((φ - φ / r : Nat) : Int) := by
          have := Nat.div_le_self φ r
          rw [Int.ofNat_sub this]
          rfl
        walk_at "go"
        rw [ed]
        exact q _ (ti.end1 ho h1 (by omega)) (Nat.le_trans (Nat.sub_le _ _) ti.le)
      · have h1 : ¬ 1 < r := fun z => of_decide_eq_false e2 (by show (1 : Int) < (r : Nat); omega)
        walk_at "go"
        exact q _ (ti.end2 h1) ti.le
theorem ok_power_rest (T : Txt K mg) : FnOk P w K mg base CX0 1 (He.ga K "power_rest") (fdOf K (He.ga K "power_rest")) p_power_rest spPowerRest := by
  refine FunD.ok T.d_power_rest sc_power_rest (fun vs H Q E h => ?_) (fun cdv A outer s H vs Q E hr h => ?_)
  · obtain ⟨t, m, rfl, _⟩ := h
    rfl
  · obtain ⟨t, m, rfl, hm, hb, q⟩ := h
    refine ⟨_, PSs.nox ((pss_cons (ps_par (i := 2) (j := 3) (by rfl) sc_power_rest.nd rfl rfl (by decide) rfl rfl (pa_cons (pe_op op_mod pe_int (pv 1)) (pa_cons (pe_op op_mod pe_int (pv 1)) pa_nil)) (by rfl))
    (pss_cons (ps_while PassesOwn.never (pt_cmpR op_gt (pv 0) pe_int (nomark _))
      (pss_cons (ps_if (pt_cmpR op_eq (pe_op op_mod (pv 0) pe_int) pe_int (nomark _))
          (pss_one (ps_set (i := 2) sc_power_rest.nd rfl (Or.inl rfl) (pe_op op_mod (pe_op op_mulX (pv 2) (pv 3)) (pv 1))))
          pss_nil)
        (pss_cons (ps_set (i := 3) sc_power_rest.nd rfl (Or.inl rfl) (pe_op op_mod (pe_op op_mulX (pv 3) (pv 3)) (pv 1)))
        (pss_one (ps_set (i := 0) sc_power_rest.nd rfl (Or.inl rfl) (pe_op op_fdivW (pv 0) pe_int))))))
    (pss_one (ps_ret (pv 2)))))), ?_⟩
    show tSeq _ _ _ [some (V.int (t : Nat)), some (V.int (m : Nat)), none, none] H
    walk_at "K"
    walk_at "go"
    generalize hB : (2 : Nat) ^ 8900 = B0 at hb
    refine while_it (fun z σ H' => H' = H ∧ ∃ x f s : Nat, σ = [some (V.int (x : Nat)), some (V.int (m : Nat)), some (V.int (f : Nat)), some (V.int (s : Nat))] ∧ z = x ∧ f < m ∧ s < m ∧ f * s ^ x % m = 2 ^ t % m) (m0 := t) ⟨rfl, t, 1 % m, 2 % m, rfl, rfl, Nat.mod_lt _ hm, Nat.mod_lt _ hm, by
      rw [Nat.mul_mod, Nat.mod_mod, ← Nat.pow_mod, ← Nat.mul_mod, Nat.one_mul]⟩ ?_
    rintro z σ H' ⟨rfl, x, f, s, rfl, rfl, hf, hs, hfs⟩
    have cm1 : CMulX (f : Int) (s : Int) := cmN (x := 8900) (y := 8900) (by omega) (by omega) (by decide)
    have cm2 : CMulX (s : Int) (s : Int) := cmN (x := 8900) (y := 8900) (by omega) (by omega) (by decide)
    have hm1 : (0 : Int) < (m : Nat) := by omega
    have e1 : ((f : Nat) : Int) * (s : Nat) % (m : Nat) = ((f * s % m : Nat) : Int) := by
      rw [Int.natCast_emod, Int.natCast_mul]
    have e2 : ((s : Nat) : Int) * (s : Nat) % (m : Nat) = ((s * s % m : Nat) : Int) := by
      rw [Int.natCast_emod, Int.natCast_mul]
    walk_at "go"
    refine r_if2 (fun e => ?_) (fun e => ?_)
    · have hz : 0 < z := by
        have := of_decide_eq_true e
        omega
      refine r_turn ?_
      walk_at "go"
      refine r_if2 (fun o => ?_) (fun o => ?_)
      · have ho : z % 2 = 1 := by
          have := V.int.inj (of_decide_eq_true o)
          omega
        walk_at "go"
        rw [e1, e2]
        refine ⟨z / 2, by omega, rfl, z / 2, f * s % m, s * s % m, rfl, rfl, Nat.mod_lt _ hm, Nat.mod_lt _ hm, ?_⟩
        rw [← hfs, sq_odd ho, Nat.mul_mod, Nat.mod_mod, ← Nat.pow_mod, ← Nat.mul_mod, Nat.mul_assoc]
      · have ho : z % 2 = 0 := by
          have : ¬ ((z : Nat) : Int) % 2 = 1 := fun y => of_decide_eq_false o (congrArg V.int y)
          omega
        walk_at "go"
        rw [e2]
        refine ⟨z / 2, by omega, rfl, z / 2, f, s * s % m, rfl, rfl, hf, Nat.mod_lt _ hm, ?_⟩
        rw [← hfs, sq_even ho, Nat.mul_mod, ← Nat.pow_mod, ← Nat.mul_mod]
    · have hz : z = 0 := by
        have : ¬ (0 : Int) < (z : Nat) := of_decide_eq_false e
        omega
      subst hz
      walk_at "go"
      rw [Nat.pow_zero, Nat.mul_one, Nat.mod_eq_of_lt hf] at hfs
      rw [hfs]
      exact q
theorem ok_rest1 {k d : Nat} {cap : Sz} (cap_lim : cap.Le LIM) (T : Txt K mg)
    (G_rest_of : FnOk P w K mg base CX0 k (He.ga K "rest_of") (fdOf K (He.ga K "rest_of")) p_rest_of (spRest K cap d))
    (G_totient : FnOk P w K mg base CX0 k (He.ga K "totient") (fdOf K (He.ga K "totient")) p_totient spTotient)
    (G_power_rest : FnOk P w K mg base CX0 k (He.ga K "power_rest") (fdOf K (He.ga K "power_rest")) p_power_rest spPowerRest)
    (G_Tower_small : FnOk P w K mg base CX0 k (He.ma K (He.ga K "Tower") "small") (fdOf K (He.fAd K ("Tower", some "small"))) p_Tower_small (spSmall K)) :
    FnOk P w K mg base CX0 (k + 1) (He.ga K "rest_of") (fdOf K (He.ga K "rest_of")) p_rest_of (spRest K cap (d + 1)) := by
  refine FunD.ok T.d_rest_of sc_rest_of (fun vs H Q E h => ?_) (fun cdv A outer s H vs Q E hr h => ?_)
  · obtain ⟨a, S, B, v, m, rfl, _⟩ := h
    rfl
  · obtain ⟨a, S, B, v, m, rfl, ⟨dx, lo, p, sh, xs, rows, ha, hp, hrows, wf⟩, hS, hm, hmB, hB, q⟩ := h
    have kT := T.k_Tower
    have n1 := T.n_Tower_low
    have n2 := T.n_Tower_parts
    have n3 := T.n_Tower_share
    have hBd : B + S.s + (d * cap.s + cap.s) ≤ 8800 := by
      rw [Nat.add_mul, Nat.one_mul] at hB
      exact hB
    obtain ⟨sn, rfl⟩ : ∃ sn : Nat, sh = sn := ⟨sh.toNat, by have := wf.pos; omega⟩
    have hs0 : 0 < sn := by
      have := wf.pos
      omega
    have hsS : sn ≤ 2 ^ S.s := by
      have := wf.s
      rwa [Int.toNat_natCast] at this
    have hW : m * sn ≤ 2 ^ (B + S.s) := by
      rw [Nat.pow_add]
      exact Nat.mul_le_mul hmB hsS
    have hW0 : 0 < m * sn := Nat.mul_pos hm hs0
    have hpow : (2 : Nat) ^ (B + S.s) ≤ 2 ^ 8800 := Nat.pow_le_pow_right (by decide) (by omega)
    have hp2 : (2 : Nat) ^ 8800 < 2 ^ 8900 := Nat.pow_lt_pow_right (by decide) (by decide)
    have hp3 : (2 : Nat) ^ 8900 ≤ 2 ^ 8999 := Nat.pow_le_pow_right (by decide) (by decide)
    have hW9 : m * sn < 2 ^ 8900 := Nat.lt_of_le_of_lt (Nat.le_trans hW hpow) hp2
    have hm9 : m < 2 ^ 8900 := Nat.lt_of_le_of_lt (Nat.le_mul_of_pos_right m hs0) hW9
    have hs9 : sn < 2 ^ 8900 := Nat.lt_of_le_of_lt (Nat.le_mul_of_pos_left sn hm) hW9
    have cm0 : CMulX (m : Int) (sn : Int) := cmN hm9 hs9 (by decide)
    have eW : ((m : Nat) : Int) * (sn : Nat) = ((m * sn : Nat) : Int) := (Int.natCast_mul m sn).symm
    have hval := wf.val
    have hwz := wf.z
    have hSz : S.z ≤ 4000000 := hS.z
    refine ⟨_, PSs.nox ((pss_cons (ps_set (i := 2) sc_rest_of.nd rfl (Or.inl rfl) (pe_op op_mulX (pv 1) (pe_fld (pv 0) rfl)))
    (pss_cons (ps_set (i := 3) sc_rest_of.nd rfl (Or.inl rfl) (pe_fld (pv 0) rfl))
    (pss_cons (ps_for PassesOwn.never rfl (pi_tup (pe_fld (pv 0) rfl)) (pg_tup rfl (pgs_cons (pg_name (i := 4) sc_rest_of.nd rfl (Or.inl rfl) (hf := by first | exact Or.inl rfl | exact Or.inr rfl)) (pgs_cons (pg_name (i := 5) sc_rest_of.nd rfl (Or.inl rfl) (hf := by first | exact Or.inl rfl | exact Or.inr rfl)) pgs_nil)))
      (pss_cons (ps_par (i := 6) (j := 7) (by rfl) sc_rest_of.nd rfl rfl (by decide) rfl rfl (pa_cons (pv 2) (pa_cons pe_int pa_nil)) (by rfl))
        (pss_cons (ps_while PassesOwn.never (pt_cmpR op_eq (pe_op op_mod (pv 6) pe_int) pe_int (nomark _))
          (pss_cons (ps_set (i := 6) sc_rest_of.nd rfl (Or.inl rfl) (pe_op op_fdivW (pv 6) pe_int))
            (pss_one (ps_set (i := 7) sc_rest_of.nd rfl (Or.inl rfl) (pe_op op_add (pv 7) pe_int)))))
        (pss_cons (ps_set (i := 8) sc_rest_of.nd rfl (Or.inl rfl) (pe_call G_totient hr rfl T.g_totient T.d_totient.kp (b_totient T) .nil pass0 (pa_cons (pv 6) pa_nil)))
        (pss_cons (ps_set (i := 9) sc_rest_of.nd rfl (Or.inl rfl) (pe_meth0 (pv 5) T.k_Tower T.m_Tower_small G_Tower_small hr (b_Tower_small T) .nil pass0))
        (pss_cons (ps_if (pt_cmp (pc_isN (pv 9)) rfl)
          (pss_one (ps_set (i := 9) sc_rest_of.nd rfl (Or.inl rfl) (pe_op op_add (pe_call G_rest_of hr rfl T.g_rest_of T.d_rest_of.kp (b_rest_of T) .nil pass0 (pa_cons (pv 5) (pa_cons (pv 8) pa_nil))) (pe_op op_mulX (pv 8) (pe_op op_add (pe_op op_fdivW (pv 7) (pv 8)) pe_int)))))
          pss_nil)
        (pss_one (ps_set (i := 3) sc_rest_of.nd rfl (Or.inl rfl) (pe_op op_add (pv 3) (pe_op op_mulX (pv 4) (pe_call G_power_rest hr rfl T.g_power_rest T.d_power_rest.kp (b_power_rest T) .nil pass0 (pa_cons (pv 9) (pa_cons (pv 2) pa_nil)))))))))))))
    (pss_one (ps_ret (pe_op op_fdivW (pe_op op_mod (pv 3) (pv 2)) (pe_fld (pv 0) rfl)))))))), ?_⟩
    show tSeq _ _ _ [some (V.ref a), some (V.int (m : Nat)), none, none, none, none, none, none, none, none] H
    walk_at "K"
    walk_at "go"
    rw [eW]
    have hWe : ((m * sn : Nat) : Int) = (m : Int) * (sn : Int) := Int.natCast_mul m sn
    have hq : ∀ (x : Int) (H' : Hp), Ex H H' → x % ((m * sn : Nat) : Int) = (v * (sn : Int)) % ((m * sn : Nat) : Int) → Q (.int (x % ((m * sn : Nat) : Int) / (sn : Int))) H' := fun x H' xx hx => by
      rw [hWe] at hx ⊢
      rw [rest_end (by omega) hx]
      exact q H' xx
    generalize m * sn = W at hW hW0 hW9 hq
    refine for_it (walk_tup (xs := xs)) (fun i σ H' => Ex H H' ∧ ∃ (f : Int) (c e o t cy ti : Option V), σ = [some (V.ref a), some (V.int (m : Nat)), some (V.int (W : Nat)), some (V.int f), c, e, o, t, cy, ti] ∧ f % (W : Int) = (lo + sumR (rows.take i)) % (W : Int)) ?_ (fun i σ H' _ h => h.1.tup hp) ?_ ?_
    · refine ⟨Ex.refl _, lo, _, _, _, _, _, _, rfl, ?_⟩
      show lo % (W : Int) = (lo + 0) % (W : Int)
      rw [Int.add_zero]
    · rintro i x σ H1 H1' hi ⟨x1, f, c0, e0, o0, t0, cy0, ti0, rfl, hf⟩ ⟨rfl, hx⟩
      obtain ⟨⟨cc, ee⟩, hqq, t, r, rfl, kt, kr⟩ := prd_get hrows hx
      have kt1 : SqT K H1' t [.int cc, .ref r] := x1.tup kt
      have kr1 : IsT K cap H1' d cap r ((ee : Nat) : Int) := kr.ex x1
      obtain ⟨dx', fl', fp', fs', hri⟩ := kr1.ins'
      have hwm : bt cc + 265 ≤ wtR rows := wt_mem (q := (cc, ee)) (List.mem_of_getElem? hqq)
      walk_at "go"
      refine r_whileP (fun σ' H' => H' = H1' ∧ ∃ o tw : Nat, σ' = [some (V.ref a), some (V.int (m : Nat)), some (V.int (W : Nat)), some (V.int f), some (V.int cc), some (V.ref r), some (V.int (o : Nat)), some (V.int (tw : Nat)), cy0, ti0] ∧ W = o * 2 ^ tw ∧ o % 2 = 1) ?_ ?_
      · rintro σ' H2 ⟨rfl, o, tw, rfl, hWo, ho⟩
        have ho0 : 0 < o := by omega
        have hoW : o ≤ W := by
          rw [hWo]
          exact Nat.le_mul_of_pos_right o (Nat.pow_pos (by decide))
        have htw : 2 ^ tw ≤ W := by
          rw [hWo]
          exact Nat.le_mul_of_pos_left _ ho0
        have htw2 : tw ≤ 8900 := by
          rcases Nat.lt_or_ge 8900 tw with z | z
          · exfalso
            have : (2 : Nat) ^ 8900 ≤ 2 ^ tw := Nat.pow_le_pow_right (by decide) (by omega)
            omega
          · exact z
        walk_at "go"
        refine ⟨o, rfl, ho0, ho, by omega, fun E hE hEle => ?_⟩
        walk_at "go"
        refine ⟨cap, r, d, _, _, rfl, kr1, fun H3 x3 => ?_⟩
        rw [smallV_nat]
        have fin : ∀ (e' : Nat) (H4 : Hp) (ti : Option V), Ex H2 H4 → 2 ^ e' % W = 2 ^ ee % W →
            Ex H H4 ∧ ∃ (f' : Int) (c e o' t' cy ti' : Option V), [some (V.ref a), some (V.int (m : Nat)), some (V.int (W : Nat)), some (V.int (f + cc * ((2 ^ e' % W : Nat) : Int))), some (V.int cc), some (V.ref r), some (V.int (o : Nat)), some (V.int (tw : Nat)), some (V.int (E : Nat)), ti] = [some (V.ref a), some (V.int (m : Nat)), some (V.int (W : Nat)), some (V.int f'), c, e, o', t', cy, ti'] ∧ f' % (W : Int) = (lo + sumR (rows.take (i + 1))) % (W : Int) := fun e' H4 ti x4 he => by
          refine ⟨x1.trans x4, _, _, _, _, _, _, _, rfl, ?_⟩
          rw [he, emod_add_mul rfl _ rfl, take_snoc hqq, sumR_append]
          show (f + cc * 2 ^ ee) % (W : Int) = (lo + (sumR (rows.take i) + (cc * 2 ^ ee + 0))) % (W : Int)
          rw [Int.add_emod, hf, ← Int.add_emod]
          congr 1
          omega
        by_cases h64 : ee < 2 ^ 64
        · rw [if_pos h64]
          have cm : CMulX cc ((2 ^ ee % W : Nat) : Int) := mulx_ok (a := bt cc) (b := 8900) (bt_self cc) (by rw [Int.natAbs_natCast]; exact Nat.lt_trans (Nat.mod_lt _ hW0) hW9) (by omega)
          walk_at "go"
          refine ⟨ee, W, rfl, hW0, hW9, ?_⟩
          walk_at "go"
          exact fin ee H3 _ x3 rfl
        · rw [if_neg h64]
          have hE0 := hE.1
          have cm1 : CMulX (E : Int) (((tw / E + 1 : Nat)) : Int) := cmN (x := 8900) (y := 8900) (by omega) (by
            have := Nat.div_le_self tw E
            have h2 : (9000 : Nat) < 2 ^ 8900 := Nat.lt_of_lt_of_le (show 9000 < 2 ^ 14 by decide) (Nat.pow_le_pow_right (by decide) (by decide))
            omega) (by decide)
          have cd1 : CDivW (tw : Int) (E : Int) := cdN hE0 (by omega)
          have et : ((tw : Nat) : Int) / (E : Nat) + 1 = ((tw / E + 1 : Nat) : Int) := by
            rw [Int.natCast_add]
            rfl
          walk_at "go"
          refine ⟨r, cap, B + S.s, _, E, rfl, kr1.ex x3, cap_lim, hE0, Nat.le_trans hEle (Nat.le_trans hoW hW), by omega, fun H4 x4 => ?_⟩
          walk_at "go"
          rw [et]
          have ev : ((ee : Nat) : Int) % (E : Nat) + (E : Nat) * ((tw / E + 1 : Nat) : Int) = ((ee % E + E * (tw / E + 1) : Nat) : Int) := by
            rw [Int.natCast_add (ee % E), Int.natCast_mul, Int.natCast_emod]
          walk_at "go"
          rw [ev]
          have hsame : 2 ^ (ee % E + E * (tw / E + 1)) % W = 2 ^ ee % W := by
            rw [hWo]
            have h1 : tw < E * (tw / E + 1) := by
              have := Nat.div_add_mod tw E
              have h2 := Nat.mod_lt tw hE0
              rw [Nat.mul_add, Nat.mul_one]
              omega
            refine far_pow ho hE (by omega) (by omega) ?_
            rw [Nat.add_mul_mod_self_left, Nat.mod_mod]
          have cm : CMulX cc ((2 ^ (ee % E + E * (tw / E + 1)) % W : Nat) : Int) := mulx_ok (a := bt cc) (b := 8900) (bt_self cc) (by rw [Int.natAbs_natCast]; exact Nat.lt_trans (Nat.mod_lt _ hW0) hW9) (by omega)
          generalize ee % E + E * (tw / E + 1) = e' at hsame cm
          refine ⟨e', W, rfl, hW0, hW9, ?_⟩
          walk_at "go"
          exact fin e' H4 _ (x3.trans x4) hsame
      · intro N hN
        refine while_it (fun z σ H' => H' = H1' ∧ ∃ o tw : Nat, σ = [some (V.ref a), some (V.int (m : Nat)), some (V.int (W : Nat)), some (V.int f), some (V.int cc), some (V.ref r), some (V.int (o : Nat)), some (V.int (tw : Nat)), cy0, ti0] ∧ z = o ∧ W = o * 2 ^ tw ∧ 0 < o) (m0 := W) ⟨rfl, W, 0, rfl, rfl, by rw [Nat.pow_zero, Nat.mul_one], hW0⟩ ?_
        rintro z σ H2 ⟨rfl, o, tw, rfl, rfl, hWo, ho0⟩
        walk_at "go"
        refine r_if2 (fun e => ?_) (fun e => ?_)
        · have he : z % 2 = 0 := by
            have := V.int.inj (of_decide_eq_true e)
            omega
          refine r_turn ?_
          walk_at "go"
          refine ⟨z / 2, by omega, rfl, z / 2, tw + 1, rfl, rfl, ?_, by omega⟩
          rw [hWo, Nat.pow_succ]
          have : z = z / 2 * 2 := by omega
          rw [Nat.mul_comm (2 ^ tw) 2, ← Nat.mul_assoc, ← this]
        · have he : z % 2 = 1 := by
            have : ¬ ((z : Nat) : Int) % 2 = 0 := fun y => of_decide_eq_false e (congrArg V.int y)
            omega
          walk_at "go"
          exact hN _ _ ⟨rfl, z, tw, rfl, hWo, he⟩
    · rintro σ H' ⟨x1, f, c0, e0, o0, t0, cy0, ti0, rfl, hf⟩
      have ha1 := x1 _ _ ha
      have cd : CDivW (f % ((W : Nat) : Int)) (sn : Int) := cdN hs0 (by omega)
      have e1 : rows.take xs.length = rows := by rw [prd_len hrows, List.take_length]
      rw [e1, Int.add_comm, ← hval] at hf
      have hWi : (0 : Int) < (W : Nat) := by omega
      walk_at "go"
      exact hq f H' x1 hf
theorem ok_rest (T : Txt K mg) {cap : Sz} (cap_lim : cap.Le LIM) : ∀ d : Nat, FnOk P w K mg base CX0 (1 + d) (He.ga K "rest_of") (fdOf K (He.ga K "rest_of")) p_rest_of (spRest K cap d)
  | 0 => fnOk_none (fun vs H Q E h => by obtain ⟨a, S, B, v, m, rfl, ha, _⟩ := h; exact ha)
  | d + 1 => ok_rest1 cap_lim T (ok_rest T cap_lim d) ((ok_totient T).mono (show 1 ≤ 1 + d by omega)) ((ok_power_rest T).mono (show 1 ≤ 1 + d by omega)) ((ok_small T).mono (show 1 ≤ 1 + d by omega))
theorem ok_mod {k d : Nat} {cap : Sz} (T : Txt K mg)
    (G_rest_of : FnOk P w K mg base CX0 k (He.ga K "rest_of") (fdOf K (He.ga K "rest_of")) p_rest_of (spRest K cap d))
    (G_is_whole : FnOk P w K mg base CX0 k (He.ga K "is_whole") (fdOf K (He.ga K "is_whole")) p_is_whole (spWhole K)) :
    FnOk P w K mg base CX0 (k + 1) (He.ma K (He.ga K "Tower") "__mod__") (fdOf K (He.fAd K ("Tower", some "__mod__"))) p_Tower___mod__ (spMod K cap d) := by
  refine FunD.ok T.d_Tower___mod__ sc_Tower___mod__ (fun vs H Q E h => ?_) (fun cdv A outer s H vs Q E hr h => ?_)
  · obtain ⟨a, S, v, m, rfl, _⟩ := h
    rfl
  · obtain ⟨a, S, v, m, rfl, ha, hS, h1, h2, hB, q⟩ := h
    refine ⟨_, PSs.nox ((pss_cons (ps_if (PW.pt (pw_or (pt_not (pt_val (pe_call G_is_whole hr rfl T.g_is_whole T.d_is_whole.kp (b_is_whole T) .nil pass0 (pa_cons (pv 1) pa_nil)))) (pw_or1 (pt_not (pt_chain op_le op_le pe_int (pv 1) (pe_gint rfl T.c_MOST_DIVISOR))))))
      (pss_one ps_never)
      pss_nil)
    (pss_one (ps_ret (pe_call G_rest_of hr rfl T.g_rest_of T.d_rest_of.kp (b_rest_of T) .nil pass0 (pa_cons (pv 0) (pa_cons (pv 1) pa_nil))))))), ?_⟩
    show tSeq _ _ _ [some (V.ref a), some (V.int (m : Nat))] H
    walk_at "K"
    walk_at "go"
    refine ⟨_, _, _, rfl, .int _, ?_⟩
    walk_at "go"
    refine r_ifT' (decide_eq_true (by omega)) ?_
    walk_at "go"
    rw [decide_eq_true (show ((m : Nat) : Int) ≤ 1000 by omega)]
    walk_at "go"
    exact ⟨a, S, 10, v, m, rfl, ha, hS, h1, by omega, hB, q⟩
theorem ok_floordiv {k d : Nat} {cap : Sz} (T : Txt K mg)
    (G_rest_of : FnOk P w K mg base CX0 k (He.ga K "rest_of") (fdOf K (He.ga K "rest_of")) p_rest_of (spRest K cap (d + 1)))
    (G_settled : FnOk P w K mg base CX0 k (He.ga K "settled") (fdOf K (He.ga K "settled")) p_settled (spSettled K cap d))
    (G_is_whole : FnOk P w K mg base CX0 k (He.ga K "is_whole") (fdOf K (He.ga K "is_whole")) p_is_whole (spWhole K)) :
    FnOk P w K mg base CX0 (k + 1) (He.ma K (He.ga K "Tower") "__floordiv__") (fdOf K (He.fAd K ("Tower", some "__floordiv__"))) p_Tower___floordiv__ (spDiv K cap (d + 1)) := by
  refine FunD.ok T.d_Tower___floordiv__ sc_Tower___floordiv__ (fun vs H Q E h => ?_) (fun cdv A outer s H vs Q E hr h => ?_)
  · obtain ⟨a, S, v, m, rfl, _⟩ := h
    rfl
  · obtain ⟨a, S, v, m, rfl, ha0, hS, h1, h2, hB, q⟩ := h
    obtain ⟨dx, lo, p, sh, xs, rows, ha, hp, hrows, wf⟩ := ha0
    have kT := T.k_Tower
    have n1 := T.n_Tower_low
    have n2 := T.n_Tower_parts
    have n3 := T.n_Tower_share
    refine ⟨_, PSs.nox ((pss_cons (ps_if (PW.pt (pw_or (pt_not (pt_val (pe_call G_is_whole hr rfl T.g_is_whole T.d_is_whole.kp (b_is_whole T) .nil pass0 (pa_cons (pv 1) pa_nil)))) (pw_or1 (pt_not (pt_chain op_le op_le pe_int (pv 1) (pe_gint rfl T.c_MOST_DIVISOR))))))
      (pss_one ps_never)
      pss_nil)
    (pss_cons (ps_set (i := 2) sc_Tower___floordiv__.nd rfl (Or.inl rfl) (pe_call G_rest_of hr rfl T.g_rest_of T.d_rest_of.kp (b_rest_of T) .nil pass0 (pa_cons (pv 0) (pa_cons (pv 1) pa_nil))))
    (pss_one (ps_ret (pe_call G_settled hr rfl T.g_settled T.d_settled.kp (b_settled T) .nil pass0 (pa_cons (pe_callTy call_listN (by rfl) T.f_list (by decide +kernel) (pa_cons (pe_fld (pv 0) rfl) pa_nil)) (pa_cons (pe_op op_sub (pe_fld (pv 0) rfl) (pe_op op_mulX (pv 2) (pe_fld (pv 0) rfl))) (pa_cons (pe_op op_mulX (pe_fld (pv 0) rfl) (pv 1)) pa_nil))))))))), ?_⟩
    show tSeq _ _ _ [some (V.ref a), some (V.int (m : Nat)), none] H
    walk_at "K"
    walk_at "go"
    refine ⟨_, _, _, rfl, .int _, ?_⟩
    walk_at "go"
    refine r_ifT' (decide_eq_true (by omega)) ?_
    walk_at "go"
    rw [decide_eq_true (show ((m : Nat) : Int) ≤ 1000 by omega)]
    walk_at "go"
    refine ⟨a, S, 10, v, m, rfl, ⟨dx, lo, p, sh, xs, rows, ha, hp, hrows, wf⟩, hS, h1, by omega, hB, fun H1 x1 => ?_⟩
    have ha1 := x1 _ _ ha
    have hp1 := x1.tup hp
    have hr0 := Int.emod_nonneg v (show ((m : Nat) : Int) ≠ 0 by omega)
    have hr1 := Int.emod_lt_of_pos v (show (0 : Int) < (m : Nat) by omega)
    have hdm : (m : Int) * (v / (m : Int)) + v % (m : Int) = v := Int.mul_ediv_add_emod v m
    generalize v % ((m : Nat) : Int) = rr at hr0 hr1 hdm
    have hwz := wf.z
    have hSz : S.z ≤ 4000000 := hS.z
    have hSs : S.s ≤ 1200 := hS.s
    have hSn : S.n ≤ 1200 := hS.n
    have hrn := wf.n
    have bsh := bt_share wf.pos wf.s
    have brr : bt rr ≤ 10 := bt_le.mpr (by omega)
    have bm : bt (m : Int) ≤ 10 := bt_le.mpr (by omega)
    have cm1 : CMulX rr sh := mulx_ok (bt_self rr) (bt_self sh) (by omega)
    have cm2 : CMulX sh (m : Int) := mulx_ok (bt_self sh) (bt_self (m : Int)) (by omega)
    walk_at "go"
    intro l hl
    have x2 : Ex H (L2.upd H1 l (.lst xs)) := x1.trans (Ex.new hl)
    have ha2 := x2 _ _ ha
    walk_at "go"
    have hb1 := bt_mul rr sh
    have hb2 := bt_add lo (-(rr * sh))
    rw [bt_neg] at hb2
    have eb : lo - rr * sh = lo + -(rr * sh) := by omega
    have hsm : sh * (m : Int) > 0 := Int.mul_pos wf.pos (by omega)
    have hle : Sz.Le ⟨wtR rows + bt (lo - rr * sh), rows.length, S.s + 10⟩ (divSz S) := by
      refine ⟨?_, hrn, Nat.le_refl _⟩
      show wtR rows + bt (lo - rr * sh) ≤ S.z + 2 * S.s + 12
      rw [eb]
      omega
    refine ⟨l, lo - rr * sh, sh * (m : Int), xs, rows, S.s + 10, v / (m : Int), rfl, SqL.of upd_same, RowsV.ex x2 hrows, by omega, by rw [eb]; omega, hsm, ?_, by omega, ?_, fun r H' x' h' => q r H' (x2.trans x') (h'.mono hle)⟩
    · have e1 : (sh * (m : Int)).toNat = sh.toNat * m := by
        have h3 : (sh * (m : Int)).natAbs = sh.natAbs * m := by rw [Int.natAbs_mul, Int.natAbs_natCast]
        have := wf.pos
        have e4 : sh.natAbs = sh.toNat := by omega
        rw [e4] at h3
        omega
      rw [e1, Nat.pow_add]
      exact Nat.mul_le_mul wf.s (by omega)
    · have hv := wf.val
      have e2 : v / (m : Int) * (sh * (m : Int)) = (v - rr) * sh := by
        have : v - rr = (m : Int) * (v / (m : Int)) := by omega
        rw [this, Int.mul_comm sh, ← Int.mul_assoc, Int.mul_comm (v / (m : Int))]
      rw [e2, Int.sub_mul, hv]
      omega
end
end PW
/-! ### length -/
namespace PW
open PySem PySem.Spec PyProof.Rows L2
def lgv (v : Int) : Int := if v ≤ 0 then 0 else (bt v : Nat) - 1
def lenSz (c : Sz) : Sz := ⟨c.z + 4 * c.s + 40, c.n, c.s⟩
theorem lenSz_le {c : Sz} : c.Le (lenSz c) := ⟨by show c.z ≤ c.z + 4 * c.s + 40; omega, Nat.le_refl _, Nat.le_refl _⟩
def spLength (K : PySem.W.Frag) (cap : Sz) (d : Nat) : Sp := fun vs H Q _ => ∃ a S v, vs = [.ref a] ∧ IsT K cap H d S a v ∧ S.Le LIM ∧ ∀ r H', Ex H H' → IsT K cap H' (max 1 (d - 1)) (lenSz cap) r (lgv v) → Q (.ref r) H'
def gSz (c : Sz) (j : Nat) : Sz := ⟨c.z + 25 + c.s + j * (c.s + 2), c.n, c.s⟩
theorem gSz_le {c : Sz} {j : Nat} (h : j ≤ 3) : (gSz c j).Le (lenSz c) := by
  refine ⟨?_, Nat.le_refl _, Nat.le_refl _⟩
  show c.z + 25 + c.s + j * (c.s + 2) ≤ c.z + 4 * c.s + 40
  have : j * (c.s + 2) ≤ 3 * (c.s + 2) := Nat.mul_le_mul_right _ h
  omega
theorem gSz0 {c : Sz} {i : Int} (h : bt i ≤ 24) : (totSz c ⟨bt i, 0, 0⟩ 0).Le (gSz c 0) := by
  refine ⟨?_, Nat.le_refl _, Nat.le_refl _⟩
  show c.z + bt i + c.n * 0 + 0 * (0 + c.s) + c.s + 0 + 0 + 1 ≤ c.z + 25 + c.s + 0 * (c.s + 2)
  omega
theorem gSzS {c : Sz} {j : Nat} : (totSz (gSz c j) ⟨bt 1, 0, 0⟩ 0).Le (gSz c (j + 1)) := by
  refine ⟨?_, Nat.le_refl _, Nat.le_refl _⟩
  have b1 : bt 1 = 1 := by decide
  show c.z + 25 + c.s + j * (c.s + 2) + bt 1 + c.n * 0 + 0 * (0 + c.s) + c.s + 0 + 0 + 1 ≤ c.z + 25 + c.s + (j + 1) * (c.s + 2)
  rw [Nat.add_mul]
  omega
theorem len_bounds {S : Sz} {low : Int} {c : Int} {e : Nat} {r : Rw} {share v : Int} (w : Wf S low ((c, e) :: r) share v) (hv : 0 < v) : bt share ≤ e ∧ bt v ≤ bt c + e - bt share + 2 ∧ bt c + e ≤ bt v + bt share + 1 := by
  obtain ⟨h1, h2⟩ := w.size
  have hb := bt_pos w.far.1
  have hs := bt_pos (i := share) (by have := w.pos; omega)
  obtain ⟨_, _, _, e3⟩ := far_sum w.far
  have ht : bt share ≤ e := by
    rcases w.top c e r rfl with rfl | t
    · have : bt 1 = 1 := by decide
      omega
    · omega
  refine ⟨ht, bt_le.mpr ?_, ?_⟩
  · rcases Nat.lt_or_ge v.natAbs (2 ^ (bt c + e - bt share + 2)) with q | q
    · exact q
    · exfalso
      have h3 : 2 ^ (bt c + e - bt share + 2) * 2 ^ (bt share - 1) ≤ v.natAbs * 2 ^ (bt share - 1) := Nat.mul_le_mul_right _ q
      rw [← Nat.pow_add] at h3
      have e5 : bt c + e - bt share + 2 + (bt share - 1) = bt c + e + 1 := by omega
      rw [e5] at h3
      omega
  · have hu := bt_self v
    rcases Nat.lt_or_ge (bt v + bt share + 1) (bt c + e) with q | q
    · exfalso
      have h3 : v.natAbs * 2 ^ bt share < 2 ^ bt v * 2 ^ bt share := (Nat.mul_lt_mul_right (Nat.pow_pos (by decide))).mpr hu
      rw [← Nat.pow_add] at h3
      have h4 : 2 ^ (bt v + bt share) ≤ 2 ^ (bt c + e - 2) := Nat.pow_le_pow_right (by decide) (by omega)
      omega
    · exact q
theorem pw_above {g : Nat} {v : Int} (hv : 0 < v) : (v < pw2 ((g : Nat) : Int)) ↔ bt v ≤ g := by
  have hp : pw2 ((g : Nat) : Int) = 2 ^ g := by
    unfold pw2
    rw [if_neg (by omega), Int.toNat_natCast]
  rw [hp, bt_le]
  have h2 : ((2 : Int) ^ g) = ((2 ^ g : Nat) : Int) := (Int.natCast_pow 2 g).symm
  rw [h2]
  omega
section
variable {P : Program} {w : World} {K : PySem.W.Frag} {mg : Str → Option Value} {base : Heap}
theorem ok_length {k d : Nat} {cap : Sz} (cap_lim : (lenSz cap).Le LIM) (T : Txt K mg)
    (G_bits : FnOk P w K mg base CX0 (k + 1) (He.ga K "bits") (fdOf K (He.ga K "bits")) p_bits spBits)
    (G_Tower_sign : FnOk P w K mg base CX0 (k + 1) (He.ma K (He.ga K "Tower") "sign") (fdOf K (He.fAd K ("Tower", some "sign"))) p_Tower_sign (spSign K))
    (G_Tower___add__ : FnOk P w K mg base CX0 (k + 1) (He.ma K (He.ga K "Tower") "__add__") (fdOf K (He.fAd K ("Tower", some "__add__"))) p_Tower___add__ (spAdd K cap d))
    (G_Tower___sub__ : FnOk P w K mg base CX0 (k + 1) (He.ma K (He.ga K "Tower") "__sub__") (fdOf K (He.fAd K ("Tower", some "__sub__"))) p_Tower___sub__ (spSub K cap d))
    (G_Tower_above : FnOk P w K mg base CX0 (k + 1) (He.ma K (He.ga K "Tower") "above") (fdOf K (He.fAd K ("Tower", some "above"))) p_Tower_above (spAbove K (lenSz cap) (d + 1)))
    (G_Tower_power : FnOk P w K mg base CX0 (k + 1) (sgA "Tower" "power" K) (fdOf K (sgA "Tower" "power" K)) p_Tower_power (spPower K (lenSz cap) d))
    (G_Tower___init__ : FnOk P w K mg base CX0 k (He.ma K (He.ga K "Tower") "__init__") (fdOf K (He.fAd K ("Tower", some "__init__"))) p_Tower___init__ (spInit K)) :
    FnOk P w K mg base CX0 (k + 2) (He.ma K (He.ga K "Tower") "length") (fdOf K (He.fAd K ("Tower", some "length"))) p_Tower_length (spLength K cap (d + 1)) := by
  refine FunD.ok T.d_Tower_length sc_Tower_length (fun vs H Q E h => ?_) (fun cdv A outer s H vs Q E hr h => ?_)
  · obtain ⟨a, S, v, rfl, _⟩ := h
    rfl
  · obtain ⟨a, S, v, rfl, hself, hS, q⟩ := h
    have hself' := hself
    obtain ⟨dx, lo, p, sh, xs, rows, ha, hp, hrows, wf⟩ := hself
    have kT := T.k_Tower
    have n1 := T.n_Tower_low
    have n2 := T.n_Tower_parts
    have n3 := T.n_Tower_share
    have clim : cap.Le LIM := ⟨Nat.le_trans lenSz_le.z cap_lim.z, Nat.le_trans lenSz_le.n cap_lim.n, Nat.le_trans lenSz_le.s cap_lim.s⟩
    have hwz := wf.z
    have hSz : S.z ≤ 4000000 := hS.z
    have hSs : S.s ≤ 1200 := hS.s
    have bsh := bt_share wf.pos wf.s
    refine ⟨_, PSs.nox ((pss_cons (ps_if (pt_cmpR op_le (pe_meth0 (pv 0) T.k_Tower T.m_Tower_sign G_Tower_sign hr (b_Tower_sign T) .nil pass0) pe_int (nomark _))
      (pss_one (ps_ret (pe_make T.mk_Tower G_Tower___init__ hr rfl T.g_Tower (b_Tower___init___2 T) (dv_Tower___init___2 T) pass0 (pa_cons pe_int pa_nil))))
      pss_nil)
    (pss_cons (ps_if (pt_cmpR (PW.op_eqE hr.units0) (pe_fld (pv 0) rfl) (pe_tup pa_nil) (nomark _))
      (pss_one (ps_ret (pe_make T.mk_Tower G_Tower___init__ hr rfl T.g_Tower (b_Tower___init___2 T) (dv_Tower___init___2 T) pass0 (pa_cons (pe_op op_sub (pe_call G_bits hr rfl T.g_bits T.d_bits.kp (b_bits T) .nil pass0 (pa_cons (pe_fld (pv 0) rfl) pa_nil)) pe_int) pa_nil))))
      pss_nil)
    (pss_cons (ps_asg (pe_ix ix_tup (pe_fld (pv 0) rfl) pe_int (fun _ _ => rfl)) (pg_tup rfl (pgs_cons (pg_name (i := 1) sc_Tower_length.nd rfl (Or.inl rfl) (hf := by first | exact Or.inl rfl | exact Or.inr rfl)) (pgs_cons (pg_name (i := 2) sc_Tower_length.nd rfl (Or.inl rfl) (hf := by first | exact Or.inl rfl | exact Or.inr rfl)) pgs_nil))))
    (pss_cons (ps_set (i := 3) sc_Tower_length.nd rfl (Or.inl rfl) (pe_op (PW.op_ownB T.o_Tower___add__ G_Tower___add__ hr (b_Tower___add__ T) pass0) (pv 2) (pe_op op_add (pe_op op_sub (pe_call G_bits hr rfl T.g_bits T.d_bits.kp (b_bits T) .nil pass0 (pa_cons (pv 1) pa_nil)) (pe_call G_bits hr rfl T.g_bits T.d_bits.kp (b_bits T) .nil pass0 (pa_cons (pe_fld (pv 0) rfl) pa_nil))) pe_int)))
    (pss_cons (ps_while PassesOwn.never (pt_val (pe_meth (PW.pe_smeth (pe_glob (v := .ref _) rfl T.g_Tower rfl) T.sm_Tower_power G_Tower_power hr (b_Tower_power T) pass0 (pa_cons (pv 3) pa_nil)) T.k_Tower T.m_Tower_above G_Tower_above hr (b_Tower_above T) .nil pass0 (pa_cons (pv 0) pa_nil)))
      (pss_one (ps_set (i := 3) sc_Tower_length.nd rfl (Or.inl rfl) (pe_op (PW.op_ownB T.o_Tower___sub__ G_Tower___sub__ hr (b_Tower___sub__ T) pass0) (pv 3) pe_int))))
    (pss_one (ps_ret (pv 3))))))))), ?_⟩
    show tSeq _ _ _ [some (V.ref a), none, none, none] H
    walk_at "K"
    walk_at "go"
    refine ⟨cap, a, d + 1, S, v, rfl, hself', fun H1 x1 => ?_⟩
    have ha1 := x1 _ _ ha
    have hp1 := x1.tup hp
    walk_at "go"
    have small24 : ∀ {i : Int}, i.natAbs < 2 ^ 24 → Sz.Le ⟨bt i, 0, 0⟩ (lenSz cap) := fun h => ⟨by
      have := bt_le.mpr h
      show bt _ ≤ cap.z + 4 * cap.s + 40
      omega, Nat.zero_le _, Nat.zero_le _⟩
    refine r_if2 (fun e => ?_) (fun e => ?_)
    · have h0 : v ≤ 0 := by
        have h2 : ¬ 0 < sgn v := by
          have := of_decide_eq_true e
          omega
        have h3 : ¬ 0 < v := fun z => h2 (sgn_pos.mpr z)
        omega
      walk_at "go"
      refine mk_plain (cap := cap) (d := 0) T.e_Tower___init___parts (small24 (by decide)) fun r H' x' h' => q r H' (x1.trans x') ?_
      have : lgv v = 0 := by
        unfold lgv
        rw [if_pos h0]
      rw [this]
      exact h'.deep (Nat.le_max_left ..)
    · have h0 : 0 < v := by
        have h2 : ¬ sgn v ≤ 0 := of_decide_eq_false e
        exact sgn_pos.mp (by omega)
      have hlg : lgv v = ((bt v : Nat) : Int) - 1 := by
        unfold lgv
        rw [if_neg (by omega)]
      rw [hlg] at q
      walk_at "go"
      intro p0 hp0
      walk_at "go"
      have x2 : Ex H (L2.upd H1 p0 (.tup [])) := x1.trans (Ex.new hp0)
      have ha2 := x2 _ _ ha
      have hp2 := x2.tup hp
      have hrows2 := RowsV.ex x2 hrows
      have hself2 := hself'.ex x2
      generalize L2.upd H1 p0 (.tup []) = H2 at x2 ha2 hp2 hrows2 hself2 ⊢
      cases hrows2 with
      | nil =>
        have e1 := wf.low_eq.1
        subst e1
        refine r_ifT' rfl ?_
        walk_at "go"
        refine ⟨v, rfl, ?_⟩
        walk_at "go"
        have hbv : wtR ([] : Rw) + bt v ≤ S.z := hwz
        refine mk_plain (cap := cap) (d := 0) T.e_Tower___init___parts (small24 (by omega)) fun r H' x' h' => q r H' (x2.trans x') (h'.deep (Nat.le_max_left ..))
      | @cons x0 q0 xr rr hr0 hrr =>
        obtain ⟨c, ee⟩ := q0
        obtain ⟨t, r, rfl, k1, k2⟩ := hr0
        have k1' : SqT K H2 t [.int c, .ref r] := k1
        have k2' : IsT K cap H2 d cap r ((ee : Nat) : Int) := k2
        obtain ⟨b1, b2, b3⟩ := len_bounds wf h0
        have hw4 : bt c + 265 + wtR rr + bt lo ≤ S.z := hwz
        refine r_ifF' rfl ?_
        walk_at "go"
        refine ⟨c, rfl, ?_⟩
        walk_at "go"
        refine ⟨sh, rfl, ?_⟩
        walk_at "go"
        have bi : bt (((bt c : Nat) : Int) - ((bt sh : Nat) : Int) + 1) ≤ 24 := bt_le.mpr (by omega)
        have hd1 := k2'.pos
        refine rOwn_num rfl k2' (NumV.int hd1) ?_
        refine ⟨r, _, cap, _, _, _, rfl, k2', NumV.int hd1, clim, ⟨by show bt _ ≤ 4000000; omega, Nat.zero_le _, Nat.zero_le _⟩, fun g0 H3 x3 hg0 => ?_⟩
        have hmax : max 1 (d + 1 - 1) = d := by
          show max 1 d = d
          omega
        rw [hmax] at q
        have hG : ((ee : Nat) : Int) + (((bt c : Nat) : Int) - ((bt sh : Nat) : Int) + 1) = ((ee + bt c + 1 - bt sh : Nat) : Int) := by omega
        rw [hG] at hg0
        have hL : bt v ≤ ee + bt c + 1 - bt sh + 1 := by omega
        have hL2 : ee + bt c + 1 - bt sh ≤ bt v + 2 := by omega
        have hvb : 1 ≤ bt v := bt_pos (by omega)
        generalize ee + bt c + 1 - bt sh = G at hg0 hL hL2
        clear hG
        walk_at "go"
        refine while_it (fun m σ H' => Ex H3 H' ∧ ∃ (g : Addr) (j : Nat), σ = [some (V.ref a), some (V.int c), some (V.ref r), some (V.ref g)] ∧ m + j = 3 ∧ IsT K cap H' d (gSz cap j) g ((G : Int) - (j : Nat)) ∧ bt v + j ≤ G + 1) (m0 := 3) ⟨Ex.refl _, g0, 0, rfl, rfl, ?_, by omega⟩ ?_
        · have := hg0.mono (gSz0 bi)
          simpa using this
        · rintro m σ H4 ⟨x4, g, j, rfl, hm, hg, hbj⟩
          have hself4 := hself2.ex (x3.trans x4)
          have ha4 := (x3.trans x4) _ _ ha2
          obtain ⟨g', hg'⟩ : ∃ g' : Nat, (G : Int) - (j : Nat) = (g' : Nat) := ⟨G - j, by omega⟩
          rw [hg'] at hg
          walk_at "go"
          have hgn : NumV K (lenSz cap) H4 d (gSz cap j) (.ref g) ((g' : Nat) : Int) := .inl ⟨g, rfl, hg.cap lenSz_le⟩
          refine ⟨.ref g, _, _, rfl, hgn, gSz_le (by omega), fun r2 H5 x5 h5 => ?_⟩
          obtain ⟨dx5, fl5, fp5, fs5, hri5⟩ := h5.ins'
          walk_at "go"
          refine ⟨r2, .ref a, PSZ, S, _, v, rfl, h5, .inl ⟨a, rfl, (hself4.ex x5).cap lenSz_le⟩, ⟨by decide, by decide, by decide⟩, hS, fun H6 x6 => ?_⟩
          walk_at "go"
          have hg6 := hg.ex (x5.trans x6)
          refine r_if2 (fun e2 => ?_) (fun e2 => ?_)
          · have hab := (pw_above h0).mp (of_decide_eq_true e2)
            refine r_turn ?_
            walk_at "go"
            refine rOwn_num rfl hg6 (NumV.int (i := 1) hd1) ?_
            have glim : (gSz cap j).Le LIM := by
              have := gSz_le (c := cap) (j := j) (by omega)
              exact ⟨Nat.le_trans this.z cap_lim.z, Nat.le_trans this.n cap_lim.n, Nat.le_trans this.s cap_lim.s⟩
            refine ⟨g, _, _, _, _, _, rfl, hg6, NumV.int (i := 1) hd1, glim, ⟨by decide, by decide, by decide⟩, fun g2 H7 x7 hg2 => ?_⟩
            walk_at "go"
            refine ⟨m - 1, by omega, x4.trans ((x5.trans x6).trans x7), g2, j + 1, rfl, by omega, ?_, by omega⟩
            have e3 : (G : Int) - ((j + 1 : Nat) : Int) = ((g' : Nat) : Int) - 1 := by omega
            rw [e3]
            exact hg2.mono gSzS
          · have hab : ¬ bt v ≤ g' := fun z => of_decide_eq_false e2 ((pw_above h0).mpr z)
            have e3 : ((bt v : Nat) : Int) - 1 = (g' : Nat) := by omega
            walk_at "go"
            refine q g H6 ((x2.trans x3).trans (x4.trans (x5.trans x6))) ?_
            rw [e3]
            exact hg6.mono (gSz_le (by omega))
end
end PW
/-! ### the operators at one level -/
namespace PW
open PySem PySem.Spec PyProof.Rows L2
section
variable {P : Program} {w : World} {K : PySem.W.Frag} {mg : Str → Option Value} {base : Heap}
theorem o_settled {cap : Sz} (cl : cap.Le LIM) (T : Txt K mg) (d : Nat) : FnOk P w K mg base CX0 (lv d + 3) (He.ga K "settled") (fdOf K (He.ga K "settled")) p_settled (spSettled K cap d) := by
  obtain ⟨h1, h2, h3⟩ := ok_core (P := P) (w := w) (base := base) cl T d
  have o := ok_ordered cl T h3
  have g := ok_gathered cl T o ((ok_bits T).mono (by omega)) ((ok_doubled T).mono (by omega)) ((ok_small T).mono (by omega)) (h2.mono (by omega))
  exact ok_settled (k := lv d + 1) T g ((ok_bits T).mono (by omega)) ((ok_doubled T).mono (by omega)) ((ok_common T).mono (by omega)) ((ok_small T).mono (by omega)) ((ok_init T).mono (by show 2 ≤ 4 + 6 * d + 1; omega))
theorem o_add {cap : Sz} (cl : cap.Le LIM) (T : Txt K mg) (d : Nat) : FnOk P w K mg base CX0 (lv d + 1) (He.ma K (He.ga K "Tower") "__add__") (fdOf K (He.fAd K ("Tower", some "__add__"))) p_Tower___add__ (spAdd K cap d) := ok_add T (ok_core cl T d).1 ((ok_is_number T).mono (by show 2 ≤ 4 + 6 * d; omega)) ((ok_tower_of T).mono (by show 4 ≤ 4 + 6 * d; omega))
theorem o_radd {cap : Sz} (cl : cap.Le LIM) (T : Txt K mg) (d : Nat) : FnOk P w K mg base CX0 (lv d + 1) (He.ma K (He.ga K "Tower") "__radd__") (fdOf K (He.fAd K ("Tower", some "__radd__"))) p_Tower___radd__ (spAdd K cap d) := ok_radd T (ok_core cl T d).1 ((ok_is_number T).mono (by show 2 ≤ 4 + 6 * d; omega)) ((ok_tower_of T).mono (by show 4 ≤ 4 + 6 * d; omega))
theorem o_rsub {cap : Sz} (cl : cap.Le LIM) (T : Txt K mg) (d : Nat) : FnOk P w K mg base CX0 (lv d + 1) (He.ma K (He.ga K "Tower") "__rsub__") (fdOf K (He.fAd K ("Tower", some "__rsub__"))) p_Tower___rsub__ (spRsub K cap d) := ok_rsub T (ok_core cl T d).1 ((ok_is_number T).mono (by show 2 ≤ 4 + 6 * d; omega)) ((ok_tower_of T).mono (by show 4 ≤ 4 + 6 * d; omega))
theorem o_neg {cap : Sz} (cl : cap.Le LIM) (T : Txt K mg) (d : Nat) : FnOk P w K mg base CX0 (lv d + 2) (He.ma K (He.ga K "Tower") "__neg__") (fdOf K (He.fAd K ("Tower", some "__neg__"))) p_Tower___neg__ (spNeg K cap d) := ok_neg (k := lv d) T ((ok_core cl T d).1.mono (by omega)) ((ok_init T).mono (by show 2 ≤ 4 + 6 * d; omega))
theorem o_mul {cap : Sz} (cl : cap.Le LIM) (T : Txt K mg) (d : Nat) : FnOk P w K mg base CX0 (lv d + 2) (He.ma K (He.ga K "Tower") "__mul__") (fdOf K (He.fAd K ("Tower", some "__mul__"))) p_Tower___mul__ (spMul K cap d) := ok_mul (k := lv d) T ((ok_core cl T d).1.mono (by omega)) ((ok_is_whole T).mono (by omega)) ((ok_init T).mono (by show 2 ≤ 4 + 6 * d; omega))
theorem o_rmul {cap : Sz} (cl : cap.Le LIM) (T : Txt K mg) (d : Nat) : FnOk P w K mg base CX0 (lv d + 2) (He.ma K (He.ga K "Tower") "__rmul__") (fdOf K (He.fAd K ("Tower", some "__rmul__"))) p_Tower___rmul__ (spMul K cap d) := ok_rmul (k := lv d) T ((ok_core cl T d).1.mono (by omega)) ((ok_is_whole T).mono (by omega)) ((ok_init T).mono (by show 2 ≤ 4 + 6 * d; omega))
theorem o_abs {cap : Sz} (cl : cap.Le LIM) (T : Txt K mg) (d : Nat) : FnOk P w K mg base CX0 (lv d + 3) (He.ma K (He.ga K "Tower") "__abs__") (fdOf K (He.fAd K ("Tower", some "__abs__"))) p_Tower___abs__ (spAbs K cap d) := ok_abs T (o_neg cl T d) ((ok_sign T).mono (by omega))
theorem o_eq {cap : Sz} (cl : cap.Le LIM) (T : Txt K mg) (d : Nat) : FnOk P w K mg base CX0 (lv d + 1) (He.ma K (He.ga K "Tower") "__eq__") (fdOf K (He.fAd K ("Tower", some "__eq__"))) p_Tower___eq__ (spEq K cap d) := ok_eq T ((ok_is_number T).mono (by show 2 ≤ 4 + 6 * d; omega)) (ok_core cl T d).2.1 ((ok_sign T).mono (by show 1 ≤ 4 + 6 * d; omega))
theorem o_power {cap : Sz} (T : Txt K mg) (d : Nat) : FnOk P w K mg base CX0 (6) (sgA "Tower" "power" K) (fdOf K (sgA "Tower" "power" K)) p_Tower_power (spPower K cap d) := ok_power (k := 4) T ((ok_is_number T).mono (by decide)) ((ok_tower_of T).mono (by decide)) ((ok_doubled T).mono (by decide)) ((ok_small T).mono (by decide)) ((ok_sign T).mono (by decide)) ((ok_init T).mono (by decide))
theorem o_mod {cap : Sz} (cl : cap.Le LIM) (T : Txt K mg) (d : Nat) : FnOk P w K mg base CX0 (lv d + 1) (He.ma K (He.ga K "Tower") "__mod__") (fdOf K (He.fAd K ("Tower", some "__mod__"))) p_Tower___mod__ (spMod K cap d) := ok_mod T ((ok_rest T cl d).mono (by show 1 + d ≤ 4 + 6 * d; omega)) ((ok_is_whole T).mono (by show 1 ≤ 4 + 6 * d; omega))
theorem o_floordiv {cap : Sz} (cl : cap.Le LIM) (T : Txt K mg) (d : Nat) : FnOk P w K mg base CX0 (lv (d + 1) + 1) (He.ma K (He.ga K "Tower") "__floordiv__") (fdOf K (He.fAd K ("Tower", some "__floordiv__"))) p_Tower___floordiv__ (spDiv K cap (d + 1)) := ok_floordiv T ((ok_rest T cl (d + 1)).mono (by show 1 + (d + 1) ≤ 4 + 6 * (d + 1); omega)) ((o_settled cl T d).mono (by show 4 + 6 * d + 3 ≤ 4 + 6 * (d + 1); omega)) ((ok_is_whole T).mono (by show 1 ≤ 4 + 6 * (d + 1); omega))
theorem o_length {cap : Sz} (cl : cap.Le LIM) (cl2 : (lenSz cap).Le LIM) (T : Txt K mg) (d : Nat) : FnOk P w K mg base CX0 (lv (d + 1) + 2) (He.ma K (He.ga K "Tower") "length") (fdOf K (He.fAd K ("Tower", some "length"))) p_Tower_length (spLength K cap (d + 1)) := ok_length (k := lv (d + 1)) cl2 T ((ok_bits T).mono (by omega)) ((ok_sign T).mono (by omega)) ((o_add cl T d).mono (by show 4 + 6 * d + 1 ≤ 4 + 6 * (d + 1) + 1; omega)) ((ok_core cl T d).2.1.mono (by show 4 + 6 * d ≤ 4 + 6 * (d + 1) + 1; omega)) ((ok_core cl2 T (d + 1)).2.2.mono (by omega)) ((o_power T d).mono (by show 6 ≤ 4 + 6 * (d + 1) + 1; omega)) ((ok_init T).mono (by show 2 ≤ 4 + 6 * (d + 1); omega))
end
end PW
/-! ### the operators at any cap and depth -/
namespace PW
open PySem PySem.Spec PyProof.Rows L2
structure CapOk (c : Sz) : Prop where
  z : c.z + 4 * c.s + 40 ≤ 4000000
  n : c.n ≤ 1200
  s : c.s ≤ 1200
theorem CapOk.lim {c : Sz} (h : CapOk c) : c.Le LIM := ⟨by have := h.z; show c.z ≤ 4000000; omega, h.n, h.s⟩
theorem CapOk.lim2 {c : Sz} (h : CapOk c) : (lenSz c).Le LIM := ⟨h.z, h.n, h.s⟩
def anyC (D : Nat) (sp : Sz → Nat → Sp) : Sp := fun vs H Q E => ∃ c d, CapOk c ∧ d ≤ D ∧ sp c d vs H Q E
theorem lv_mono {d D : Nat} (h : d ≤ D) : lv d ≤ lv D := by
  show 4 + 6 * d ≤ 4 + 6 * D
  omega
theorem meth_num {K : PySem.W.Frag} {cap : Sz} {C a : Addr} {m : Str} {d : Nat} {S : Sz} {v : Int} {sp : Sp} {dvs : List V} {E : XK} {t : TA} {σ : L2.St} {H : Hp} {Q : VK} (hC : C = TwC K) (ha : IsT K cap H d S a v)
    (q : t σ H fun vs H2 => sp (.ref a :: (vs ++ dvs)) H2 Q E) (hm : ∀ l p s, (fsT l p s).lookup m = none := by intros; rfl) : MethN C m sp dvs E t σ Q (.ref a) H := by
  subst hC
  obtain ⟨dx, l, p, s, h⟩ := ha.ins'
  exact r_methC h (hm l p s) q
theorem small_lgv {v : Int} (h : v.natAbs < 2 ^ 100000) : smallV (lgv v) = .int (lgv v) := by
  unfold smallV
  have h1 : bt v ≤ 100000 := bt_le.mpr h
  have h2 : (lgv v).natAbs ≤ 100000 := by
    unfold lgv
    split <;> omega
  rw [if_pos (Nat.lt_of_le_of_lt h2 (by decide))]
section
variable {P : Program} {w : World} {K : PySem.W.Frag} {mg : Str → Option Value} {base : Heap}
theorem fnOk_any {CX : CXT} {k D : Nat} {f : Addr} {fd : FuncData} {ps : List Str} {sp : Sz → Nat → Sp} (h : ∀ c d, CapOk c → d ≤ D → FnOk P w K mg base CX k f fd ps (sp c d)) : FnOk P w K mg base CX k f fd ps (anyC D sp) :=
  ⟨fun vs H Q E ⟨c, d, hc, hd, z⟩ => (h c d hc hd).len vs H Q E z, fun A outer s H args us vs Q E hr he hb hv ⟨c, d, hc, hd, z⟩ => (h c d hc hd).run A outer s H args us vs Q E hr he hb hv z⟩
theorem a_sub (T : Txt K mg) (D : Nat) : FnOk P w K mg base CX0 (lv D + 3) (He.ma K (He.ga K "Tower") "__sub__") (fdOf K (He.fAd K ("Tower", some "__sub__"))) p_Tower___sub__ (anyC D (spSub K)) := fnOk_any fun c d hc hd => (ok_core hc.lim T d).2.1.mono (by have := lv_mono hd; omega)
theorem a_above (T : Txt K mg) (D : Nat) : FnOk P w K mg base CX0 (lv D + 3) (He.ma K (He.ga K "Tower") "above") (fdOf K (He.fAd K ("Tower", some "above"))) p_Tower_above (anyC D (spAbove K)) := fnOk_any fun c d hc hd => (ok_core hc.lim T d).2.2.mono (by have := lv_mono hd; omega)
theorem a_add (T : Txt K mg) (D : Nat) : FnOk P w K mg base CX0 (lv D + 3) (He.ma K (He.ga K "Tower") "__add__") (fdOf K (He.fAd K ("Tower", some "__add__"))) p_Tower___add__ (anyC D (spAdd K)) := fnOk_any fun c d hc hd => (o_add hc.lim T d).mono (by have := lv_mono hd; omega)
theorem a_radd (T : Txt K mg) (D : Nat) : FnOk P w K mg base CX0 (lv D + 3) (He.ma K (He.ga K "Tower") "__radd__") (fdOf K (He.fAd K ("Tower", some "__radd__"))) p_Tower___radd__ (anyC D (spAdd K)) := fnOk_any fun c d hc hd => (o_radd hc.lim T d).mono (by have := lv_mono hd; omega)
theorem a_rsub (T : Txt K mg) (D : Nat) : FnOk P w K mg base CX0 (lv D + 3) (He.ma K (He.ga K "Tower") "__rsub__") (fdOf K (He.fAd K ("Tower", some "__rsub__"))) p_Tower___rsub__ (anyC D (spRsub K)) := fnOk_any fun c d hc hd => (o_rsub hc.lim T d).mono (by have := lv_mono hd; omega)
theorem a_neg (T : Txt K mg) (D : Nat) : FnOk P w K mg base CX0 (lv D + 3) (He.ma K (He.ga K "Tower") "__neg__") (fdOf K (He.fAd K ("Tower", some "__neg__"))) p_Tower___neg__ (anyC D (spNeg K)) := fnOk_any fun c d hc hd => (o_neg hc.lim T d).mono (by have := lv_mono hd; omega)
theorem a_abs (T : Txt K mg) (D : Nat) : FnOk P w K mg base CX0 (lv D + 3) (He.ma K (He.ga K "Tower") "__abs__") (fdOf K (He.fAd K ("Tower", some "__abs__"))) p_Tower___abs__ (anyC D (spAbs K)) := fnOk_any fun c d hc hd => (o_abs hc.lim T d).mono (by have := lv_mono hd; omega)
theorem a_mul (T : Txt K mg) (D : Nat) : FnOk P w K mg base CX0 (lv D + 3) (He.ma K (He.ga K "Tower") "__mul__") (fdOf K (He.fAd K ("Tower", some "__mul__"))) p_Tower___mul__ (anyC D (spMul K)) := fnOk_any fun c d hc hd => (o_mul hc.lim T d).mono (by have := lv_mono hd; omega)
theorem a_rmul (T : Txt K mg) (D : Nat) : FnOk P w K mg base CX0 (lv D + 3) (He.ma K (He.ga K "Tower") "__rmul__") (fdOf K (He.fAd K ("Tower", some "__rmul__"))) p_Tower___rmul__ (anyC D (spMul K)) := fnOk_any fun c d hc hd => (o_rmul hc.lim T d).mono (by have := lv_mono hd; omega)
theorem a_eq (T : Txt K mg) (D : Nat) : FnOk P w K mg base CX0 (lv D + 3) (He.ma K (He.ga K "Tower") "__eq__") (fdOf K (He.fAd K ("Tower", some "__eq__"))) p_Tower___eq__ (anyC D (spEq K)) := fnOk_any fun c d hc hd => (o_eq hc.lim T d).mono (by have := lv_mono hd; omega)
theorem a_power (T : Txt K mg) (D : Nat) : FnOk P w K mg base CX0 (lv D + 3) (sgA "Tower" "power" K) (fdOf K (sgA "Tower" "power" K)) p_Tower_power (anyC D (spPower K)) := fnOk_any fun c d hc hd => (o_power T d).mono (by show 6 ≤ 4 + 6 * D + 3; omega)
theorem a_mod (T : Txt K mg) (D : Nat) : FnOk P w K mg base CX0 (lv D + 3) (He.ma K (He.ga K "Tower") "__mod__") (fdOf K (He.fAd K ("Tower", some "__mod__"))) p_Tower___mod__ (anyC D (spMod K)) := fnOk_any fun c d hc hd => (o_mod hc.lim T d).mono (by have := lv_mono hd; omega)
theorem a_floordiv (T : Txt K mg) (D : Nat) : FnOk P w K mg base CX0 (lv D + 3) (He.ma K (He.ga K "Tower") "__floordiv__") (fdOf K (He.fAd K ("Tower", some "__floordiv__"))) p_Tower___floordiv__ (anyC D (spDiv K)) := fnOk_any fun c d hc hd => by
  cases d with
  | zero => exact fnOk_none (fun vs H Q E h => by obtain ⟨a, S, v, m, rfl, ha, _⟩ := h; exact ha)
  | succ d => exact (o_floordiv hc.lim T d).mono (by have := lv_mono hd; omega)
theorem a_length (T : Txt K mg) (D : Nat) : FnOk P w K mg base CX0 (lv D + 3) (He.ma K (He.ga K "Tower") "length") (fdOf K (He.fAd K ("Tower", some "length"))) p_Tower_length (anyC D (spLength K)) := fnOk_any fun c d hc hd => by
  cases d with
  | zero => exact fnOk_none (fun vs H Q E h => by obtain ⟨a, S, v, rfl, ha, _⟩ := h; exact ha)
  | succ d => exact (o_length hc.lim hc.lim2 T d).mono (by have := lv_mono hd; omega)
end
end PW
/-! ### specs of numbers -/
namespace PW
open PySem PySem.Spec PyProof.Rows L2
def sumP : List (Int × Int) → Int
  | [] => 0
  | (f, e) :: r => f * pw2 e + sumP r
theorem sumP_append (a b : List (Int × Int)) : sumP (a ++ b) = sumP a + sumP b := by
  induction a with
  | nil => show sumP b = 0 + sumP b; omega
  | cons q r ih =>
    obtain ⟨f, e⟩ := q
    show f * pw2 e + sumP (r ++ b) = f * pw2 e + sumP r + sumP b
    rw [ih]
    omega
def SpecV (H : Hp) : Nat → V → Int → Prop
  | 0, _, _ => False
  | d + 1, x, v => (∃ i, x = .int i ∧ v = i ∧ i.natAbs < 2 ^ 64) ∨ (∃ t p low ps qs, x = .ref t ∧ H t = some (.tup [.ref p, .int low]) ∧ H p = some (.lst ps) ∧ ps.length ≤ 2 ∧
      Paired (fun (y : V) (q : Int × Int) => ∃ r e, y = .ref r ∧ H r = some (.tup [.int q.1, e]) ∧ q.1.natAbs ≤ 16 ∧ SpecV H d e q.2 ∧ 300 ≤ q.2) ps qs ∧ low.natAbs < 2 ^ 64 ∧ v = low + sumP qs)
theorem SpecV.ex {H H' : Hp} (x : Ex H H') : ∀ {d : Nat} {y : V} {v : Int}, SpecV H d y v → SpecV H' d y v
  | 0, _, _, h => h.elim
  | d + 1, y, v, h => by
    rcases h with h | ⟨t, p, low, ps, qs, h1, h2, h3, h4, h5, h6, h7⟩
    · exact .inl h
    · refine .inr ⟨t, p, low, ps, qs, h1, x _ _ h2, x _ _ h3, h4, L2.Paired.mapP h5 fun z q hq => ?_, h6, h7⟩
      obtain ⟨r, e, k1, k2, k3, k4⟩ := hq
      exact ⟨r, e, k1, x _ _ k2, k3, SpecV.ex x k4.1, k4.2⟩
theorem SpecV.up {H : Hp} : ∀ {d : Nat} {y : V} {v : Int}, SpecV H d y v → SpecV H (d + 1) y v
  | 0, _, _, h => h.elim
  | d + 1, y, v, h => by
    rcases h with h | ⟨t, p, low, ps, qs, h1, h2, h3, h4, h5, h6, h7⟩
    · exact .inl h
    · refine .inr ⟨t, p, low, ps, qs, h1, h2, h3, h4, L2.Paired.mapP h5 fun z q hq => ?_, h6, h7⟩
      obtain ⟨r, e, k1, k2, k3, k4⟩ := hq
      exact ⟨r, e, k1, k2, k3, SpecV.up k4.1, k4.2⟩
theorem SpecV.deep {H : Hp} {d d' : Nat} {y : V} {v : Int} (h : SpecV H d y v) (l : d ≤ d') : SpecV H d' y v := by
  induction l with
  | refl => exact h
  | step _ ih => exact ih.up
def capT : Sz := ⟨2000, 6, 100⟩
theorem hcT : CapOk capT := ⟨by decide, by decide, by decide⟩
def RS : Sz := ⟨664, 2, 0⟩
theorem RS_cap : RS.Le capT := ⟨by decide, by decide, by decide⟩
theorem RS_lim : RS.Le LIM := ⟨by decide, by decide, by decide⟩
def rb (i : Nat) : Sz := ⟨64 + 300 * i, i, 0⟩
theorem rb_lim {i : Nat} (h : i ≤ 2) : (rb i).Le LIM := ⟨by show 64 + 300 * i ≤ 4000000; omega, by show i ≤ 1200; omega, Nat.zero_le _⟩
theorem rb_RS {i : Nat} (h : i ≤ 2) : (rb i).Le RS := ⟨by show 64 + 300 * i ≤ 664; omega, h, Nat.le_refl _⟩
theorem rb_step {i : Nat} (h : i ≤ 2) : (totSz (rb i) (totSz Z0 PSZ 4) 0).Le (rb (i + 1)) := by
  refine ⟨?_, ?_, ?_⟩
  · show 64 + 300 * i + (0 + 266 + 0 * 0 + 1 * (4 + 0) + 0 + 0 + 4 + 1) + i * (0 + 0) + (0 + 1) * (0 + 0) + 0 + (0 + 0) + 0 + 1 ≤ 64 + 300 * (i + 1)
    omega
  · show i + (0 + 1) ≤ i + 1
    omega
  · exact Nat.le_refl _
theorem mulP_lim : (totSz Z0 PSZ 4).Le LIM := ⟨by decide, by decide, by decide⟩
end PW
/-! ### the draws -/
namespace PW
open PySem PySem.Spec PyProof.Rows L2
/-- all but b stays -/
def ExB (b : Addr) (H H' : Hp) : Prop := ∀ a o, a ≠ b → H a = some o → H' a = some o
theorem ExB.refl {b : Addr} {H : Hp} : ExB b H H := fun _ _ _ h => h
theorem ExB.trans {b : Addr} {H H1 H2 : Hp} (x : ExB b H H1) (y : ExB b H1 H2) : ExB b H H2 := fun a o n h => y a o n (x a o n h)
theorem ExB.upd {b : Addr} {H H1 : Hp} {o : HO} (x : ExB b H H1) : ExB b H (L2.upd H1 b o) := fun a u n h => by
  rw [upd_ne n]
  exact x a u n h
structure BagAt (H : Hp) (b c : Addr) : Prop where
  ex : ∃ (cells : List Int) (i g s : Int), H b = some (.lst [.ref c, .int i, .int g, .int s]) ∧ H c = some (.lst (cells.map V.int)) ∧ 0 ≤ i ∧ 0 ≤ g ∧ 0 ≤ s ∧ s < 2147483549
theorem bag_ne {H : Hp} {b c : Addr} {cells : List Int} {i g s : Int} (h : H b = some (.lst [.ref c, .int i, .int g, .int s])) (h2 : H c = some (.lst (cells.map V.int))) : c ≠ b := by
  intro e
  subst e
  rw [h] at h2
  injection h2 with h2
  injection h2 with h2
  cases cells with
  | nil => cases h2
  | cons z r =>
    rw [List.map_cons] at h2
    injection h2 with h3
    cases h3
theorem BagAt.upd {H : Hp} {b c : Addr} {cells : List Int} {i g s i' g' s' : Int} (h : H b = some (.lst [.ref c, .int i, .int g, .int s])) (h2 : H c = some (.lst (cells.map V.int))) (a1 : 0 ≤ i') (a2 : 0 ≤ g') (a3 : 0 ≤ s') (a4 : s' < 2147483549) :
    BagAt (L2.upd H b (.lst [.ref c, .int i', .int g', .int s'])) b c :=
  ⟨cells, i', g', s', upd_same, by rw [upd_ne (bag_ne h h2)]; exact h2, a1, a2, a3, a4⟩
theorem atI_ints {xs : List Int} {i : Int} (h0 : 0 ≤ i) (h : i < (xs.length : Int)) : ∃ z, atI (xs.map V.int) i = some (.int z) := by
  have hl : i.toNat < xs.length := by omega
  have e : i = (i.toNat : Int) := by omega
  have h2 : atI (xs.map V.int) (i.toNat : Int) = some (.int xs[i.toNat]) := atI_nat (by rw [List.getElem?_map, List.getElem?_eq_getElem hl]; rfl)
  exact ⟨_, by rw [← e] at h2; exact h2⟩
theorem BagAt.objs {H : Hp} {b c : Addr} (h : BagAt H b c) : (∃ o, H b = some o) ∧ (∃ o, H c = some o) ∧ c ≠ b := by
  obtain ⟨cells, i, g, s, h1, h2, _⟩ := h
  exact ⟨⟨_, h1⟩, ⟨_, h2⟩, bag_ne h1 h2⟩
/-- where the two lists of the bag stay -/
theorem BagAt.keep {H H' : Hp} {b c : Addr} (h : BagAt H b c) (e1 : ∀ o, H b = some o → H' b = some o) (e2 : ∀ o, H c = some o → H' c = some o) : BagAt H' b c := by
  obtain ⟨cells, i, g, s, h1, h2, r⟩ := h
  exact ⟨cells, i, g, s, e1 _ h1, e2 _ h2, r⟩
theorem BagAt.put {H : Hp} {b c D : Addr} {o : HO} (h : BagAt H b c) (n1 : b ≠ D) (n2 : c ≠ D) : BagAt (L2.upd H D o) b c := h.keep (fun o e => by rw [upd_ne n1]; exact e) fun o e => by rw [upd_ne n2]; exact e
theorem BagAt.grow {H H' : Hp} {b c : Addr} (h : BagAt H b c) (e : ∀ a o, H a = some o → H' a = some o) : BagAt H' b c := h.keep (fun o q => e _ o q) fun o q => e _ o q
theorem BagAt.ne {H : Hp} {b c D : Addr} (h : BagAt H b c) (hD : H D = none) : b ≠ D ∧ c ≠ D := by
  obtain ⟨⟨o, h1⟩, ⟨o2, h2⟩, _⟩ := h.objs
  exact ⟨ne_of_none h1 hD, ne_of_none h2 hD⟩
theorem BagAt.new {H : Hp} {b c D : Addr} {o : HO} (h : BagAt H b c) (hD : H D = none) : BagAt (L2.upd H D o) b c := h.put (h.ne hD).1 (h.ne hD).2
def spPull : Sp := fun vs H Q _ => ∃ (b c : Addr) (m : Int), vs = [.ref b, .int m] ∧ BagAt H b c ∧ 0 < m ∧ m.natAbs.log2 < 9000 ∧ ∀ r H', 0 ≤ r → r < m → BagAt H' b c → ExB b H H' → Q (.int r) H'
section
variable {P : Program} {w : World} {K : PySem.W.Frag} {mg : Str → Option Value} {base : Heap}
theorem ok__law_pull (T : Txt K mg) : FnOk P w K mg base CX0 1 (He.ga K "_law_pull") (fdOf K (He.ga K "_law_pull")) p__law_pull spPull := by
  refine FunD.ok T.d__law_pull sc__law_pull (fun vs H Q E h => ?_) (fun cdv A outer s H vs Q E hr h => ?_)
  · obtain ⟨b, c, m, rfl, _⟩ := h
    rfl
  · obtain ⟨b, c, m, rfl, ⟨cells, i, g, z, hb, hc, hi, hg, hz, hz2⟩, hm, hm9, hQ⟩ := h
    have hcb := bag_ne hb hc
    refine ⟨_, PSs.nox ((pss_cons (ps_if (PW.pt (pw_and (pt_cmpR op_eq (pe_ix ix_list (pv 0) pe_int (fun _ _ => rfl)) pe_int (nomark _)) (pw_and1 (pt_cmpR op_lt (pe_ix ix_list (pv 0) pe_int (fun _ _ => rfl)) (pe_callB call_lenN (by rfl) T.f_len (by decide +kernel) (pa_cons (pe_ix ix_list (pv 0) pe_int (fun _ _ => rfl)) pa_nil)) (nomark _)))))
      (pss_cons (ps_set (i := 2) sc__law_pull.nd rfl (Or.inl rfl) (pe_ix ix_list (pe_ix ix_list (pv 0) pe_int (fun _ _ => rfl)) (pe_ix ix_list (pv 0) pe_int (fun _ _ => rfl)) (fun _ _ => rfl)))
        (pss_cons (ps_asg (pe_op op_add (pe_ix ix_list (pv 0) pe_int (fun _ _ => rfl)) pe_int) (pg_sub (pv 0) pe_int set_list))
        (pss_one (ps_if (pt_cmpR op_ge (pv 2) (pe_op op_pow pe_int pe_int) (nomark _))
          (pss_one (ps_asg (pv 2) (pg_sub (pv 0) pe_int set_list)))
          (pss_one (ps_asg (pe_op op_mod (pe_callTy call_intN (by rfl) T.f_int (by decide +kernel) (pa_cons (pe_op op_add (pe_op op_add (pe_op op_mulX (pe_ix ix_list (pv 0) pe_int (fun _ _ => rfl)) pe_int) (pe_op op_mulX (pe_op op_mod (pe_callTy call_intN (by rfl) T.f_int (by decide +kernel) (pa_cons (pv 2) pa_nil)) pe_int) pe_int)) pe_int) pa_nil)) pe_int) (pg_sub (pv 0) pe_int set_list)))))))
      pss_nil)
    (pss_cons (ps_if (pt_cmpR op_gt (pe_ix ix_list (pv 0) pe_int (fun _ _ => rfl)) pe_int (nomark _))
      (pss_cons (ps_set (i := 3) sc__law_pull.nd rfl (Or.inl rfl) (pe_op op_mod (pe_callTy call_intN (by rfl) T.f_int (by decide +kernel) (pa_cons (pe_ix ix_list (pv 0) pe_int (fun _ _ => rfl)) pa_nil)) (pv 1)))
        (pss_cons (ps_asg (pe_op op_fdivW (pe_ix ix_list (pv 0) pe_int (fun _ _ => rfl)) (pv 1)) (pg_sub (pv 0) pe_int set_list))
        (pss_one (ps_ret (pv 3)))))
      pss_nil)
    (pss_cons (ps_set (i := 4) sc__law_pull.nd rfl (Or.inl rfl) (pe_ix ix_list (pv 0) pe_int (fun _ _ => rfl)))
    (pss_cons (ps_asg (pe_op op_mod (pe_callTy call_intN (by rfl) T.f_int (by decide +kernel) (pa_cons (pe_op op_add (pe_op op_add (pe_op op_mulX (pv 4) (pv 4)) (pe_op op_mulX (pv 4) pe_int)) pe_int) pa_nil)) pe_int) (pg_sub (pv 0) pe_int set_list))
    (pss_one (ps_ret (pe_op op_mod (pe_callTy call_intN (by rfl) T.f_int (by decide +kernel) (pa_cons (pe_op op_add (pe_op op_fdivW (pe_ix ix_list (pv 0) pe_int (fun _ _ => rfl)) pe_int) (pe_op op_mulX (pe_op op_mod (pe_callTy call_intN (by rfl) T.f_int (by decide +kernel) (pa_cons (pe_ix ix_list (pv 0) pe_int (fun _ _ => rfl)) pa_nil)) pe_int) pe_int)) pa_nil)) (pv 1))))))))), ?_⟩
    show tSeq _ _ _ [some (V.ref b), some (V.int m), none, none, none] H
    walk_at "K"
    refine r_seqP (fun σ' H' => ∃ (x : Option V) (i g z : Int), σ' = [some (V.ref b), some (V.int m), x, none, none] ∧ H' b = some (.lst [.ref c, .int i, .int g, .int z]) ∧ H' c = some (.lst (cells.map V.int)) ∧ 0 ≤ i ∧ 0 ≤ g ∧ 0 ≤ z ∧ z < 2147483549 ∧ ExB b H H') ?_ ?_
    · clear hb hc hi hg hz hz2 i g z
      rintro σ' H' ⟨x, i, g, z, rfl, hb, hc, hi, hg, hz, hz2, hx⟩
      refine r_seqP (fun σ2 H2 => σ2 = [some (V.ref b), some (V.int m), x, none, none] ∧ H2 = H') ?_ ?_
      · rintro σ2 H2 ⟨rfl, rfl⟩
        walk_at "go"
        refine hQ _ _ (Int.emod_nonneg _ (by omega)) (Int.emod_lt_of_pos _ hm) (BagAt.upd hb hc hi hg (Int.emod_nonneg _ (by decide)) (Int.emod_lt_of_pos _ (by decide))) (ExB.upd hx)
      · intro N hN
        walk_at "go"
        refine r_if2 (fun e => ?_) (fun e => ?_)
        · have hg1 : 0 < g := by simpa using e
          walk_at "go"
          refine hQ _ _ (Int.emod_nonneg _ (by omega)) (Int.emod_lt_of_pos _ hm) (BagAt.upd hb hc hi (Int.ediv_nonneg hg (by omega)) hz hz2) (ExB.upd hx)
        · walk_at "go"
          exact hN _ _ ⟨rfl, rfl⟩
    · intro N hN
      walk_at "go"
      refine r_if2 (fun e => ?_) (fun e => ?_)
      · walk_at "go"
        refine r_if2 (fun e2 => ?_) (fun e2 => ?_)
        · have hlt : i < (cells.length : Int) := by simpa using e2
          obtain ⟨y, hy⟩ := atI_ints hi hlt
          walk_at "go"
          refine r_ixL (SqL.of hc) hy ?_
          walk_at "go"
          refine r_if2 (fun e3 => ?_) (fun e3 => ?_)
          · have h1 := of_decide_eq_true e3
            have h2 : (0 : Int) < 10 ^ Int.toNat 18 := by decide
            walk_at "go"
            refine hN _ _ ⟨some (.int y), i + 1, y, z, rfl, upd_same, (upd_ne hcb).trans ((upd_ne hcb).trans hc), by omega, by omega, hz, hz2, ExB.upd (ExB.upd ExB.refl)⟩
          · walk_at "go"
            refine hN _ _ ⟨some (.int y), i + 1, g, _, rfl, upd_same, (upd_ne hcb).trans ((upd_ne hcb).trans hc), by omega, hg, Int.emod_nonneg _ (by decide), Int.emod_lt_of_pos _ (by decide), ExB.upd (ExB.upd ExB.refl)⟩
        · walk_at "go"
          exact hN _ _ ⟨none, i, g, z, rfl, hb, hc, hi, hg, hz, hz2, ExB.refl⟩
      · walk_at "go"
        exact hN _ _ ⟨none, i, g, z, rfl, hb, hc, hi, hg, hz, hz2, ExB.refl⟩
end
end PW
namespace PW
open PySem PySem.Spec PyProof.Rows L2
/-- what is drawn from: a list, a tuple, a text -/
def SeqV (K : PySem.W.Frag) (H : Hp) (b : Addr) (s : V) (xs : List V) : Prop :=
  (∃ p, s = .ref p ∧ p ≠ b ∧ (H p = some (.lst xs) ∨ SqT K H p xs)) ∨ ∃ z : Str, s = .str z ∧ z.length ≤ sizeLine ∧ xs = z.cps.toList.map fun c => .str ⟨#[c]⟩
def spOf (K : PySem.W.Frag) : Sp := fun vs H Q _ => ∃ (b c : Addr) (s : V) (xs : List V), vs = [.ref b, s] ∧ BagAt H b c ∧ SeqV K H b s xs ∧ 0 < xs.length ∧ xs.length ≤ sizeLine ∧ ∀ v H', v ∈ xs → BagAt H' b c → ExB b H H' → Q v H'
theorem ExB.tup {K : PySem.W.Frag} {b p : Addr} {H H' : Hp} {xs : List V} (e : ExB b H H') (n : p ≠ b) (h : SqT K H p xs) : SqT K H' p xs := by
  rcases h with (h | ⟨o, h⟩) | h
  · exact .inl (.inl (e _ _ n h))
  · exact .inl (.inr ⟨o, e _ _ n h⟩)
  · exact .inr h
theorem seqLog {n : Nat} (h : n ≤ sizeLine) : ((n : Nat) : Int).natAbs.log2 < 9000 := by
  have h2 : n ≤ 2 ^ 24 := h
  have h3 : (n : Int).natAbs < 2 ^ 25 := by
    rw [Int.natAbs_natCast]
    exact Nat.lt_of_le_of_lt h2 (by decide)
  exact Nat.lt_trans (PySem.Flt.log2_lt_of (by decide) h3) (by decide)
section
variable {P : Program} {w : World} {K : PySem.W.Frag} {mg : Str → Option Value} {base : Heap}
theorem ok__law_of {k : Nat} (T : Txt K mg) (G__law_pull : FnOk P w K mg base CX0 k (He.ga K "_law_pull") (fdOf K (He.ga K "_law_pull")) p__law_pull spPull) : FnOk P w K mg base CX0 (k + 1) (He.ga K "_law_of") (fdOf K (He.ga K "_law_of")) p__law_of (spOf K) := by
  refine FunD.ok T.d__law_of sc__law_of (fun vs H Q E h => ?_) (fun cdv A outer s H vs Q E hr h => ?_)
  · obtain ⟨b, c, s, xs, rfl, _⟩ := h
    rfl
  · obtain ⟨b, c, q, xs, rfl, hb, hs, h0, hl, hQ⟩ := h
    refine ⟨_, PSs.nox ((pss_one (ps_ret (pe_ix ix_seq (pv 1) (pe_call G__law_pull hr rfl T.g__law_pull T.d__law_pull.kp (b__law_pull T) .nil pass0 (pa_cons (pv 0) (pa_cons (pe_callB call_lenN (by rfl) T.f_len (by decide +kernel) (pa_cons (pv 1) pa_nil)) pa_nil))) (fun _ _ => rfl))))), ?_⟩
    show tRet _ _ [some (V.ref b), some q] H
    walk_at "K"
    have hlen : ∀ R : VK, R (.int (xs.length : Nat)) H → cLen K [q] H R := fun R hR => by
      rcases hs with ⟨p, rfl, hp, hp2 | hp2⟩ | ⟨z, rfl, hz, e⟩
      · exact r_cLenL (SqL.of hp2) hR
      · exact r_cLenT hp2 hR
      · refine r_cLenS hz ?_
        have e2 : xs.length = z.length := by rw [e, List.length_map]; rfl
        rw [← e2]
        exact hR
    walk_at "go"
    refine hlen _ ?_
    walk_at "go"
    refine ⟨b, c, (xs.length : Nat), rfl, hb, by omega, seqLog hl, fun r H' r0 r1 hb' hx => ?_⟩
    rcases hs with ⟨p, rfl, hp, hp2 | hp2⟩ | ⟨z, rfl, hz, e⟩
    · obtain ⟨v, hv, ha⟩ := atI_mem r0 r1
      exact r_ixqL (SqL.of (hx _ _ hp hp2)) ha (hQ v H' hv hb' hx)
    · obtain ⟨v, hv, ha⟩ := atI_mem r0 r1
      exact r_ixqT (ExB.tup hx hp hp2) ha (hQ v H' hv hb' hx)
    · have e2 : xs.length = z.cps.toList.length := by rw [e, List.length_map]
      rw [e2] at r1
      obtain ⟨v, hv, ha⟩ := atI_mem r0 r1
      exact r_ixqS hz ha (hQ _ H' (by rw [e]; exact List.mem_map.mpr ⟨v, hv, rfl⟩) hb' hx)
end
end PW
namespace PW
open PySem PySem.Spec PyProof.Rows L2
theorem cutV_ints (ns : List Int) (lo hi : Option Int) : ∃ cells : List Int, cutV (ns.map V.int) lo hi = cells.map V.int := by
  unfold cutV
  rw [← List.map_drop, ← List.map_take]
  exact ⟨_, rfl⟩
/-- a new bag -/
def spBag (K : PySem.W.Frag) : Sp := fun vs H Q _ => ∃ (a : Addr) (ns : List Int), vs = [.ref a] ∧ SqL K H a (ns.map V.int) ∧ ns.length ≤ 63 ∧ ∀ b c H', H b = none → H c = none → BagAt H' b c → (∀ a o, H a = some o → H' a = some o) → Q (.ref b) H'
section
variable {P : Program} {w : World} {K : PySem.W.Frag} {mg : Str → Option Value} {base : Heap}
theorem ok__law_bag (T : Txt K mg) : FnOk P w K mg base CX0 1 (He.ga K "_law_bag") (fdOf K (He.ga K "_law_bag")) p__law_bag (spBag K) := by
  refine FunD.ok T.d__law_bag sc__law_bag (fun vs H Q E h => ?_) (fun cdv A outer s H vs Q E hr h => ?_)
  · obtain ⟨a, ns, rfl, _⟩ := h
    rfl
  · obtain ⟨a, ns, rfl, ha, hl, hQ⟩ := h
    refine ⟨_, PSs.nox ((pss_one (ps_ret (pe_lst (pa_cons (pe_callTy call_listN (by rfl) T.f_list (by decide +kernel) (pa_cons (pe_slice sl_list (pv 0) po_none (po_some pe_int)) pa_nil)) (pa_cons pe_int (pa_cons pe_int (pa_cons pe_int pa_nil)))))))), ?_⟩
    show tRet _ _ [some (V.ref a)] H
    walk_at "K"
    walk_at "go"
    intro l hl1
    walk_at "go"
    intro c hc
    walk_at "go"
    intro b hb
    have hcl : c ≠ l := Ne.symm (ne_of_none upd_same hc)
    have hb2 : (L2.upd H l (.lst (cutV (ns.map V.int) none (some 63)))) b = none := Same.free (H' := L2.upd (L2.upd H l (.lst (cutV (ns.map V.int) none (some 63)))) c (.lst (cutV (ns.map V.int) none (some 63)))) (fun x o e => by rw [upd_ne (ne_of_none e hc)]; exact e) hb
    have hb3 : H b = none := Same.free (H' := L2.upd H l (.lst (cutV (ns.map V.int) none (some 63)))) (fun x o e => by rw [upd_ne (ne_of_none e hl1)]; exact e) hb2
    have hbc : c ≠ b := ne_of_none upd_same hb
    obtain ⟨cells, e⟩ := cutV_ints ns none (some 63)
    have hc3 : H c = none := Same.free (H' := L2.upd H l (.lst (cutV (ns.map V.int) none (some 63)))) (fun x o e => by rw [upd_ne (ne_of_none e hl1)]; exact e) hc
    refine hQ b c _ hb3 hc3 ⟨cells, 0, 0, 5618, upd_same, (upd_ne hbc).trans ?_, by decide, by decide, by decide, by decide⟩ fun x o ex => ?_
    · rw [e]
      exact upd_same
    · rw [upd_ne (ne_of_none ex hb3), upd_ne (ne_of_none ex hc3), upd_ne (ne_of_none ex hl1)]
      exact ex
end
end PW
namespace PW
open PySem PySem.Spec PyProof.Rows L2
def spLetters : Sp := fun vs H Q _ => vs = [] ∧ Q (.str "abcdefghijklmnopqrstuvwxyz") H
section
variable {P : Program} {w : World} {K : PySem.W.Frag} {mg : Str → Option Value} {base : Heap}
theorem ok__law_letters (T : Txt K mg) : FnOk P w K mg base CX0 1 (He.ga K "_law_letters") (fdOf K (He.ga K "_law_letters")) p__law_letters spLetters := by
  refine FunD.ok T.d__law_letters sc__law_letters (fun vs H Q E h => ?_) (fun cdv A outer s H vs Q E hr h => ?_)
  · obtain ⟨rfl, _⟩ := h
    rfl
  · obtain ⟨rfl, hQ⟩ := h
    exact ⟨_, PSs.nox ((pss_one (ps_ret pe_str))), hQ⟩
end
end PW
namespace PW
open PySem PySem.Spec PyProof.Rows L2
/-- alike to depth n, part by part -/
def Sm (K : PySem.W.Frag) : Nat → Hp → V → V → Prop
  | 0, _, x, y => x = y ∧ flatV x = true
  | n + 1, H, x, y => (x = y ∧ flatV x = true) ∨ ∃ (p q : Addr) (xs ys : List V), x = .ref p ∧ y = .ref q ∧ ((H p = some (.lst xs) ∧ H q = some (.lst ys)) ∨ (H p = some (.tup xs) ∧ H q = some (.tup ys))) ∧
      xs.length = ys.length ∧ xs.length ≤ 100000 ∧ ∀ (i : Nat) u v, xs[i]? = some u → ys[i]? = some v → Sm K n H u v
theorem Sm.mono {K : PySem.W.Frag} : ∀ {n : Nat} {H H' : Hp} {x y : V}, Ex H H' → Sm K n H x y → Sm K n H' x y
  | 0, _, _, _, _, _, h => h
  | n + 1, H, H', x, y, e, h => by
    rcases h with h | ⟨p, q, xs, ys, h1, h2, h3, h4, h5, h6⟩
    · exact .inl h
    · refine .inr ⟨p, q, xs, ys, h1, h2, ?_, h4, h5, fun i u v hu hv => Sm.mono e (h6 i u v hu hv)⟩
      rcases h3 with h3 | h3
      · exact .inl ⟨e _ _ h3.1, e _ _ h3.2⟩
      · exact .inr ⟨e _ _ h3.1, e _ _ h3.2⟩
theorem Sm.flat {K : PySem.W.Frag} {n : Nat} {H : Hp} {x : V} (h : flatV x = true) : Sm K n H x x := by
  cases n with
  | zero => exact ⟨rfl, h⟩
  | succ n => exact .inl ⟨rfl, h⟩
theorem Sm.flats {K : PySem.W.Frag} {n : Nat} {H : Hp} {p q : Addr} {xs : List V} (hp : H p = some (.lst xs)) (hq : H q = some (.lst xs)) (hl : xs.length ≤ 100000) (hf : ∀ v ∈ xs, flatV v = true) : Sm K (n + 1) H (.ref p) (.ref q) :=
  .inr ⟨p, q, xs, xs, rfl, rfl, .inl ⟨hp, hq⟩, rfl, hl, fun i u v hu hv => by
    rw [hu] at hv
    injection hv with hv
    subst hv
    exact Sm.flat (hf u (List.mem_of_getElem? hu))⟩
def spSame (K : PySem.W.Frag) (n : Nat) : Sp := fun vs H Q _ => ∃ x y, vs = [x, y] ∧ Sm K n H x y ∧ ∀ H', Ex H H' → Q (.bl true) H'
section
variable {P : Program} {w : World} {K : PySem.W.Frag} {mg : Str → Option Value} {base : Heap}
def spNo : Sp := fun _ _ _ _ => False
theorem fnOk_no {CX : CXT} {k : Nat} {f : Addr} {fd : FuncData} {ps : List Str} : FnOk P w K mg base CX k f fd ps spNo := ⟨fun _ _ _ _ h => h.elim, fun _ _ _ _ _ _ _ _ _ _ _ _ _ h => h.elim⟩
theorem ok1__law_same {k n : Nat} {spj : Sp} (T : Txt K mg) (hj : n = 0 ∨ ∃ j, n = j + 1 ∧ spj = spSame K j) (G__law_same : FnOk P w K mg base CX0 k (He.ga K "_law_same") (fdOf K (He.ga K "_law_same")) p__law_same spj) :
    FnOk P w K mg base CX0 (k + 1) (He.ga K "_law_same") (fdOf K (He.ga K "_law_same")) p__law_same (spSame K n) := by
  refine FunD.ok T.d__law_same sc__law_same (fun vs H Q E h => ?_) (fun cdv A outer s H vs Q E hr h => ?_)
  · obtain ⟨x, y, rfl, _⟩ := h
    rfl
  · obtain ⟨x, y, rfl, hs, hQ⟩ := h
    refine ⟨_, PSs.nox ((pss_cons (ps_if (pt_val (pe_callB call_isiT (by rfl) T.f_isinstance (by decide +kernel) (pa_cons (pv 1) (pa_cons (pe_tup (pa_cons (pe_bltn (v := .ty "list") (u := .type "list") (by rfl) T.f_list (by decide +kernel) rfl) (pa_cons (pe_bltn (v := .ty "tuple") (u := .type "tuple") (by rfl) T.f_tuple (by decide +kernel) rfl) pa_nil))) pa_nil))))
      (pss_cons (ps_if (PW.pt (pw_or (pt_cmpR op_ne (pe_callB call_isi (by rfl) T.f_isinstance (by decide +kernel) (pa_cons (pv 0) (pa_cons (pe_bltn (v := .ty "list") (u := .type "list") (by rfl) T.f_list (by decide +kernel) rfl) pa_nil))) (pe_callB call_isi (by rfl) T.f_isinstance (by decide +kernel) (pa_cons (pv 1) (pa_cons (pe_bltn (v := .ty "list") (u := .type "list") (by rfl) T.f_list (by decide +kernel) rfl) pa_nil))) (nomark _)) (pw_or1 (pt_cmpR op_ne (pe_callB call_isi (by rfl) T.f_isinstance (by decide +kernel) (pa_cons (pv 0) (pa_cons (pe_bltn (v := .ty "tuple") (u := .type "tuple") (by rfl) T.f_tuple (by decide +kernel) rfl) pa_nil))) (pe_callB call_isi (by rfl) T.f_isinstance (by decide +kernel) (pa_cons (pv 1) (pa_cons (pe_bltn (v := .ty "tuple") (u := .type "tuple") (by rfl) T.f_tuple (by decide +kernel) rfl) pa_nil))) (nomark _)))))
          (pss_one (ps_ret pe_bl))
          pss_nil)
        (pss_one (ps_ret (pe_and (pe_cmpR op_eq (pe_callB call_lenN (by rfl) T.f_len (by decide +kernel) (pa_cons (pv 0) pa_nil)) (pe_callB call_lenN (by rfl) T.f_len (by decide +kernel) (pa_cons (pv 1) pa_nil)) (nomark _)) (pe_one (pe_callB (cr_all rfl) (by rfl) T.f_all (by decide +kernel) (pa_cons (pe_lc (own := [("_law_one_z", 2), ("_law_other_z", 3)]) (g := (gTup K 2 (gCons (gName 2) (gCons (gName 3) gNil)))) rfl sc__law_same.nd (RZ.pi_zipA (by rfl) T.f_zip (pa_cons (pv 0) (pa_cons (pv 1) pa_nil))) (blkOk_by (own := [("_law_one_z", 2), ("_law_other_z", 3)]) (N := n__law_same) (sc := defScope s__law_same) (by decide +kernel)) (fun _ _ _ _ _ => by (refine' PW.pg_tupX (K := K) ?a1 ?b1 ?c1 ?d1 ?h1; (case a1 => rfl); (case b1 => rfl); (case c1 => rfl); (case d1 => rfl); refine' PW.pgs_consX ?a2 ?b2 ?h2; (case a2 => rfl); (case b2 => (refine PW.pg_nameX 2 ?_ ?_ ?_ ?_; exact sc__law_same.nd; rfl; (first | exact Or.inl rfl | exact Or.inr rfl); (first | exact Or.inl rfl | exact Or.inr rfl))); refine' PW.pgs_consX ?a3 ?b3 ?h3; (case a3 => rfl); (case b3 => (refine PW.pg_nameX 3 ?_ ?_ ?_ ?_; exact sc__law_same.nd; rfl; (first | exact Or.inl rfl | exact Or.inr rfl); (first | exact Or.inl rfl | exact Or.inr rfl))); exact pgs_nil)) (fun _ _ _ _ _ => pts_nil) (fun _ _ _ _ _ => (pe_call G__law_same hr rfl T.g__law_same T.d__law_same.kp (b__law_same T) .nil pass0 (pa_cons (pv 2) (pa_cons (pv 3) pa_nil))))) pa_nil)))))))
      pss_nil)
    (pss_cons (ps_if (PW.pt (pw_or (pt_cmp (pc_isN (pv 1)) rfl) (pw_or1 (pt_cmp (pc_isN (pv 0)) rfl))))
      (pss_one (ps_ret (pe_and (pe_cmp (pc_isN (pv 1)) rfl) (pe_one (pe_cmp (pc_isN (pv 0)) rfl)))))
      pss_nil)
    (pss_cons (ps_if (PW.pt (pw_or (pt_cmpR op_ne (pe_callB call_isi (by rfl) T.f_isinstance (by decide +kernel) (pa_cons (pv 0) (pa_cons (pe_bltn (v := .ty "bool") (u := .type "bool") (by rfl) T.f_bool (by decide +kernel) rfl) pa_nil))) (pe_callB call_isi (by rfl) T.f_isinstance (by decide +kernel) (pa_cons (pv 1) (pa_cons (pe_bltn (v := .ty "bool") (u := .type "bool") (by rfl) T.f_bool (by decide +kernel) rfl) pa_nil))) (nomark _)) (pw_or1 (pt_cmpR op_ne (pe_callB call_isi (by rfl) T.f_isinstance (by decide +kernel) (pa_cons (pv 0) (pa_cons (pe_bltn (v := .ty "int") (u := .type "int") (by rfl) T.f_int (by decide +kernel) rfl) pa_nil))) (pe_callB call_isi (by rfl) T.f_isinstance (by decide +kernel) (pa_cons (pv 1) (pa_cons (pe_bltn (v := .ty "int") (u := .type "int") (by rfl) T.f_int (by decide +kernel) rfl) pa_nil))) (nomark _)))))
      (pss_one (ps_ret pe_bl))
      pss_nil)
    (pss_one (ps_ret (pe_and (pe_cmpR op_eq (pe_callB call_isi (by rfl) T.f_isinstance (by decide +kernel) (pa_cons (pv 0) (pa_cons (pe_bltn (v := .ty "str") (u := .type "str") (by rfl) T.f_str (by decide +kernel) rfl) pa_nil))) (pe_callB call_isi (by rfl) T.f_isinstance (by decide +kernel) (pa_cons (pv 1) (pa_cons (pe_bltn (v := .ty "str") (u := .type "str") (by rfl) T.f_str (by decide +kernel) rfl) pa_nil))) (nomark _)) (pe_one (pe_cmpR op_eq (pv 0) (pv 1) (nomark _)))))))))), ?_⟩
    show tSeq _ _ _ [some x, some y, none, none] H
    walk_at "K"
    by_cases hf : x = y ∧ flatV x = true
    · obtain ⟨rfl, hf⟩ := hf
      cases x with
      | non =>
        walk_at "go"
        intro p hp
        walk_at "go"
        exact hQ _ (Ex.new hp)
      | bl b =>
        walk_at "go"
        intro p hp
        walk_at "go"
        exact hQ _ (Ex.new hp)
      | int i =>
        walk_at "go"
        intro p hp
        walk_at "go"
        exact hQ _ (Ex.new hp)
      | str z =>
        walk_at "go"
        intro p hp
        walk_at "go"
        exact hQ _ (Ex.new hp)
      | _ => cases hf
    · cases n with
      | zero => exact absurd hs hf
      | succ n =>
        rcases hs with hs | ⟨p, q, xs, ys, rfl, rfl, hpq, hl, hl2, hit⟩
        · exact absurd hs hf
        · have j0 : ∃ j, n + 1 = j + 1 ∧ spj = spSame K j := hj.elim (fun z => nomatch z) id
          obtain ⟨j, ej, rfl⟩ := j0
          have ej2 : j = n := by omega
          subst ej2
          have comp : ∀ (J : It) (G : Hp → Prop) (H1 : Hp) (D : Addr) (Qd : Hp → Prop), Walk J xs.length G (YPair (fun i => xs[i]?) (fun i => ys[i]?)) → Ex H H1 → (∀ H', Ex H1 H' → G H') → H1 D = none → (∀ H' bs, Ex H H' → H' D = some (.lst ((List.replicate bs true).map V.bl)) → Qd H') →
              LcW J (gTup K 2 (gCons (gName 2) (gCons (gName 3) gNil))) tYes (tCall (spSame K j) [] E0 (tCons (tVar 2) (tCons (tVar 3) tNil))) [2, 3] [some (.ref p), some (.ref q), none, none] H1 D Qd := by
            intro J G H1 D Qd w x1 hG hD hR
            refine lc_grow w (σw := [some (.ref p), some (.ref q), none, none]) rfl (fun _ _ v => v = .bl true) hD hl2 hG (fun _ _ _ _ _ e => e) ?_ ?_
            · rintro i x H2 H3 acc R2 hi x2 ha ⟨T2, u, v, rfl, hT2, rfl, hu, hv⟩ hR2
              walk_at "go"
              refine ⟨rfl, ?_⟩
              walk_at "go"
              exact ⟨u, v, rfl, Sm.mono ((x1.trans x2).trans (Ex.new hT2)) (hit i u v hu hv), fun H4 x4 => hR2 _ _ rfl ((Ex.new hT2).trans x4)⟩
            · intro H2 acc x2 ha hlen hb
              refine hR H2 acc.length (x1.trans x2) ?_
              rw [ha, ← all_true (fun i v e => hb i v e)]
          rcases hpq with ⟨hp1, hq1⟩ | ⟨hp1, hq1⟩
          · walk_at "go"
            intro t ht
            have e1 := (Ex.new (o := .tup [V.ty "list", V.ty "tuple"]) ht) _ _ hp1
            have e2 := (Ex.new (o := .tup [V.ty "list", V.ty "tuple"]) ht) _ _ hq1
            walk_at "go"
            refine r_ifT' (decide_eq_true (by rw [hl])) ?_
            walk_at "go"
            refine ⟨p, q, xs, ys, rfl, Or.inl ⟨SqL.of e1, SqL.of e2, fun D hD => ?_⟩⟩
            refine comp _ _ _ D _ (walk_zip (by rw [← hl, Nat.min_self])) (Ex.new ht) (fun H' x => ⟨SqL.of (x _ _ e1), SqL.of (x _ _ e2)⟩) hD fun H' bs x hb => ?_
            walk_at "go"
            refine r_all (SqL.of hb) ?_
            rw [replicate_all]
            exact hQ _ x
          · walk_at "go"
            intro t ht
            have e1 := (Ex.new (o := .tup [V.ty "list", V.ty "tuple"]) ht) _ _ hp1
            have e2 := (Ex.new (o := .tup [V.ty "list", V.ty "tuple"]) ht) _ _ hq1
            walk_at "go"
            refine r_ifT' (decide_eq_true (by rw [hl])) ?_
            walk_at "go"
            refine ⟨p, q, xs, ys, rfl, Or.inr ⟨SqT.of e1, SqT.of e2, fun D hD => ?_⟩⟩
            refine comp _ _ _ D _ (walk_zipT (by rw [← hl, Nat.min_self])) (Ex.new ht) (fun H' x => ⟨SqT.of (x _ _ e1), SqT.of (x _ _ e2)⟩) hD fun H' bs x hb => ?_
            walk_at "go"
            refine r_all (SqL.of hb) ?_
            rw [replicate_all]
            exact hQ _ x
theorem ok__law_same (T : Txt K mg) : ∀ n : Nat, FnOk P w K mg base CX0 (n + 1) (He.ga K "_law_same") (fdOf K (He.ga K "_law_same")) p__law_same (spSame K n)
  | 0 => ok1__law_same T (.inl rfl) (fnOk_no (k := 0))
  | n + 1 => ok1__law_same T (.inr ⟨n, rfl, rfl⟩) (ok__law_same T n)
end
end PW
namespace PW
open PySem PySem.Spec PyProof.Rows L2
/-- the letters -/
def lettersZ : Str := "abcdefghijklmnopqrstuvwxyz"
def reservedV : List V := [.str "len", .str "mod", .str "and", .str "or", .str "not", .str "true"]
def allLet (z : Str) : Bool := (z.cps.toList.map fun c => decide (c ∈ lettersZ.cps.toList)).all id
/-- whether a text is a name -/
def isNameZ (z : Str) : Bool := decide (1 ≤ (z.length : Int)) && (decide ((z.length : Int) ≤ 6) && (!inV (.str z) reservedV && allLet z))
def isNameV : V → Bool
  | .str z => isNameZ z
  | _ => false
def spIsName (K : PySem.W.Frag) : Sp := fun vs H Q _ => ∃ x, vs = [x] ∧ ((∃ z, x = .str z ∧ z.length ≤ 100000) ∨ ∃ n, isNameV x = false ∧ TyX K H x (.type n) ∧ kitB n "str" = some false) ∧ ∀ H', Ex H H' → Q (.bl (isNameV x)) H'
def spLawIsName : Sp := fun vs H Q _ => ∃ z : Str, vs = [.str z] ∧ z.length ≤ 100000 ∧ ∀ H', Ex H H' → Q (.bl (isNameZ z)) H'
theorem size_le {z : Str} (h : z.length ≤ 100000) : z.length ≤ sizeLine := Nat.le_trans h (by decide)
section
variable {P : Program} {w : World} {K : PySem.W.Frag} {mg : Str → Option Value} {base : Heap}
theorem str_walk {te : TE} {vs : List Nat} {σ σw : L2.St} {H1 : Hp} {D : Addr} {Qd : Hp → Prop} {z : Str} {i : Nat} {f : Nat → V} (τ : Nat → L2.St) (hz : z.length ≤ 100000) (hw : wipe σ vs = σw) (hτ : ∀ c, σw.set i (some (.str ⟨#[c]⟩)) = τ c) (hv : ∀ c, wipe (τ c) vs = σw) (hD : H1 D = none)
    (hs : ∀ c H (R : VK), Ex H1 H → (∀ H4, Ex H H4 → R (f c) H4) → te (τ c) H R) (hd : ∀ H, Ex H1 H → H D = some (.lst (z.cps.toList.map f)) → Qd H) : LcW (Its z) (gName i) tYes te vs σ H1 D Qd := by
  refine lc_grow walk_str hw (fun i _ v => ∃ c, z.cps.toList[i]? = some c ∧ v = f c) hD hz (fun _ _ => trivial) (fun _ _ _ _ _ e => e) ?_ ?_
  · rintro j x H H' acc R hj x1 ha ⟨rfl, c, hc, rfl⟩ hR
    show wipe (σw.set i (some (.str ⟨#[c]⟩))) vs = σw ∧ te (σw.set i (some (.str ⟨#[c]⟩))) _ R
    rw [hτ]
    exact ⟨hv c, hs c _ R x1 fun H4 x4 => hR _ _ ⟨c, by rw [← hc]; simp, rfl⟩ x4⟩
  · intro H acc x1 ha hl hE
    refine hd H x1 ?_
    rw [ha, acc_map (l := z.cps.toList) (f := f) (by rw [hl]; rfl) fun i v e => hE i v e]
end
end PW
namespace PW
open PySem PySem.Spec PyProof.Rows L2
section
variable {P : Program} {w : World} {K : PySem.W.Frag} {mg : Str → Option Value} {base : Heap}
theorem ok__law_is_name {k : Nat} (T : Txt K mg) (G__law_letters : FnOk P w K mg base CX0 k (He.ga K "_law_letters") (fdOf K (He.ga K "_law_letters")) p__law_letters spLetters) :
    FnOk P w K mg base CX0 (k + 1) (He.ga K "_law_is_name") (fdOf K (He.ga K "_law_is_name")) p__law_is_name spLawIsName := by
  refine FunD.ok T.d__law_is_name sc__law_is_name (fun vs H Q E h => ?_) (fun cdv A outer s H vs Q E hr h => ?_)
  · obtain ⟨z, rfl, _⟩ := h
    rfl
  · obtain ⟨z, rfl, hz, hQ⟩ := h
    have hz2 := size_le hz
    refine ⟨_, PSs.nox ((pss_cons (ps_set (i := 1) sc__law_is_name.nd rfl (Or.inl rfl) (pe_and (pe_chain op_le op_le pe_int (pe_callB call_lenN (by rfl) T.f_len (by decide +kernel) (pa_cons (pv 0) pa_nil)) pe_int) (pe_one (pe_cmpR op_notIn_seq (pv 0) (pe_lst (pa_cons pe_str (pa_cons pe_str (pa_cons pe_str (pa_cons pe_str (pa_cons pe_str (pa_cons pe_str pa_nil))))))) rfl))))
    (pss_one (ps_ret (pe_and (pv 1) (pe_one (pe_callB (cr_all rfl) (by rfl) T.f_all (by decide +kernel) (pa_cons (pe_lc (own := [("_law_sign_z", 2)]) rfl sc__law_is_name.nd (pi_str (pv 0)) (blkOk_by (own := [("_law_sign_z", 2)]) (N := n__law_is_name) (sc := defScope s__law_is_name) (by decide +kernel)) (fun _ _ _ _ _ => (pg_name (i := 2) sc__law_is_name.nd rfl (Or.inl rfl) (hf := by first | exact Or.inl rfl | exact Or.inr rfl))) (fun _ _ _ _ _ => pts_nil) (fun _ _ _ _ _ => (pe_cmpR op_inS (pv 2) (pe_call0 G__law_letters hr rfl T.g__law_letters T.d__law_letters.kp (b__law_letters T) .nil pass0) rfl))) pa_nil)))))))), ?_⟩
    show tSeq _ _ _ [some (V.str z), none, none] H
    walk_at "K"
    refine r_seqP (fun σ' H' => σ' = [some (V.str z), some (.bl (decide (1 ≤ (z.length : Int)) && (decide ((z.length : Int) ≤ 6) && !inV (.str z) reservedV))), none] ∧ Ex H H') ?_ ?_
    · rintro σ' H' ⟨rfl, x⟩
      have fin : ∀ b : Bool, isNameZ z = b → ∀ H2, Ex H H2 → Q (.bl b) H2 := fun b e H2 x2 => by
        rw [← e]
        exact hQ H2 x2
      walk_at "go"
      refine r_if2 (fun e => ?_) (fun e => ?_)
      · walk_at "go"
        intro D hD
        refine str_walk (f := fun c => .bl (decide (c ∈ lettersZ.cps.toList))) (fun c => [some (V.str z), some (.bl (decide (1 ≤ (z.length : Int)) && (decide ((z.length : Int) ≤ 6) && !inV (.str z) reservedV))), some (.str ⟨#[c]⟩)]) hz rfl (fun _ => rfl) (fun _ => rfl) hD (fun c H2 R x2 hR => ?_) (fun H2 x2 ha => ?_)
        · walk_at "go"
          refine ⟨rfl, ?_⟩
          walk_at "go"
          exact hR _ (Ex.refl _)
        · walk_at "go"
          refine r_all (bs := z.cps.toList.map fun c => decide (c ∈ lettersZ.cps.toList)) (SqL.of (by rw [ha, List.map_map]; rfl)) ?_
          refine fin _ ?_ _ (x.trans x2)
          simp only [Bool.and_eq_true] at e
          unfold isNameZ allLet
          rw [e.1, e.2.1, e.2.2, Bool.true_and, Bool.true_and, Bool.true_and]
      · refine fin _ ?_ _ x
        unfold isNameZ
        rw [← Bool.and_assoc, ← Bool.and_assoc, Bool.and_assoc (decide (1 ≤ (z.length : Int))), e, Bool.false_and]
    · intro N hN
      walk_at "go"
      refine r_if2 (fun e => ?_) (fun e => ?_)
      · walk_at "go"
        refine r_if2 (fun e2 => ?_) (fun e2 => ?_)
        · walk_at "go"
          intro p hp
          walk_at "go"
          refine hN _ _ ⟨?_, Ex.new hp⟩
          rw [e, e2, Bool.true_and, Bool.true_and]
          rfl
        · walk_at "go"
          refine hN _ _ ⟨?_, Ex.refl _⟩
          rw [e2, Bool.false_and, Bool.and_false]
      · walk_at "go"
        refine hN _ _ ⟨?_, Ex.refl _⟩
        rw [e, Bool.false_and]
end
end PW
/-! ### terms: their texts, their levels, how they lie in the heap -/
namespace PW
open PySem PySem.Spec PyProof.Rows L2
inductive Tm where
  | num (i : Int)
  | nam (z : Str)
  | add (a b : Tm)
  | sub (a b : Tm)
  | tim (i : Int) (a : Tm)
  | pow (a : Tm)
  | len (a : Tm)
  | quo (a : Tm) (i : Int)
  | cal (f : Str) (as : List Tm)
/-- the signs of a number -/
def numC (i : Int) : List Nat := if i < 0 then 45 :: TL.numL i.natAbs else TL.numL i.natAbs
namespace Tm
mutual
def dep : Tm → Nat
  | .num _ => 1
  | .nam _ => 1
  | .add a b => 1 + max (dep a) (dep b)
  | .sub a b => 1 + max (dep a) (dep b)
  | .tim _ a => 1 + dep a
  | .pow a => 1 + dep a
  | .len a => 1 + dep a
  | .quo a _ => 1 + dep a
  | .cal _ as => 1 + deps as
def deps : List Tm → Nat
  | [] => 0
  | a :: r => max (dep a) (deps r)
end
mutual
/-- the signs of a term's text -/
def tx : Tm → List Nat
  | .num i => numC i
  | .nam z => TL.tl z
  | .add a b => 40 :: (tx a ++ (32 :: 43 :: 32 :: (tx b ++ [41])))
  | .sub a b => 40 :: (tx a ++ (32 :: 45 :: 32 :: (tx b ++ [41])))
  | .tim i a => numC i ++ (42 :: tx a)
  | .pow a => 50 :: 94 :: tx a
  | .len a => 108 :: 101 :: 110 :: 40 :: (tx a ++ [41])
  | .quo a i => 40 :: (tx a ++ (32 :: 47 :: 47 :: 32 :: (numC i ++ [41])))
  | .cal f as => TL.tl f ++ (40 :: (txs as ++ [41]))
def txs : List Tm → List Nat
  | [] => []
  | a :: r => tx a ++ txr r
def txr : List Tm → List Nat
  | [] => []
  | a :: r => 44 :: 32 :: (tx a ++ txr r)
end
/-- a term's text -/
def txt (t : Tm) : Str := ⟨t.tx.toArray⟩
/-- the terms directly inside -/
def parts : Tm → List Tm
  | .num _ => []
  | .nam _ => []
  | .add a b => [a, b]
  | .sub a b => [a, b]
  | .tim _ a => [a]
  | .pow a => [a]
  | .len a => [a]
  | .quo a _ => [a]
  | .cal _ as => as
mutual
/-- a bound of a term's size -/
def cost : Tm → Nat
  | .num _ => 1
  | .nam z => 1 + z.length
  | .add a b => 1 + cost a + cost b
  | .sub a b => 1 + cost a + cost b
  | .tim _ a => 1 + cost a
  | .pow a => 1 + cost a
  | .len a => 1 + cost a
  | .quo a _ => 1 + cost a
  | .cal f as => 1 + f.length + costs as
def costs : List Tm → Nat
  | [] => 0
  | a :: r => cost a + costs r
end
mutual
/-- names are names, ints are below n, m, q -/
def ok (n m q : Nat) : Tm → Prop
  | .num i => i.natAbs < n
  | .nam z => isNameZ z = true
  | .add a b => ok n m q a ∧ ok n m q b
  | .sub a b => ok n m q a ∧ ok n m q b
  | .tim i a => i.natAbs < m ∧ ok n m q a
  | .pow a => ok n m q a
  | .len a => ok n m q a
  | .quo a i => (1 ≤ i ∧ i < (q : Nat)) ∧ ok n m q a
  | .cal f as => isNameZ f = true ∧ as.length ≤ 3 ∧ oks n m q as
def oks (n m q : Nat) : List Tm → Prop
  | [] => True
  | a :: r => ok n m q a ∧ oks n m q r
end
mutual
/-- a term as a datum -/
def pd : Tm → PyData
  | .num i => .tuple [.str "number", .int i]
  | .nam z => .tuple [.str "name", .str z]
  | .add a b => .tuple [.str "add", pd a, pd b]
  | .sub a b => .tuple [.str "subtract", pd a, pd b]
  | .tim i a => .tuple [.str "times", .int i, pd a]
  | .pow a => .tuple [.str "power", pd a]
  | .len a => .tuple [.str "length", pd a]
  | .quo a i => .tuple [.str "quotient", pd a, .int i]
  | .cal f as => .tuple [.str "call", .str f, .tuple (pds as)]
def pds : List Tm → List PyData
  | [] => []
  | a :: r => pd a :: pds r
end
theorem oks_mem {n m q : Nat} : ∀ {as : List Tm}, oks n m q as ↔ ∀ a ∈ as, ok n m q a
  | [] => by simp [oks]
  | a :: r => by
    simp only [oks, List.mem_cons, forall_eq_or_imp]
    rw [oks_mem]
theorem pds_map : ∀ {as : List Tm}, pds as = as.map pd
  | [] => rfl
  | a :: r => by
    simp only [pds, List.map_cons]
    rw [pds_map]
theorem dep_pos (t : Tm) : 1 ≤ t.dep := by
  cases t <;> (unfold dep; omega)
theorem deps_le {as : List Tm} {n : Nat} : deps as ≤ n ↔ ∀ a ∈ as, a.dep ≤ n := by
  induction as with
  | nil => simp [deps]
  | cons a r ih =>
    simp only [deps, List.mem_cons, forall_eq_or_imp]
    rw [← ih]
    omega
theorem dep_parts {t : Tm} {n : Nat} (h : t.dep ≤ n + 1) : ∀ a ∈ t.parts, a.dep ≤ n := by
  cases t with
  | num i => intro a ha; exact nomatch ha
  | nam z => intro a ha; exact nomatch ha
  | add x y =>
    intro a ha
    simp only [dep] at h
    simp only [parts, List.mem_cons, List.not_mem_nil, or_false] at ha
    rcases ha with rfl | rfl <;> omega
  | sub x y =>
    intro a ha
    simp only [dep] at h
    simp only [parts, List.mem_cons, List.not_mem_nil, or_false] at ha
    rcases ha with rfl | rfl <;> omega
  | cal f as =>
    simp only [dep] at h
    exact deps_le.mp (show deps as ≤ n by omega)
  | _ =>
    intro a ha
    simp only [dep] at h
    simp only [parts, List.mem_cons, List.not_mem_nil, or_false] at ha
    subst ha
    omega
theorem deps_eq (t : Tm) : t.dep = 1 + deps t.parts := by
  cases t <;> simp [dep, parts, deps]
/-- the word at a term's head -/
def word : Tm → Str
  | .num _ => "number"
  | .nam _ => "name"
  | .add _ _ => "add"
  | .sub _ _ => "subtract"
  | .tim _ _ => "times"
  | .pow _ => "power"
  | .len _ => "length"
  | .quo _ _ => "quotient"
  | .cal _ _ => "call"
end Tm
/-- the tuple of a term: R tells its parts -/
def TmRow (K : PySem.W.Frag) (H : Hp) (R : V → Tm → Prop) (xs : List V) : Tm → Prop
  | .num i => xs = [.str "number", .int i]
  | .nam z => xs = [.str "name", .str z]
  | .add a b => ∃ x y, xs = [.str "add", x, y] ∧ R x a ∧ R y b
  | .sub a b => ∃ x y, xs = [.str "subtract", x, y] ∧ R x a ∧ R y b
  | .tim i a => ∃ x, xs = [.str "times", .int i, x] ∧ R x a
  | .pow a => ∃ x, xs = [.str "power", x] ∧ R x a
  | .len a => ∃ x, xs = [.str "length", x] ∧ R x a
  | .quo a i => ∃ x, xs = [.str "quotient", x, .int i] ∧ R x a
  | .cal f as => ∃ q ys, xs = [.str "call", .str f, .ref q] ∧ H q = some (.tup ys) ∧ Paired R ys as
/-- v is the term t, of at most d levels -/
def IsTm (K : PySem.W.Frag) (H : Hp) : Nat → V → Tm → Prop
  | 0, _, _ => False
  | d + 1, v, t => ∃ p xs, v = .ref p ∧ H p = some (.tup xs) ∧ TmRow K H (IsTm K H d) xs t
theorem TmRow.imp {K : PySem.W.Frag} {H H' : Hp} {R R' : V → Tm → Prop} {xs : List V} {t : Tm} (e : ∀ {p ys}, H p = some (.tup ys) → H' p = some (.tup ys)) (h : ∀ x a, R x a → R' x a) (r : TmRow K H R xs t) : TmRow K H' R' xs t := by
  cases t with
  | num i => exact r
  | nam z => exact r
  | add a b => obtain ⟨x, y, e1, e2, e3⟩ := r; exact ⟨x, y, e1, h _ _ e2, h _ _ e3⟩
  | sub a b => obtain ⟨x, y, e1, e2, e3⟩ := r; exact ⟨x, y, e1, h _ _ e2, h _ _ e3⟩
  | cal f as => obtain ⟨q, ys, e1, e2, e3⟩ := r; exact ⟨q, ys, e1, e e2, L2.Paired.mapP e3 h⟩
  | _ => obtain ⟨x, e1, e2⟩ := r; exact ⟨x, e1, h _ _ e2⟩
theorem IsTm.ex {K : PySem.W.Frag} {H H' : Hp} (x : Ex H H') : ∀ {d : Nat} {v : V} {t : Tm}, IsTm K H d v t → IsTm K H' d v t
  | 0, _, _, h => h.elim
  | d + 1, v, t, h => by
    obtain ⟨p, xs, e, h1, h2⟩ := h
    exact ⟨p, xs, e, x _ _ h1, h2.imp (fun q => x _ _ q) fun _ _ z => IsTm.ex x z⟩
theorem IsTm.up {K : PySem.W.Frag} {H : Hp} : ∀ {d d' : Nat} {v : V} {t : Tm}, d ≤ d' → IsTm K H d v t → IsTm K H d' v t
  | 0, _, _, _, _, h => h.elim
  | d + 1, 0, _, _, e, _ => absurd e (by omega)
  | d + 1, d' + 1, v, t, e, h => by
    obtain ⟨p, xs, e1, h1, h2⟩ := h
    exact ⟨p, xs, e1, h1, h2.imp id fun _ _ z => IsTm.up (by omega) z⟩
theorem pr_len {α β : Type} {F : α → β → Prop} {xs : List α} {ys : List β} (h : Paired F xs ys) : xs.length = ys.length := Paired.length h
theorem pr_get {α β : Type} {F : α → β → Prop} : ∀ {xs : List α} {ys : List β} {i : Nat} {x : α}, Paired F xs ys → xs[i]? = some x → ∃ y, ys[i]? = some y ∧ F x y
  | _, _, _, _, .nil, h => by cases h
  | _, _, 0, _, .cons r _, h => ⟨_, rfl, by
    injection h with h
    subst h
    exact r⟩
  | _, _, i + 1, _, .cons _ t, h => pr_get (i := i) t h
theorem deps_paired {R : V → Tm → Prop} {d : Nat} (h : ∀ v t, R v t → t.dep ≤ d) : ∀ {ys : List V} {as : List Tm}, Paired R ys as → Tm.deps as ≤ d
  | _, _, .nil => by simp [Tm.deps]
  | _, _, .cons a b => by
    have h1 := h _ _ a
    have h2 := deps_paired h b
    simp only [Tm.deps]
    omega
theorem IsTm.depth {K : PySem.W.Frag} {H : Hp} : ∀ {d : Nat} {v : V} {t : Tm}, IsTm K H d v t → t.dep ≤ d
  | 0, _, _, h => h.elim
  | d + 1, v, t, h => by
    obtain ⟨p, xs, e1, h1, h2⟩ := h
    cases t with
    | num i => simp only [Tm.dep]; omega
    | nam i => simp only [Tm.dep]; omega
    | add a b =>
      obtain ⟨x, y, _, e2, e3⟩ := h2
      have := IsTm.depth e2
      have := IsTm.depth e3
      simp only [Tm.dep]
      omega
    | sub a b =>
      obtain ⟨x, y, _, e2, e3⟩ := h2
      have := IsTm.depth e2
      have := IsTm.depth e3
      simp only [Tm.dep]
      omega
    | cal f as =>
      obtain ⟨q, ys, _, _, e3⟩ := h2
      have hd : Tm.deps as ≤ d := deps_paired (fun _ _ z => IsTm.depth z) e3
      simp only [Tm.dep]
      omega
    | _ =>
      obtain ⟨x, _, e2⟩ := h2
      have := IsTm.depth e2
      simp only [Tm.dep]
      omega
/-- a new tuple is a term -/
theorem IsTm.mk {K : PySem.W.Frag} {H : Hp} {d : Nat} {p : Addr} {xs : List V} {t : Tm} (h : H p = some (.tup xs)) (r : TmRow K H (IsTm K H d) xs t) : IsTm K H (d + 1) (.ref p) t := ⟨p, xs, rfl, h, r⟩
theorem tl_iS (i : Int) : TL.tl (Str.ofString (toString i)) = numC i := by
  unfold numC
  cases i with
  | ofNat n =>
    rw [if_neg (by show ¬ (n : Int) < 0; omega)]
    exact TL.tl_num n
  | negSucc n =>
    rw [if_pos (Int.negSucc_lt_zero n)]
    have e : toString (Int.negSucc n) = "-" ++ Nat.repr (n + 1) := rfl
    have e2 := TL.tl_num (n + 1)
    have e3 : toString ((n + 1 : Nat) : Int) = Nat.repr (n + 1) := rfl
    rw [e3] at e2
    rw [e, Str.ofString_eq_toList]
    rw [Str.ofString_eq_toList] at e2
    show (("-" ++ Nat.repr (n + 1)).toList.map Char.toNat) = _
    have e4 : (Nat.repr (n + 1)).toList.map Char.toNat = TL.numL (n + 1) := e2
    rw [String.toList_append, List.map_append, e4]
    rfl
theorem numC_len {i : Int} {k : Nat} (hk : 0 < k) (h : i.natAbs < 10 ^ k) : (numC i).length ≤ k + 1 := by
  have := TL.numL_len hk h
  unfold numC
  split
  · show (TL.numL i.natAbs).length + 1 ≤ k + 1
    omega
  · omega
theorem numC_ne (i : Int) : numC i ≠ [] := by
  unfold numC
  split
  · exact List.cons_ne_nil _ _
  · exact TL.numL_ne _
end PW
/-! ### terms as data; bounds of their texts -/
namespace PW
open PySem PySem.Spec PyProof.Rows L2
theorem lettersZ_tl : TL.tl lettersZ = [97, 98, 99, 100, 101, 102, 103, 104, 105, 106, 107, 108, 109, 110, 111, 112, 113, 114, 115, 116, 117, 118, 119, 120, 121, 122] := by decide +kernel
theorem mem_letters {c : Nat} : c ∈ lettersZ.cps.toList ↔ 97 ≤ c ∧ c ≤ 122 := by
  rw [show lettersZ.cps.toList = _ from lettersZ_tl]
  constructor
  · intro h
    simp only [List.mem_cons, List.not_mem_nil, or_false] at h
    omega
  · rintro ⟨h1, h2⟩
    simp only [List.mem_cons, List.not_mem_nil, or_false]
    omega
theorem allLet_iff {z : Str} : allLet z = true ↔ ∀ c ∈ TL.tl z, 97 ≤ c ∧ c ≤ 122 := by
  unfold allLet
  rw [List.all_map, List.all_eq_true]
  constructor
  · intro h c hc
    exact mem_letters.mp (of_decide_eq_true (h c hc))
  · intro h c hc
    exact decide_eq_true (mem_letters.mpr (h c hc))
structure IsNm (z : Str) : Prop where
  l1 : 1 ≤ z.length
  l6 : z.length ≤ 6
  let_ : ∀ c ∈ TL.tl z, 97 ≤ c ∧ c ≤ 122
  res : inV (.str z) reservedV = false
theorem isNm_iff {z : Str} : isNameZ z = true ↔ IsNm z := by
  unfold isNameZ
  simp only [Bool.and_eq_true, decide_eq_true_eq, Bool.not_eq_true']
  constructor
  · rintro ⟨h1, h2, h3, h4⟩
    exact ⟨by omega, by omega, allLet_iff.mp h4, h3⟩
  · rintro ⟨h1, h2, h3, h4⟩
    exact ⟨by omega, by omega, h4, allLet_iff.mpr h3⟩
theorem nm_repr {z : Str} (h : IsNm z) : (reprText z).length ≤ 10 * z.length + 2 := StrLaws.reprText_len z fun c hc => by
  have := (h.let_ c hc).2
  exact Nat.lt_of_le_of_lt this (by decide)
theorem IsTm.dat {K : PySem.W.Frag} {H : Hp} : ∀ {d : Nat} {v : V} {t : Tm}, IsTm K H d v t → Dp K H v t.pd
  | 0, _, _, h => h.elim
  | d + 1, v, t, h => by
    obtain ⟨p, xs, rfl, h1, h2⟩ := h
    cases t with
    | num i =>
      have h2 : xs = _ := h2
      subst h2
      simp only [Tm.pd]
      exact .tup (SqT.of h1) (.cons (.str _) (.cons (.int _) .nil))
    | nam z =>
      have h2 : xs = _ := h2
      subst h2
      simp only [Tm.pd]
      exact .tup (SqT.of h1) (.cons (.str _) (.cons (.str _) .nil))
    | add a b =>
      obtain ⟨x, y, rfl, e2, e3⟩ := h2
      simp only [Tm.pd]
      exact .tup (SqT.of h1) (.cons (.str _) (.cons (IsTm.dat e2) (.cons (IsTm.dat e3) .nil)))
    | sub a b =>
      obtain ⟨x, y, rfl, e2, e3⟩ := h2
      simp only [Tm.pd]
      exact .tup (SqT.of h1) (.cons (.str _) (.cons (IsTm.dat e2) (.cons (IsTm.dat e3) .nil)))
    | tim i a =>
      obtain ⟨x, rfl, e2⟩ := h2
      simp only [Tm.pd]
      exact .tup (SqT.of h1) (.cons (.str _) (.cons (.int _) (.cons (IsTm.dat e2) .nil)))
    | pow a =>
      obtain ⟨x, rfl, e2⟩ := h2
      simp only [Tm.pd]
      exact .tup (SqT.of h1) (.cons (.str _) (.cons (IsTm.dat e2) .nil))
    | len a =>
      obtain ⟨x, rfl, e2⟩ := h2
      simp only [Tm.pd]
      exact .tup (SqT.of h1) (.cons (.str _) (.cons (IsTm.dat e2) .nil))
    | quo a i =>
      obtain ⟨x, rfl, e2⟩ := h2
      simp only [Tm.pd]
      exact .tup (SqT.of h1) (.cons (.str _) (.cons (IsTm.dat e2) (.cons (.int _) .nil)))
    | cal f as =>
      obtain ⟨q, ys, rfl, e2, e3⟩ := h2
      simp only [Tm.pd]
      refine .tup (SqT.of h1) (.cons (.str _) (.cons (.str _) (.cons (.tup (SqT.of e2) ?_) .nil)))
      have go : ∀ {ys : List V} {as : List Tm}, Paired (IsTm K H d) ys as → DpAll K H ys (Tm.pds as) := by
        intro ys as z
        induction z with
        | nil => exact .nil
        | cons a b ih => exact .cons (IsTm.dat a) ih
      exact go e3
namespace Tm
mutual
theorem pd_dict : ∀ t : Tm, t.pd.hasDict = false
  | .num _ => by simp [pd, PyData.hasDict, PyData.hasDictAll]
  | .nam _ => by simp [pd, PyData.hasDict, PyData.hasDictAll]
  | .add a b => by simp [pd, PyData.hasDict, PyData.hasDictAll, pd_dict a, pd_dict b]
  | .sub a b => by simp [pd, PyData.hasDict, PyData.hasDictAll, pd_dict a, pd_dict b]
  | .tim _ a => by simp [pd, PyData.hasDict, PyData.hasDictAll, pd_dict a]
  | .pow a => by simp [pd, PyData.hasDict, PyData.hasDictAll, pd_dict a]
  | .len a => by simp [pd, PyData.hasDict, PyData.hasDictAll, pd_dict a]
  | .quo a _ => by simp [pd, PyData.hasDict, PyData.hasDictAll, pd_dict a]
  | .cal _ as => by simp [pd, PyData.hasDict, PyData.hasDictAll, pds_dict as]
theorem pds_dict : ∀ as : List Tm, PyData.hasDictAll (pds as) = false
  | [] => rfl
  | a :: r => by simp [pds, PyData.hasDictAll, pd_dict a, pds_dict r]
end
mutual
theorem pd_depth : ∀ t : Tm, t.pd.depth ≤ 2 * t.dep
  | .num _ => by simp [pd, PyData.depth, PyData.depthAll, dep]
  | .nam _ => by simp [pd, PyData.depth, PyData.depthAll, dep]
  | .add a b => by
    have := pd_depth a
    have := pd_depth b
    simp only [pd, PyData.depth, PyData.depthAll, dep]
    omega
  | .sub a b => by
    have := pd_depth a
    have := pd_depth b
    simp only [pd, PyData.depth, PyData.depthAll, dep]
    omega
  | .tim _ a => by
    have := pd_depth a
    simp only [pd, PyData.depth, PyData.depthAll, dep]
    omega
  | .pow a => by
    have := pd_depth a
    simp only [pd, PyData.depth, PyData.depthAll, dep]
    omega
  | .len a => by
    have := pd_depth a
    simp only [pd, PyData.depth, PyData.depthAll, dep]
    omega
  | .quo a _ => by
    have := pd_depth a
    simp only [pd, PyData.depth, PyData.depthAll, dep]
    omega
  | .cal _ as => by
    have := pds_depth as
    simp only [pd, PyData.depth, PyData.depthAll, dep]
    omega
theorem pds_depth : ∀ as : List Tm, PyData.depthAll (pds as) ≤ 2 * deps as
  | [] => by simp [pds, PyData.depthAll, deps]
  | a :: r => by
    have := pd_depth a
    have := pds_depth r
    simp only [pds, PyData.depthAll, deps]
    omega
end
end Tm
theorem log_small {i : Int} {n : Nat} (h : i.natAbs < n) (hn : n ≤ 10 ^ 10) : i.natAbs.log2 < 1920 := by
  by_cases h0 : i.natAbs = 0
  · rw [h0]; decide
  · exact (Nat.log2_lt h0).mpr (Nat.lt_of_lt_of_le (Nat.lt_of_lt_of_le h hn) (by
      have : (10 : Nat) ^ 10 ≤ 2 ^ 40 := by decide
      exact Nat.le_trans this (Nat.pow_le_pow_right (by decide) (by decide))))
theorem shown_int {i : Int} (h : i.natAbs < 10 ^ 10) : (PyData.int i).shown.length ≤ 11 := by
  simp only [PyData.shown]
  rw [PySem.ofString_length]
  exact int_text_length_le10 (by decide) h
theorem shown_tup (ds : List PyData) : (PyData.tuple ds).shown.length ≤ piled (PyData.shownAll ds) + 2 := by
  simp only [PyData.shown]
  unfold tupleText
  rw [Str.length_append, Str.length_append]
  have l1 : ("(" : Str).length = 1 := by decide +kernel
  have l2 : (Str.ofString (if ((PyData.shownAll ds).length == 1) = true then ",)" else ")")).length ≤ 2 := by
    split <;> decide +kernel
  by_cases h : PyData.shownAll ds = []
  · rw [h]
    decide +kernel
  · have := join_length_add _ h
    have l3 : (if ((PyData.shownAll ds).length == 1) = true then Str.ofString ",)" else Str.ofString ")").length ≤ 2 := by
      split <;> decide +kernel
    omega
structure TmB (n m q : Nat) : Prop where
  n : n ≤ 10 ^ 10
  m : m ≤ 10 ^ 10
  q : q ≤ 10 ^ 10
namespace Tm
variable {n m q : Nat}
mutual
theorem showable (B : TmB n m q) : ∀ t : Tm, t.ok n m q → t.pd.showable = true
  | .num i, h => by
    have h : i.natAbs < n := by simpa only [ok] using h
    simp [pd, PyData.showable, PyData.showableAll, log_small h B.n]
  | .nam _, _ => by simp [pd, PyData.showable, PyData.showableAll]
  | .add a b, h => by
    have h : ok n m q a ∧ ok n m q b := by simpa only [ok] using h
    simp [pd, PyData.showable, PyData.showableAll, showable B a h.1, showable B b h.2]
  | .sub a b, h => by
    have h : ok n m q a ∧ ok n m q b := by simpa only [ok] using h
    simp [pd, PyData.showable, PyData.showableAll, showable B a h.1, showable B b h.2]
  | .tim i a, h => by
    have h : i.natAbs < m ∧ ok n m q a := by simpa only [ok] using h
    simp [pd, PyData.showable, PyData.showableAll, log_small h.1 B.m, showable B a h.2]
  | .pow a, h => by
    have h : ok n m q a := by simpa only [ok] using h
    simp [pd, PyData.showable, PyData.showableAll, showable B a h]
  | .len a, h => by
    have h : ok n m q a := by simpa only [ok] using h
    simp [pd, PyData.showable, PyData.showableAll, showable B a h]
  | .quo a i, h => by
    have h : (1 ≤ i ∧ i < (q : Nat)) ∧ ok n m q a := by simpa only [ok] using h
    simp [pd, PyData.showable, PyData.showableAll, log_small (show i.natAbs < q by omega) B.q, showable B a h.2]
  | .cal f as, h => by
    have h : isNameZ f = true ∧ as.length ≤ 3 ∧ oks n m q as := by simpa only [ok] using h
    simp [pd, PyData.showable, PyData.showableAll, showables B as h.2.2]
theorem showables (B : TmB n m q) : ∀ as : List Tm, oks n m q as → PyData.showableAll (pds as) = true
  | [], _ => rfl
  | a :: r, h => by
    have h : ok n m q a ∧ oks n m q r := by simpa only [oks] using h
    simp [pds, PyData.showableAll, showable B a h.1, showables B r h.2]
end
theorem w_len {z : Str} {n : Nat} (h : (reprText z).length ≤ n := by decide +kernel) : (PyData.str z).shown.length ≤ n := by
  simp only [PyData.shown]
  exact h
mutual
theorem shown_len (B : TmB n m q) : ∀ t : Tm, t.ok n m q → t.pd.shown.length ≤ 48 * t.cost
  | .num i, h => by
    have h : i.natAbs < n := by simpa only [ok] using h
    have h1 := shown_int (Nat.lt_of_lt_of_le h B.n)
    have h2 := w_len (z := "number") (n := 8)
    have h3 := shown_tup [.str "number", .int i]
    simp only [pd, PyData.shownAll, piled_cons, piled_nil, cost] at h3 ⊢
    omega
  | .nam z, h => by
    have h : isNameZ z = true := by simpa only [ok] using h
    have h1 := nm_repr (isNm_iff.mp h)
    have h4 := w_len (z := z) h1
    have h2 := w_len (z := "name") (n := 6)
    have h3 := shown_tup [.str "name", .str z]
    simp only [pd, PyData.shownAll, piled_cons, piled_nil, cost] at h3 ⊢
    omega
  | .add a b, h => by
    have h : ok n m q a ∧ ok n m q b := by simpa only [ok] using h
    have h1 := shown_len B a h.1
    have h4 := shown_len B b h.2
    have h2 := w_len (z := "add") (n := 5)
    have h3 := shown_tup [.str "add", a.pd, b.pd]
    simp only [pd, PyData.shownAll, piled_cons, piled_nil, cost] at h3 ⊢
    omega
  | .sub a b, h => by
    have h : ok n m q a ∧ ok n m q b := by simpa only [ok] using h
    have h1 := shown_len B a h.1
    have h4 := shown_len B b h.2
    have h2 := w_len (z := "subtract") (n := 10)
    have h3 := shown_tup [.str "subtract", a.pd, b.pd]
    simp only [pd, PyData.shownAll, piled_cons, piled_nil, cost] at h3 ⊢
    omega
  | .tim i a, h => by
    have h : i.natAbs < m ∧ ok n m q a := by simpa only [ok] using h
    have h1 := shown_int (Nat.lt_of_lt_of_le h.1 B.m)
    have h4 := shown_len B a h.2
    have h2 := w_len (z := "times") (n := 7)
    have h3 := shown_tup [.str "times", .int i, a.pd]
    simp only [pd, PyData.shownAll, piled_cons, piled_nil, cost] at h3 ⊢
    omega
  | .pow a, h => by
    have h : ok n m q a := by simpa only [ok] using h
    have h4 := shown_len B a h
    have h2 := w_len (z := "power") (n := 7)
    have h3 := shown_tup [.str "power", a.pd]
    simp only [pd, PyData.shownAll, piled_cons, piled_nil, cost] at h3 ⊢
    omega
  | .len a, h => by
    have h : ok n m q a := by simpa only [ok] using h
    have h4 := shown_len B a h
    have h2 := w_len (z := "length") (n := 8)
    have h3 := shown_tup [.str "length", a.pd]
    simp only [pd, PyData.shownAll, piled_cons, piled_nil, cost] at h3 ⊢
    omega
  | .quo a i, h => by
    have h : (1 ≤ i ∧ i < (q : Nat)) ∧ ok n m q a := by simpa only [ok] using h
    have h1 := shown_int (Nat.lt_of_lt_of_le (show i.natAbs < q by omega) B.q)
    have h4 := shown_len B a h.2
    have h2 := w_len (z := "quotient") (n := 10)
    have h3 := shown_tup [.str "quotient", a.pd, .int i]
    simp only [pd, PyData.shownAll, piled_cons, piled_nil, cost] at h3 ⊢
    omega
  | .cal f as, h => by
    have h : isNameZ f = true ∧ as.length ≤ 3 ∧ oks n m q as := by simpa only [ok] using h
    have h1 := w_len (z := f) (nm_repr (isNm_iff.mp h.1))
    have h4 := showns_len B as h.2.2
    have h2 := w_len (z := "call") (n := 6)
    have h5 := shown_tup (pds as)
    have h3 := shown_tup [.str "call", .str f, .tuple (pds as)]
    simp only [pd, PyData.shownAll, piled_cons, piled_nil, cost] at h3 ⊢
    omega
theorem showns_len (B : TmB n m q) : ∀ as : List Tm, oks n m q as → piled (PyData.shownAll (pds as)) ≤ 48 * costs as + 2 * as.length
  | [], _ => by simp [pds, PyData.shownAll, piled_nil]
  | a :: r, h => by
    have h : ok n m q a ∧ oks n m q r := by simpa only [oks] using h
    have h1 := shown_len B a h.1
    have h2 := showns_len B r h.2
    simp only [pds, PyData.shownAll, piled_cons, costs, List.length_cons]
    omega
end
theorem numC_le {i : Int} {n : Nat} (h : i.natAbs < n) (hn : n ≤ 10 ^ 10) : (numC i).length ≤ 11 := numC_len (by decide) (Nat.lt_of_lt_of_le h hn)
mutual
theorem tx_len (B : TmB n m q) : ∀ t : Tm, t.ok n m q → t.tx.length ≤ 20 * t.cost
  | .num i, h => by
    have h : i.natAbs < n := by simpa only [ok] using h
    have := numC_le h B.n
    simp only [tx, cost]
    omega
  | .nam z, h => by
    have e := TL.len_tl z
    simp only [tx, cost]
    omega
  | .add a b, h => by
    have h : ok n m q a ∧ ok n m q b := by simpa only [ok] using h
    have h1 := tx_len B a h.1
    have h4 := tx_len B b h.2
    simp only [tx, cost, List.length_cons, List.length_append, List.length_nil]
    omega
  | .sub a b, h => by
    have h : ok n m q a ∧ ok n m q b := by simpa only [ok] using h
    have h1 := tx_len B a h.1
    have h4 := tx_len B b h.2
    simp only [tx, cost, List.length_cons, List.length_append, List.length_nil]
    omega
  | .tim i a, h => by
    have h : i.natAbs < m ∧ ok n m q a := by simpa only [ok] using h
    have h1 := numC_le h.1 B.m
    have h4 := tx_len B a h.2
    simp only [tx, cost, List.length_cons, List.length_append, List.length_nil]
    omega
  | .pow a, h => by
    have h : ok n m q a := by simpa only [ok] using h
    have h4 := tx_len B a h
    simp only [tx, cost, List.length_cons, List.length_append, List.length_nil]
    omega
  | .len a, h => by
    have h : ok n m q a := by simpa only [ok] using h
    have h4 := tx_len B a h
    simp only [tx, cost, List.length_cons, List.length_append, List.length_nil]
    omega
  | .quo a i, h => by
    have h : (1 ≤ i ∧ i < (q : Nat)) ∧ ok n m q a := by simpa only [ok] using h
    have h1 := numC_le (show i.natAbs < q by omega) B.q
    have h4 := tx_len B a h.2
    simp only [tx, cost, List.length_cons, List.length_append, List.length_nil]
    omega
  | .cal f as, h => by
    have h : isNameZ f = true ∧ as.length ≤ 3 ∧ oks n m q as := by simpa only [ok] using h
    have e := TL.len_tl f
    have h4 := txr_len B as h.2.2
    have h5 : (txs as).length ≤ (txr as).length := by
      cases as with
      | nil => simp [txs, txr]
      | cons a r =>
        simp only [txs, txr, List.length_cons, List.length_append]
        omega
    simp only [tx, cost, List.length_cons, List.length_append, List.length_nil]
    omega
theorem txr_len (B : TmB n m q) : ∀ as : List Tm, oks n m q as → (txr as).length ≤ 20 * costs as + 2 * as.length
  | [], _ => by simp [txr]
  | a :: r, h => by
    have h : ok n m q a ∧ oks n m q r := by simpa only [oks] using h
    have h1 := tx_len B a h.1
    have h2 := txr_len B r h.2
    simp only [txr, costs, List.length_cons, List.length_append]
    omega
end
end Tm
end PW
/-! ### texts by their signs -/
namespace PW
open PySem PySem.Spec PyProof.Rows L2
theorem tl_cut (z : Str) (i j : Nat) : TL.tl (cutS z (some (i : Int)) (some (j : Int))) = ((TL.tl z).drop i).take (j - i) := by
  unfold cutS
  show ((z.cps.toList.drop (HT.sIx z.length 0 (some (i : Int)))).take (HT.sIx z.length z.length (some (j : Int)) - HT.sIx z.length 0 (some (i : Int)))) = _
  rw [HT.sIx_nat, HT.sIx_nat]
  have e : z.length = z.cps.toList.length := TL.len_tl z
  show (z.cps.toList.drop _).take _ = (z.cps.toList.drop i).take (j - i)
  generalize z.cps.toList = l at e
  by_cases h : i ≤ l.length
  · rw [show min i z.length = i by omega]
    by_cases h2 : j ≤ l.length
    · rw [show min j z.length = j by omega]
    · rw [show min j z.length = l.length by omega]
      rw [List.take_of_length_le (by rw [List.length_drop]; omega), List.take_of_length_le (by rw [List.length_drop]; omega)]
  · rw [show min i z.length = l.length by omega]
    rw [List.drop_eq_nil_of_le (Nat.le_refl _), List.drop_eq_nil_of_le (show l.length ≤ i by omega)]
    simp
theorem tl_cut0 (z : Str) (j : Nat) : TL.tl (cutS z none (some (j : Int))) = (TL.tl z).take j := by
  unfold cutS
  show ((z.cps.toList.drop (HT.sIx z.length 0 none)).take (HT.sIx z.length z.length (some (j : Int)) - HT.sIx z.length 0 none)) = _
  rw [HT.sIx_nat, HT.sIx_none]
  have e : z.length = z.cps.toList.length := TL.len_tl z
  show (z.cps.toList.drop 0).take (min j z.length - 0) = z.cps.toList.take j
  generalize z.cps.toList = l at e
  rw [List.drop_zero, Nat.sub_zero]
  by_cases h2 : j ≤ l.length
  · rw [show min j z.length = j by omega]
  · rw [show min j z.length = l.length by omega, List.take_of_length_le (Nat.le_refl _), List.take_of_length_le (by omega)]
theorem tl_cut1 (z : Str) (i : Nat) : TL.tl (cutS z (some (i : Int)) none) = (TL.tl z).drop i := by
  unfold cutS
  show ((z.cps.toList.drop (HT.sIx z.length 0 (some (i : Int)))).take (HT.sIx z.length z.length none - HT.sIx z.length 0 (some (i : Int)))) = _
  rw [HT.sIx_nat, HT.sIx_none]
  have e : z.length = z.cps.toList.length := TL.len_tl z
  show (z.cps.toList.drop (min i z.length)).take (z.length - min i z.length) = z.cps.toList.drop i
  generalize z.cps.toList = l at e
  by_cases h : i ≤ l.length
  · rw [show min i z.length = i by omega, List.take_of_length_le (by rw [List.length_drop]; omega)]
  · rw [show min i z.length = l.length by omega, List.drop_eq_nil_of_le (Nat.le_refl _), List.drop_eq_nil_of_le (show l.length ≤ i by omega)]
    simp
theorem len_eq (z : Str) : z.length = (TL.tl z).length := TL.len_tl z
theorem joinL_nil : ∀ ps : List (List Nat), TL.joinL [] ps = ps.flatten
  | [] => rfl
  | [p] => by simp [TL.joinL]
  | p :: q :: r => by
    show p ++ ([] ++ TL.joinL [] (q :: r)) = _
    rw [joinL_nil (q :: r)]
    simp
/-- letters alone -/
def LetS (z : Str) : Prop := ∀ c ∈ TL.tl z, 97 ≤ c ∧ c ≤ 122
theorem tl_joinE {ys : List Str} : TL.tl (Txt.join (Str.ofString "") ys) = (ys.map TL.tl).flatten := by
  rw [TL.join_eq, TL.tl_join, show TL.tl (Str.ofString "") = [] by decide +kernel, joinL_nil]
theorem join_let {ys : List Str} (h : ∀ z ∈ ys, LetS z) : LetS (Txt.join (Str.ofString "") ys) := fun c hc => by
  rw [tl_joinE, List.mem_flatten] at hc
  obtain ⟨l, hl, hc⟩ := hc
  obtain ⟨z, hz, rfl⟩ := List.mem_map.mp hl
  exact h z hz c hc
theorem join_one {ys : List Str} (h : ∀ z ∈ ys, z.length = 1) : (Txt.join (Str.ofString "") ys).length = ys.length := by
  rw [len_eq, tl_joinE]
  induction ys with
  | nil => rfl
  | cons y r ih =>
    have h1 := h y List.mem_cons_self
    rw [len_eq] at h1
    rw [List.map_cons, List.flatten_cons, List.length_append, ih fun z hz => h z (List.mem_cons_of_mem _ hz), h1, List.length_cons]
    omega
theorem eqV_str {a b : Str} : eqV (.str a) (.str b) = true ↔ b = a := by
  show (a == b) = true ↔ b = a
  rw [beq_iff_eq]
  exact eq_comm
theorem res_iff {z : Str} : inV (.str z) reservedV = true ↔ z = "len" ∨ z = "mod" ∨ z = "and" ∨ z = "or" ∨ z = "not" ∨ z = "true" := by
  unfold inV reservedV
  simp only [List.any_cons, List.any_nil, Bool.or_false, Bool.or_eq_true, eqV_str]
/-- a drawn text of letters is a name, or is one with a letter more -/
theorem fix_nm {z : Str} (h1 : 1 ≤ z.length) (h6 : z.length ≤ 6) (hl : LetS z) : IsNm (if isNameZ z = true then z else z ++ "q") := by
  by_cases h : isNameZ z = true
  · rw [if_pos h]
    exact isNm_iff.mp h
  · rw [if_neg h]
    have hr : inV (.str z) reservedV = true := by
      cases e : inV (.str z) reservedV with
      | true => rfl
      | false => exact absurd (isNm_iff.mpr ⟨h1, h6, hl, e⟩) h
    refine isNm_iff.mp ?_
    rcases res_iff.mp hr with rfl | rfl | rfl | rfl | rfl | rfl <;> decide +kernel
abbrev Tm.okT (t : Tm) : Prop := t.ok (10 ^ 9) 100 100
theorem tmb : TmB (10 ^ 9) 100 100 := ⟨by decide, by decide, by decide⟩
end PW
/-! ### the heap without the bag -/
namespace PW
open PySem PySem.Spec PyProof.Rows L2
theorem Ex.tb {b : Addr} {H H' : Hp} (x : Ex H H') : ExB b H H' := fun a o _ h => x a o h
theorem ExB.hd {b : Addr} {H H' : Hp} (x : ExB b H H') : Ex (PW.hide H b) (PW.hide H' b) := fun a o h => by
  have na : a ≠ b := fun z => by
    rw [z, hide_same] at h
    cases h
  rw [hide_ne na] at h ⊢
  exact x a o na h
theorem hide_new {H : Hp} {b p : Addr} {o : HO} {u : HO} (hb : H b = some u) (hp : H p = none) : hide (L2.upd H p o) b p = some o := by
  have n : p ≠ b := fun z => by
    rw [z, hb] at hp
    cases hp
  rw [hide_ne n, upd_same]
theorem BagAt.some {H : Hp} {b c : Addr} (h : BagAt H b c) : ∃ u, H b = some u := h.objs.1
end PW
/-! ### names, leaves, terms as the laws draw them -/
namespace PW
open PySem PySem.Spec PyProof.Rows L2
structure NmL (H : Hp) (l : Addr) (ns : List Str) : Prop where
  at_ : H l = some (.lst (ns.map V.str))
  ok : ∀ z ∈ ns, IsNm z
theorem NmL.ex {H H' : Hp} {l : Addr} {ns : List Str} (x : Ex H H') (h : NmL H l ns) : NmL H' l ns := ⟨x _ _ h.at_, h.ok⟩
def spLNames : Sp := fun vs H Q _ => ∃ b c m, vs = [.ref b, .int m] ∧ BagAt H b c ∧ 0 ≤ m ∧ m ≤ 10 ∧ ∀ l ns H', NmL (hide H' b) l ns → ns.length = m.toNat → BagAt H' b c → ExB b H H' → Q (.ref l) H'
section
variable {P : Program} {w : World} {K : PySem.W.Frag} {mg : Str → Option Value} {base : Heap}
theorem ok__law_names {k : Nat} (T : Txt K mg)
    (G__law_pull : FnOk P w K mg base CX0 k (He.ga K "_law_pull") (fdOf K (He.ga K "_law_pull")) p__law_pull (spPull))
    (G__law_of : FnOk P w K mg base CX0 k (He.ga K "_law_of") (fdOf K (He.ga K "_law_of")) p__law_of (spOf K))
    (G__law_letters : FnOk P w K mg base CX0 k (He.ga K "_law_letters") (fdOf K (He.ga K "_law_letters")) p__law_letters (spLetters))
    (G__law_is_name : FnOk P w K mg base CX0 k (He.ga K "_law_is_name") (fdOf K (He.ga K "_law_is_name")) p__law_is_name (spLawIsName)) : FnOk P w K mg base CX0 (k + 1) (He.ga K "_law_names") (fdOf K (He.ga K "_law_names")) p__law_names (spLNames) := by
  refine FunD.ok T.d__law_names sc__law_names (fun vs H Q E h => ?_) (fun cdv A outer s H vs Q E hr h => ?_)
  · obtain ⟨b, c, m, rfl, _⟩ := h
    rfl
  · obtain ⟨b, c, m, rfl, hB, hm0, hm1, hQ⟩ := h
    refine ⟨_, PSs.nox ((pss_cons (ps_asg (pe_tup (pa_cons (pe_call G__law_pull hr rfl T.g__law_pull T.d__law_pull.kp (b__law_pull T) .nil pass0 (pa_cons (pv 0) (pa_cons pe_int pa_nil))) (pa_cons (pe_call0 G__law_letters hr rfl T.g__law_letters T.d__law_letters.kp (b__law_letters T) .nil pass0) pa_nil))) (pg_tup rfl (pgs_cons (pg_name (i := 2) sc__law_names.nd rfl (Or.inl rfl) (hf := by first | exact Or.inl rfl | exact Or.inr rfl)) (pgs_cons (pg_name (i := 3) sc__law_names.nd rfl (Or.inr rfl) (hf := by first | exact Or.inl rfl | exact Or.inr rfl)) pgs_nil))))
    (pss_cons (ps_asg (pe_tup (pa_cons (pe_call G__law_pull hr rfl T.g__law_pull T.d__law_pull.kp (b__law_pull T) .nil pass0 (pa_cons (pv 0) (pa_cons (pe_op op_add (pv 2) pe_int) pa_nil))) (pa_cons (pe_call G__law_pull hr rfl T.g__law_pull T.d__law_pull.kp (b__law_pull T) .nil pass0 (pa_cons (pv 0) (pa_cons pe_int pa_nil))) (pa_cons (pe_call G__law_of hr rfl T.g__law_of T.d__law_of.kp (b__law_of T) .nil pass0 (pa_cons (pv 0) (pa_cons (pe_lst (pa_cons pe_int (pa_cons pe_int (pa_cons pe_int (pa_cons pe_int pa_nil))))) pa_nil))) pa_nil)))) (pg_tup rfl (pgs_cons (pg_name (i := 4) sc__law_names.nd rfl (Or.inr rfl) (hf := by first | exact Or.inl rfl | exact Or.inr rfl)) (pgs_cons (pg_name (i := 5) sc__law_names.nd rfl (Or.inr rfl) (hf := by first | exact Or.inl rfl | exact Or.inr rfl)) (pgs_cons (pg_name (i := 6) sc__law_names.nd rfl (Or.inr rfl) (hf := by first | exact Or.inl rfl | exact Or.inr rfl)) pgs_nil)))))
    (pss_cons (ps_set (i := 7) sc__law_names.nd rfl (Or.inr rfl) (pe_join pe_str (pe_lc (own := [("_law_k", 9)]) rfl sc__law_names.nd (pi_range1 rfl T.f_range (pa_cons (pv 2) pa_nil)) (blkOk_by (own := [("_law_k", 9)]) (N := n__law_names) (sc := defScope s__law_names) (by decide +kernel)) (fun _ _ _ _ _ => (pg_name (i := 9) sc__law_names.nd rfl (Or.inl rfl) (hf := by first | exact Or.inl rfl | exact Or.inr rfl))) (fun _ _ _ _ _ => pts_nil) (fun _ _ _ _ _ => (pe_call G__law_of hr rfl T.g__law_of T.d__law_of.kp (b__law_of T) .nil pass0 (pa_cons (pv 0) (pa_cons (pv 3) pa_nil)))))))
    (pss_cons (ps_setLc (i := 8) (own := [("_law_k", 9)]) rfl sc__law_names.nd rfl rfl (sw_true rfl rfl rfl (by decide +kernel)) (pi_range1 rfl T.f_range (pa_cons (pv 1) pa_nil)) (blkOk_by (own := [("_law_k", 9)]) (N := n__law_names) (sc := defScope s__law_names) (by decide +kernel)) (fun _ _ _ _ _ => (pg_name (i := 9) sc__law_names.nd rfl (Or.inl rfl) (hf := by first | exact Or.inl rfl | exact Or.inr rfl))) (fun _ _ _ _ _ => pts_nil) (fun _ _ _ _ _ => (pe_op op_addSN (pe_op op_addSN (pe_slice sl_str (pv 7) po_none (po_some (pv 4))) (pe_ix ix_str (pv 3) (pe_op op_mod (pe_callTy call_intN (by rfl) T.f_int (by decide +kernel) (pa_cons (pe_op op_add (pv 5) (pe_op op_mulX (pv 6) (pv 9))) pa_nil)) pe_int) (fun _ _ => rfl))) (pe_slice sl_str (pv 7) (po_some (pv 4)) po_none))))
    (pss_one (ps_ret (pe_lc (own := [("_law_one_z", 10)]) rfl sc__law_names.nd (pi_list (pv 8)) (blkOk_by (own := [("_law_one_z", 10)]) (N := n__law_names) (sc := defScope s__law_names) (by decide +kernel)) (fun _ _ _ _ _ => (pg_name (i := 10) sc__law_names.nd rfl (Or.inl rfl) (hf := by first | exact Or.inl rfl | exact Or.inr rfl))) (fun _ _ _ _ _ => pts_nil) (fun _ _ _ _ _ => (pe_ifExp (pt_val (pe_call G__law_is_name hr rfl T.g__law_is_name T.d__law_is_name.kp (b__law_is_name T) .nil pass0 (pa_cons (pv 10) pa_nil))) (pv 10) (pe_op op_addSN (pv 10) pe_str))))))))))), ?_⟩
    show tSeq _ _ _ [some (V.ref b), some (V.int m), none, none, none, none, none, none, none, none, none] H
    walk_at "K"
    walk_at "go"
    refine ⟨b, c, 6, rfl, hB, by decide, by decide, fun r H1 r0 r1 hB1 x1 => ?_⟩
    walk_at "go"
    refine ⟨rfl, ?_⟩
    walk_at "go"
    intro p hp
    have hB1' := hB1.new (o := .tup [V.int r, .str lettersZ]) hp
    have x1' := x1.trans (Ex.new (o := .tup [V.int r, .str lettersZ]) hp).tb
    walk_at "go"
    refine ⟨b, c, r + 1, rfl, hB1', by omega, log_ok (by omega) (by omega), fun at_ H2 a0 a1 hB2 x2 => ?_⟩
    walk_at "go"
    refine ⟨b, c, 26, rfl, hB2, by decide, by decide, fun fi H3 f0 f1 hB3 x3 => ?_⟩
    walk_at "go"
    intro l1 hl1
    walk_at "go"
    refine ⟨b, c, .ref l1, _, rfl, hB3.new hl1, Or.inl ⟨l1, rfl, (hB3.ne hl1).1.symm, Or.inl upd_same⟩, by walk_at "len", by walk_at "len", fun v4 H4 hv4 hB4 x4 => ?_⟩
    obtain ⟨st, rfl, st0, st1⟩ : ∃ st : Int, v4 = .int st ∧ 1 ≤ st ∧ st ≤ 7 := by
      simp only [List.mem_cons, List.not_mem_nil, or_false] at hv4
      rcases hv4 with rfl | rfl | rfl | rfl
      all_goals exact ⟨_, rfl, by decide, by decide⟩
    walk_at "go"
    intro p2 hp2
    have hB5 := hB4.new (o := .tup [V.int at_, V.int fi, V.int st]) hp2
    have x5 := ((((x1'.trans x2).trans x3).trans (Ex.new hl1).tb).trans x4).trans (Ex.new (o := .tup [V.int at_, V.int fi, V.int st]) hp2).tb
    clear x1 x1' x2 x3 x4 hB1 hB1' hB2 hB3 hB4
    walk_at "go"
    generalize L2.upd H4 p2 (.tup [V.int at_, V.int fi, V.int st]) = H5 at hB5 x5 ⊢
    clear hp2 hl1 hp hv4
    intro D hD
    have nD := hB5.ne hD
    refine lc_inv walk_range (σw := [some (V.ref b), some (V.int m), some (V.int r), some (V.str lettersZ), some (V.int at_), some (V.int fi), some (V.int st), none, none, none, none]) rfl (fun H => BagAt H b c ∧ ExB b H5 H) (fun _ v => ∃ s : Str, v = .str s ∧ (s.length = 1 ∧ LetS s)) hD (by omega) ⟨hB5.new hD, (Ex.new hD).tb⟩ (fun _ _ => trivial) ?_ ?_
    · rintro j x H6 H7 acc R hj ⟨hB6, x6⟩ hacc ⟨rfl, rfl⟩ hR
      walk_at "go"
      refine ⟨rfl, ?_⟩
      walk_at "go"
      refine ⟨b, c, .str lettersZ, _, rfl, hB6, Or.inr ⟨lettersZ, rfl, by decide, rfl⟩, by decide, by decide, fun v H7 hv hB7 x7 => ?_⟩
      obtain ⟨d, hd, rfl⟩ := List.mem_map.mp hv
      refine hR _ H7 ⟨_, rfl, rfl, fun e he => ?_⟩ (x7 D _ nD.1.symm hacc) ⟨hB7.put nD.1 nD.2, fun q o n ho => ?_⟩
      · have he : e ∈ [d] := he
        rw [List.mem_singleton.mp he]
        exact mem_letters.mp hd
      · rw [upd_ne (ne_of_none ho hD)]
        exact x7 q o n (x6 q o n ho)
    · rintro H6 acc ⟨hB6, x6⟩ hacc hlen hE
      obtain ⟨ys, rfl, hl2, hy⟩ := acc_exists (g := V.str) (p := fun s => s.length = 1 ∧ LetS s) hE
      have hy1 := sum_le (k := 1) (l := ys) fun z hz => Nat.le_of_eq (hy z hz).1
      have e0 : (Str.ofString "").length = 0 := by decide
      walk_at "go"
      refine ⟨_, D, ys, rfl, rfl, Or.inl (SqL.of hacc), by rw [e0]; omega, ?_⟩
      have k1 : (Txt.join (Str.ofString "") ys).length = r.toNat := by
        rw [join_one fun z hz => (hy z hz).1, hl2]
        exact hlen
      have k2 : LetS (Txt.join (Str.ofString "") ys) := join_let fun z hz => (hy z hz).2
      generalize Txt.join (Str.ofString "") ys = stem at k1 k2 ⊢
      have x7 := x5.trans x6
      clear x5 x6 hy hy1 hE hlen hl2 hacc hD nD hB5
      walk_at "go"
      intro D2 hD2
      obtain ⟨na, rfl⟩ : ∃ na : Nat, at_ = na := ⟨at_.toNat, by omega⟩
      have hstem : stem.length ≤ 100000 := by omega
      have hsl : stem.length ≤ sizeLine := size_le hstem
      refine lc_grow walk_range (σw := [some (V.ref b), some (V.int m), some (V.int r), some (V.str lettersZ), some (V.int (na : Int)), some (V.int fi), some (V.int st), some (V.str stem), none, none, none]) rfl (fun _ _ v => ∃ s : Str, v = .str s ∧ (1 ≤ s.length ∧ s.length ≤ 6 ∧ LetS s)) hD2 (by omega) (fun _ _ => trivial) (fun _ _ _ _ _ e => e) ?_ ?_
      · rintro j x H7 H8 acc2 R hj x8 hacc2 ⟨rfl, rfl⟩ hR
        walk_at "go"
        refine ⟨rfl, ?_⟩
        walk_at "go"
        have hk : 0 ≤ (fi + st * (0 + (j : Int))) % 26 ∧ (fi + st * (0 + (j : Int))) % 26 < 26 := ⟨Int.emod_nonneg _ (by decide), Int.emod_lt_of_pos _ (by decide)⟩
        generalize (fi + st * (0 + (j : Int))) % 26 = q at hk ⊢
        obtain ⟨nq, rfl⟩ : ∃ nq : Nat, q = nq := ⟨q.toNat, by omega⟩
        obtain ⟨d, hd⟩ : ∃ d, lettersZ.cps.toList[nq]? = some d := ⟨_, List.getElem?_eq_getElem (show nq < lettersZ.cps.toList.length from by rw [show lettersZ.cps.toList.length = 26 by decide +kernel]; omega)⟩
        have hdl := mem_letters.mp (List.mem_of_getElem? hd)
        refine r_ixS (by decide) (atI_nat hd) ?_
        have l1 := cutS_len stem none (some (na : Int))
        have l2 : (⟨#[d]⟩ : Str).length = 1 := rfl
        refine r_addS (by rw [l2]; exact Nat.le_trans (show _ ≤ 100000 by omega) (by decide)) ?_
        walk_at "go"
        have l3 := cutS_len stem (some (na : Int)) none
        refine r_addS (by rw [add_len, l2]; exact Nat.le_trans (show _ ≤ 100000 by omega) (by decide)) ?_
        have e1 := tl_cut0 stem na
        have e2 := tl_cut1 stem na
        have e3 := len_eq stem
        refine hR _ _ ⟨_, rfl, ?_, ?_, ?_⟩ (Ex.refl _)
        · rw [add_len, add_len, l2]
          omega
        · rw [add_len, add_len, l2, len_eq, len_eq, e1, e2, List.length_take, List.length_drop]
          omega
        · intro e he
          rw [TL.tl_append, TL.tl_append, e1, e2] at he
          rcases List.mem_append.mp he with he | he
          · rcases List.mem_append.mp he with he | he
            · exact k2 e (List.mem_of_mem_take he)
            · have he : e ∈ [d] := he
              rw [List.mem_singleton.mp he]
              exact hdl
          · exact k2 e (List.mem_of_mem_drop he)
      · rintro H7 acc2 x8 hacc2 hlen2 hE2
        obtain ⟨zs, rfl, hz2, hz⟩ := acc_exists (g := V.str) (p := fun s => 1 ≤ s.length ∧ s.length ≤ 6 ∧ LetS s) hE2
        have hB7 := hB6.grow x8
        have x9 := x7.trans x8.tb
        walk_at "go"
        intro D3 hD3
        refine lc_grow (walk_list (xs := zs.map V.str)) (σw := [some (V.ref b), some (V.int m), some (V.int r), some (V.str lettersZ), some (V.int (na : Int)), some (V.int fi), some (V.int st), some (V.str stem), some (V.ref D2), none, none]) rfl (fun i _ v => ∃ s : Str, v = .str s ∧ IsNm s) hD3 (by rw [List.length_map]; omega) (fun H' e => SqL.of (e _ _ hacc2)) (fun _ _ _ _ _ e => e) ?_ ?_
        · rintro j x H8 H9 acc3 R hj x10 hacc3 ⟨rfl, hx⟩ hR
          rw [List.getElem?_map] at hx
          obtain ⟨s, hs, rfl⟩ := Option.map_eq_some_iff.mp hx
          have hs2 := hz s (List.mem_of_getElem? hs)
          walk_at "go"
          refine ⟨rfl, ?_⟩
          walk_at "go"
          refine ⟨s, rfl, by omega, fun H10 x11 => ?_⟩
          walk_at "go"
          have hf := fix_nm hs2.1 hs2.2.1 hs2.2.2
          refine r_if2 (fun e => ?_) (fun e => ?_)
          · rw [if_pos e] at hf
            walk_at "go"
            exact hR _ _ ⟨s, rfl, hf⟩ x11
          · rw [if_neg (by rw [e]; exact Bool.false_ne_true)] at hf
            walk_at "go"
            refine r_addS ?_ ?_
            · have l4 : (Str.ofString "q").length = 1 := by decide +kernel
              rw [l4]
              exact Nat.le_trans (show _ ≤ 100000 by omega) (by decide)
            · exact hR _ _ ⟨_, rfl, hf⟩ x11
        · rintro H8 acc3 x10 hacc3 hlen3 hE3
          obtain ⟨ns, rfl, hn2, hn⟩ := acc_exists (g := V.str) (p := IsNm) hE3
          have hB8 := hB7.grow x10
          obtain ⟨ub, hub⟩ := hB7.some
          have nb : D3 ≠ b := fun z => by
            rw [z, hub] at hD3
            cases hD3
          refine hQ D3 ns H8 ⟨by rw [hide_ne nb]; exact hacc3, hn⟩ ?_ hB8 (x9.trans x10.tb)
          rw [hn2, hlen3, List.length_map, hz2, hlen2]
end
theorem nm_ok {ns : List Str} (h : ∀ z ∈ ns, IsNm z) : ∀ z ∈ ns, PyData.strOk z = true := fun z hz => by
  unfold PyData.strOk
  rw [Array.all_eq_true']
  intro c hc
  have := ((h z hz).let_ c (by simpa [TL.tl] using hc)).2
  exact decide_eq_true (by omega)
theorem tm_new {K : PySem.W.Frag} {H : Hp} {b p : Addr} {xs : List V} {d : Nat} {t : Tm} {u : HO} (hb : H b = some u) (hp : H p = none) (r : TmRow K (hide H b) (IsTm K (hide H b) d) xs t) : IsTm K (hide (L2.upd H p (.tup xs)) b) (d + 1) (.ref p) t := by
  have x : Ex (hide H b) (hide (L2.upd H p (.tup xs)) b) := (Ex.new hp).hides b
  exact IsTm.mk (hide_new hb hp) (r.imp (fun q => x _ _ q) fun _ _ z => z.ex x)
end PW
/-! ### the names of a term -/
namespace PW
open PySem PySem.Spec PyProof.Rows L2
namespace Tm
mutual
/-- the names of a term, in the order of its text -/
def nms : Tm → List Str
  | .num _ => []
  | .nam z => [z]
  | .add a b => nms a ++ nms b
  | .sub a b => nms a ++ nms b
  | .tim _ a => nms a
  | .pow a => nms a
  | .len a => nms a
  | .quo a _ => nms a
  | .cal _ as => nmss as
def nmss : List Tm → List Str
  | [] => []
  | a :: r => nms a ++ nmss r
end
theorem nmss_take {l : List Tm} : ∀ {k : Nat}, (nmss (l.take k)).length ≤ (nmss l).length := by
  induction l with
  | nil => intro k; simp
  | cons a r ih =>
    intro k
    cases k with
    | zero => simp [nmss]
    | succ k =>
      have := ih (k := k)
      simp only [List.take_succ_cons, nmss, List.length_append]
      omega
theorem nms_parts {t : Tm} (h : t.word ≠ "name") : t.nms = nmss t.parts := by
  cases t with
  | nam z => exact absurd rfl h
  | _ => simp [nms, nmss, parts]
mutual
theorem nms_ok {n m q : Nat} : ∀ {t : Tm}, t.ok n m q → ∀ z ∈ t.nms, isNameZ z = true
  | .num _, _, z, hz => by
    rw [nms] at hz
    exact nomatch hz
  | .nam y, h, z, hz => by
    rw [nms, List.mem_singleton] at hz
    subst hz
    rw [ok] at h
    exact h
  | .add a b, h, z, hz => by
    rw [nms, List.mem_append] at hz
    rw [ok] at h
    exact hz.elim (nms_ok h.1 z) (nms_ok h.2 z)
  | .sub a b, h, z, hz => by
    rw [nms, List.mem_append] at hz
    rw [ok] at h
    exact hz.elim (nms_ok h.1 z) (nms_ok h.2 z)
  | .tim _ a, h, z, hz => by
    rw [nms] at hz
    rw [ok] at h
    exact nms_ok h.2 z hz
  | .pow a, h, z, hz => by
    rw [nms] at hz
    rw [ok] at h
    exact nms_ok h z hz
  | .len a, h, z, hz => by
    rw [nms] at hz
    rw [ok] at h
    exact nms_ok h z hz
  | .quo a _, h, z, hz => by
    rw [nms] at hz
    rw [ok] at h
    exact nms_ok h.2 z hz
  | .cal _ as, h, z, hz => by
    rw [nms] at hz
    rw [ok] at h
    exact nmss_ok h.2.2 z hz
theorem nmss_ok {n m q : Nat} : ∀ {as : List Tm}, oks n m q as → ∀ z ∈ nmss as, isNameZ z = true
  | [], _, z, hz => by
    rw [nmss] at hz
    exact nomatch hz
  | a :: r, h, z, hz => by
    rw [nmss, List.mem_append] at hz
    rw [oks] at h
    exact hz.elim (nms_ok h.1 z) (nmss_ok h.2 z)
end
end Tm
end PW
/-! ### leaves and terms drawn -/
namespace PW
open PySem PySem.Spec PyProof.Rows L2
def spLLeaf (K : PySem.W.Frag) : Sp := fun vs H Q _ => ∃ b c l ns, vs = [.ref b, .ref l] ∧ BagAt H b c ∧ NmL (hide H b) l ns ∧ ns.length ≤ 1000 ∧ ∀ v t H', IsTm K (hide H' b) 1 v t → t.okT → (t.cost ≤ 7 ∧ t.nms.length ≤ 1) → BagAt H' b c → ExB b H H' → Q v H'
theorem num_ok {i : Int} (h : i.natAbs < 10 ^ 9) : (Tm.num i).okT := by
  simp only [Tm.okT, Tm.ok]
  exact h
theorem nam_ok {z : Str} (h : IsNm z) : (Tm.nam z).okT := by
  simp only [Tm.okT, Tm.ok]
  exact isNm_iff.mpr h
section
variable {P : Program} {w : World} {K : PySem.W.Frag} {mg : Str → Option Value} {base : Heap}
theorem ok__law_leaf {k : Nat} (T : Txt K mg)
    (G__law_pull : FnOk P w K mg base CX0 k (He.ga K "_law_pull") (fdOf K (He.ga K "_law_pull")) p__law_pull (spPull))
    (G__law_of : FnOk P w K mg base CX0 k (He.ga K "_law_of") (fdOf K (He.ga K "_law_of")) p__law_of (spOf K)) : FnOk P w K mg base CX0 (k + 1) (He.ga K "_law_leaf") (fdOf K (He.ga K "_law_leaf")) p__law_leaf (spLLeaf K) := by
  refine FunD.ok T.d__law_leaf sc__law_leaf (fun vs H Q E h => ?_) (fun cdv A outer s H vs Q E hr h => ?_)
  · obtain ⟨b, c, l, ns, rfl, _⟩ := h
    rfl
  · obtain ⟨b, c, l, ns, rfl, hB, hN, hn, hQ⟩ := h
    have e9 : (10 : Int) ^ Int.toNat 9 = 1000000000 := by decide
    have e6 : (10 : Int) ^ Int.toNat 6 = 1000000 := by decide
    refine ⟨_, PSs.nox ((pss_cons (ps_set (i := 2) sc__law_leaf.nd rfl (Or.inl rfl) (pe_call G__law_of hr rfl T.g__law_of T.d__law_of.kp (b__law_of T) .nil pass0 (pa_cons (pv 0) (pa_cons (pe_lst (pa_cons pe_int (pa_cons pe_int (pa_cons pe_int (pa_cons (pe_op op_sub (pe_call G__law_pull hr rfl T.g__law_pull T.d__law_pull.kp (b__law_pull T) .nil pass0 (pa_cons (pv 0) (pa_cons pe_int pa_nil))) pe_int) (pa_cons (pe_call G__law_pull hr rfl T.g__law_pull T.d__law_pull.kp (b__law_pull T) .nil pass0 (pa_cons (pv 0) (pa_cons (pe_op op_pow pe_int pe_int) pa_nil))) (pa_cons (pe_op op_sub pe_int (pe_call G__law_pull hr rfl T.g__law_pull T.d__law_pull.kp (b__law_pull T) .nil pass0 (pa_cons (pv 0) (pa_cons (pe_op op_pow pe_int pe_int) pa_nil)))) pa_nil))))))) pa_nil))))
    (pss_one (ps_ret (pe_ifExp (PW.pt (pw_and (pt_cmpR (op_neD hr.units) (pv 1) (pe_lst pa_nil) (nomark _)) (pw_and1 (pt_cmpR op_gt (pe_call G__law_pull hr rfl T.g__law_pull T.d__law_pull.kp (b__law_pull T) .nil pass0 (pa_cons (pv 0) (pa_cons pe_int pa_nil))) pe_int (nomark _))))) (pe_tup (pa_cons pe_str (pa_cons (pe_call G__law_of hr rfl T.g__law_of T.d__law_of.kp (b__law_of T) .nil pass0 (pa_cons (pv 0) (pa_cons (pv 1) pa_nil))) pa_nil))) (pe_tup (pa_cons pe_str (pa_cons (pv 2) pa_nil)))))))), ?_⟩
    show tSeq _ _ _ [some (V.ref b), some (V.ref l), none] H
    walk_at "K"
    walk_at "go"
    refine ⟨b, c, 40, rfl, hB, by decide, by decide, fun r1 H1 r10 r11 hB1 x1 => ?_⟩
    walk_at "go"
    refine ⟨b, c, _, rfl, hB1, by decide, by decide, fun r2 H2 r20 r21 hB2 x2 => ?_⟩
    rw [e9] at r21
    walk_at "go"
    refine ⟨b, c, _, rfl, hB2, by decide, by decide, fun r3 H3 r30 r31 hB3 x3 => ?_⟩
    rw [e6] at r31
    walk_at "go"
    intro m hm
    walk_at "go"
    refine ⟨b, c, .ref m, _, rfl, hB3.new hm, Or.inl ⟨m, rfl, (hB3.ne hm).1.symm, Or.inl upd_same⟩, by walk_at "len", by walk_at "len", fun v4 H4 hv4 hB4 x4 => ?_⟩
    obtain ⟨i, rfl, hi⟩ : ∃ i : Int, v4 = .int i ∧ i.natAbs < 10 ^ 9 := by
      simp only [List.mem_cons, List.not_mem_nil, or_false] at hv4
      rcases hv4 with rfl | rfl | rfl | rfl | rfl | rfl
      all_goals exact ⟨_, rfl, by omega⟩
    have xx := (((x1.trans x2).trans x3).trans (Ex.new (o := .lst [V.int 0, V.int 1, V.int 2, V.int (r1 - 20), V.int r2, V.int (0 - r3)]) hm).tb).trans x4
    have hN4 := hN.ex xx.hd
    clear x1 x2 x3 x4 hB1 hB2 hB3 hv4 hm
    have hfin : ∀ H5, BagAt H5 b c → ExB b H H5 → ∀ p, H5 p = none → Q (.ref p) (L2.upd H5 p (.tup [V.str "number", .int i])) := fun H5 hB5 x5 p hp => by
      obtain ⟨u, hu⟩ := hB5.some
      exact hQ _ (.num i) _ (tm_new (d := 0) hu hp rfl) (num_ok hi) (by simp [Tm.cost, Tm.nms]) (hB5.new hp) (x5.trans (Ex.new hp).tb)
    walk_at "go"
    intro m2 hm2
    walk_at "go"
    have hB5 := hB4.new (o := .lst []) hm2
    have x5 := xx.trans (Ex.new (o := .lst []) hm2).tb
    have hN5 := hN4.ex ((Ex.new (o := .lst []) hm2).hides b)
    have hl5 := Ex.hide _ b _ _ hN5.at_
    refine r_neNs (SqL.of hl5) (nm_ok hN.ok) (SqL.of upd_same) ?_
    walk_at "go"
    refine r_if2 (fun e => ?_) (fun e => ?_)
    · walk_at "go"
      refine ⟨b, c, 3, rfl, hB5, by decide, by decide, fun r6 H6 r60 r61 hB6 x6 => ?_⟩
      have x7 := x5.trans x6
      have hN6 := hN5.ex x6.hd
      walk_at "go"
      refine r_if2 (fun e2 => ?_) (fun e2 => ?_)
      · walk_at "go"
        have hne : ns ≠ [] := fun z => by
          subst z
          cases e
        have hl6 := Ex.hide _ b _ _ hN6.at_
        obtain ⟨u, hu⟩ := hB6.some
        have nlb : l ≠ b := fun z => by
          have e3 := hN6.at_
          rw [z, hide_same] at e3
          cases e3
        have hpos : 0 < ns.length := List.length_pos_iff.mpr hne
        refine ⟨b, c, .ref l, _, rfl, hB6, Or.inl ⟨l, rfl, nlb, Or.inl hl6⟩, by rw [List.length_map]; exact hpos, by rw [List.length_map]; exact Nat.le_trans hn (by decide), fun v7 H7 hv7 hB7 x8 => ?_⟩
        obtain ⟨z, hz, rfl⟩ := List.mem_map.mp hv7
        walk_at "go"
        intro p hp
        obtain ⟨u7, hu7⟩ := hB7.some
        have hzn := hN.ok z hz
        exact hQ _ (.nam z) _ (tm_new (d := 0) hu7 hp rfl) (nam_ok hzn) (by have := hzn.l6; simp only [Tm.cost, Tm.nms, List.length_singleton]; omega) (hB7.new hp) ((x7.trans x8).trans (Ex.new hp).tb)
      · walk_at "go"
        intro p hp
        exact hfin H6 hB6 x7 p hp
    · walk_at "go"
      intro p hp
      exact hfin _ hB5 x5 p hp
def spLTerm (K : PySem.W.Frag) (n : Nat) : Sp := fun vs H Q _ => ∃ b c l l2 ns cs dd, vs = [.ref b, .ref l, .ref l2, .int dd] ∧ BagAt H b c ∧ NmL (hide H b) l ns ∧ NmL (hide H b) l2 cs ∧ ns.length ≤ 1000 ∧ cs.length ≤ 1000 ∧ dd ≤ (n : Int) + 1 ∧
  ∀ v t H', IsTm K (hide H' b) (max 1 dd.toNat) v t → t.okT → (t.cost ≤ 8 * 3 ^ (max 1 dd.toNat) ∧ t.nms.length < 2 ^ (max 1 dd.toNat)) → BagAt H' b c → ExB b H H' → Q v H'
end
theorem cost3 {c m : Nat} (hm : 2 ≤ m) (hc : c ≤ 14 + 16 * 3 ^ (m - 1)) : c ≤ 8 * 3 ^ m := by
  obtain ⟨j, rfl⟩ : ∃ j, m = j + 2 := ⟨m - 2, by omega⟩
  have e : j + 2 - 1 = j + 1 := by omega
  rw [e] at hc
  have p : 0 < 3 ^ j := Nat.pow_pos (by decide)
  rw [show (3 : Nat) ^ (j + 1) = 3 ^ j * 3 from Nat.pow_succ ..] at hc
  rw [show (3 : Nat) ^ (j + 2) = 3 ^ j * 3 * 3 by rw [Nat.pow_succ, Nat.pow_succ]]
  generalize 3 ^ j = y at *
  omega
theorem cut3 {x y : V} {a e : Tm} {R : V → Tm → Prop} (h1 : R x a) (h2 : R y e) (k : Int) (k0 : 0 ≤ k) (k1 : k < 4) : Paired R (cutV [x, y, x] none (some k)) ([a, e, a].take k.toNat) := by
  have : k = 0 ∨ k = 1 ∨ k = 2 ∨ k = 3 := by omega
  rcases this with rfl | rfl | rfl | rfl
  · exact .nil
  · exact .cons h1 .nil
  · exact .cons h1 (.cons h2 .nil)
  · exact .cons h1 (.cons h2 (.cons h1 .nil))
theorem take3 {a e : Tm} {n m q : Nat} (ha : a.ok n m q) (he : e.ok n m q) (k : Nat) : Tm.oks n m q ([a, e, a].take k) := by
  rw [Tm.oks_mem]
  intro z hz
  have hz := List.mem_of_mem_take hz
  simp only [List.mem_cons, List.not_mem_nil, or_false] at hz
  rcases hz with rfl | rfl | rfl <;> assumption
theorem costs_take {l : List Tm} : ∀ {k : Nat}, Tm.costs (l.take k) ≤ Tm.costs l := by
  induction l with
  | nil => intro k; simp
  | cons a r ih =>
    intro k
    cases k with
    | zero => simp [Tm.costs]
    | succ k =>
      have := ih (k := k)
      simp only [List.take_succ_cons, Tm.costs]
      omega
section
variable {P : Program} {w : World} {K : PySem.W.Frag} {mg : Str → Option Value} {base : Heap}
theorem ok1__law_term {k n : Nat} {spj : Sp} (T : Txt K mg) (hj : n = 0 ∨ ∃ j, n = j + 1 ∧ spj = spLTerm K j)
    (G__law_pull : FnOk P w K mg base CX0 k (He.ga K "_law_pull") (fdOf K (He.ga K "_law_pull")) p__law_pull (spPull))
    (G__law_of : FnOk P w K mg base CX0 k (He.ga K "_law_of") (fdOf K (He.ga K "_law_of")) p__law_of (spOf K))
    (G__law_leaf : FnOk P w K mg base CX0 k (He.ga K "_law_leaf") (fdOf K (He.ga K "_law_leaf")) p__law_leaf (spLLeaf K))
    (G__law_term : FnOk P w K mg base CX0 k (He.ga K "_law_term") (fdOf K (He.ga K "_law_term")) p__law_term (spj)) : FnOk P w K mg base CX0 (k + 1) (He.ga K "_law_term") (fdOf K (He.ga K "_law_term")) p__law_term (spLTerm K n) := by
  refine FunD.ok T.d__law_term sc__law_term (fun vs H Q E h => ?_) (fun cdv A outer s H vs Q E hr h => ?_)
  · obtain ⟨b, c, l, l2, ns, cs, dd, rfl, _⟩ := h
    rfl
  · obtain ⟨b, c, l, l2, ns, cs, dd, rfl, hB, hN, hC, hn, hcn, hdn, hQ⟩ := h
    refine ⟨_, PSs.nox ((pss_cons (ps_set (i := 4) sc__law_term.nd rfl (Or.inl rfl) (pe_call G__law_pull hr rfl T.g__law_pull T.d__law_pull.kp (b__law_pull T) .nil pass0 (pa_cons (pv 0) (pa_cons pe_int pa_nil))))
    (pss_cons (ps_if (PW.pt (pw_or (pt_cmpR op_lt (pv 3) pe_int (nomark _)) (pw_or1 (pt_cmpR op_eq (pv 4) pe_int (nomark _)))))
      (pss_one (ps_ret (pe_call G__law_leaf hr rfl T.g__law_leaf T.d__law_leaf.kp (b__law_leaf T) .nil pass0 (pa_cons (pv 0) (pa_cons (pv 1) pa_nil)))))
      pss_nil)
    (pss_cons (ps_set (i := 5) sc__law_term.nd rfl (Or.inl rfl) (pe_call G__law_term hr rfl T.g__law_term T.d__law_term.kp (b__law_term T) .nil pass0 (pa_cons (pv 0) (pa_cons (pv 1) (pa_cons (pv 2) (pa_cons (pe_op op_sub (pv 3) pe_int) pa_nil))))))
    (pss_cons (ps_if (pt_cmpR op_lt (pv 4) pe_int (nomark _))
      (pss_one (ps_ret (pe_tup (pa_cons (pe_ix ix_list (pe_lst (pa_cons pe_str (pa_cons pe_str (pa_cons pe_str pa_nil)))) (pe_op op_sub (pv 4) pe_int) (fun _ _ => rfl)) (pa_cons (pv 5) (pa_cons (pe_call G__law_term hr rfl T.g__law_term T.d__law_term.kp (b__law_term T) .nil pass0 (pa_cons (pv 0) (pa_cons (pv 1) (pa_cons (pv 2) (pa_cons (pe_op op_sub (pe_op op_sub (pv 3) pe_int) (pe_call G__law_pull hr rfl T.g__law_pull T.d__law_pull.kp (b__law_pull T) .nil pass0 (pa_cons (pv 0) (pa_cons pe_int pa_nil)))) pa_nil))))) pa_nil))))))
      pss_nil)
    (pss_cons (ps_if (pt_cmpR op_eq (pv 4) pe_int (nomark _))
      (pss_one (ps_ret (pe_tup (pa_cons pe_str (pa_cons (pe_op op_sub (pe_call G__law_pull hr rfl T.g__law_pull T.d__law_pull.kp (b__law_pull T) .nil pass0 (pa_cons (pv 0) (pa_cons pe_int pa_nil))) pe_int) (pa_cons (pv 5) pa_nil))))))
      pss_nil)
    (pss_cons (ps_if (pt_cmpR op_eq (pv 4) pe_int (nomark _))
      (pss_one (ps_ret (pe_tup (pa_cons pe_str (pa_cons (pv 5) pa_nil)))))
      pss_nil)
    (pss_cons (ps_if (pt_cmpR op_eq (pv 4) pe_int (nomark _))
      (pss_one (ps_ret (pe_tup (pa_cons pe_str (pa_cons (pv 5) pa_nil)))))
      pss_nil)
    (pss_cons (ps_if (PW.pt (pw_or (pt_cmpR op_eq (pv 4) pe_int (nomark _)) (pw_or1 (pt_cmpR (PW.op_eqE hr.units0) (pv 2) (pe_lst pa_nil) (nomark _)))))
      (pss_one (ps_ret (pe_tup (pa_cons pe_str (pa_cons (pv 5) (pa_cons (pe_op op_add pe_int (pe_call G__law_pull hr rfl T.g__law_pull T.d__law_pull.kp (b__law_pull T) .nil pass0 (pa_cons (pv 0) (pa_cons pe_int pa_nil)))) pa_nil))))))
      pss_nil)
    (pss_one (ps_ret (pe_tup (pa_cons pe_str (pa_cons (pe_call G__law_of hr rfl T.g__law_of T.d__law_of.kp (b__law_of T) .nil pass0 (pa_cons (pv 0) (pa_cons (pv 2) pa_nil))) (pa_cons (pe_callTy call_tupleN (by rfl) T.f_tuple (by decide +kernel) (pa_cons (pe_slice sl_list (pe_lst (pa_cons (pv 5) (pa_cons (pe_call G__law_leaf hr rfl T.g__law_leaf T.d__law_leaf.kp (b__law_leaf T) .nil pass0 (pa_cons (pv 0) (pa_cons (pv 1) pa_nil))) (pa_cons (pv 5) pa_nil)))) po_none (po_some (pe_call G__law_pull hr rfl T.g__law_pull T.d__law_pull.kp (b__law_pull T) .nil pass0 (pa_cons (pv 0) (pa_cons pe_int pa_nil))))) pa_nil)) pa_nil))))))))))))))), ?_⟩
    show tSeq _ _ _ [some (V.ref b), some (V.ref l), some (V.ref l2), some (V.int dd), none, none] H
    walk_at "K"
    have leaf : ∀ H1, BagAt H1 b c → ExB b H H1 → spLLeaf K [.ref b, .ref l] H1 Q (fun _ _ _ => False) := fun H1 hB1 x1 =>
      ⟨b, c, l, ns, rfl, hB1, hN.ex x1.hd, hn, fun v t H' h1 h2 h3 h4 x => hQ v t H' (h1.up (Nat.le_max_left ..)) h2 (by
        have : (3 : Nat) ^ 1 ≤ 3 ^ (max 1 dd.toNat) := Nat.pow_le_pow_right (by decide) (Nat.le_max_left ..)
        have : (2 : Nat) ^ 1 ≤ 2 ^ (max 1 dd.toNat) := Nat.pow_le_pow_right (by decide) (Nat.le_max_left ..)
        omega) h4 (x1.trans x)⟩
    walk_at "go"
    refine ⟨b, c, 9, rfl, hB, by decide, by decide, fun way H1 w0 w1 hB1 x1 => ?_⟩
    have hN1 := hN.ex x1.hd
    have hC1 := hC.ex x1.hd
    walk_at "go"
    refine r_if2 (fun e => ?_) (fun e => ?_)
    · walk_at "go"
      exact leaf H1 hB1 x1
    · have hd2 : ¬ dd < 2 := of_decide_eq_false e
      walk_at "go"
      refine r_if2 (fun e2 => ?_) (fun e2 => ?_)
      · walk_at "go"
        exact leaf H1 hB1 x1
      · have hw0 : ¬ way = 0 := fun z => of_decide_eq_false e2 (by rw [z])
        obtain ⟨j, rfl, rfl⟩ : ∃ j, n = j + 1 ∧ spj = spLTerm K j := hj.elim (fun z => by omega) id
        walk_at "go"
        refine ⟨b, c, l, l2, ns, cs, _, rfl, hB1, hN1, hC1, hn, hcn, by omega, fun v1 t1 H2 hv1 ok1 co1 hB2 x2 => ?_⟩
        obtain ⟨m, rfl⟩ : ∃ m : Nat, dd = (m : Int) + 2 := ⟨(dd - 2).toNat, by omega⟩
        have em : max 1 ((m : Int) + 2 - 1).toNat = m + 1 := by omega
        have eM : max 1 ((m : Int) + 2).toNat = m + 2 := by omega
        rw [em] at hv1 co1
        rw [eM] at hQ
        obtain ⟨co1, nm1⟩ := co1
        have pw2 : (2 : Nat) ^ (m + 2) = 2 ^ (m + 1) * 2 := Nat.pow_succ ..
        have pw1 : 1 ≤ (2 : Nat) ^ (m + 1) := Nat.pow_pos (by decide)
        have x12 := x1.trans x2
        have hN2 := hN1.ex x2.hd
        have hC2 := hC1.ex x2.hd
        have fin : ∀ (xs : List V) (t : Tm) (H3 : Hp), BagAt H3 b c → ExB b H H3 → TmRow K (hide H3 b) (IsTm K (hide H3 b) (m + 1)) xs t → t.okT → (t.cost ≤ 14 + 16 * 3 ^ (m + 1) ∧ t.nms.length < 2 ^ (m + 2)) → ∀ p, H3 p = none → Q (.ref p) (L2.upd H3 p (.tup xs)) := fun xs t H3 hB3 x3 r ok co p hp => by
          obtain ⟨u, hu⟩ := hB3.some
          exact hQ _ t _ (tm_new hu hp r) ok ⟨cost3 (m := m + 2) (by omega) co.1, co.2⟩ (hB3.new hp) (x3.trans (Ex.new hp).tb)
        clear leaf hQ hN1 hC1 hB1 x1 e e2
        walk_at "go"
        refine r_if2 (fun e => ?_) (fun e => ?_)
        · have hw4 : way < 4 := of_decide_eq_true e
          walk_at "go"
          intro l3 hl3
          have hB3 := hB2.new (o := .lst [V.str "add", V.str "add", V.str "subtract"]) hl3
          have x3 := (Ex.new (o := .lst [V.str "add", V.str "add", V.str "subtract"]) hl3).tb (b := b)
          have hv3 := hv1.ex x3.hd
          walk_at "go"
          obtain ⟨wd, hat, hwd⟩ : ∃ wd : Str, atI [V.str "add", V.str "add", V.str "subtract"] (way - 1) = some (.str wd) ∧ (wd = "add" ∨ wd = "subtract") := by
            have : way = 1 ∨ way = 2 ∨ way = 3 := by omega
            rcases this with rfl | rfl | rfl
            · exact ⟨"add", rfl, .inl rfl⟩
            · exact ⟨"add", rfl, .inl rfl⟩
            · exact ⟨"subtract", rfl, .inr rfl⟩
          refine r_ixL (SqL.of upd_same) hat ?_
          walk_at "go"
          refine ⟨b, c, 2, rfl, hB3, by decide, by decide, fun r4 H4 r40 r41 hB4 x4 => ?_⟩
          have hv4 := hv3.ex x4.hd
          walk_at "go"
          refine ⟨b, c, l, l2, ns, cs, _, rfl, hB4, (hN2.ex x3.hd).ex x4.hd, (hC2.ex x3.hd).ex x4.hd, hn, hcn, by omega, fun v5 t5 H5 hv5 ok5 co5 hB5 x5 => ?_⟩
          have e5 : max 1 ((m : Int) + 2 - 1 - r4).toNat ≤ m + 1 := by omega
          have p5 : (3 : Nat) ^ (max 1 ((m : Int) + 2 - 1 - r4).toNat) ≤ 3 ^ (m + 1) := Nat.pow_le_pow_right (by decide) e5
          have q5 : (2 : Nat) ^ (max 1 ((m : Int) + 2 - 1 - r4).toNat) ≤ 2 ^ (m + 1) := Nat.pow_le_pow_right (by decide) e5
          obtain ⟨co5, nm5⟩ := co5
          have hx5 := hv5.up e5
          have hy5 := hv4.ex x5.hd
          walk_at "go"
          refine fin _ (if wd = "add" then .add t1 t5 else .sub t1 t5) H5 hB5 (((x12.trans x3).trans x4).trans x5) ?_ ?_ ?_
          · rcases hwd with rfl | rfl
            · exact ⟨_, _, rfl, hy5, hx5⟩
            · rw [if_neg (by decide +kernel)]
              exact ⟨_, _, rfl, hy5, hx5⟩
          · rcases hwd with rfl | rfl
            · show (Tm.add t1 t5).okT
              simp only [Tm.okT, Tm.ok]
              exact ⟨ok1, ok5⟩
            · rw [if_neg (by decide +kernel)]
              simp only [Tm.okT, Tm.ok]
              exact ⟨ok1, ok5⟩
          · rcases hwd with rfl | rfl
            · show (Tm.add t1 t5).cost ≤ _ ∧ (Tm.add t1 t5).nms.length < _
              simp only [Tm.cost, Tm.nms, List.length_append]
              omega
            · rw [if_neg (by decide +kernel)]
              simp only [Tm.cost, Tm.nms, List.length_append]
              omega
        · have hw4 : ¬ way < 4 := of_decide_eq_false e
          walk_at "go"
          refine r_if2 (fun e => ?_) (fun e => ?_)
          · walk_at "go"
            refine ⟨b, c, 199, rfl, hB2, by decide, by decide, fun r4 H4 r40 r41 hB4 x4 => ?_⟩
            walk_at "go"
            refine fin _ (.tim (r4 - 99) t1) H4 hB4 (x12.trans x4) ⟨_, rfl, hv1.ex x4.hd⟩ ?_ ?_
            · simp only [Tm.okT, Tm.ok]
              exact ⟨by omega, ok1⟩
            · simp only [Tm.cost, Tm.nms]
              omega
          · walk_at "go"
            refine r_if2 (fun e => ?_) (fun e => ?_)
            · walk_at "go"
              refine fin _ (.pow t1) H2 hB2 x12 ⟨_, rfl, hv1⟩ ?_ ?_
              · simp only [Tm.okT, Tm.ok]
                exact ok1
              · simp only [Tm.cost, Tm.nms]
                omega
            · walk_at "go"
              refine r_if2 (fun e => ?_) (fun e => ?_)
              · walk_at "go"
                refine fin _ (.len t1) H2 hB2 x12 ⟨_, rfl, hv1⟩ ?_ ?_
                · simp only [Tm.okT, Tm.ok]
                  exact ok1
                · simp only [Tm.cost, Tm.nms]
                  omega
              · have quo : ∀ H3, BagAt H3 b c → ExB b H2 H3 → spPull [.ref b, .int 99] H3 (fun y H4 => (∃ r : Int, y = .int r ∧ 0 ≤ r ∧ r < 99 ∧ BagAt H4 b c ∧ ExB b H2 H4)) (fun _ _ _ => False) := fun H3 hB3 x3 =>
                  ⟨b, c, 99, rfl, hB3, by decide, by decide, fun r H4 r0 r1 hB4 x4 => ⟨r, rfl, r0, r1, hB4, x3.trans x4⟩⟩
                have qfin : ∀ (r : Int) (H4 : Hp), 0 ≤ r → r < 99 → BagAt H4 b c → ExB b H2 H4 → ∀ p, H4 p = none → Q (.ref p) (L2.upd H4 p (.tup [V.str "quotient", v1, .int (1 + r)])) := fun r H4 r0 r1 hB4 x4 p hp => by
                  refine fin _ (.quo t1 (1 + r)) H4 hB4 (x12.trans x4) ⟨_, rfl, hv1.ex x4.hd⟩ ?_ ?_ p hp
                  · simp only [Tm.okT, Tm.ok]
                    exact ⟨⟨by omega, by omega⟩, ok1⟩
                  · simp only [Tm.cost, Tm.nms]
                    omega
                clear quo
                walk_at "go"
                refine r_if2 (fun e => ?_) (fun e => ?_)
                · walk_at "go"
                  refine ⟨b, c, 99, rfl, hB2, by decide, by decide, fun r H4 r0 r1 hB4 x4 => ?_⟩
                  walk_at "go"
                  intro p hp
                  exact qfin r H4 r0 r1 hB4 x4 p hp
                · walk_at "go"
                  intro m2 hm2
                  have hB3 := hB2.new (o := .lst []) hm2
                  have x3 := (Ex.new (o := .lst []) hm2).tb (b := b)
                  have hC3 := hC2.ex x3.hd
                  have hl3 := Ex.hide _ b _ _ hC3.at_
                  walk_at "go"
                  refine r_if2 (fun e => ?_) (fun e => ?_)
                  · walk_at "go"
                    refine ⟨b, c, 99, rfl, hB3, by decide, by decide, fun r H4 r0 r1 hB4 x4 => ?_⟩
                    walk_at "go"
                    intro p hp
                    exact qfin r H4 r0 r1 hB4 (x3.trans x4) p hp
                  · have hne : cs ≠ [] := fun z => by
                      subst z
                      cases e
                    have nlb : l2 ≠ b := fun z => by
                      have e3 := hC3.at_
                      rw [z, hide_same] at e3
                      cases e3
                    walk_at "go"
                    refine ⟨b, c, .ref l2, _, rfl, hB3, Or.inl ⟨l2, rfl, nlb, Or.inl hl3⟩, by rw [List.length_map]; exact List.length_pos_iff.mpr hne, by rw [List.length_map]; exact Nat.le_trans hcn (by decide), fun v4 H4 hv4 hB4 x4 => ?_⟩
                    obtain ⟨f, hf, rfl⟩ := List.mem_map.mp hv4
                    have hfn := hC.ok f hf
                    have x34 := x3.trans x4
                    walk_at "go"
                    refine ⟨b, c, l, ns, rfl, hB4, hN2.ex x34.hd, hn, fun v5 t5 H5 hv5 ok5 co5 hB5 x5 => ?_⟩
                    have x35 := x34.trans x5
                    walk_at "go"
                    intro l6 hl6
                    have hB6 := hB5.new (o := .lst [v1, v5, v1]) hl6
                    have x6 := (Ex.new (o := .lst [v1, v5, v1]) hl6).tb (b := b)
                    walk_at "go"
                    refine ⟨b, c, 4, rfl, hB6, by decide, by decide, fun r7 H7 r70 r71 hB7 x7 => ?_⟩
                    have nl6 := hB5.ne hl6
                    have hl7 := x7 _ _ nl6.1.symm (upd_same (H := H5) (a := l6) (o := .lst [v1, v5, v1]))
                    walk_at "go"
                    intro l8 hl8
                    walk_at "go"
                    intro q hq
                    walk_at "go"
                    have hB8 := hB7.new (o := .lst (cutV [v1, v5, v1] none (some r7))) hl8
                    have x8 := (Ex.new (o := .lst (cutV [v1, v5, v1] none (some r7))) hl8).tb (b := b)
                    have hB9 := hB8.new (o := .tup (cutV [v1, v5, v1] none (some r7))) hq
                    have x9 := (Ex.new (o := .tup (cutV [v1, v5, v1] none (some r7))) hq).tb (b := b)
                    obtain ⟨u8, hu8⟩ := hB8.some
                    have hq9 := hide_new (o := .tup (cutV [v1, v5, v1] none (some r7))) hu8 hq
                    have y1 := hv1.ex (((((x35.trans x6).trans x7).trans x8).trans x9).hd)
                    have y5 := (hv5.up (show 1 ≤ m + 1 by omega)).ex ((((x6.trans x7).trans x8).trans x9).hd)
                    refine fin _ (.cal f ([t1, t5, t1].take r7.toNat)) _ hB9 (((((x12.trans x35).trans x6).trans x7).trans x8).trans x9) ⟨q, _, rfl, hq9, cut3 y1 y5 r7 r70 r71⟩ ?_ ?_
                    · simp only [Tm.okT, Tm.ok]
                      exact ⟨isNm_iff.mpr hfn, by rw [List.length_take]; exact Nat.min_le_right _ _, take3 ok1 ok5 _⟩
                    · have h1 := costs_take (l := [t1, t5, t1]) (k := r7.toNat)
                      have h6 := hfn.l6
                      have h2 := Tm.nmss_take (l := [t1, t5, t1]) (k := r7.toNat)
                      obtain ⟨co5, nm5⟩ := co5
                      simp only [Tm.costs] at h1
                      simp only [Tm.nmss, List.length_append, List.length_nil] at h2
                      simp only [Tm.cost, Tm.nms]
                      omega
theorem ok__law_term {k : Nat} (T : Txt K mg)
    (G__law_pull : FnOk P w K mg base CX0 k (He.ga K "_law_pull") (fdOf K (He.ga K "_law_pull")) p__law_pull (spPull))
    (G__law_of : FnOk P w K mg base CX0 k (He.ga K "_law_of") (fdOf K (He.ga K "_law_of")) p__law_of (spOf K))
    (G__law_leaf : FnOk P w K mg base CX0 k (He.ga K "_law_leaf") (fdOf K (He.ga K "_law_leaf")) p__law_leaf (spLLeaf K)) : ∀ n, FnOk P w K mg base CX0 (k + n + 1) (He.ga K "_law_term") (fdOf K (He.ga K "_law_term")) p__law_term (spLTerm K n)
  | 0 => ok1__law_term (spj := spNo) T (.inl rfl) G__law_pull G__law_of G__law_leaf fnOk_no
  | n + 1 => ok1__law_term T (.inr ⟨n, rfl, rfl⟩) (G__law_pull.mono (by omega)) (G__law_of.mono (by omega)) (G__law_leaf.mono (by omega)) (ok__law_term T G__law_pull G__law_of G__law_leaf n)
end
end PW
/-! ### parts_of, names_within, names_in -/
namespace PW
open PySem PySem.Spec PyProof.Rows L2
def spParts (K : PySem.W.Frag) : Sp := fun vs H Q _ => ∃ p xs t R, vs = [.ref p] ∧ H p = some (.tup xs) ∧ TmRow K H R xs t ∧ ∀ l ys H', Ex H H' → H l = none → H' l = some (.lst ys) → Paired R ys t.parts → Q (.ref l) H'
def spNmsW (K : PySem.W.Frag) (n : Nat) : Sp := fun vs H Q _ => ∃ v t d, vs = [v] ∧ IsTm K H d v t ∧ t.dep ≤ n + 1 ∧ t.nms.length ≤ 100000 ∧ ∀ l H', Ex H H' → H l = none → H' l = some (.lst (t.nms.map V.str)) → Q (.ref l) H'
theorem TmRow.head {K : PySem.W.Frag} {H : Hp} {R : V → Tm → Prop} {xs : List V} {t : Tm} (h : TmRow K H R xs t) : ∃ r, xs = .str t.word :: r := by
  cases t with
  | num i => exact ⟨_, h⟩
  | nam z => exact ⟨_, h⟩
  | add a b => obtain ⟨x, y, e, _⟩ := h; exact ⟨_, e⟩
  | sub a b => obtain ⟨x, y, e, _⟩ := h; exact ⟨_, e⟩
  | cal f as => obtain ⟨q, ys, e, _⟩ := h; exact ⟨_, e⟩
  | _ => obtain ⟨x, e, _⟩ := h; exact ⟨_, e⟩
theorem word_name {t : Tm} (h : t.word = "name") : ∃ z, t = .nam z := by
  cases t with
  | nam z => exact ⟨z, rfl⟩
  | _ => exact absurd h (by simp only [Tm.word]; decide +kernel)
theorem nmss_get {as : List Tm} {i : Nat} {a : Tm} (h : as[i]? = some a) : Tm.nmss (as.take (i + 1)) = Tm.nmss (as.take i) ++ a.nms := by
  induction as generalizing i with
  | nil => cases h
  | cons b r ih =>
    cases i with
    | zero =>
      injection h with h
      subst h
      simp [Tm.nmss]
    | succ i =>
      have := ih (i := i) (by simpa using h)
      simp only [List.take_succ_cons, Tm.nmss, this, List.append_assoc]
theorem IsTm.exF {K : PySem.W.Frag} {H H' : Hp} (x : Ex H H') {d : Nat} {ys : List V} {as : List Tm} (h : Paired (IsTm K H d) ys as) : Paired (IsTm K H' d) ys as := L2.Paired.mapP h fun _ _ z => z.ex x
section
variable {P : Program} {w : World} {K : PySem.W.Frag} {mg : Str → Option Value} {base : Heap}
theorem ok_parts_of (T : Txt K mg) : FnOk P w K mg base CX0 (1) (He.ga K "parts_of") (fdOf K (He.ga K "parts_of")) p_parts_of (spParts K) := by
  refine FunD.ok T.d_parts_of sc_parts_of (fun vs H Q E h => ?_) (fun cdv A outer s H vs Q E hr h => ?_)
  · obtain ⟨p, xs, t, R, rfl, _⟩ := h
    rfl
  · obtain ⟨p, xs, t, R, rfl, hs, row, hQ⟩ := h
    refine ⟨_, PSs.nox ((pss_cons (ps_if (pt_cmpR op_in_seq (pe_ix ix_seq (pv 0) pe_int (fun _ _ => rfl)) (pe_tup (pa_cons pe_str (pa_cons pe_str pa_nil))) rfl)
      (pss_one (ps_ret (pe_lst (pa_cons (pe_ix ix_seq (pv 0) pe_int (fun _ _ => rfl)) (pa_cons (pe_ix ix_seq (pv 0) pe_int (fun _ _ => rfl)) pa_nil)))))
      pss_nil)
    (pss_cons (ps_if (pt_cmpR op_in_seq (pe_ix ix_seq (pv 0) pe_int (fun _ _ => rfl)) (pe_tup (pa_cons pe_str (pa_cons pe_str (pa_cons pe_str pa_nil)))) rfl)
      (pss_one (ps_ret (pe_lst (pa_cons (pe_ix ix_seq (pv 0) pe_int (fun _ _ => rfl)) pa_nil))))
      pss_nil)
    (pss_cons (ps_if (pt_cmpR op_eq (pe_ix ix_seq (pv 0) pe_int (fun _ _ => rfl)) pe_str (nomark _))
      (pss_one (ps_ret (pe_lst (pa_cons (pe_ix ix_seq (pv 0) pe_int (fun _ _ => rfl)) pa_nil))))
      pss_nil)
    (pss_one (ps_ret (pe_ifExp (pt_cmpR op_eq (pe_ix ix_seq (pv 0) pe_int (fun _ _ => rfl)) pe_str (nomark _)) (pe_callTy call_listN (by rfl) T.f_list (by decide +kernel) (pa_cons (pe_ix ix_seq (pv 0) pe_int (fun _ _ => rfl)) pa_nil)) (pe_lst pa_nil)))))))), ?_⟩
    show tSeq _ _ _ [some (V.ref p)] H
    walk_at "K"
    cases t with
    | num i =>
      have row : xs = _ := row
      subst row
      walk_at "go"
      intro l hl
      walk_at "go"
      intro l2 hl2
      walk_at "go"
      intro l3 hl3
      have e := (Ex.new hl).trans (Ex.new (o := .tup [V.str "power", V.str "length", V.str "quotient"]) hl2)
      exact hQ l3 _ _ (e.trans (Ex.new hl3)) (Ex.free e hl3) upd_same .nil
    | nam z =>
      have row : xs = _ := row
      subst row
      walk_at "go"
      intro l hl
      walk_at "go"
      intro l2 hl2
      walk_at "go"
      intro l3 hl3
      have e := (Ex.new hl).trans (Ex.new (o := .tup [V.str "power", V.str "length", V.str "quotient"]) hl2)
      exact hQ l3 _ _ (e.trans (Ex.new hl3)) (Ex.free e hl3) upd_same .nil
    | cal f as =>
      obtain ⟨q, ys, rfl, hq, hys⟩ := row
      walk_at "go"
      intro l hl
      walk_at "go"
      intro l2 hl2
      have e := (Ex.new hl).trans (Ex.new (o := .tup [V.str "power", V.str "length", V.str "quotient"]) hl2)
      have hq2 := e _ _ hq
      walk_at "go"
      intro l3 hl3
      exact hQ l3 _ _ (e.trans (Ex.new hl3)) (Ex.free e hl3) upd_same hys
    | tim i a =>
      obtain ⟨x, rfl, hx⟩ := row
      walk_at "go"
      intro l hl
      walk_at "go"
      intro l2 hl2
      walk_at "go"
      intro l3 hl3
      have e := (Ex.new hl).trans (Ex.new (o := .tup [V.str "power", V.str "length", V.str "quotient"]) hl2)
      exact hQ l3 _ _ (e.trans (Ex.new hl3)) (Ex.free e hl3) upd_same (.cons hx .nil)
    | pow a =>
      obtain ⟨x, rfl, hx⟩ := row
      walk_at "go"
      intro l hl
      walk_at "go"
      intro l2 hl2
      walk_at "go"
      intro l3 hl3
      have e := (Ex.new hl).trans (Ex.new (o := .tup [V.str "power", V.str "length", V.str "quotient"]) hl2)
      exact hQ l3 _ _ (e.trans (Ex.new hl3)) (Ex.free e hl3) upd_same (.cons hx .nil)
    | len a =>
      obtain ⟨x, rfl, hx⟩ := row
      walk_at "go"
      intro l hl
      walk_at "go"
      intro l2 hl2
      walk_at "go"
      intro l3 hl3
      have e := (Ex.new hl).trans (Ex.new (o := .tup [V.str "power", V.str "length", V.str "quotient"]) hl2)
      exact hQ l3 _ _ (e.trans (Ex.new hl3)) (Ex.free e hl3) upd_same (.cons hx .nil)
    | quo a i =>
      obtain ⟨x, rfl, hx⟩ := row
      walk_at "go"
      intro l hl
      walk_at "go"
      intro l2 hl2
      walk_at "go"
      intro l3 hl3
      have e := (Ex.new hl).trans (Ex.new (o := .tup [V.str "power", V.str "length", V.str "quotient"]) hl2)
      exact hQ l3 _ _ (e.trans (Ex.new hl3)) (Ex.free e hl3) upd_same (.cons hx .nil)
    | add a a2 =>
      obtain ⟨x, y, rfl, hx, hy⟩ := row
      walk_at "go"
      intro l hl
      walk_at "go"
      intro l2 hl2
      exact hQ l2 _ _ ((Ex.new hl).trans (Ex.new hl2)) (Ex.free (Ex.new hl) hl2) upd_same (.cons hx (.cons hy .nil))
    | sub a a2 =>
      obtain ⟨x, y, rfl, hx, hy⟩ := row
      walk_at "go"
      intro l hl
      walk_at "go"
      intro l2 hl2
      exact hQ l2 _ _ ((Ex.new hl).trans (Ex.new hl2)) (Ex.free (Ex.new hl) hl2) upd_same (.cons hx (.cons hy .nil))
theorem ok1_names_within {k n : Nat} {spj : Sp} (T : Txt K mg) (hj : n = 0 ∨ ∃ j, n = j + 1 ∧ spj = spNmsW K j)
    (G_parts_of : FnOk P w K mg base CX0 k (He.ga K "parts_of") (fdOf K (He.ga K "parts_of")) p_parts_of (spParts K))
    (G_names_within : FnOk P w K mg base CX0 k (He.ga K "names_within") (fdOf K (He.ga K "names_within")) p_names_within (spj)) : FnOk P w K mg base CX0 (k + 1) (He.ga K "names_within") (fdOf K (He.ga K "names_within")) p_names_within (spNmsW K n) := by
  refine FunD.ok T.d_names_within sc_names_within (fun vs H Q E h => ?_) (fun cdv A outer s H vs Q E hr h => ?_)
  · obtain ⟨v, t, d, rfl, _⟩ := h
    rfl
  · obtain ⟨v, t, d, rfl, ht, hd, hn, hQ⟩ := h
    refine ⟨_, PSs.nox ((pss_cons (ps_if (pt_cmpR op_eq (pe_ix ix_seq (pv 0) pe_int (fun _ _ => rfl)) pe_str (nomark _))
      (pss_one (ps_ret (pe_lst (pa_cons (pe_ix ix_seq (pv 0) pe_int (fun _ _ => rfl)) pa_nil))))
      pss_nil)
    (pss_cons (ps_set (i := 1) sc_names_within.nd rfl (Or.inl rfl) (pe_lst pa_nil))
    (pss_cons (ps_for PassesOwn.never rfl (pi_list (pe_call G_parts_of hr rfl T.g_parts_of T.d_parts_of.kp (b_parts_of T) .nil pass0 (pa_cons (pv 0) pa_nil))) (pg_name (i := 2) sc_names_within.nd rfl (Or.inl rfl) (hf := by first | exact Or.inl rfl | exact Or.inr rfl))
      (pss_one (ps_aug (i := 1) sc_names_within.nd rfl (Or.inl rfl) (pe_call G_names_within hr rfl T.g_names_within T.d_names_within.kp (b_names_within T) .nil pass0 (pa_cons (pv 2) pa_nil)) iop_ext)))
    (pss_one (ps_ret (pv 1))))))), ?_⟩
    show tSeq _ _ _ [some v, none, none] H
    walk_at "K"
    obtain ⟨d, rfl⟩ : ∃ e, d = e + 1 := ⟨d - 1, by
      have := ht.depth
      have := t.dep_pos
      omega⟩
    obtain ⟨p, xs, rfl, hs, row⟩ := ht
    obtain ⟨r, er⟩ := row.head
    by_cases hw : t.word = "name"
    · obtain ⟨z, rfl⟩ := word_name hw
      have row : xs = _ := row
      subst row
      walk_at "go"
      intro l hl
      exact hQ l _ (Ex.new hl) hl upd_same
    · have hs2 := hs
      rw [er] at hs2
      walk_at "go"
      refine r_ifF' (decide_eq_false fun z => hw (V.str.inj z)) ?_
      walk_at "go"
      intro f hf
      walk_at "go"
      have x1 := Ex.new (o := .lst []) hf
      refine ⟨p, xs, t, IsTm K H d, rfl, x1 _ _ hs, row.imp (x1 _ _) fun _ _ z => z, fun l ys H1 x2 hl0 hl hys => ?_⟩
      have hne : l ≠ f := (ne_of_none upd_same hl0).symm
      have hf1 := x2 _ _ (upd_same (H := H) (a := f) (o := .lst []))
      have x12 := x1.trans x2
      clear x1 x2
      rw [Tm.nms_parts hw] at hn hQ
      have hlen := pr_len hys
      walk_at "go"
      refine for_it (walk_list (xs := ys)) (fun i σ H' => (∃ y2, σ = [some (.ref p), some (.ref f), y2]) ∧ Ex H H' ∧ H' l = some (.lst ys) ∧ H' f = some (.lst ((Tm.nmss (t.parts.take i)).map V.str))) ⟨⟨_, rfl⟩, x12, hl, hf1⟩ (fun i σ H' _ h => SqL.of h.2.2.1) ?_ ?_
      · rintro i x σ H2 H2' hi ⟨⟨y2, rfl⟩, x2, hl2, hf2⟩ ⟨rfl, hx⟩
        obtain ⟨a, ha, hv⟩ := pr_get hys hx
        have had := Tm.dep_parts hd a (List.mem_of_getElem? ha)
        obtain ⟨j, rfl, rfl⟩ : ∃ j, n = j + 1 ∧ spj = spNmsW K j := hj.elim (fun z => by
          have := a.dep_pos
          omega) id
        have e1 := nmss_get ha
        have h1 := Tm.nmss_take (l := t.parts) (k := i + 1)
        rw [e1, List.length_append] at h1
        walk_at "go"
        refine ⟨x, a, d, rfl, hv.ex x2, by omega, by omega, fun q H3 x3 hq0 hq => ?_⟩
        walk_at "go"
        refine ⟨f, q, _, _, rfl, rfl, x3 _ _ hf2, hq, by rw [List.length_map, List.length_map]; exact Nat.le_trans (Nat.le_trans h1 hn) (by decide), ?_⟩
        rw [← List.map_append, ← e1]
        walk_at "go"
        have x13 := x2.trans x3
        exact ⟨⟨_, rfl⟩, (fun b o hb => (upd_ne fun z => by rw [z, hf] at hb; cases hb).trans (x13 _ _ hb)), (upd_ne hne).trans (x3 _ _ hl2), upd_same⟩
      · rintro σ H2 ⟨⟨y2, rfl⟩, x2, hl2, hf2⟩
        walk_at "go"
        rw [hlen, List.take_length] at hf2
        exact hQ f H2 x2 hf hf2
theorem ok_names_within {k : Nat} (T : Txt K mg) (G_parts_of : FnOk P w K mg base CX0 (k) (He.ga K "parts_of") (fdOf K (He.ga K "parts_of")) p_parts_of (spParts K)) : ∀ n, FnOk P w K mg base CX0 (k + n + 1) (He.ga K "names_within") (fdOf K (He.ga K "names_within")) p_names_within (spNmsW K n)
  | 0 => ok1_names_within (spj := spNo) T (.inl rfl) G_parts_of fnOk_no
  | n + 1 => ok1_names_within T (.inr ⟨n, rfl, rfl⟩) (G_parts_of.mono (by omega)) (ok_names_within T G_parts_of n)
end
end PW
/-! ### the called names of a term -/
namespace PW
open PySem PySem.Spec PyProof.Rows L2
namespace Tm
mutual
/-- the called names of a term, in the order of its text -/
def cns : Tm → List Str
  | .num _ => []
  | .nam _ => []
  | .add a b => cns a ++ cns b
  | .sub a b => cns a ++ cns b
  | .tim _ a => cns a
  | .pow a => cns a
  | .len a => cns a
  | .quo a _ => cns a
  | .cal f as => f :: cnss as
def cnss : List Tm → List Str
  | [] => []
  | a :: r => cns a ++ cnss r
end
theorem cnss_take {l : List Tm} : ∀ {k : Nat}, (cnss (l.take k)).length ≤ (cnss l).length := by
  induction l with
  | nil => intro k; simp
  | cons a r ih =>
    intro k
    cases k with
    | zero => simp [cnss]
    | succ k =>
      have := ih (k := k)
      simp only [List.take_succ_cons, cnss, List.length_append]
      omega
/-- what stands ahead of the parts' called names -/
def hcn : Tm → List Str
  | .cal f _ => [f]
  | _ => []
theorem cns_parts (t : Tm) : t.cns = t.hcn ++ cnss t.parts := by
  cases t <;> simp [cns, cnss, parts, hcn]
end Tm
theorem cnss_getT {as : List Tm} {i : Nat} {a : Tm} (h : as[i]? = some a) : Tm.cnss (as.take (i + 1)) = Tm.cnss (as.take i) ++ a.cns := by
  induction as generalizing i with
  | nil => cases h
  | cons b r ih =>
    cases i with
    | zero =>
      injection h with h
      subst h
      simp [Tm.cnss]
    | succ i =>
      have := ih (i := i) (by simpa using h)
      simp only [List.take_succ_cons, Tm.cnss, this, List.append_assoc]
theorem word_call {t : Tm} (h : t.word = "call") : ∃ f as, t = .cal f as := by
  cases t with
  | cal f as => exact ⟨f, as, rfl⟩
  | _ => exact absurd h (by simp only [Tm.word]; decide +kernel)
def spCnsW (K : PySem.W.Frag) (n : Nat) : Sp := fun vs H Q _ => ∃ v t d, vs = [v] ∧ IsTm K H d v t ∧ t.dep ≤ n + 1 ∧ t.cns.length ≤ 100000 ∧ ∀ l H', Ex H H' → H l = none → H' l = some (.lst (t.cns.map V.str)) → Q (.ref l) H'
section
variable {P : Program} {w : World} {K : PySem.W.Frag} {mg : Str → Option Value} {base : Heap}
theorem ok1_calls_within {k n : Nat} {spj : Sp} (T : Txt K mg) (hj : n = 0 ∨ ∃ j, n = j + 1 ∧ spj = spCnsW K j)
    (G_parts_of : FnOk P w K mg base CX0 k (He.ga K "parts_of") (fdOf K (He.ga K "parts_of")) p_parts_of (spParts K))
    (G_calls_within : FnOk P w K mg base CX0 k (He.ga K "calls_within") (fdOf K (He.ga K "calls_within")) p_calls_within (spj)) : FnOk P w K mg base CX0 (k + 1) (He.ga K "calls_within") (fdOf K (He.ga K "calls_within")) p_calls_within (spCnsW K n) := by
  refine FunD.ok T.d_calls_within sc_calls_within (fun vs H Q E h => ?_) (fun cdv A outer s H vs Q E hr h => ?_)
  · obtain ⟨v, t, d, rfl, _⟩ := h
    rfl
  · obtain ⟨v, t, d, rfl, ht, hd, hn, hQ⟩ := h
    refine ⟨_, PSs.nox ((pss_cons (ps_set (i := 1) sc_calls_within.nd rfl (Or.inl rfl) (pe_ifExp (pt_cmpR op_eq (pe_ix ix_seq (pv 0) pe_int (fun _ _ => rfl)) pe_str (nomark _)) (pe_lst (pa_cons (pe_ix ix_seq (pv 0) pe_int (fun _ _ => rfl)) pa_nil)) (pe_lst pa_nil)))
    (pss_cons (ps_for PassesOwn.never rfl (pi_list (pe_call G_parts_of hr rfl T.g_parts_of T.d_parts_of.kp (b_parts_of T) .nil pass0 (pa_cons (pv 0) pa_nil))) (pg_name (i := 2) sc_calls_within.nd rfl (Or.inl rfl) (hf := by first | exact Or.inl rfl | exact Or.inr rfl))
      (pss_one (ps_aug (i := 1) sc_calls_within.nd rfl (Or.inl rfl) (pe_call G_calls_within hr rfl T.g_calls_within T.d_calls_within.kp (b_calls_within T) .nil pass0 (pa_cons (pv 2) pa_nil)) iop_ext)))
    (pss_one (ps_ret (pv 1)))))), ?_⟩
    show tSeq _ _ _ [some v, none, none] H
    walk_at "K"
    obtain ⟨d, rfl⟩ : ∃ e, d = e + 1 := ⟨d - 1, by
      have := ht.depth
      have := t.dep_pos
      omega⟩
    obtain ⟨p, xs, rfl, hs, row⟩ := ht
    obtain ⟨r, er⟩ := row.head
    rw [Tm.cns_parts] at hn hQ
    rw [List.length_append] at hn
    refine r_seqP (fun σ' H' => ∃ f, σ' = [some (.ref p), some (.ref f), none] ∧ H f = none ∧ H' f = some (.lst (t.hcn.map V.str)) ∧ Ex H H') ?_ ?_
    · rintro σ' H1 ⟨f, rfl, hf, hf0, x1⟩
      walk_at "go"
      refine ⟨p, xs, t, IsTm K H d, rfl, x1 _ _ hs, row.imp (x1 _ _) fun _ _ z => z, fun l ys H2 x2 hl0 hl hys => ?_⟩
      have hne : l ≠ f := (ne_of_none hf0 hl0).symm
      have hf1 := x2 _ _ hf0
      have x12 := x1.trans x2
      clear x1 x2
      have hlen := pr_len hys
      walk_at "go"
      refine for_it (walk_list (xs := ys)) (fun i σ H' => (∃ y2, σ = [some (.ref p), some (.ref f), y2]) ∧ Ex H H' ∧ H' l = some (.lst ys) ∧ H' f = some (.lst ((t.hcn ++ Tm.cnss (t.parts.take i)).map V.str))) ⟨⟨_, rfl⟩, x12, hl, by simpa [Tm.cnss] using hf1⟩ (fun i σ H' _ h => SqL.of h.2.2.1) ?_ ?_
      · rintro i x σ H3 H3' hi ⟨⟨y2, rfl⟩, x3, hl3, hf3⟩ ⟨rfl, hx⟩
        obtain ⟨a, ha, hv⟩ := pr_get hys hx
        have had := Tm.dep_parts hd a (List.mem_of_getElem? ha)
        obtain ⟨j, rfl, rfl⟩ : ∃ j, n = j + 1 ∧ spj = spCnsW K j := hj.elim (fun z => by
          have := a.dep_pos
          omega) id
        have e1 := cnss_getT ha
        have h1 := Tm.cnss_take (l := t.parts) (k := i + 1)
        rw [e1, List.length_append] at h1
        walk_at "go"
        refine ⟨x, a, d, rfl, hv.ex x3, by omega, by omega, fun q H4 x4 hq0 hq => ?_⟩
        walk_at "go"
        refine ⟨f, q, _, _, rfl, rfl, x4 _ _ hf3, hq, by rw [List.length_map, List.length_map, List.length_append]; exact Nat.le_trans (show _ ≤ 100000 by omega) (by decide), ?_⟩
        rw [← List.map_append, List.append_assoc, ← e1]
        walk_at "go"
        have x14 := x3.trans x4
        exact ⟨⟨_, rfl⟩, (fun b o hb => (upd_ne fun z => by rw [z, hf] at hb; cases hb).trans (x14 _ _ hb)), (upd_ne hne).trans (x4 _ _ hl3), upd_same⟩
      · rintro σ H3 ⟨⟨y2, rfl⟩, x3, hl3, hf3⟩
        walk_at "go"
        rw [hlen, List.take_length] at hf3
        exact hQ f H3 x3 hf hf3
    · intro N hN
      by_cases hw : t.word = "call"
      · obtain ⟨f, as, rfl⟩ := word_call hw
        obtain ⟨q, ys, rfl, hq, hys⟩ := row
        walk_at "go"
        intro l hl
        walk_at "go"
        exact hN _ _ ⟨l, rfl, hl, upd_same, Ex.new hl⟩
      · have hs2 := hs
        rw [er] at hs2
        have e0 : t.hcn = [] := by
          cases t with
          | cal f as => exact absurd rfl hw
          | _ => rfl
        walk_at "go"
        refine r_ifF' (decide_eq_false fun z => hw (V.str.inj z)) ?_
        walk_at "go"
        intro l hl
        walk_at "go"
        refine hN _ _ ⟨l, rfl, hl, ?_, Ex.new hl⟩
        rw [e0]
        exact upd_same
theorem ok_calls_within {k : Nat} (T : Txt K mg) (G_parts_of : FnOk P w K mg base CX0 (k) (He.ga K "parts_of") (fdOf K (He.ga K "parts_of")) p_parts_of (spParts K)) : ∀ n, FnOk P w K mg base CX0 (k + n + 1) (He.ga K "calls_within") (fdOf K (He.ga K "calls_within")) p_calls_within (spCnsW K n)
  | 0 => ok1_calls_within (spj := spNo) T (.inl rfl) G_parts_of fnOk_no
  | n + 1 => ok1_calls_within T (.inr ⟨n, rfl, rfl⟩) (G_parts_of.mono (by omega)) (ok_calls_within T G_parts_of n)
end
end PW
/-! ### the value of a term over a table; the sizes at any caps -/
namespace PW
open PySem PySem.Spec PyProof.Rows L2
theorem Sz.Le.trans {a b c : Sz} (h : a.Le b) (g : b.Le c) : a.Le c := ⟨Nat.le_trans h.z g.z, Nat.le_trans h.n g.n, Nat.le_trans h.s g.s⟩
namespace Tm
/-- the value of a term -/
def val (env : Str → Int) : Tm → Int
  | .num i => i
  | .nam z => env z
  | .add a b => val env a + val env b
  | .sub a b => val env a - val env b
  | .tim i a => val env a * i
  | .pow a => pw2 (val env a)
  | .len a => lgv (val env a)
  | .quo a i => val env a / i
  | .cal _ _ => 0
/-- t's value has, over names of (cap0, S0, d0), the size S at the cap c and the depth d -/
def Fit (cap0 S0 : Sz) (d0 : Nat) : Tm → Sz → Sz → Nat → Prop
  | .num i, _, S, d => Sz.Le ⟨bt i, 0, 0⟩ S ∧ 1 ≤ d
  | .nam _, c, S, d => cap0.Le c ∧ S0.Le S ∧ d0 ≤ d
  | .add a b, c, S, d => ∃ c1 Sa Sb d1, CapOk c1 ∧ c1.Le c ∧ d1 ≤ d ∧ Fit cap0 S0 d0 a c1 Sa d1 ∧ Fit cap0 S0 d0 b c1 Sb d1 ∧ Sa.Le LIM ∧ Sb.Le LIM ∧ (totSz Sa Sb 0).Le S
  | .sub a b, c, S, d => ∃ c1 Sa Sb d1, CapOk c1 ∧ c1.Le c ∧ d1 ≤ d ∧ Fit cap0 S0 d0 a c1 Sa d1 ∧ Fit cap0 S0 d0 b c1 Sb d1 ∧ Sa.Le LIM ∧ Sb.Le LIM ∧ (totSz Sa Sb 0).Le S
  | .tim i a, c, S, d => ∃ c1 Sa d1, CapOk c1 ∧ c1.Le c ∧ d1 ≤ d ∧ Fit cap0 S0 d0 a c1 Sa d1 ∧ Sa.Le LIM ∧ bt i ≤ 1200 ∧ (totSz Z0 Sa (bt i)).Le S
  | .pow a, c, S, d => ∃ c1 Sa d1, CapOk c1 ∧ c1.Le c ∧ d1 + 1 ≤ d ∧ Fit cap0 S0 d0 a c1 Sa d1 ∧ Sa.Le c1 ∧ PSZ.Le S
  | .len a, c, S, d => ∃ c1 Sa d1, CapOk c1 ∧ c1.Le c ∧ 1 ≤ d1 ∧ d1 ≤ d ∧ Fit cap0 S0 d0 a c1 Sa d1 ∧ Sa.Le LIM ∧ (lenSz c1).Le S
  | .quo a i, c, S, d => ∃ c1 Sa d1, CapOk c1 ∧ c1.Le c ∧ d1 ≤ d ∧ Fit cap0 S0 d0 a c1 Sa d1 ∧ Sa.Le LIM ∧ (1 ≤ i ∧ i ≤ 1000) ∧ 10 + Sa.s + d1 * c1.s ≤ 8800 ∧ (divSz Sa).Le S
  | .cal _ _, _, _, _ => False
theorem Fit.up {cap0 S0 : Sz} {d0 : Nat} : ∀ {t : Tm} {c c' S S' : Sz} {d d' : Nat}, Fit cap0 S0 d0 t c S d → c.Le c' → S.Le S' → d ≤ d' → Fit cap0 S0 d0 t c' S' d'
  | .num i, _, _, _, _, _, _, h, _, s, e => ⟨h.1.trans s, Nat.le_trans h.2 e⟩
  | .nam _, _, _, _, _, _, _, h, x, s, e => ⟨h.1.trans x, h.2.1.trans s, Nat.le_trans h.2.2 e⟩
  | .add a b, _, _, _, _, _, _, ⟨c1, Sa, Sb, d1, h1, h2, h3, h4, h5, h6, h7, h8⟩, x, s, e => ⟨c1, Sa, Sb, d1, h1, h2.trans x, Nat.le_trans h3 e, h4, h5, h6, h7, h8.trans s⟩
  | .sub a b, _, _, _, _, _, _, ⟨c1, Sa, Sb, d1, h1, h2, h3, h4, h5, h6, h7, h8⟩, x, s, e => ⟨c1, Sa, Sb, d1, h1, h2.trans x, Nat.le_trans h3 e, h4, h5, h6, h7, h8.trans s⟩
  | .tim i a, _, _, _, _, _, _, ⟨c1, Sa, d1, h1, h2, h3, h4, h5, h6, h7⟩, x, s, e => ⟨c1, Sa, d1, h1, h2.trans x, Nat.le_trans h3 e, h4, h5, h6, h7.trans s⟩
  | .pow a, _, _, _, _, _, _, ⟨c1, Sa, d1, h1, h2, h3, h4, h5, h6⟩, x, s, e => ⟨c1, Sa, d1, h1, h2.trans x, Nat.le_trans h3 e, h4, h5, h6.trans s⟩
  | .len a, _, _, _, _, _, _, ⟨c1, Sa, d1, h1, h2, h3, h4, h5, h6, h7⟩, x, s, e => ⟨c1, Sa, d1, h1, h2.trans x, h3, Nat.le_trans h4 e, h5, h6, h7.trans s⟩
  | .quo a i, _, _, _, _, _, _, ⟨c1, Sa, d1, h1, h2, h3, h4, h5, h6, h7, h8⟩, x, s, e => ⟨c1, Sa, d1, h1, h2.trans x, Nat.le_trans h3 e, h4, h5, h6, h7, h8.trans s⟩
theorem Fit.pos {cap0 S0 : Sz} {d0 : Nat} (h0 : 1 ≤ d0) : ∀ {t : Tm} {c S : Sz} {d : Nat}, Fit cap0 S0 d0 t c S d → 1 ≤ d
  | .num i, _, _, _, h => h.2
  | .nam _, _, _, _, h => Nat.le_trans h0 h.2.2
  | .add a b, _, _, _, ⟨_, _, _, _, _, _, h3, h4, _⟩ => Nat.le_trans (Fit.pos h0 h4) h3
  | .sub a b, _, _, _, ⟨_, _, _, _, _, _, h3, h4, _⟩ => Nat.le_trans (Fit.pos h0 h4) h3
  | .tim i a, _, _, _, ⟨_, _, _, _, _, h3, h4, _⟩ => Nat.le_trans (Fit.pos h0 h4) h3
  | .pow a, _, _, _, ⟨_, _, _, _, _, h3, _⟩ => by omega
  | .len a, _, _, _, ⟨_, _, _, _, _, h3, h4, _⟩ => Nat.le_trans h3 h4
  | .quo a i, _, _, _, ⟨_, _, _, _, _, h3, h4, _⟩ => Nat.le_trans (Fit.pos h0 h4) h3
end Tm
/-- a table that tells the names zs -/
def TbV (K : PySem.W.Frag) (cap S0 : Sz) (d0 : Nat) (env : Str → Int) (H : Hp) (tb : Addr) (zs : List Str) : Prop := ∃ kvs, H tb = some (.dK kvs) ∧ ∀ z ∈ zs, ∃ x, valV kvs (.inr z) = some x ∧ NumV K cap H d0 S0 x (env z)
theorem TbV.ex {K : PySem.W.Frag} {cap S0 : Sz} {d0 : Nat} {env : Str → Int} {H H' : Hp} {tb : Addr} {zs : List Str} (x : Ex H H') (h : TbV K cap S0 d0 env H tb zs) : TbV K cap S0 d0 env H' tb zs := by
  obtain ⟨kvs, e, q⟩ := h
  exact ⟨kvs, x _ _ e, fun z hz => by
    obtain ⟨y, h1, h2⟩ := q z hz
    exact ⟨y, h1, h2.ex x⟩⟩
theorem TbV.sub {K : PySem.W.Frag} {cap S0 : Sz} {d0 : Nat} {env : Str → Int} {H : Hp} {tb : Addr} {zs ys : List Str} (h : TbV K cap S0 d0 env H tb zs) (s : ∀ z ∈ ys, z ∈ zs) : TbV K cap S0 d0 env H tb ys := by
  obtain ⟨kvs, e, q⟩ := h
  exact ⟨kvs, e, fun z hz => q z (s z hz)⟩
def spWorth (K : PySem.W.Frag) (D n : Nat) : Sp := fun vs H Q _ => ∃ v t d tb cap0 S0 d0 env c S e, vs = [v, .ref tb] ∧ IsTm K H d v t ∧ t.dep ≤ n + 1 ∧ 1 ≤ d0 ∧ e ≤ D ∧ t.Fit cap0 S0 d0 c S e ∧ TbV K cap0 S0 d0 env H tb t.nms ∧
  ∀ r H', Ex H H' → IsT K c H' e S r (t.val env) → Q (.ref r) H'
theorem IsT.all {K : PySem.W.Frag} {c c' S S' : Sz} {H : Hp} {d d' : Nat} {a : Addr} {v : Int} (h : IsT K c H d S a v) (x : c.Le c') (s : S.Le S') (e : d ≤ d') : IsT K c' H d' S' a v := ((IsT.cap x h).mono s).deep e
theorem natAbs_bt (i : Int) : i.natAbs ≤ 2 ^ bt i := Nat.le_of_lt (bt_le.mp (Nat.le_refl _))
section
variable {P : Program} {w : World} {K : PySem.W.Frag} {mg : Str → Option Value} {base : Heap}
theorem ok1_worth {k n D : Nat} {spj : Sp} (T : Txt K mg) (hj : n = 0 ∨ ∃ j, n = j + 1 ∧ spj = spWorth K D j)
    (G_Tower___init__ : FnOk P w K mg base CX0 (k) (He.ma K (He.ga K "Tower") "__init__") (fdOf K (He.fAd K ("Tower", some "__init__"))) p_Tower___init__ (spInit K))
    (G_tower_of : FnOk P w K mg base CX0 (k + 1) (He.ga K "tower_of") (fdOf K (He.ga K "tower_of")) p_tower_of (spTowerOf K))
    (G_Tower___mul__ : FnOk P w K mg base CX0 (k + 1) (He.ma K (He.ga K "Tower") "__mul__") (fdOf K (He.fAd K ("Tower", some "__mul__"))) p_Tower___mul__ (anyC D (spMul K)))
    (G_Tower_power : FnOk P w K mg base CX0 (k + 1) (sgA "Tower" "power" K) (fdOf K (sgA "Tower" "power" K)) p_Tower_power (anyC D (spPower K)))
    (G_Tower_length : FnOk P w K mg base CX0 (k + 1) (He.ma K (He.ga K "Tower") "length") (fdOf K (He.fAd K ("Tower", some "length"))) p_Tower_length (anyC D (spLength K)))
    (G_Tower___floordiv__ : FnOk P w K mg base CX0 (k + 1) (He.ma K (He.ga K "Tower") "__floordiv__") (fdOf K (He.fAd K ("Tower", some "__floordiv__"))) p_Tower___floordiv__ (anyC D (spDiv K)))
    (G_Tower___add__ : FnOk P w K mg base CX0 (k + 1) (He.ma K (He.ga K "Tower") "__add__") (fdOf K (He.fAd K ("Tower", some "__add__"))) p_Tower___add__ (anyC D (spAdd K)))
    (G_Tower___sub__ : FnOk P w K mg base CX0 (k + 1) (He.ma K (He.ga K "Tower") "__sub__") (fdOf K (He.fAd K ("Tower", some "__sub__"))) p_Tower___sub__ (anyC D (spSub K)))
    (G_worth : FnOk P w K mg base CX0 (k + 1) (He.ga K "worth") (fdOf K (He.ga K "worth")) p_worth (spj)) : FnOk P w K mg base CX0 (k + 2) (He.ga K "worth") (fdOf K (He.ga K "worth")) p_worth (spWorth K D n) := by
  refine FunD.ok T.d_worth sc_worth (fun vs H Q E h => ?_) (fun cdv A outer s H vs Q E hr h => ?_)
  · obtain ⟨v, t, d, tb, cap0, S0, d0, env, c, S, e, rfl, _⟩ := h
    rfl
  · obtain ⟨v, t, d, tb, cap0, S0, d0, env, c, S, e, rfl, ht, hd, h0, hD, hf, htb, hQ⟩ := h
    refine ⟨_, PSs.nox ((pss_cons (ps_set (i := 2) sc_worth.nd rfl (Or.inl rfl) (pe_ix ix_seq (pv 0) pe_int (fun _ _ => rfl)))
    (pss_cons (ps_if (pt_cmpR op_eq (pv 2) pe_str (nomark _))
      (pss_one (ps_ret (pe_make T.mk_Tower G_Tower___init__ hr rfl T.g_Tower (b_Tower___init___2 T) (dv_Tower___init___2 T) pass0 (pa_cons (pe_ix ix_seq (pv 0) pe_int (fun _ _ => rfl)) pa_nil))))
      pss_nil)
    (pss_cons (ps_if (pt_cmpR op_eq (pv 2) pe_str (nomark _))
      (pss_one (ps_ret (pe_ix ix_seq (pv 0) pe_int (fun _ _ => rfl))))
      pss_nil)
    (pss_cons (ps_if (pt_cmpR op_eq (pv 2) pe_str (nomark _))
      (pss_one (ps_ret (pe_call G_tower_of hr rfl T.g_tower_of T.d_tower_of.kp (b_tower_of T) .nil pass0 (pa_cons (pe_dget (hu_of hr) (pv 1) (pe_ix ix_seq (pv 0) pe_int (fun _ _ => rfl)) (fun _ _ => rfl)) pa_nil))))
      pss_nil)
    (pss_cons (ps_if (pt_cmpR op_eq (pv 2) pe_str (nomark _))
      (pss_one (ps_ret (pe_op (PW.op_ownB T.o_Tower___mul__ G_Tower___mul__ hr (b_Tower___mul__ T) pass0) (pe_call G_worth hr rfl T.g_worth T.d_worth.kp (b_worth T) .nil pass0 (pa_cons (pe_ix ix_seq (pv 0) pe_int (fun _ _ => rfl)) (pa_cons (pv 1) pa_nil))) (pe_ix ix_seq (pv 0) pe_int (fun _ _ => rfl)))))
      pss_nil)
    (pss_cons (ps_set (i := 3) sc_worth.nd rfl (Or.inl rfl) (pe_call G_worth hr rfl T.g_worth T.d_worth.kp (b_worth T) .nil pass0 (pa_cons (pe_ix ix_seq (pv 0) pe_int (fun _ _ => rfl)) (pa_cons (pv 1) pa_nil))))
    (pss_cons (ps_if (pt_cmpR op_eq (pv 2) pe_str (nomark _))
      (pss_one (ps_ret (PW.pe_smeth (pe_glob (v := .ref _) rfl T.g_Tower rfl) T.sm_Tower_power G_Tower_power hr (b_Tower_power T) pass0 (pa_cons (pv 3) pa_nil))))
      pss_nil)
    (pss_cons (ps_if (pt_cmpR op_eq (pv 2) pe_str (nomark _))
      (pss_one (ps_ret (pe_meth0 (pv 3) T.k_Tower T.m_Tower_length G_Tower_length hr (b_Tower_length T) .nil pass0)))
      pss_nil)
    (pss_cons (ps_if (pt_cmpR op_eq (pv 2) pe_str (nomark _))
      (pss_one (ps_ret (pe_op (PW.op_ownB T.o_Tower___floordiv__ G_Tower___floordiv__ hr (b_Tower___floordiv__ T) pass0) (pv 3) (pe_ix ix_seq (pv 0) pe_int (fun _ _ => rfl)))))
      pss_nil)
    (pss_one (ps_ret (pe_ifExp (pt_cmpR op_eq (pv 2) pe_str (nomark _)) (pe_op (PW.op_ownB T.o_Tower___add__ G_Tower___add__ hr (b_Tower___add__ T) pass0) (pv 3) (pe_call G_worth hr rfl T.g_worth T.d_worth.kp (b_worth T) .nil pass0 (pa_cons (pe_ix ix_seq (pv 0) pe_int (fun _ _ => rfl)) (pa_cons (pv 1) pa_nil)))) (pe_op (PW.op_ownB T.o_Tower___sub__ G_Tower___sub__ hr (b_Tower___sub__ T) pass0) (pv 3) (pe_call G_worth hr rfl T.g_worth T.d_worth.kp (b_worth T) .nil pass0 (pa_cons (pe_ix ix_seq (pv 0) pe_int (fun _ _ => rfl)) (pa_cons (pv 1) pa_nil))))))))))))))))), ?_⟩
    show tSeq _ _ _ [some v, some (.ref tb), none, none] H
    walk_at "K"
    obtain ⟨d, rfl⟩ : ∃ e, d = e + 1 := ⟨d - 1, by
      have := ht.depth
      have := t.dep_pos
      omega⟩
    obtain ⟨p, xs, rfl, hs, row⟩ := ht
    have hrec : t.parts ≠ [] → ∃ j, n = j + 1 ∧ spj = spWorth K D j := fun hp => hj.elim (fun z => by
      obtain ⟨a, ha⟩ := List.exists_mem_of_ne_nil _ hp
      have := Tm.dep_parts hd a ha
      have := a.dep_pos
      omega) id
    cases t with
    | num i =>
      have row : xs = _ := row
      subst row
      obtain ⟨e, rfl⟩ : ∃ e', e = e' + 1 := ⟨e - 1, by have := hf.2; omega⟩
      walk_at "go"
      refine mk_plain (cap := c) (d := e) T.e_Tower___init___parts hf.1 fun r H1 x1 h1 => ?_
      exact hQ r H1 x1 h1
    | nam z =>
      have row : xs = _ := row
      subst row
      obtain ⟨kvs, etb, htb⟩ := htb
      obtain ⟨x, hx, nx⟩ := htb z (by rw [Tm.nms]; exact List.mem_singleton_self z)
      have g := DGet.k (k := (.inr z : Key)) etb
      rw [hx] at g
      walk_at "go"
      refine ⟨_, rfl, ?_⟩
      walk_at "go"
      refine ⟨tb, x, rfl, g, ?_⟩
      walk_at "go"
      exact ⟨cap0, x, d0, S0, env z, rfl, nx, fun r H' x' h => hQ r H' x' (h.all hf.1 hf.2.1 hf.2.2)⟩
    | tim i a =>
      obtain ⟨x, rfl, hx⟩ := row
      obtain ⟨j, rfl, rfl⟩ := hrec (by simp [Tm.parts])
      simp only [Tm.dep] at hd
      obtain ⟨c1, Sa, d1, q1, q2, q3, q4, q5, q6, q7⟩ := hf
      have p1 := Tm.Fit.pos h0 q4
      walk_at "go"
      refine ⟨x, a, d, tb, cap0, S0, d0, env, c1, Sa, d1, rfl, hx, by omega, h0, by omega, q4, htb.sub fun z hz => by rw [Tm.nms]; exact hz, fun r H1 x1 h1 => ?_⟩
      have hs1 := x1 _ _ hs
      walk_at "go"
      refine rOwn_num (u := i) (S2 := ⟨bt i, 0, 0⟩) rfl h1 (NumV.int p1) ?_
      exact ⟨c1, d1, q1, by omega, r, i, _, _, _, rfl, h1, q5, natAbs_bt i, q6, fun r2 H2 x2 h2 => hQ r2 H2 (x1.trans x2) (h2.all q2 q7 q3)⟩
    | pow a =>
      obtain ⟨x, rfl, hx⟩ := row
      obtain ⟨j, rfl, rfl⟩ := hrec (by simp [Tm.parts])
      simp only [Tm.dep] at hd
      obtain ⟨c1, Sa, d1, q1, q2, q3, q4, q5, q6⟩ := hf
      walk_at "go"
      refine ⟨x, a, d, tb, cap0, S0, d0, env, c1, Sa, d1, rfl, hx, by omega, h0, by omega, q4, htb.sub fun z hz => by rw [Tm.nms]; exact hz, fun r H1 x1 h1 => ?_⟩
      walk_at "go"
      exact ⟨c1, d1, q1, (by omega), .ref r, _, _, rfl, .inl ⟨r, rfl, h1⟩, q5, fun r2 H2 x2 h2 => hQ r2 H2 (x1.trans x2) (h2.all q2 q6 q3)⟩
    | len a =>
      obtain ⟨x, rfl, hx⟩ := row
      obtain ⟨j, rfl, rfl⟩ := hrec (by simp [Tm.parts])
      simp only [Tm.dep] at hd
      obtain ⟨c1, Sa, d1, q1, q2, q3, q4, q5, q6, q7⟩ := hf
      walk_at "go"
      refine ⟨x, a, d, tb, cap0, S0, d0, env, c1, Sa, d1, rfl, hx, by omega, h0, by omega, q5, htb.sub fun z hz => by rw [Tm.nms]; exact hz, fun r H1 x1 h1 => ?_⟩
      walk_at "go"
      refine meth_num rfl h1 ?_
      exact ⟨c1, d1, q1, by omega, r, _, _, rfl, h1, q6, fun r2 H2 x2 h2 => hQ r2 H2 (x1.trans x2) (h2.all q2 q7 (show max 1 (d1 - 1) ≤ e by omega))⟩
    | quo a i =>
      obtain ⟨x, rfl, hx⟩ := row
      obtain ⟨j, rfl, rfl⟩ := hrec (by simp [Tm.parts])
      simp only [Tm.dep] at hd
      obtain ⟨c1, Sa, d1, q1, q2, q3, q4, q5, q6, q7, q8⟩ := hf
      obtain ⟨m, rfl⟩ : ∃ m : Nat, i = (m : Int) := ⟨i.toNat, by omega⟩
      have p1 := Tm.Fit.pos h0 q4
      walk_at "go"
      refine ⟨x, a, d, tb, cap0, S0, d0, env, c1, Sa, d1, rfl, hx, by omega, h0, by omega, q4, htb.sub fun z hz => by rw [Tm.nms]; exact hz, fun r H1 x1 h1 => ?_⟩
      have hs1 := x1 _ _ hs
      walk_at "go"
      refine rOwn_num (u := (m : Int)) (S2 := ⟨bt (m : Int), 0, 0⟩) rfl h1 (NumV.int p1) ?_
      exact ⟨c1, d1, q1, by omega, r, _, _, m, rfl, h1, q5, by omega, by omega, q7, fun r2 H2 x2 h2 => hQ r2 H2 (x1.trans x2) (h2.all q2 q8 q3)⟩
    | cal f as => exact hf.elim
    | add a b =>
      obtain ⟨x, y, rfl, hx, hy⟩ := row
      obtain ⟨j, rfl, rfl⟩ := hrec (by simp [Tm.parts])
      simp only [Tm.dep] at hd
      obtain ⟨c1, Sa, Sb, d1, q1, q2, q3, q4, q5, q6, q7, q8⟩ := hf
      walk_at "go"
      refine ⟨x, a, d, tb, cap0, S0, d0, env, c1, Sa, d1, rfl, hx, by omega, h0, by omega, q4, htb.sub fun z hz => by rw [Tm.nms]; exact List.mem_append_left _ hz, fun r H1 x1 h1 => ?_⟩
      have hs1 := x1 _ _ hs
      walk_at "go"
      refine ⟨y, b, d, tb, cap0, S0, d0, env, c1, Sb, d1, rfl, hy.ex x1, by omega, h0, by omega, q5, (htb.sub fun z hz => by rw [Tm.nms]; exact List.mem_append_right _ hz).ex x1, fun r2 H2 x2 h2 => ?_⟩
      walk_at "go"
      refine rOwn_num rfl (h1.ex x2) (.inl ⟨r2, rfl, h2⟩) ?_
      exact ⟨c1, d1, q1, by omega, r, _, _, _, _, _, rfl, h1.ex x2, .inl ⟨r2, rfl, h2⟩, q6, q7, fun r3 H3 x3 h3 => hQ r3 H3 ((x1.trans x2).trans x3) (h3.all q2 q8 q3)⟩
    | sub a b =>
      obtain ⟨x, y, rfl, hx, hy⟩ := row
      obtain ⟨j, rfl, rfl⟩ := hrec (by simp [Tm.parts])
      simp only [Tm.dep] at hd
      obtain ⟨c1, Sa, Sb, d1, q1, q2, q3, q4, q5, q6, q7, q8⟩ := hf
      walk_at "go"
      refine ⟨x, a, d, tb, cap0, S0, d0, env, c1, Sa, d1, rfl, hx, by omega, h0, by omega, q4, htb.sub fun z hz => by rw [Tm.nms]; exact List.mem_append_left _ hz, fun r H1 x1 h1 => ?_⟩
      have hs1 := x1 _ _ hs
      walk_at "go"
      refine ⟨y, b, d, tb, cap0, S0, d0, env, c1, Sb, d1, rfl, hy.ex x1, by omega, h0, by omega, q5, (htb.sub fun z hz => by rw [Tm.nms]; exact List.mem_append_right _ hz).ex x1, fun r2 H2 x2 h2 => ?_⟩
      walk_at "go"
      refine rOwn_num rfl (h1.ex x2) (.inl ⟨r2, rfl, h2⟩) ?_
      exact ⟨c1, d1, q1, by omega, r, _, _, _, _, _, rfl, h1.ex x2, .inl ⟨r2, rfl, h2⟩, q6, q7, fun r3 H3 x3 h3 => hQ r3 H3 ((x1.trans x2).trans x3) (h3.all q2 q8 q3)⟩
theorem ok_worth {k D : Nat} (T : Txt K mg)
    (G_Tower___init__ : FnOk P w K mg base CX0 (k) (He.ma K (He.ga K "Tower") "__init__") (fdOf K (He.fAd K ("Tower", some "__init__"))) p_Tower___init__ (spInit K))
    (G_tower_of : FnOk P w K mg base CX0 (k + 1) (He.ga K "tower_of") (fdOf K (He.ga K "tower_of")) p_tower_of (spTowerOf K))
    (G_Tower___mul__ : FnOk P w K mg base CX0 (k + 1) (He.ma K (He.ga K "Tower") "__mul__") (fdOf K (He.fAd K ("Tower", some "__mul__"))) p_Tower___mul__ (anyC D (spMul K)))
    (G_Tower_power : FnOk P w K mg base CX0 (k + 1) (sgA "Tower" "power" K) (fdOf K (sgA "Tower" "power" K)) p_Tower_power (anyC D (spPower K)))
    (G_Tower_length : FnOk P w K mg base CX0 (k + 1) (He.ma K (He.ga K "Tower") "length") (fdOf K (He.fAd K ("Tower", some "length"))) p_Tower_length (anyC D (spLength K)))
    (G_Tower___floordiv__ : FnOk P w K mg base CX0 (k + 1) (He.ma K (He.ga K "Tower") "__floordiv__") (fdOf K (He.fAd K ("Tower", some "__floordiv__"))) p_Tower___floordiv__ (anyC D (spDiv K)))
    (G_Tower___add__ : FnOk P w K mg base CX0 (k + 1) (He.ma K (He.ga K "Tower") "__add__") (fdOf K (He.fAd K ("Tower", some "__add__"))) p_Tower___add__ (anyC D (spAdd K)))
    (G_Tower___sub__ : FnOk P w K mg base CX0 (k + 1) (He.ma K (He.ga K "Tower") "__sub__") (fdOf K (He.fAd K ("Tower", some "__sub__"))) p_Tower___sub__ (anyC D (spSub K))) : ∀ n, FnOk P w K mg base CX0 (k + n + 2) (He.ga K "worth") (fdOf K (He.ga K "worth")) p_worth (spWorth K D n)
  | 0 => ok1_worth (spj := spNo) T (.inl rfl) G_Tower___init__ G_tower_of G_Tower___mul__ G_Tower_power G_Tower_length G_Tower___floordiv__ G_Tower___add__ G_Tower___sub__ fnOk_no
  | n + 1 => ok1_worth T (.inr ⟨n, rfl, rfl⟩) (G_Tower___init__.mono (by omega)) (G_tower_of.mono (by omega)) (G_Tower___mul__.mono (by omega)) (G_Tower_power.mono (by omega)) (G_Tower_length.mono (by omega)) (G_Tower___floordiv__.mono (by omega)) (G_Tower___add__.mono (by omega)) (G_Tower___sub__.mono (by omega)) (ok_worth T G_Tower___init__ G_tower_of G_Tower___mul__ G_Tower_power G_Tower_length G_Tower___floordiv__ G_Tower___add__ G_Tower___sub__ n)
end
end PW
/-! ### the law's own numbers: two, size, sign, whole, is -/
namespace PW
open PySem PySem.Spec PyProof.Rows L2
def spTwo : Sp := fun vs H Q _ => ∃ t : Int, vs = [.int t] ∧ t ≤ 1000 ∧ Q (.int (pw2 t)) H
def spLSize : Sp := fun vs H Q _ => ∃ v : Int, vs = [.int v] ∧ Q (.int (lgv v)) H
def spLSign : Sp := fun vs H Q _ => ∃ v : Int, vs = [.int v] ∧ Q (.int (sgn v)) H
def spLWhole : Sp := fun vs H Q _ => ∃ (b c : Addr), vs = [.ref b] ∧ BagAt H b c ∧ ∀ (z : Int) H', z.natAbs < 2 ^ 910 → BagAt H' b c → ExB b H H' → Q (.int z) H'
def spLIs (K : PySem.W.Frag) (cap : Sz) (d : Nat) : Sp := fun vs H Q _ => ∃ a S v, vs = [.ref a, .int v] ∧ IsT K cap H d S a v ∧ S.Le LIM ∧ v.natAbs < 2 ^ 100000 ∧ ∀ H', Ex H H' → Q (.bl true) H'
theorem ExB.hides {b : Addr} {H H' : Hp} (x : ExB b H H') : Ex (PW.hide H b) (PW.hide H' b) := fun a o h => by
  have na : a ≠ b := fun z => by
    rw [z, hide_same] at h
    cases h
  rw [hide_ne na] at h ⊢
  exact x a o na h
theorem Ex.toB {b : Addr} {H H' : Hp} (x : Ex H H') : ExB b H H' := fun a o _ h => x a o h
theorem mem5 {v : V} (h : v ∈ [V.int 1, .int 1, .int 3, .int (0 - 1), .int (0 - 5)]) : ∃ i : Int, v = .int i ∧ i.natAbs ≤ 5 := by
  simp only [List.mem_cons, List.not_mem_nil, or_false] at h
  rcases h with rfl | rfl | rfl | rfl | rfl
  all_goals exact ⟨_, rfl, by decide⟩
theorem mem4 {v : V} {r : Int} (h0 : 0 ≤ r) (h1 : r < 10 ^ Int.toNat 6) (h : v ∈ [V.int 0, .int 1, .int (0 - 1), .int r]) : ∃ i : Int, v = .int i ∧ i.natAbs ≤ 1000000 := by
  have e : (10 : Int) ^ Int.toNat 6 = 1000000 := by decide
  rw [e] at h1
  simp only [List.mem_cons, List.not_mem_nil, or_false] at h
  rcases h with rfl | rfl | rfl | rfl
  · exact ⟨_, rfl, by decide⟩
  · exact ⟨_, rfl, by decide⟩
  · exact ⟨_, rfl, by decide⟩
  · exact ⟨_, rfl, by omega⟩
theorem pw2_nat (n : Nat) : pw2 ((n : Nat) : Int) = 2 ^ n := by
  unfold pw2
  rw [if_neg (by omega), Int.toNat_natCast]
theorem mods_mem {x : V} {i : Nat} (h : [V.int 1000, .int 997, .int 991, .int 983, .int 977, .int 971, .int 729][i]? = some x) : ∃ m : Nat, x = .int (m : Nat) ∧ 1 ≤ m ∧ m ≤ 1000 := by
  have hm := List.mem_of_getElem? h
  simp only [List.mem_cons, List.not_mem_nil, or_false] at hm
  rcases hm with rfl | rfl | rfl | rfl | rfl | rfl | rfl
  · exact ⟨1000, rfl, by decide, by decide⟩
  · exact ⟨997, rfl, by decide, by decide⟩
  · exact ⟨991, rfl, by decide, by decide⟩
  · exact ⟨983, rfl, by decide, by decide⟩
  · exact ⟨977, rfl, by decide, by decide⟩
  · exact ⟨971, rfl, by decide, by decide⟩
  · exact ⟨729, rfl, by decide, by decide⟩
end PW
namespace PW
open PySem PySem.Spec PyProof.Rows L2
section
variable {P : Program} {w : World} {K : PySem.W.Frag} {mg : Str → Option Value} {base : Heap}
theorem ok__law_two (T : Txt K mg) : FnOk P w K mg base CX0 (1) (He.ga K "_law_two") (fdOf K (He.ga K "_law_two")) p__law_two (spTwo) := by
  refine FunD.ok T.d__law_two sc__law_two (fun vs H Q E h => ?_) (fun cdv A outer s H vs Q E hr h => ?_)
  · obtain ⟨t, rfl, _⟩ := h
    rfl
  · obtain ⟨t, rfl, ht, q⟩ := h
    refine ⟨_, PSs.nox ((pss_cons (ps_if (pt_cmpR op_lt (pv 0) pe_int (nomark _))
      (pss_one (ps_ret pe_int))
      pss_nil)
    (pss_cons (ps_set (i := 1) sc__law_two.nd rfl (Or.inl rfl) pe_int)
    (pss_cons (ps_for PassesOwn.never rfl (pi_range1 rfl T.f_range (pa_cons (pe_op op_fdivW (pv 0) pe_int) pa_nil)) (pg_name (i := 2) sc__law_two.nd rfl (Or.inl rfl) (hf := by first | exact Or.inl rfl | exact Or.inr rfl))
      (pss_one (ps_set (i := 1) sc__law_two.nd rfl (Or.inl rfl) (pe_op op_mulX (pv 1) (pe_op op_pow pe_int pe_int)))))
    (pss_cons (ps_for PassesOwn.never rfl (pi_range1 rfl T.f_range (pa_cons (pe_op op_mod (pe_callTy call_intN (by rfl) T.f_int (by decide +kernel) (pa_cons (pv 0) pa_nil)) pe_int) pa_nil)) (pg_name (i := 2) sc__law_two.nd rfl (Or.inl rfl) (hf := by first | exact Or.inl rfl | exact Or.inr rfl))
      (pss_one (ps_set (i := 1) sc__law_two.nd rfl (Or.inl rfl) (pe_op op_mulX (pv 1) pe_int))))
    (pss_one (ps_ret (pv 1)))))))), ?_⟩
    show tSeq _ _ _ [some (V.int t), none, none] H
    walk_at "K"
    walk_at "go"
    refine r_if2 (fun e => ?_) (fun e => ?_)
    · have h0 := of_decide_eq_true e
      walk_at "go"
      have : pw2 t = 0 := by
        unfold pw2
        rw [if_pos h0]
      rw [this] at q
      exact q
    · have h0 : ¬ t < 0 := of_decide_eq_false e
      obtain ⟨n, rfl⟩ : ∃ n : Nat, t = n := ⟨t.toNat, by omega⟩
      rw [pw2_nat] at q
      walk_at "go"
      have hn : n ≤ 1000 := by omega
      refine r_forP (fun σ' H' => H' = H ∧ ∃ k, σ' = [some (V.int (n : Nat)), some (V.int (2 ^ (60 * (n / 60)))), k]) ?_ ?_
      · rintro σ' H' ⟨rfl, k, rfl⟩
        walk_at "go"
        have en : (((n : Nat) : Int) % 60).toNat = n % 60 := by omega
        refine for_it walk_range (fun i σ H2 => H2 = H' ∧ ∃ k, σ = [some (V.int (n : Nat)), some (V.int (2 ^ (60 * (n / 60) + i))), k]) ⟨rfl, k, rfl⟩ (fun _ _ _ _ _ => trivial) ?_ ?_
        · rintro i x σ H1 H1' hi ⟨rfl, k, rfl⟩ ⟨rfl, rfl⟩
          have cm : CMulX (2 ^ (60 * (n / 60) + i)) 2 := mulx_ok (a := 60 * (n / 60) + i + 1) (b := 2) (by rw [two_nat]; exact Nat.pow_lt_pow_right (by decide) (by omega)) (by decide) (by omega)
          walk_at "go"
          refine ⟨rfl, some (.int (0 + (i : Nat))), ?_⟩
          rw [← Int.pow_succ]
          rfl
        · rintro σ H' ⟨rfl, k, rfl⟩
          walk_at "go"
          have e : 60 * (n / 60) + (((n : Nat) : Int) % 60).toNat = n := by omega
          rw [e]
          exact q
      · intro N hN
        have en : (((n : Nat) : Int) / 60).toNat = n / 60 := by omega
        refine for_it walk_range (fun i σ H' => H' = H ∧ ∃ k, σ = [some (V.int (n : Nat)), some (V.int (2 ^ (60 * i))), k]) ⟨rfl, none, rfl⟩ (fun _ _ _ _ _ => trivial) ?_ ?_
        · rintro i x σ H1 H1' hi ⟨rfl, k, rfl⟩ ⟨rfl, rfl⟩
          have e60 : (2 : Int) ^ Int.toNat 60 = 2 ^ 60 := rfl
          have cm : CMulX (2 ^ (60 * i)) (2 ^ Int.toNat 60) := by
            rw [e60]
            exact mulx_ok (a := 60 * i + 1) (b := 61) (by rw [two_nat]; exact Nat.pow_lt_pow_right (by decide) (by omega)) (by rw [two_nat]; exact Nat.pow_lt_pow_right (by decide) (by omega)) (by omega)
          walk_at "go"
          refine ⟨rfl, some (.int (0 + (i : Nat))), ?_⟩
          rw [e60, ← Int.pow_add]
          rfl
        · rintro σ H' ⟨rfl, k, rfl⟩
          rw [en]
          exact hN _ _ ⟨rfl, k, rfl⟩
end
end PW
namespace PW
open PySem PySem.Spec PyProof.Rows L2
section
variable {P : Program} {w : World} {K : PySem.W.Frag} {mg : Str → Option Value} {base : Heap}
theorem ok__law_size (T : Txt K mg) : FnOk P w K mg base CX0 (1) (He.ga K "_law_size") (fdOf K (He.ga K "_law_size")) p__law_size (spLSize) := by
  refine FunD.ok T.d__law_size sc__law_size (fun vs H Q E h => ?_) (fun cdv A outer s H vs Q E hr h => ?_)
  · obtain ⟨t, rfl, _⟩ := h
    rfl
  · obtain ⟨v, rfl, q⟩ := h
    refine ⟨_, PSs.nox ((pss_one (ps_ret (pe_ifExp (pt_cmpR op_gt (pv 0) pe_int (nomark _)) (pe_callB (call_maxN rfl) (by rfl) T.f_max (by decide +kernel) (pa_cons pe_int (pa_cons (pe_op op_sub (pe_bits (pe_callTy call_intN (by rfl) T.f_int (by decide +kernel) (pa_cons (pv 0) pa_nil))) pe_int) pa_nil))) pe_int)))), ?_⟩
    show tRet _ _ [some (V.int v)] H
    walk_at "K"
    walk_at "go"
    unfold lgv at q
    refine r_if2 (fun e => ?_) (fun e => ?_)
    · have h0 : 0 < v := of_decide_eq_true e
      rw [if_neg (by omega)] at q
      walk_at "go"
      have h1 := bt_pos (i := v) (by omega)
      have e2 : (if ((Builtin.Int.intBits v : Nat) : Int) - 1 > 0 then ((Builtin.Int.intBits v : Nat) : Int) - 1 else 0) = ((bt v : Nat) : Int) - 1 := by
        show (if ((bt v : Nat) : Int) - 1 > 0 then ((bt v : Nat) : Int) - 1 else 0) = _
        split <;> omega
      rw [e2]
      exact q
    · have h0 : ¬ 0 < v := of_decide_eq_false e
      rw [if_pos (by omega)] at q
      walk_at "go"
      exact q
end
end PW
namespace PW
open PySem PySem.Spec PyProof.Rows L2
section
variable {P : Program} {w : World} {K : PySem.W.Frag} {mg : Str → Option Value} {base : Heap}
theorem ok__law_sign (T : Txt K mg) : FnOk P w K mg base CX0 (1) (He.ga K "_law_sign") (fdOf K (He.ga K "_law_sign")) p__law_sign (spLSign) := by
  refine FunD.ok T.d__law_sign sc__law_sign (fun vs H Q E h => ?_) (fun cdv A outer s H vs Q E hr h => ?_)
  · obtain ⟨t, rfl, _⟩ := h
    rfl
  · obtain ⟨v, rfl, q⟩ := h
    refine ⟨_, PSs.nox ((pss_one (ps_ret (pe_ifExp (pt_cmpR op_gt (pv 0) pe_int (nomark _)) pe_int (pe_op op_sub pe_int (pe_callTy call_intN (by rfl) T.f_int (by decide +kernel) (pa_cons (pe_cmpR op_lt (pv 0) pe_int (nomark _)) pa_nil))))))), ?_⟩
    show tRet _ _ [some (V.int v)] H
    walk_at "K"
    walk_at "go"
    unfold sgn at q
    refine r_if2 (fun e => ?_) (fun e => ?_)
    · have h0 : 0 < v := of_decide_eq_true e
      rw [if_pos h0] at q
      walk_at "go"
      exact q
    · have h0 : ¬ 0 < v := of_decide_eq_false e
      rw [if_neg h0] at q
      walk_at "go"
      refine .inr ⟨_, rfl, ?_⟩
      walk_at "go"
      by_cases h1 : v < 0
      · rw [if_pos h1] at q
        rw [decide_eq_true h1]
        exact q
      · rw [if_neg h1] at q
        rw [decide_eq_false h1]
        exact q
end
end PW
/-! ### the law's own values of terms and conditions, over ints -/
namespace PW
open PySem PySem.Spec PyProof.Rows L2
namespace Tm
/-- the law's int operators' bounds hold -/
def VOk (env : Str → Int) : Tm → Prop
  | .num _ => True
  | .nam _ => True
  | .add a b => VOk env a ∧ VOk env b
  | .sub a b => VOk env a ∧ VOk env b
  | .tim i a => VOk env a ∧ i.natAbs < 2 ^ 100 ∧ (val env a).natAbs < 2 ^ 100000
  | .pow a => VOk env a ∧ val env a ≤ 1000
  | .len a => VOk env a
  | .quo a i => VOk env a ∧ 1 ≤ i ∧ i < 2 ^ 100
  | .cal _ _ => False
end Tm
/-- a table that tells the names zs, by ints -/
def TbI (env : Str → Int) (H : Hp) (tb : Addr) (zs : List Str) : Prop := ∃ kvs, H tb = some (.dK kvs) ∧ ∀ z ∈ zs, valV kvs (.inr z) = some (.int (env z))
theorem TbI.ex {env : Str → Int} {H H' : Hp} {tb : Addr} {zs : List Str} (x : Ex H H') (h : TbI env H tb zs) : TbI env H' tb zs := by
  obtain ⟨kvs, e, q⟩ := h
  exact ⟨kvs, x _ _ e, q⟩
theorem TbI.sub {env : Str → Int} {H : Hp} {tb : Addr} {zs ys : List Str} (h : TbI env H tb zs) (s : ∀ z ∈ ys, z ∈ zs) : TbI env H tb ys := by
  obtain ⟨kvs, e, q⟩ := h
  exact ⟨kvs, e, fun z hz => q z (s z hz)⟩
def spLVal (K : PySem.W.Frag) (n : Nat) : Sp := fun vs H Q _ => ∃ v t d tb env, vs = [v, .ref tb] ∧ IsTm K H d v t ∧ t.dep ≤ n + 1 ∧ t.VOk env ∧ TbI env H tb t.nms ∧ ∀ H', Ex H H' → Q (.int (t.val env)) H'
section
variable {P : Program} {w : World} {K : PySem.W.Frag} {mg : Str → Option Value} {base : Heap}
theorem ok1__law_value {k n : Nat} {spj : Sp} (T : Txt K mg) (hj : n = 0 ∨ ∃ j, n = j + 1 ∧ spj = spLVal K j)
    (G__law_two : FnOk P w K mg base CX0 k (He.ga K "_law_two") (fdOf K (He.ga K "_law_two")) p__law_two (spTwo))
    (G__law_size : FnOk P w K mg base CX0 k (He.ga K "_law_size") (fdOf K (He.ga K "_law_size")) p__law_size (spLSize))
    (G__law_value : FnOk P w K mg base CX0 k (He.ga K "_law_value") (fdOf K (He.ga K "_law_value")) p__law_value (spj)) : FnOk P w K mg base CX0 (k + 1) (He.ga K "_law_value") (fdOf K (He.ga K "_law_value")) p__law_value (spLVal K n) := by
  refine FunD.ok T.d__law_value sc__law_value (fun vs H Q E h => ?_) (fun cdv A outer s H vs Q E hr h => ?_)
  · obtain ⟨v, t, d, tb, env, rfl, _⟩ := h
    rfl
  · obtain ⟨v, t, d, tb, env, rfl, ht, hd, hf, htb, hQ⟩ := h
    refine ⟨_, PSs.nox ((pss_cons (ps_set (i := 2) sc__law_value.nd rfl (Or.inl rfl) (pe_ix ix_seq (pv 0) pe_int (fun _ _ => rfl)))
    (pss_cons (ps_if (pt_cmpR op_eq (pv 2) pe_str (nomark _))
      (pss_one (ps_ret (pe_ix ix_seq (pv 0) pe_int (fun _ _ => rfl))))
      pss_nil)
    (pss_cons (ps_if (pt_cmpR op_eq (pv 2) pe_str (nomark _))
      (pss_one (ps_ret (pe_dget (hu_of hr) (pv 1) (pe_ix ix_seq (pv 0) pe_int (fun _ _ => rfl)) (fun _ _ => rfl))))
      pss_nil)
    (pss_cons (ps_if (pt_cmpR op_eq (pv 2) pe_str (nomark _))
      (pss_one (ps_ret (pe_op op_mulX (pe_ix ix_seq (pv 0) pe_int (fun _ _ => rfl)) (pe_call G__law_value hr rfl T.g__law_value T.d__law_value.kp (b__law_value T) .nil pass0 (pa_cons (pe_ix ix_seq (pv 0) pe_int (fun _ _ => rfl)) (pa_cons (pv 1) pa_nil))))))
      pss_nil)
    (pss_cons (ps_set (i := 3) sc__law_value.nd rfl (Or.inl rfl) (pe_call G__law_value hr rfl T.g__law_value T.d__law_value.kp (b__law_value T) .nil pass0 (pa_cons (pe_ix ix_seq (pv 0) pe_int (fun _ _ => rfl)) (pa_cons (pv 1) pa_nil))))
    (pss_cons (ps_if (pt_cmpR op_eq (pv 2) pe_str (nomark _))
      (pss_one (ps_ret (pe_call G__law_two hr rfl T.g__law_two T.d__law_two.kp (b__law_two T) .nil pass0 (pa_cons (pv 3) pa_nil))))
      pss_nil)
    (pss_cons (ps_if (pt_cmpR op_eq (pv 2) pe_str (nomark _))
      (pss_one (ps_ret (pe_call G__law_size hr rfl T.g__law_size T.d__law_size.kp (b__law_size T) .nil pass0 (pa_cons (pv 3) pa_nil))))
      pss_nil)
    (pss_cons (ps_if (pt_cmpR op_eq (pv 2) pe_str (nomark _))
      (pss_one (ps_ret (pe_op op_fdivW (pv 3) (pe_ix ix_seq (pv 0) pe_int (fun _ _ => rfl)))))
      pss_nil)
    (pss_cons (ps_set (i := 4) sc__law_value.nd rfl (Or.inl rfl) (pe_call G__law_value hr rfl T.g__law_value T.d__law_value.kp (b__law_value T) .nil pass0 (pa_cons (pe_ix ix_seq (pv 0) pe_int (fun _ _ => rfl)) (pa_cons (pv 1) pa_nil))))
    (pss_one (ps_ret (pe_ifExp (pt_cmpR op_eq (pv 2) pe_str (nomark _)) (pe_op op_add (pv 3) (pv 4)) (pe_op op_sub (pv 3) (pv 4))))))))))))))), ?_⟩
    show tSeq _ _ _ [some v, some (.ref tb), none, none, none] H
    walk_at "K"
    obtain ⟨d, rfl⟩ : ∃ e, d = e + 1 := ⟨d - 1, by
      have := ht.depth
      have := t.dep_pos
      omega⟩
    obtain ⟨p, xs, rfl, hs, row⟩ := ht
    have hrec : t.parts ≠ [] → ∃ j, n = j + 1 ∧ spj = spLVal K j := fun hp => hj.elim (fun z => by
      obtain ⟨a, ha⟩ := List.exists_mem_of_ne_nil _ hp
      have := Tm.dep_parts hd a ha
      have := a.dep_pos
      omega) id
    cases t with
    | num i =>
      have row : xs = _ := row
      subst row
      walk_at "go"
      exact hQ H (Ex.refl _)
    | nam z =>
      have row : xs = _ := row
      subst row
      obtain ⟨kvs, etb, htb⟩ := htb
      have hx := htb z (by rw [Tm.nms]; exact List.mem_singleton_self z)
      have g := DGet.k (k := (.inr z : Key)) etb
      rw [hx] at g
      walk_at "go"
      refine ⟨_, rfl, ?_⟩
      walk_at "go"
      exact ⟨tb, .int (env z), rfl, g, hQ H (Ex.refl _)⟩
    | tim i a =>
      obtain ⟨x, rfl, hx⟩ := row
      obtain ⟨j, rfl, rfl⟩ := hrec (by simp [Tm.parts])
      simp only [Tm.dep] at hd
      obtain ⟨f1, f2, f3⟩ := hf
      walk_at "go"
      refine ⟨x, a, d, tb, env, rfl, hx, by omega, f1, htb.sub fun z hz => by rw [Tm.nms]; exact hz, fun H1 x1 => ?_⟩
      have cm : CMulX i (a.val env) := mulx_ok (a := 100) (b := 100000) f2 f3 (by decide)
      have z := hQ H1 x1
      rw [Tm.val, Int.mul_comm] at z
      walk_at "go"
      exact z
    | pow a =>
      obtain ⟨x, rfl, hx⟩ := row
      obtain ⟨j, rfl, rfl⟩ := hrec (by simp [Tm.parts])
      simp only [Tm.dep] at hd
      obtain ⟨f1, f2⟩ := hf
      walk_at "go"
      refine ⟨x, a, d, tb, env, rfl, hx, by omega, f1, htb.sub fun z hz => by rw [Tm.nms]; exact hz, fun H1 x1 => ?_⟩
      walk_at "go"
      exact ⟨_, rfl, f2, hQ H1 x1⟩
    | len a =>
      obtain ⟨x, rfl, hx⟩ := row
      obtain ⟨j, rfl, rfl⟩ := hrec (by simp [Tm.parts])
      simp only [Tm.dep] at hd
      walk_at "go"
      refine ⟨x, a, d, tb, env, rfl, hx, by omega, hf, htb.sub fun z hz => by rw [Tm.nms]; exact hz, fun H1 x1 => ?_⟩
      walk_at "go"
      exact ⟨_, rfl, hQ H1 x1⟩
    | quo a i =>
      obtain ⟨x, rfl, hx⟩ := row
      obtain ⟨j, rfl, rfl⟩ := hrec (by simp [Tm.parts])
      simp only [Tm.dep] at hd
      obtain ⟨f1, f2, f3⟩ := hf
      obtain ⟨m, rfl⟩ : ∃ m : Nat, i = (m : Int) := ⟨i.toNat, by omega⟩
      walk_at "go"
      refine ⟨x, a, d, tb, env, rfl, hx, by omega, f1, htb.sub fun z hz => by rw [Tm.nms]; exact hz, fun H1 x1 => ?_⟩
      have hs1 := x1 _ _ hs
      have cd : CDivW (a.val env) (m : Int) := cdN (by omega) (Nat.lt_of_lt_of_le (show m < 2 ^ 100 by omega) (Nat.pow_le_pow_right (by decide) (by decide)))
      walk_at "go"
      exact hQ H1 x1
    | cal f as => exact hf.elim
    | add a b =>
      obtain ⟨x, y, rfl, hx, hy⟩ := row
      obtain ⟨j, rfl, rfl⟩ := hrec (by simp [Tm.parts])
      simp only [Tm.dep] at hd
      walk_at "go"
      refine ⟨x, a, d, tb, env, rfl, hx, by omega, hf.1, htb.sub fun z hz => by rw [Tm.nms]; exact List.mem_append_left _ hz, fun H1 x1 => ?_⟩
      have hs1 := x1 _ _ hs
      walk_at "go"
      refine ⟨y, b, d, tb, env, rfl, hy.ex x1, by omega, hf.2, (htb.sub fun z hz => by rw [Tm.nms]; exact List.mem_append_right _ hz).ex x1, fun H2 x2 => ?_⟩
      walk_at "go"
      exact hQ H2 (x1.trans x2)
    | sub a b =>
      obtain ⟨x, y, rfl, hx, hy⟩ := row
      obtain ⟨j, rfl, rfl⟩ := hrec (by simp [Tm.parts])
      simp only [Tm.dep] at hd
      walk_at "go"
      refine ⟨x, a, d, tb, env, rfl, hx, by omega, hf.1, htb.sub fun z hz => by rw [Tm.nms]; exact List.mem_append_left _ hz, fun H1 x1 => ?_⟩
      have hs1 := x1 _ _ hs
      walk_at "go"
      refine ⟨y, b, d, tb, env, rfl, hy.ex x1, by omega, hf.2, (htb.sub fun z hz => by rw [Tm.nms]; exact List.mem_append_right _ hz).ex x1, fun H2 x2 => ?_⟩
      walk_at "go"
      exact hQ H2 (x1.trans x2)
theorem ok__law_value {k : Nat} (T : Txt K mg)
    (G__law_two : FnOk P w K mg base CX0 k (He.ga K "_law_two") (fdOf K (He.ga K "_law_two")) p__law_two (spTwo))
    (G__law_size : FnOk P w K mg base CX0 k (He.ga K "_law_size") (fdOf K (He.ga K "_law_size")) p__law_size (spLSize)) : ∀ n, FnOk P w K mg base CX0 (k + n + 1) (He.ga K "_law_value") (fdOf K (He.ga K "_law_value")) p__law_value (spLVal K n)
  | 0 => ok1__law_value (spj := spNo) T (.inl rfl) G__law_two G__law_size fnOk_no
  | n + 1 => ok1__law_value T (.inr ⟨n, rfl, rfl⟩) (G__law_two.mono (by omega)) (G__law_size.mono (by omega)) (ok__law_value T G__law_two G__law_size n)
end
end PW
namespace PW
open PySem PySem.Spec PyProof.Rows L2
section
variable {P : Program} {w : World} {K : PySem.W.Frag} {mg : Str → Option Value} {base : Heap}
theorem ok__law_is {k d : Nat} {cap : Sz} (T : Txt K mg) (hd : 1 ≤ d) (hcs : 10 + 1200 + d * cap.s ≤ 8800) (hlen : (lenSz cap).Le LIM)
    (G__law_same : FnOk P w K mg base CX0 k (He.ga K "_law_same") (fdOf K (He.ga K "_law_same")) p__law_same (spSame K 0))
    (G__law_sign : FnOk P w K mg base CX0 k (He.ga K "_law_sign") (fdOf K (He.ga K "_law_sign")) p__law_sign (spLSign))
    (G__law_size : FnOk P w K mg base CX0 k (He.ga K "_law_size") (fdOf K (He.ga K "_law_size")) p__law_size (spLSize))
    (G_Tower_sign : FnOk P w K mg base CX0 k (He.ma K (He.ga K "Tower") "sign") (fdOf K (He.fAd K ("Tower", some "sign"))) p_Tower_sign (spSign K))
    (G_Tower_small : FnOk P w K mg base CX0 k (He.ma K (He.ga K "Tower") "small") (fdOf K (He.fAd K ("Tower", some "small"))) p_Tower_small (spSmall K))
    (G_Tower_length : FnOk P w K mg base CX0 k (He.ma K (He.ga K "Tower") "length") (fdOf K (He.fAd K ("Tower", some "length"))) p_Tower_length (spLength K cap d))
    (G_Tower___mod__ : FnOk P w K mg base CX0 k (He.ma K (He.ga K "Tower") "__mod__") (fdOf K (He.fAd K ("Tower", some "__mod__"))) p_Tower___mod__ (spMod K cap d)) : FnOk P w K mg base CX0 (k + 1) (He.ga K "_law_is") (fdOf K (He.ga K "_law_is")) p__law_is (spLIs K cap d) := by
  refine FunD.ok T.d__law_is sc__law_is (fun vs H Q E h => ?_) (fun cdv A outer s H vs Q E hr h => ?_)
  · obtain ⟨a, S, v, rfl, _⟩ := h
    rfl
  · obtain ⟨a, S, v, rfl, ha, hS, hv, q⟩ := h
    refine ⟨_, PSs.nox ((pss_cons (ps_if (PW.pt (pw_or (pt_not (pt_val (pe_callB call_isi (by rfl) T.f_isinstance (by decide +kernel) (pa_cons (pv 0) (pa_cons (pe_glob (v := .ref _) rfl T.g_Tower rfl) pa_nil))))) (pw_or1 (pt_not (pt_val (pe_call G__law_same hr rfl T.g__law_same T.d__law_same.kp (b__law_same T) .nil pass0 (pa_cons (pe_meth0 (pv 0) T.k_Tower T.m_Tower_sign G_Tower_sign hr (b_Tower_sign T) .nil pass0) (pa_cons (pe_call G__law_sign hr rfl T.g__law_sign T.d__law_sign.kp (b__law_sign T) .nil pass0 (pa_cons (pv 1) pa_nil)) pa_nil))))))))
      (pss_one (ps_ret pe_bl))
      pss_nil)
    (pss_cons (ps_if (pt_not (pt_val (pe_call G__law_same hr rfl T.g__law_same T.d__law_same.kp (b__law_same T) .nil pass0 (pa_cons (pe_meth0 (pv 0) T.k_Tower T.m_Tower_small G_Tower_small hr (b_Tower_small T) .nil pass0) (pa_cons (pe_ifExp (pt_cmpR op_lt (pe_callB call_absN (by rfl) T.f_abs (by decide +kernel) (pa_cons (pv 1) pa_nil)) (pe_op op_pow pe_int pe_int) (nomark _)) (pv 1) pe_non) pa_nil)))))
      (pss_one (ps_ret pe_bl))
      pss_nil)
    (pss_cons (ps_if (pt_not (pt_val (pe_call G__law_same hr rfl T.g__law_same T.d__law_same.kp (b__law_same T) .nil pass0 (pa_cons (pe_meth0 (pe_meth0 (pv 0) T.k_Tower T.m_Tower_length G_Tower_length hr (b_Tower_length T) .nil pass0) T.k_Tower T.m_Tower_small G_Tower_small hr (b_Tower_small T) .nil pass0) (pa_cons (pe_call G__law_size hr rfl T.g__law_size T.d__law_size.kp (b__law_size T) .nil pass0 (pa_cons (pv 1) pa_nil)) pa_nil)))))
      (pss_one (ps_ret pe_bl))
      pss_nil)
    (pss_one (ps_ret (pe_callB (cr_all rfl) (by rfl) T.f_all (by decide +kernel) (pa_cons (pe_lc (own := [("_law_m", 2)]) rfl sc__law_is.nd (pi_list (pe_lst (pa_cons pe_int (pa_cons pe_int (pa_cons pe_int (pa_cons pe_int (pa_cons pe_int (pa_cons pe_int (pa_cons pe_int pa_nil))))))))) (blkOk_by (own := [("_law_m", 2)]) (N := n__law_is) (sc := defScope s__law_is) (by decide +kernel)) (fun _ _ _ _ _ => (pg_name (i := 2) sc__law_is.nd rfl (Or.inl rfl) (hf := by first | exact Or.inl rfl | exact Or.inr rfl))) (fun _ _ _ _ _ => pts_nil) (fun _ _ _ _ _ => (pe_call G__law_same hr rfl T.g__law_same T.d__law_same.kp (b__law_same T) .nil pass0 (pa_cons (pe_op (PW.op_ownB T.o_Tower___mod__ G_Tower___mod__ hr (b_Tower___mod__ T) pass0) (pv 0) (pv 2)) (pa_cons (pe_op op_mod (pe_callTy call_intN (by rfl) T.f_int (by decide +kernel) (pa_cons (pv 1) pa_nil)) (pv 2)) pa_nil))))) pa_nil)))))))), ?_⟩
    show tSeq _ _ _ [some (V.ref a), some (V.int v), none] H
    walk_at "K"
    refine r_seqP (fun σ' H' => σ' = [some (V.ref a), some (V.int v), none] ∧ Ex H H') ?_ ?_
    · rintro σ' H1 ⟨rfl, x1⟩
      refine r_seqP (fun σ' H' => σ' = [some (V.ref a), some (V.int v), none] ∧ Ex H H') ?_ ?_
      · rintro σ' H2 ⟨rfl, x2⟩
        obtain ⟨dx, fl, fp, fs, hri⟩ := (ha.ex x2).ins'
        walk_at "go"
        refine ⟨a, S, v, rfl, ha.ex x2, hS, fun r H3 x3 hr3 => ?_⟩
        obtain ⟨dx3, fl3, fp3, fs3, hri3⟩ := hr3.ins'
        walk_at "go"
        refine ⟨cap, r, _, _, _, rfl, hr3, fun H4 x4 => ?_⟩
        have hlv : smallV (lgv v) = .int (lgv v) := by
          unfold smallV
          have h1 : bt v ≤ 100000 := bt_le.mpr hv
          have h2 : (lgv v).natAbs ≤ 100000 := by
            unfold lgv
            split <;> omega
          rw [if_pos (Nat.lt_of_le_of_lt h2 (by decide))]
        rw [hlv]
        walk_at "go"
        refine ⟨v, rfl, ?_⟩
        walk_at "go"
        refine ⟨_, _, rfl, Sm.flat rfl, fun H5 x5 => ?_⟩
        have x05 := ((x2.trans x3).trans x4).trans x5
        walk_at "go"
        intro l hl
        walk_at "go"
        intro D hD
        have x0l : Ex H (L2.upd H5 l (.lst [V.int 1000, V.int 997, V.int 991, V.int 983, V.int 977, V.int 971, V.int 729])) := x05.trans (Ex.new hl)
        have hll : SqL K (L2.upd H5 l (.lst [V.int 1000, V.int 997, V.int 991, V.int 983, V.int 977, V.int 971, V.int 729])) l [V.int 1000, V.int 997, V.int 991, V.int 983, V.int 977, V.int 971, V.int 729] := SqL.of upd_same
        generalize L2.upd H5 l (.lst [V.int 1000, V.int 997, V.int 991, V.int 983, V.int 977, V.int 971, V.int 729]) = H6 at x0l hll hD ⊢
        refine lc_grow (walk_list (xs := [V.int 1000, V.int 997, V.int 991, V.int 983, V.int 977, V.int 971, V.int 729])) (σw := [some (V.ref a), some (V.int v), none]) rfl (fun _ _ v => v = .bl true) hD (by decide) (fun _ x => x.lst hll) (fun _ _ _ _ _ h => h) ?_ ?_
        · rintro i x Ha Hb acc R hi xa hacc ⟨rfl, hx⟩ hR
          obtain ⟨m, rfl, hm1, hm2⟩ := mods_mem hx
          have hab := ha.ex (x0l.trans xa)
          have hm0 : (0 : Int) < (m : Nat) := by omega
          walk_at "go"
          refine ⟨rfl, ?_⟩
          walk_at "go"
          refine rOwn_num (u := (m : Int)) rfl hab (NumV.int hd) ?_
          refine ⟨a, S, v, m, rfl, hab, hS, hm1, hm2, by have : S.s ≤ 1200 := hS.s; omega, fun Hc xc => ?_⟩
          walk_at "go"
          refine ⟨_, _, rfl, Sm.flat rfl, fun Hd xd => ?_⟩
          exact hR _ _ rfl (xc.trans xd)
        · intro Hc acc xc hacc hlen2 hb
          walk_at "go"
          refine r_all (bs := List.replicate acc.length true) (SqL.of (by rw [hacc, ← all_true (fun i v e => hb i v e)])) ?_
          rw [replicate_all]
          exact q _ (x0l.trans xc)
      · intro N hN
        obtain ⟨dx, fl, fp, fs, hri⟩ := (ha.ex x1).ins'
        walk_at "go"
        refine ⟨cap, a, d, S, v, rfl, ha.ex x1, fun H3 x3 => ?_⟩
        walk_at "go"
        rw [abs_int]
        have e64 : (2 : Int) ^ Int.toNat 64 = 18446744073709551616 := by decide
        rw [e64]
        generalize hB : (18446744073709551616 : Int) = B
        refine r_if2 (fun e => ?_) (fun e => ?_)
        · have h1 : v.natAbs < 2 ^ 64 := by
            have := of_decide_eq_true e
            omega
          have e1 : smallV v = .int v := by
            unfold smallV
            rw [if_pos h1]
          rw [e1]
          walk_at "go"
          refine ⟨_, _, rfl, Sm.flat rfl, fun H4 x4 => ?_⟩
          walk_at "go"
          exact hN _ _ ⟨rfl, (x1.trans x3).trans x4⟩
        · have h1 : ¬ v.natAbs < 2 ^ 64 := by
            have := of_decide_eq_false e
            omega
          have e1 : smallV v = .non := by
            unfold smallV
            rw [if_neg h1]
          rw [e1]
          walk_at "go"
          refine ⟨_, _, rfl, Sm.flat rfl, fun H4 x4 => ?_⟩
          walk_at "go"
          exact hN _ _ ⟨rfl, (x1.trans x3).trans x4⟩
    · intro N hN
      obtain ⟨dx, fl, fp, fs, hri⟩ := ha.ins'
      have ty := ty_ins T.i_Tower hri
      have k1 := T.i_Tower.me
      walk_at "go"
      refine ⟨cap, a, d, S, v, rfl, ha, fun H1 x1 => ?_⟩
      walk_at "go"
      refine ⟨v, rfl, ?_⟩
      walk_at "go"
      refine ⟨_, _, rfl, Sm.flat rfl, fun H2 x2 => ?_⟩
      walk_at "go"
      exact hN _ _ ⟨rfl, x1.trans x2⟩
end
end PW
/-! ### conditions -/
namespace PW
open PySem PySem.Spec PyProof.Rows L2
inductive Cd where
  | tru
  | neg (c : Cd)
  | con (a b : Cd)
  | dis (a b : Cd)
  | less (s t : Tm)
  | equ (s t : Tm)
  | res (t : Tm) (m r : Int)
namespace Cd
def dep : Cd → Nat
  | .neg c => 1 + dep c
  | .con a b => 1 + max (dep a) (dep b)
  | .dis a b => 1 + max (dep a) (dep b)
  | _ => 1
/-- the comparisons, in the order of the text -/
def atoms : Cd → List Cd
  | .tru => []
  | .neg c => atoms c
  | .con a b => atoms a ++ atoms b
  | .dis a b => atoms a ++ atoms b
  | .less s t => [.less s t]
  | .equ s t => [.equ s t]
  | .res t m r => [.res t m r]
/-- the terms of a comparison -/
def tms : Cd → List Tm
  | .less s t => [s, t]
  | .equ s t => [s, t]
  | .res t _ _ => [t]
  | _ => []
def isAtom : Cd → Bool
  | .less _ _ => true
  | .equ _ _ => true
  | .res _ _ _ => true
  | _ => false
def word : Cd → Str
  | .tru => "true"
  | .neg _ => "not"
  | .con _ _ => "and"
  | .dis _ _ => "or"
  | .less _ _ => "less"
  | .equ _ _ => "equal"
  | .res _ _ _ => "rest"
def cost : Cd → Nat
  | .tru => 1
  | .neg c => 1 + cost c
  | .con a b => 1 + cost a + cost b
  | .dis a b => 1 + cost a + cost b
  | .less s t => 1 + s.cost + t.cost
  | .equ s t => 1 + s.cost + t.cost
  | .res t _ _ => 1 + t.cost
def ok : Cd → Prop
  | .tru => True
  | .neg c => ok c
  | .con a b => ok a ∧ ok b
  | .dis a b => ok a ∧ ok b
  | .less s t => s.okT ∧ t.okT
  | .equ s t => s.okT ∧ t.okT
  | .res t m r => t.okT ∧ 2 ≤ m ∧ m ≤ 12 ∧ 0 ≤ r ∧ r < m
def pd : Cd → PyData
  | .tru => .tuple [.str "true"]
  | .neg c => .tuple [.str "not", pd c]
  | .con a b => .tuple [.str "and", pd a, pd b]
  | .dis a b => .tuple [.str "or", pd a, pd b]
  | .less s t => .tuple [.str "less", s.pd, t.pd]
  | .equ s t => .tuple [.str "equal", s.pd, t.pd]
  | .res t m r => .tuple [.str "rest", t.pd, .int m, .int r]
/-- levels of all terms are at most n -/
def tdep (n : Nat) : Cd → Prop
  | .tru => True
  | .neg c => tdep n c
  | .con a b => tdep n a ∧ tdep n b
  | .dis a b => tdep n a ∧ tdep n b
  | .less s t => s.dep ≤ n ∧ t.dep ≤ n
  | .equ s t => s.dep ≤ n ∧ t.dep ≤ n
  | .res t _ _ => t.dep ≤ n
theorem dep_pos (c : Cd) : 1 ≤ c.dep := by
  cases c <;> (unfold dep; omega)
theorem cost_pos (c : Cd) : 1 ≤ c.cost := by
  cases c <;> (unfold cost; omega)
theorem pd_dict : ∀ c : Cd, c.pd.hasDict = false
  | .tru => rfl
  | .neg c => by simp [pd, PyData.hasDict, PyData.hasDictAll, pd_dict c]
  | .con a b => by simp [pd, PyData.hasDict, PyData.hasDictAll, pd_dict a, pd_dict b]
  | .dis a b => by simp [pd, PyData.hasDict, PyData.hasDictAll, pd_dict a, pd_dict b]
  | .less s t => by simp [pd, PyData.hasDict, PyData.hasDictAll, Tm.pd_dict]
  | .equ s t => by simp [pd, PyData.hasDict, PyData.hasDictAll, Tm.pd_dict]
  | .res t m r => by simp [pd, PyData.hasDict, PyData.hasDictAll, Tm.pd_dict]
theorem pd_depth {n : Nat} : ∀ c : Cd, c.tdep n → c.pd.depth ≤ c.dep + 2 * n
  | .tru, _ => by simp [pd, PyData.depth, PyData.depthAll, dep]
  | .neg c, h => by
    have := pd_depth c h
    simp only [pd, PyData.depth, PyData.depthAll, dep]
    omega
  | .con a b, h => by
    have := pd_depth a h.1
    have := pd_depth b h.2
    simp only [pd, PyData.depth, PyData.depthAll, dep]
    omega
  | .dis a b, h => by
    have := pd_depth a h.1
    have := pd_depth b h.2
    simp only [pd, PyData.depth, PyData.depthAll, dep]
    omega
  | .less s t, h => by
    have := Tm.pd_depth s
    have := Tm.pd_depth t
    have := h.1
    have := h.2
    simp only [pd, PyData.depth, PyData.depthAll, dep]
    omega
  | .equ s t, h => by
    have := Tm.pd_depth s
    have := Tm.pd_depth t
    have := h.1
    have := h.2
    simp only [pd, PyData.depth, PyData.depthAll, dep]
    omega
  | .res t m r, h => by
    have := Tm.pd_depth t
    have h : t.dep ≤ n := h
    simp only [pd, PyData.depth, PyData.depthAll, dep]
    omega
theorem showable : ∀ c : Cd, c.ok → c.pd.showable = true
  | .tru, _ => by decide
  | .neg c, h => by
    have := showable c h
    simp [pd, PyData.showable, PyData.showableAll, this]
  | .con a b, h => by
    have := showable a h.1
    have := showable b h.2
    simp [pd, PyData.showable, PyData.showableAll, *]
  | .dis a b, h => by
    have := showable a h.1
    have := showable b h.2
    simp [pd, PyData.showable, PyData.showableAll, *]
  | .less s t, h => by
    have := Tm.showable tmb s h.1
    have := Tm.showable tmb t h.2
    simp [pd, PyData.showable, PyData.showableAll, *]
  | .equ s t, h => by
    have := Tm.showable tmb s h.1
    have := Tm.showable tmb t h.2
    simp [pd, PyData.showable, PyData.showableAll, *]
  | .res t m r, h => by
    obtain ⟨h1, h2, h3, h4, h5⟩ := h
    have := Tm.showable tmb t h1
    have := log_small (show m.natAbs < 100 by omega) (by decide)
    have := log_small (show r.natAbs < 100 by omega) (by decide)
    simp [pd, PyData.showable, PyData.showableAll, *]
theorem shown_len : ∀ c : Cd, c.ok → c.pd.shown.length ≤ 48 * c.cost
  | .tru, _ => by
    have h3 := shown_tup [.str "true"]
    have h2 := Tm.w_len (z := "true") (n := 6)
    simp only [pd, PyData.shownAll, piled_cons, piled_nil, cost] at h3 ⊢
    omega
  | .neg c, h => by
    have := shown_len c h
    have h3 := shown_tup [.str "not", c.pd]
    have h2 := Tm.w_len (z := "not") (n := 6)
    simp only [pd, PyData.shownAll, piled_cons, piled_nil, cost] at h3 ⊢
    omega
  | .con a b, h => by
    have := shown_len a h.1
    have := shown_len b h.2
    have h3 := shown_tup [.str "and", a.pd, b.pd]
    have h2 := Tm.w_len (z := "and") (n := 6)
    simp only [pd, PyData.shownAll, piled_cons, piled_nil, cost] at h3 ⊢
    omega
  | .dis a b, h => by
    have := shown_len a h.1
    have := shown_len b h.2
    have h3 := shown_tup [.str "or", a.pd, b.pd]
    have h2 := Tm.w_len (z := "or") (n := 6)
    simp only [pd, PyData.shownAll, piled_cons, piled_nil, cost] at h3 ⊢
    omega
  | .less s t, h => by
    have := Tm.shown_len tmb s h.1
    have := Tm.shown_len tmb t h.2
    have h3 := shown_tup [.str "less", s.pd, t.pd]
    have h2 := Tm.w_len (z := "less") (n := 6)
    simp only [pd, PyData.shownAll, piled_cons, piled_nil, cost] at h3 ⊢
    omega
  | .equ s t, h => by
    have := Tm.shown_len tmb s h.1
    have := Tm.shown_len tmb t h.2
    have h3 := shown_tup [.str "equal", s.pd, t.pd]
    have h2 := Tm.w_len (z := "equal") (n := 7)
    simp only [pd, PyData.shownAll, piled_cons, piled_nil, cost] at h3 ⊢
    omega
  | .res t m r, h => by
    obtain ⟨h1, h2, h3, h4, h5⟩ := h
    have := Tm.shown_len tmb t h1
    have i1 := shown_int (show m.natAbs < 10 ^ 10 by omega)
    have i2 := shown_int (show r.natAbs < 10 ^ 10 by omega)
    have h3 := shown_tup [.str "rest", t.pd, .int m, .int r]
    have h2 := Tm.w_len (z := "rest") (n := 6)
    simp only [pd, PyData.shownAll, piled_cons, piled_nil, cost] at h3 ⊢
    omega
theorem atoms_atom : ∀ c : Cd, ∀ a ∈ c.atoms, a.isAtom = true
  | .tru, a, h => nomatch h
  | .neg c, a, h => atoms_atom c a h
  | .con x y, a, h => (List.mem_append.mp h).elim (atoms_atom x a) (atoms_atom y a)
  | .dis x y, a, h => (List.mem_append.mp h).elim (atoms_atom x a) (atoms_atom y a)
  | .less s t, a, h => by
    rw [List.mem_singleton.mp h]
    rfl
  | .equ s t, a, h => by
    rw [List.mem_singleton.mp h]
    rfl
  | .res t m r, a, h => by
    rw [List.mem_singleton.mp h]
    rfl
end Cd
/-- the tuple of a condition -/
def CdRow (R : V → Cd → Prop) (S : V → Tm → Prop) (xs : List V) : Cd → Prop
  | .tru => xs = [.str "true"]
  | .neg c => ∃ x, xs = [.str "not", x] ∧ R x c
  | .con a b => ∃ x y, xs = [.str "and", x, y] ∧ R x a ∧ R y b
  | .dis a b => ∃ x y, xs = [.str "or", x, y] ∧ R x a ∧ R y b
  | .less s t => ∃ x y, xs = [.str "less", x, y] ∧ S x s ∧ S y t
  | .equ s t => ∃ x y, xs = [.str "equal", x, y] ∧ S x s ∧ S y t
  | .res t m r => ∃ x, xs = [.str "rest", x, .int m, .int r] ∧ S x t
/-- v is the condition c, of at most d levels, its terms of at most e -/
def IsCd (K : PySem.W.Frag) (H : Hp) (e : Nat) : Nat → V → Cd → Prop
  | 0, _, _ => False
  | d + 1, v, c => ∃ p xs, v = .ref p ∧ H p = some (.tup xs) ∧ CdRow (IsCd K H e d) (IsTm K H e) xs c
theorem CdRow.imp {R R' : V → Cd → Prop} {S S' : V → Tm → Prop} {xs : List V} {c : Cd} (h : ∀ x a, R x a → R' x a) (g : ∀ x a, S x a → S' x a) (r : CdRow R S xs c) : CdRow R' S' xs c := by
  cases c with
  | tru => exact r
  | neg c => obtain ⟨x, e, e1⟩ := r; exact ⟨x, e, h _ _ e1⟩
  | con a b => obtain ⟨x, y, e, e1, e2⟩ := r; exact ⟨x, y, e, h _ _ e1, h _ _ e2⟩
  | dis a b => obtain ⟨x, y, e, e1, e2⟩ := r; exact ⟨x, y, e, h _ _ e1, h _ _ e2⟩
  | less a b => obtain ⟨x, y, e, e1, e2⟩ := r; exact ⟨x, y, e, g _ _ e1, g _ _ e2⟩
  | equ a b => obtain ⟨x, y, e, e1, e2⟩ := r; exact ⟨x, y, e, g _ _ e1, g _ _ e2⟩
  | res t m r2 => obtain ⟨x, e, e1⟩ := r; exact ⟨x, e, g _ _ e1⟩
theorem CdRow.head {R : V → Cd → Prop} {S : V → Tm → Prop} {xs : List V} {c : Cd} (h : CdRow R S xs c) : ∃ r, xs = .str c.word :: r := by
  cases c with
  | tru => exact ⟨_, h⟩
  | neg c => obtain ⟨x, e, _⟩ := h; exact ⟨_, e⟩
  | res t m r => obtain ⟨x, e, _⟩ := h; exact ⟨_, e⟩
  | _ => obtain ⟨x, y, e, _⟩ := h; exact ⟨_, e⟩
theorem IsCd.ex {K : PySem.W.Frag} {H H' : Hp} {e : Nat} (x : Ex H H') : ∀ {d : Nat} {v : V} {c : Cd}, IsCd K H e d v c → IsCd K H' e d v c
  | 0, _, _, h => h.elim
  | d + 1, v, c, h => by
    obtain ⟨p, xs, e, h1, h2⟩ := h
    exact ⟨p, xs, e, x _ _ h1, h2.imp (fun _ _ z => IsCd.ex x z) fun _ _ z => z.ex x⟩
theorem IsCd.up {K : PySem.W.Frag} {H : Hp} {e e' : Nat} (he : e ≤ e') : ∀ {d d' : Nat} {v : V} {c : Cd}, d ≤ d' → IsCd K H e d v c → IsCd K H e' d' v c
  | 0, _, _, _, _, h => h.elim
  | d + 1, 0, _, _, z, _ => absurd z (by omega)
  | d + 1, d' + 1, v, c, z, h => by
    obtain ⟨p, xs, e1, h1, h2⟩ := h
    exact ⟨p, xs, e1, h1, h2.imp (fun _ _ z => IsCd.up he (by omega) z) fun _ _ z => z.up he⟩
theorem IsCd.mk {K : PySem.W.Frag} {H : Hp} {e d : Nat} {p : Addr} {xs : List V} {c : Cd} (h : H p = some (.tup xs)) (r : CdRow (IsCd K H e d) (IsTm K H e) xs c) : IsCd K H e (d + 1) (.ref p) c := ⟨p, xs, rfl, h, r⟩
theorem IsCd.ref {K : PySem.W.Frag} {H : Hp} {e : Nat} : ∀ {d : Nat} {v : V} {c : Cd}, IsCd K H e d v c → ∃ p, v = .ref p
  | 0, _, _, h => h.elim
  | _ + 1, _, _, ⟨p, _, e, _⟩ => ⟨p, e⟩
theorem IsCd.depth {K : PySem.W.Frag} {H : Hp} {e : Nat} : ∀ {d : Nat} {v : V} {c : Cd}, IsCd K H e d v c → c.dep ≤ d
  | 0, _, _, h => h.elim
  | d + 1, v, c, h => by
    obtain ⟨p, xs, e1, h1, h2⟩ := h
    cases c with
    | neg c =>
      obtain ⟨x, _, e2⟩ := h2
      have := IsCd.depth e2
      simp only [Cd.dep]
      omega
    | con a b =>
      obtain ⟨x, y, _, e2, e3⟩ := h2
      have := IsCd.depth e2
      have := IsCd.depth e3
      simp only [Cd.dep]
      omega
    | dis a b =>
      obtain ⟨x, y, _, e2, e3⟩ := h2
      have := IsCd.depth e2
      have := IsCd.depth e3
      simp only [Cd.dep]
      omega
    | _ =>
      simp only [Cd.dep]
      omega
theorem IsCd.tdep {K : PySem.W.Frag} {H : Hp} {e : Nat} : ∀ {d : Nat} {v : V} {c : Cd}, IsCd K H e d v c → c.tdep e
  | 0, _, _, h => h.elim
  | d + 1, v, c, h => by
    obtain ⟨p, xs, e1, h1, h2⟩ := h
    cases c with
    | tru => trivial
    | neg c =>
      obtain ⟨x, _, e2⟩ := h2
      exact IsCd.tdep (c := c) e2
    | con a b =>
      obtain ⟨x, y, _, e2, e3⟩ := h2
      exact ⟨IsCd.tdep e2, IsCd.tdep e3⟩
    | dis a b =>
      obtain ⟨x, y, _, e2, e3⟩ := h2
      exact ⟨IsCd.tdep e2, IsCd.tdep e3⟩
    | less a b =>
      obtain ⟨x, y, _, e2, e3⟩ := h2
      exact ⟨e2.depth, e3.depth⟩
    | equ a b =>
      obtain ⟨x, y, _, e2, e3⟩ := h2
      exact ⟨e2.depth, e3.depth⟩
    | res t m r =>
      obtain ⟨x, _, e2⟩ := h2
      exact e2.depth
theorem IsCd.dat {K : PySem.W.Frag} {H : Hp} {e : Nat} : ∀ {d : Nat} {v : V} {c : Cd}, IsCd K H e d v c → Dp K H v c.pd
  | 0, _, _, h => h.elim
  | d + 1, v, c, h => by
    obtain ⟨p, xs, rfl, h1, h2⟩ := h
    cases c with
    | tru =>
      have h2 : xs = _ := h2
      subst h2
      exact .tup (SqT.of h1) (.cons (.str _) .nil)
    | neg c =>
      obtain ⟨x, rfl, e2⟩ := h2
      exact .tup (SqT.of h1) (.cons (.str _) (.cons (IsCd.dat e2) .nil))
    | con a b =>
      obtain ⟨x, y, rfl, e2, e3⟩ := h2
      exact .tup (SqT.of h1) (.cons (.str _) (.cons (IsCd.dat e2) (.cons (IsCd.dat e3) .nil)))
    | dis a b =>
      obtain ⟨x, y, rfl, e2, e3⟩ := h2
      exact .tup (SqT.of h1) (.cons (.str _) (.cons (IsCd.dat e2) (.cons (IsCd.dat e3) .nil)))
    | less a b =>
      obtain ⟨x, y, rfl, e2, e3⟩ := h2
      exact .tup (SqT.of h1) (.cons (.str _) (.cons e2.dat (.cons e3.dat .nil)))
    | equ a b =>
      obtain ⟨x, y, rfl, e2, e3⟩ := h2
      exact .tup (SqT.of h1) (.cons (.str _) (.cons e2.dat (.cons e3.dat .nil)))
    | res t m r =>
      obtain ⟨x, rfl, e2⟩ := h2
      exact .tup (SqT.of h1) (.cons (.str _) (.cons e2.dat (.cons (.int _) (.cons (.int _) .nil))))
def Cd.anms (a : Cd) : List Str := Tm.nmss a.tms
/-- the names of some comparisons -/
def cnmss : List Cd → List Str
  | [] => []
  | a :: r => a.anms ++ cnmss r
def Cd.cnms (c : Cd) : List Str := cnmss c.atoms
theorem cnmss_get {as : List Cd} {i : Nat} {a : Cd} (h : as[i]? = some a) : cnmss (as.take (i + 1)) = cnmss (as.take i) ++ a.anms := by
  induction as generalizing i with
  | nil => cases h
  | cons b r ih =>
    cases i with
    | zero =>
      injection h with h
      subst h
      simp [cnmss]
    | succ i =>
      have := ih (i := i) (by simpa using h)
      simp only [List.take_succ_cons, cnmss, this, List.append_assoc]
theorem cnmss_take {l : List Cd} : ∀ {k : Nat}, (cnmss (l.take k)).length ≤ (cnmss l).length := by
  induction l with
  | nil => intro k; simp
  | cons a r ih =>
    intro k
    cases k with
    | zero => simp [cnmss]
    | succ k =>
      have := ih (k := k)
      simp only [List.take_succ_cons, cnmss, List.length_append]
      omega
end PW
/-! ### tables joined, names looked for -/
namespace PW
open PySem PySem.Spec PyProof.Rows L2
/-- what a dict joined out of b over a tells -/
theorem valV_merge {a b : List (Key × V)} (nd : (b.map (·.1)).Nodup) (k : Key) : valV (mergeK a b) k = match valV b k with | some v => some v | none => valV a k := by
  induction b generalizing a with
  | nil => rfl
  | cons p r ih =>
    have nd1 : ¬ p.1 ∈ r.map (·.1) := (List.nodup_cons.mp nd).1
    have nd2 := (List.nodup_cons.mp nd).2
    show valV (mergeK (putK a p.1 p.2) r) k = _
    rw [ih nd2, valV_put]
    by_cases e : p.1 = k
    · rw [valV_pos e, if_pos e.symm]
      have hn : valV r k = none := by
        rw [← Option.not_isSome_iff_eq_none, ← valV_any, List.any_eq_true]
        rintro ⟨q, hq, e2⟩
        exact nd1 (List.mem_map.mpr ⟨q, hq, (of_decide_eq_true e2).trans e.symm⟩)
      rw [hn]
    · rw [valV_neg e, if_neg (fun z => e z.symm)]
theorem nodup_put {a : List (Key × V)} {k : Key} {v : V} (h : (a.map (·.1)).Nodup) : ((putK a k v).map (·.1)).Nodup := by
  by_cases e : (valV a k).isSome = true
  · unfold putK
    rw [valV_any, if_pos e]
    have : (a.map (fun kv => if kv.1 = k then (kv.1, v) else kv)).map (·.1) = a.map (·.1) := by
      rw [List.map_map]
      exact List.map_congr_left fun x _ => by
        show (if x.1 = k then (x.1, v) else x).1 = x.1
        split <;> rfl
    rw [this]
    exact h
  · have hn : valV a k = none := Option.not_isSome_iff_eq_none.mp e
    rw [putK_new v hn, List.map_append]
    refine List.nodup_append.mpr ⟨h, (by simp), fun x hx y hy z => ?_⟩
    obtain rfl : y = k := List.mem_singleton.mp hy
    subst z
    obtain ⟨q, hq, e2⟩ := List.mem_map.mp hx
    refine e ?_
    rw [← valV_any, List.any_eq_true]
    exact ⟨q, hq, decide_eq_true e2⟩
theorem nodup_merge {b : List (Key × V)} : ∀ {a : List (Key × V)}, (a.map (·.1)).Nodup → ((mergeK a b).map (·.1)).Nodup := by
  induction b with
  | nil => intro a h; exact h
  | cons p r ih => intro a h; exact ih (nodup_put h)
theorem valV_mm {f t : List (Key × V)} (n1 : (f.map (·.1)).Nodup) (n2 : (t.map (·.1)).Nodup) (k : Key) : valV (mergeK (mergeK [] f) t) k = match valV t k with | some v => some v | none => valV f k := by
  rw [valV_merge n2, valV_merge n1]
  cases valV t k <;> cases valV f k <;> rfl
/-- tables joined, the later over the earlier -/
def mrgT (ts : List (List (Key × V))) : List (Key × V) := ts.foldl (fun f t => mergeK (mergeK [] f) t) []
theorem mrgT_take {ts : List (List (Key × V))} {i : Nat} {t : List (Key × V)} (h : ts[i]? = some t) : mrgT (ts.take (i + 1)) = mergeK (mergeK [] (mrgT (ts.take i))) t := by
  unfold mrgT
  rw [List.take_add_one, h, List.foldl_append]
  rfl
theorem mm_len (f t : List (Key × V)) : (mergeK (mergeK [] f) t).length ≤ f.length + t.length := by
  have h1 := length_mergeK t (mergeK [] f)
  have h2 := length_mergeK f []
  simp only [List.length_nil] at h2
  omega
theorem mrgT_len {ts : List (List (Key × V))} {n : Nat} (h : ∀ t ∈ ts, t.length ≤ n) : (mrgT ts).length ≤ ts.length * n := by
  suffices g : ∀ (ts : List (List (Key × V))) (f : List (Key × V)), (∀ t ∈ ts, t.length ≤ n) → (ts.foldl (fun f t => mergeK (mergeK [] f) t) f).length ≤ f.length + ts.length * n by
    have := g ts [] h
    rw [List.length_nil, Nat.zero_add] at this
    exact this
  intro ts
  induction ts with
  | nil => intro f _; simp
  | cons t r ih =>
    intro f hh
    have h1 := ih (mergeK (mergeK [] f) t) fun x hx => hh x (List.mem_cons_of_mem _ hx)
    have h2 := mm_len f t
    have h3 := hh t List.mem_cons_self
    simp only [List.foldl_cons, List.length_cons, Nat.succ_mul]
    omega
theorem r_disp2 {σ : L2.St} {H : Hp} {Q : VK} {i j : Nat} {a b : Addr} {k1 k2 : List (Key × V)} (hi : σ[i]? = some (some (.ref a))) (hj : σ[j]? = some (some (.ref b))) (ha : H a = some (.dK k1)) (hb : H b = some (.dK k2)) (l1 : k1.length ≤ 1000000) (l2 : k2.length ≤ 1000000)
    (q : ∀ p H', H p = none → Ex H H' → H' p = some (.dK (mergeK (mergeK [] k1) k2)) → Q (.ref p) H') : tDisp2 (tVar i) (tVar j) σ H Q := by
  intro p hp
  have na : p ≠ a := (ne_of_none ha hp).symm
  have nb : p ≠ b := (ne_of_none hb hp).symm
  refine ⟨_, hi, upd_same, a, k1, rfl, na, .inl ?_, l1, _, hj, upd_same, b, k2, rfl, nb, .inl ?_, l2, q p _ hp ?_ upd_same⟩
  · rw [upd_ne (Ne.symm na)]
    exact ha
  · rw [upd_ne (Ne.symm nb), upd_ne (Ne.symm nb)]
    exact hb
  · intro c o hc
    have n := ne_of_none hc hp
    rw [upd_ne n, upd_ne n, upd_ne n]
    exact hc
def spMerged : Sp := fun vs H Q _ => ∃ p q as ts more, vs = [.ref p, .ref q] ∧ H p = some (.tup (as.map V.ref)) ∧ Paired (fun a t => H a = some (.dK t)) as ts ∧ H q = some (.dK more) ∧ ts.length ≤ 100 ∧ (∀ t ∈ ts, t.length ≤ 1000) ∧ more.length ≤ 1000 ∧
  ∀ r H', Ex H H' → H r = none → H' r = some (.dK (mergeK (mergeK [] (mrgT ts)) more)) → Q (.ref r) H'
def spNeed : Sp := fun vs H Q _ => ∃ a b tb kvs, ∃ ns : List Str, vs = [.ref a, .ref b, .ref tb] ∧ H a = some (.lst (ns.map V.str)) ∧ H b = some (.lst []) ∧ H tb = some (.dK kvs) ∧ (∀ z ∈ ns, ∃ x, valV kvs (.inr z) = some x) ∧ Q .non H
section
variable {P : Program} {w : World} {K : PySem.W.Frag} {mg : Str → Option Value} {base : Heap}
theorem ok_merged (T : Txt K mg) : FnOk P w K mg base CX0 (1) (He.ga K "merged") (fdOf K (He.ga K "merged")) p_merged (spMerged) := by
  refine FunD.ok T.d_merged sc_merged (fun vs H Q E h => ?_) (fun cdv A outer s H vs Q E hr h => ?_)
  · obtain ⟨p, q, as, ts, more, rfl, _⟩ := h
    rfl
  · obtain ⟨p, q, as, ts, more, rfl, hp, hts, hq, l1, l2, l3, hQ⟩ := h
    refine ⟨_, PSs.nox ((pss_cons (ps_set (i := 2) sc_merged.nd rfl (Or.inl rfl) pe_dnewK)
    (pss_cons (ps_for PassesOwn.never rfl (pi_tup (pv 0)) (pg_name (i := 3) sc_merged.nd rfl (Or.inl rfl) (hf := by first | exact Or.inl rfl | exact Or.inr rfl))
      (pss_one (ps_set (i := 2) sc_merged.nd rfl (Or.inl rfl) (PW.pe_disp2 (pv 2) (pv 3)))))
    (pss_one (ps_ret (PW.pe_disp2 (pv 2) (pv 1))))))), ?_⟩
    show tSeq _ _ _ [some (.ref p), some (.ref q), none, none] H
    walk_at "K"
    intro d hd
    walk_at "go"
    have x1 := Ex.new (o := .dK []) hd
    refine for_it (walk_tup (xs := as.map V.ref)) (fun i σ H' => ∃ f y, σ = [some (.ref p), some (.ref q), some (.ref f), y] ∧ Ex H H' ∧ H f = none ∧ H' f = some (.dK (mrgT (ts.take i)))) ⟨d, _, rfl, x1, hd, by rw [List.take_zero]; exact upd_same⟩ (fun i σ H' _ h => ?_) ?_ ?_
    · obtain ⟨f, y, _, x, _⟩ := h
      exact SqT.of (x _ _ hp)
    · rintro i x σ H2 H2' hi ⟨f, y, rfl, x2, hf, hf2⟩ ⟨rfl, hx⟩
      rw [List.getElem?_map] at hx
      obtain ⟨a, ha, rfl⟩ := Option.map_eq_some_iff.mp hx
      obtain ⟨t, ht, hat⟩ := pr_get hts ha
      have e1 := mrgT_take ht
      have lt := l2 t (List.mem_of_getElem? ht)
      have lm := mrgT_len (ts := ts.take i) (n := 1000) fun u hu => l2 u (List.mem_of_mem_take hu)
      have ll : (ts.take i).length ≤ 100 := by
        rw [List.length_take]
        omega
      walk_at "go"
      refine r_disp2 rfl rfl hf2 (x2 _ _ hat) (by omega) (by omega) fun r H3 hr0 x3 h3 => ?_
      walk_at "go"
      refine ⟨r, _, rfl, x2.trans x3, ?_, ?_⟩
      · cases z : H r with
        | none => rfl
        | some o =>
          have := x2 _ _ z
          rw [hr0] at this
          cases this
      · rw [e1]
        exact h3
    · rintro σ H2 ⟨f, y, rfl, x2, hf, hf2⟩
      have e1 := pr_len hts
      rw [List.length_map, e1, List.take_length] at hf2
      have lm := mrgT_len (ts := ts) (n := 1000) l2
      walk_at "go"
      refine r_disp2 rfl rfl hf2 (x2 _ _ hq) (by omega) (by omega) fun r H3 hr0 x3 h3 => ?_
      refine hQ r H3 (x2.trans x3) ?_ h3
      cases z : H r with
      | none => rfl
      | some o =>
        have := x2 _ _ z
        rw [hr0] at this
        cases this
theorem ok_need_known (T : Txt K mg) : FnOk P w K mg base CX0 (1) (He.ga K "need_known") (fdOf K (He.ga K "need_known")) p_need_known (spNeed) := by
  refine FunD.ok T.d_need_known sc_need_known (fun vs H Q E h => ?_) (fun cdv A outer s H vs Q E hr h => ?_)
  · obtain ⟨a, b, tb, kvs, ns, rfl, _⟩ := h
    rfl
  · obtain ⟨a, b, tb, kvs, ns, rfl, ha, hb, htb, hk, hQ⟩ := h
    refine ⟨_, PSs.nox ((pss_cons (ps_for PassesOwn.never rfl (pi_list (pv 0)) (pg_name (i := 3) sc_need_known.nd rfl (Or.inl rfl) (hf := by first | exact Or.inl rfl | exact Or.inr rfl))
      (pss_one (ps_if (pt_cmp (pc_dnotin (hu_of hr) (pv 3) (pv 2)))
          (pss_one ps_never)
          pss_nil)))
    (pss_one (ps_for PassesOwn.never rfl (pi_list (pv 1)) (pg_name (i := 3) sc_need_known.nd rfl (Or.inl rfl) (hf := by first | exact Or.inl rfl | exact Or.inr rfl))
      (pss_one ps_never))))), ?_⟩
    show tSeq _ _ _ [some (.ref a), some (.ref b), some (.ref tb), none] H
    walk_at "K"
    walk_at "go"
    refine for_it (walk_list (xs := ns.map V.str)) (fun i σ H' => ∃ y, σ = [some (.ref a), some (.ref b), some (.ref tb), y] ∧ H' = H) ⟨_, rfl, rfl⟩ (fun i σ H' _ h => ?_) ?_ ?_
    · obtain ⟨y, _, rfl⟩ := h
      exact SqL.of ha
    · rintro i x σ H2 H2' hi ⟨y, rfl, rfl⟩ ⟨rfl, hx⟩
      rw [List.getElem?_map] at hx
      obtain ⟨z, hz, rfl⟩ := Option.map_eq_some_iff.mp hx
      obtain ⟨x, hx⟩ := hk z (List.mem_of_getElem? hz)
      have g := DGet.k (k := (.inr z : Key)) htb
      rw [hx] at g
      walk_at "go"
      refine ⟨_, rfl, _, rfl, tb, some x, rfl, g, ?_⟩
      walk_at "go"
      exact ⟨_, rfl, rfl⟩
    · rintro σ H2 ⟨y, rfl, rfl⟩
      walk_at "go"
      refine for_it (walk_list (xs := ([] : List V))) (fun i σ H' => (∃ y, σ = [some (.ref a), some (.ref b), some (.ref tb), y]) ∧ H' = H2) ⟨⟨_, rfl⟩, rfl⟩ (fun i σ H' _ h => ?_) ?_ ?_
      · obtain ⟨_, rfl⟩ := h
        exact SqL.of hb
      · rintro i x σ H3 H3' hi ⟨_, rfl⟩ ⟨rfl, hx⟩
        cases hx
      · rintro σ H3 ⟨⟨y, rfl⟩, rfl⟩
        walk_at "go"
        exact hQ
end
end PW
/-! ### defs with *tables, **more, called with keywords -/
namespace PySem
section
variable {prog : Program} {w : World} {A : Around} {E : Value → Shared → Prop} {s : Shared}
/-- a new name put into a dict of names -/
theorem wpAny_nsSet_new {a : Addr} {kvs : List (L2.Key × Value)} {name : Str} {v : Value} {Q : Unit → Shared → Prop} (hm : s.heap.DictOf (L2.mixKind prog w) a kvs) (hs : ∀ q ∈ kvs, ∃ x, q.1 = Sum.inr x) (hn : ¬ (Sum.inr name : L2.Key) ∈ kvs.map (·.1))
    (hQ : ∀ h', h'.DictOf (L2.mixKind prog w) a (kvs ++ [(Sum.inr name, v)]) → Heap.SameBut a s.heap h' → Q () { s with heap := h', toks := s.toks + 1 }) : wpAny (model prog w) A (nsSet a name v) Q E s := by
  obtain ⟨o, es, ep, ho, hx, hd, hk, hp, hnd⟩ := hm
  have hes : ∀ (es : List DictEntry) (kvs : List (L2.Key × Value)), Pairs (L2.mixKind prog w) es kvs → (∀ q ∈ kvs, ∃ x, q.1 = Sum.inr x) → ¬ (Sum.inr name : L2.Key) ∈ kvs.map (·.1) → ∀ e ∈ es, (∃ n t, e.key = .str n t) ∧ e.key.isStr name = false := by
    intro es kvs hp
    induction hp with
    | nil => intro _ _ e he; exact nomatch he
    | @cons e kv es kvs h1 h2 h3 ih =>
      intro hs hn e' he'
      rcases List.mem_cons.mp he' with rfl | he'
      · obtain ⟨x, hx⟩ := hs kv List.mem_cons_self
        rw [hx] at h1
        obtain ⟨t, ht⟩ := Value.isStrOf_shape (x := x) (v := e'.key) h1
        refine ⟨⟨x, t, ht⟩, ?_⟩
        rw [ht]
        show (x == name) = false
        refine beq_eq_false_iff_ne.mpr fun z => hn ?_
        rw [← z, ← hx]
        exact List.mem_map.mpr ⟨kv, List.mem_cons_self, rfl⟩
      · exact ih (fun q hq => hs q (List.mem_cons_of_mem _ hq)) (fun z => hn (by rw [List.map_cons]; exact List.mem_cons_of_mem _ z)) e' he'
  have hall := hes es.toList kvs hp hs hn
  have hany : es.any (·.refKey) = false := by
    rw [Array.any_eq_false']
    intro e he
    obtain ⟨⟨n, t, h⟩, _⟩ := hall e (Array.mem_toList_iff.mpr he)
    simp [DictEntry.refKey, h]
  have hi : es.findIdx? (·.key.isStr name) = none := by
    rw [Array.findIdx?_eq_none_iff]
    intro e he
    exact (hall e (Array.mem_toList_iff.mpr he)).2
  intro Γ p _
  simp only [nsSet, strHash, Sem.wp_bind', Sem.wp_cmd_ask, Sem.wp_pure', Sem.wp_cmd_mkText]
  rw [Sem.wp_loadPart_of (model prog w) Γ _ p { s with toks := s.toks + 1 } (o := o) _ ho]
  simp only [hd, aRefKeyMayBeTheName_eq, aRefKeyMayBeTheNameByArray, hany, Bool.and_false, Bool.false_eq_true, if_false, Sem.wp_cmd_updatePart]
  refine ⟨by rw [ho]; rfl, hQ _ ?_ (Heap.SameBut.update ..)⟩
  obtain ⟨c, d, dt, sl⟩ := o
  have hd : dt = _ := hd
  subst hd
  refine ⟨_, _, ep + 1, Heap.get?_update_self _ ho (by simp only [Obj.putName_eq, Obj.putNameByArray, hi]; rfl), ?_, by simp only [Obj.putName_eq, Obj.putNameByArray, hi]; rfl, ?_, ?_, ?_⟩
  · simp only [Obj.putName_eq, Obj.putNameByArray, hi]
    exact hx
  · exact hk.push (k := (Sum.inr name : L2.Key)) (key := .str name s.toks) (L2.keyIs_str name s.toks) v
  · rw [Array.toList_push]
    have app : ∀ (l : List DictEntry) (m : List (L2.Key × Value)), Pairs (L2.mixKind prog w) l m → ∀ e kv, (L2.mixKind prog w).is kv.1 e.key = true → e.val = kv.2 → Pairs (L2.mixKind prog w) (l ++ [e]) (m ++ [kv]) := by
      intro l m h
      induction h with
      | nil => intro e kv h1 h2; exact .cons h1 h2 .nil
      | cons h1 h2 _ ih => intro e kv h3 h4; exact .cons h1 h2 (ih e kv h3 h4)
    exact app _ _ hp _ (Sum.inr name, v) (L2.keyIs_str name s.toks) rfl
  · rw [List.map_append]
    refine List.nodup_append.mpr ⟨hnd, by simp, fun x hx y hy z => ?_⟩
    obtain rfl : y = Sum.inr name := List.mem_singleton.mp hy
    exact hn (z ▸ hx)
end
end PySem
namespace PW
open PySem PySem.Spec PyProof.Rows L2
/-- what a call with keywords has its dict tell -/
def kwD {α : Type} (ks : List Str) (zs : List α) : List (Key × α) := (ks.zip zs).map fun q => (Sum.inr q.1, q.2)
theorem kwD_keys {α : Type} : ∀ {ks : List Str} {zs : List α}, zs.length = ks.length → (kwD ks zs).map (·.1) = ks.map Sum.inr
  | [], [], _ => rfl
  | [], _ :: _, h => nomatch h
  | _ :: _, [], h => nomatch h
  | k :: ks, z :: zs, h => by
    have := kwD_keys (ks := ks) (zs := zs) (by simpa using h)
    show Sum.inr k :: (kwD ks zs).map (·.1) = _
    rw [this]
    rfl
theorem kwD_len {α : Type} {ks : List Str} {zs : List α} (h : zs.length = ks.length) : (kwD ks zs).length = ks.length := by
  unfold kwD
  rw [List.length_map, List.length_zip, h, Nat.min_self]
theorem kwD_rel : ∀ {ks : List Str} {zs : List V} {us : List Value}, Vals zs us → KV (kwD ks zs) (kwD ks us)
  | [], _, _, _ => .nil
  | _ :: _, [], _, .nil => .nil
  | k :: ks, _ :: _, _ :: _, .cons h t => .cons ⟨rfl, h⟩ (kwD_rel t)
/-- names put into a fresh dict, one by one -/
theorem wp_names {P : Program} {w : World} {A : Around} {E : Value → Shared → Prop} {a : Addr} {β : Type} {b : β} : ∀ {qs : List (Str × Value)} {s : Shared} {kvs : List (Key × Value)} {Q : β → Shared → Prop}, s.heap.DictOf (mixKind P w) a kvs → (∀ q ∈ kvs, ∃ x, q.1 = Sum.inr x) →
    (kvs.map (·.1) ++ qs.map fun q => (Sum.inr q.1 : Key)).Nodup →
    (∀ h' t, h'.DictOf (mixKind P w) a (kvs ++ qs.map fun q => (Sum.inr q.1, q.2)) → Heap.SameBut a s.heap h' → Q b { s with heap := h', toks := t }) → wpAny (model P w) A (forIn qs b fun q r => (do nsSet a q.1 q.2; pure (ForInStep.yield r))) Q E s
  | [], s, kvs, Q, hm, _, _, hQ => by
    rw [List.forIn_nil]
    exact wpAny_pure (hQ s.heap s.toks (by simpa using hm) (Heap.SameBut.refl _ _))
  | q :: r, s, kvs, Q, hm, hs, nd, hQ => by
    rw [List.forIn_cons]
    have e1 := List.nodup_append.mp nd
    have hn : ¬ (Sum.inr q.1 : Key) ∈ kvs.map (·.1) := fun z => e1.2.2 _ z _ List.mem_cons_self rfl
    refine wpAny_bind (wpAny_bind (wpAny_nsSet_new hm hs hn fun h' hm' hs' => wpAny_pure ?_))
    refine wp_names (qs := r) hm' (fun x hx => ?_) ?_ fun h2 t hm2 hs2 => ?_
    · rcases List.mem_append.mp hx with z | z
      · exact hs x z
      · exact ⟨q.1, by rw [List.mem_singleton.mp z]⟩
    · rw [List.map_append]
      simpa [List.append_assoc] using nd
    · refine hQ h2 t ?_ (hs'.trans hs2)
      simpa [List.append_assoc] using hm2
section
variable {P : Program} {w : World} {K : PySem.W.Frag} {mg : Str → Option Value} {base : Heap} {A : Around} {outer : List Env} {s : Shared} {H : Hp}
/-- env0_laid with any heap that keeps the old objects -/
theorem env0_laid2 {h' : Heap} {a : Addr} {t : Nat} {u : HO} (e0 : Env0 P w K mg base A outer s H) (hp : s.heap.objs.size ≤ a) (kp : ∀ b x, s.heap.get? b = some x → h'.get? b = some x) (new : ObjOk P w (upd H a u) h' a u) (lt : s.heap.objs.size ≤ h'.objs.size) :
    Env0 P w K mg base A outer { s with heap := h', toks := t } (upd H a u) := by
  refine ⟨e0.frames, e0.mod, fun b x e => ⟨kp b x (e0.bs b x e).1, ?_⟩, Nat.le_trans e0.bsz lt, Heap.FunFrames.of_keeps (fun b x e _ => ⟨x, kp b x e, rfl⟩) e0.funs, fun b hb => ?_, e0.hok.laid kp hp new, e0.bare⟩
  · rw [upd_ne (Nat.ne_of_lt (Nat.lt_of_lt_of_le (Heap.lt_size (e0.bs b x e).1) hp))]
    exact (e0.bs b x e).2
  · obtain ⟨_, x, hx, _⟩ := e0.funs.mem hb
    rw [upd_ne (Nat.ne_of_lt (Nat.lt_of_lt_of_le (Heap.lt_size hx) hp))]
    exact e0.frf b hb
end
/-- a def's promise for calls with the keywords ks -/
def FnRK (P : Program) (w : World) (K : PySem.W.Frag) (mg : Str → Option Value) (base : Heap) (CX : CXT) (k : Nat) (f : Addr) (ks : List Str) (sp : List V → List V → Hp → VK → XK → Prop) : Prop :=
  ∀ (A : Around) (outer : List Env) (s : Shared) (H : Hp) (us zu : List Value) (vs zs : List V) (Q : VK) (E : XK), Room k A → Env0 P w K mg base A outer s H → Vals vs us → Vals zs zu → zs.length = ks.length → sp vs zs H Q E →
    codeAny (model P w) A (.call (.ref f) ⟨us, ks.zip zu⟩) (CR CX outer P w H s Q E) s
theorem FnRK.mono {P : Program} {w : World} {K : PySem.W.Frag} {mg : Str → Option Value} {base : Heap} {CX : CXT} {k m : Nat} {f : Addr} {ks : List Str} {sp : List V → List V → Hp → VK → XK → Prop} (F : FnRK P w K mg base CX k f ks sp) (h : k ≤ m) : FnRK P w K mg base CX m f ks sp :=
  fun A outer s H us zu vs zs Q E hr => F A outer s H us zu vs zs Q E (hr.mono h)
/-- what the body is told: the first value, a tuple of the others, a dict of the keywords -/
def starKw (ks : List Str) (sp : Sp) : List V → List V → Hp → VK → XK → Prop := fun vs zs H Q E => ∃ v rest, vs = v :: rest ∧ rest.length ≤ sizeLine ∧ ∀ p d, H p = none → H d = none → d ≠ p → sp [v, .ref p, .ref d] (upd (upd H p (.tup rest)) d (.dK (kwD ks zs))) Q E
section
variable {P : Program} {w : World} {K : PySem.W.Frag} {mg : Str → Option Value} {base : Heap} {x qual : Str} {params : Arguments} {body : List Stmt} {scope : Scope} {f : Addr} {fd : FuncData} {k : Nat} {N : List Str} {p1 pv pd : Str} {sp : Sp} {ks : List Str}
theorem funD_kwX {CX : CXT} (hCX : StX.CXUp CX) (F : FunD K x qual params body scope [] [] f fd) (S : FnScope N [p1, pv, pd] scope) (nd : ks.Nodup) (hz : ks.length ≤ 1000)
    (hb : ∀ (kV doc pm : Value) (an : Option Addr) (cdv ct : Value) (u : Value) (rest zu : List Value), zu.length = ks.length → bindArgs (PySem.W.fnOf x qual params body scope .none kV doc pm an cdv ct) ⟨u :: rest, ks.zip zu⟩ =
      (newTuple rest >>= fun t => (alloc ({ cls := .type "dict", data := .dict #[] } : Obj) : Sem Addr) >>= fun d => forIn (ks.zip zu) PUnit.unit (fun q r => (do nsSet d q.1 q.2; pure (ForInStep.yield r))) >>= fun _ => pure [(p1, u), (pv, t), (pd, Value.ref d)]))
    (hbody : ∀ (cdv : Value) (A : Around) (outer : List Env) (s : Shared) (H : Hp) (vs : List V) (Q : VK) (E : XK), Room k (A.deeper (envOfC qual scope s.heap.objs.size f cdv)) → sp vs H Q E →
      ∃ t, PSs (cxOf CX P w K mg base N qual scope f cdv A outer s H E) body t ∧ t { nx := fun _ H' => Q .non H', rt := Q } (start N vs) H) : FnRK P w K mg base CX (k + 1) f ks (starKw ks sp) := by
  obtain ⟨oc, od, dV, kV, doc, pm, an, cdv, ct, osl, rfl, lk, hcd, hdv, _⟩ := F.ex
  have edv : dV = .none := by
    rcases hdv with ⟨_, z⟩ | ⟨z, _⟩
    · exact z
    · exact absurd rfl z
  subst edv
  intro A outer s H us zu vs zs Q E hr e0 r rz hl hsp
  obtain ⟨v, rest, ev, hz2, hq⟩ := hsp
  subst ev
  cases r with
  | @cons _ u _ u2 ru r2 =>
  have hn : H s.heap.objs.size = none := e0.hok.fresh (Nat.le_refl _)
  have hl2 : u2.length ≤ sizeLine := by rw [← r2.length]; exact hz2
  have hl3 : zu.length = ks.length := by rw [← rz.length]; exact hl
  refine StX.run_bnd lk hcd S hr e0 (G := fun xs H2 => ∃ p d, H p = none ∧ H d = none ∧ d ≠ p ∧ xs = [v, .ref p, .ref d] ∧ H2 = upd (upd H p (.tup rest)) d (.dK (kwD ks zs))) (fun A' Ex Q' h => ?_) fun s2 H2 xs ⟨p, d, hp, hd, hne, ex, eH⟩ hr' => ?_
  · rw [hb _ _ _ _ _ _ u u2 zu hl3]
    have new : ObjOk P w (upd H s.heap.objs.size (.tup rest)) (s.heap.push ({ cls := .type "tuple", data := .seq u2.toArray } : Obj)) s.heap.objs.size (.tup rest) := ⟨hz2, u2, r2, ⟨_, Heap.get?_push_size _ rfl, rfl, _, rfl⟩⟩
    have e1 := StX.env0_laid e0 new
    have un1 := StX.un_laid (fs := frs outer) (s := s) (o := ({ cls := .type "tuple", data := .seq u2.toArray } : Obj)) (u := .tup rest) hn
    have hn2 := e1.hok.fresh (Nat.le_refl _)
    have sz : (s.heap.push ({ cls := .type "tuple", data := .seq u2.toArray } : Obj)).objs.size = s.heap.objs.size + 1 := Heap.size_push _ _
    have ne : (s.heap.push ({ cls := .type "tuple", data := .seq u2.toArray } : Obj)).objs.size ≠ s.heap.objs.size := by
      rw [sz]
      exact Nat.succ_ne_self _
    have hd : H (s.heap.push ({ cls := .type "tuple", data := .seq u2.toArray } : Obj)).objs.size = none := e0.hok.fresh (by rw [sz]; exact Nat.le_succ _)
    refine wpAny_bind (wpAny_newTuple (wpAny_bind (wpAny_alloc ?_)) hl2)
    refine wpAny_bind (wp_names (kvs := []) (Heap.DictOf.new _) (fun q hq => nomatch hq) ?_ fun h' t hm hs => wpAny_pure ?_)
    · rw [List.map_nil, List.nil_append]
      have := kwD_keys hl3
      unfold kwD at this
      rw [List.map_map] at this
      show ((ks.zip zu).map ((fun q : Key × Value => q.1) ∘ fun q => (Sum.inr q.1, q.2))).Nodup
      rw [this]
      exact List.Pairwise.map _ (fun a b (hab : a ≠ b) z => hab (Sum.inr.inj z)) nd
    · rw [List.nil_append] at hm
      have kp : ∀ b o, (s.heap.push ({ cls := .type "tuple", data := .seq u2.toArray } : Obj)).get? b = some o → h'.get? b = some o := fun b o q =>
        (hs.2 b (Nat.ne_of_lt (Heap.lt_size q))).trans (Heap.get?_push_of_some _ q)
      have lt2 : (s.heap.push ({ cls := .type "tuple", data := .seq u2.toArray } : Obj)).objs.size ≤ h'.objs.size := by
        obtain ⟨o, _, _, ho, _⟩ := hm
        exact Nat.le_of_lt (Heap.lt_size ho)
      have nw : ObjOk P w (upd (upd H s.heap.objs.size (.tup rest)) (s.heap.push ({ cls := .type "tuple", data := .seq u2.toArray } : Obj)).objs.size (.dK (kwD ks zs))) h' (s.heap.push ({ cls := .type "tuple", data := .seq u2.toArray } : Obj)).objs.size (.dK (kwD ks zs)) :=
        ⟨Nat.le_trans (Nat.le_of_eq (kwD_len hl)) (Nat.le_trans hz (by decide +kernel)), beq_eq_false_iff_ne.mpr (Nat.ne_of_gt (StX.env0_big e1)), _, kwD_rel rz, hm⟩
      have e2 := env0_laid2 (t := t) e1 (Nat.le_refl _) kp nw lt2
      have un2 := un1.trans (Un.laid kp (Nat.le_refl _) hn2 (o := .dK (kwD ks zs)))
      exact h _ _ [v, V.ref s.heap.objs.size, V.ref (s.heap.push ({ cls := .type "tuple", data := .seq u2.toArray } : Obj)).objs.size] [u, Value.ref s.heap.objs.size, Value.ref (s.heap.push ({ cls := .type "tuple", data := .seq u2.toArray } : Obj)).objs.size] e2 un2 rfl
        (fun e s' z => by
          refine hCX outer s H _ _ E e s' un2 ?_ ?_ z
          · exact fun b o q => kp b o (Heap.get?_push_of_some _ q)
          · rfl) (.cons ru (.cons rfl (.cons rfl .nil))) rfl ⟨_, _, hn, hd, ne, rfl, rfl⟩
  · subst ex eH
    exact hbody cdv A outer s2 _ _ Q E hr' (hq p d hp hd hne)
theorem funD_kw (F : FunD K x qual params body scope [] [] f fd) (S : FnScope N [p1, pv, pd] scope) (nd : ks.Nodup) (hz : ks.length ≤ 1000)
    (hb : ∀ (kV doc pm : Value) (an : Option Addr) (cdv ct : Value) (u : Value) (rest zu : List Value), zu.length = ks.length → bindArgs (PySem.W.fnOf x qual params body scope .none kV doc pm an cdv ct) ⟨u :: rest, ks.zip zu⟩ =
      (newTuple rest >>= fun t => (alloc ({ cls := .type "dict", data := .dict #[] } : Obj) : Sem Addr) >>= fun d => forIn (ks.zip zu) PUnit.unit (fun q r => (do nsSet d q.1 q.2; pure (ForInStep.yield r))) >>= fun _ => pure [(p1, u), (pv, t), (pd, Value.ref d)]))
    (hbody : ∀ (cdv : Value) (A : Around) (outer : List Env) (s : Shared) (H : Hp) (vs : List V) (Q : VK) (E : XK), Room k (A.deeper (envOfC qual scope s.heap.objs.size f cdv)) → sp vs H Q E →
      ∃ t, PSs (cxOf CX0 P w K mg base N qual scope f cdv A outer s H E) body t ∧ t { nx := fun _ H' => Q .non H', rt := Q } (start N vs) H) : FnRK P w K mg base CX0 (k + 1) f ks (starKw ks sp) := funD_kwX StX.cxUp_none F S nd hz hb hbody
end
section
variable {X : Cx} {CX : CXT} {k n : Nat} {f : Addr} {ks : List Str} {sp : List V → List V → Hp → VK → XK → Prop} {E : XK} {x : Str} {p pos : Pos} {e : Expr} {es : List Expr} {kws : List Keyword} {t tk : TA}
def tCallK (sp : List V → List V → Hp → VK → XK → Prop) (n : Nat) (E : XK) (t tk : TA) : TE := fun σ H Q => t σ H fun vs H1 => tk σ H1 fun zs H2 => zs.length = n ∧ sp vs zs H2 Q E
theorem run_fnRK {pins : List (Addr × Obj)} {σ : L2.St} {H : Hp} {s : Shared} {Q : VK} {us zu : List Value} {vs zs : List V} (F : FnRK X.prog X.w X.K X.mg X.base CX k f ks sp) (hr : Room k X.A) (hx : Passes CX X E)
    (I : Inv X pins σ H s) (r : Vals vs us) (rz : Vals zs zu) (l : zs.length = ks.length) (h : sp vs zs H Q E) : wpAny (model X.prog X.w) X.A (call (.ref f) us (ks.zip zu)) (EP X pins σ Q) X.xe s := by
  refine wpAny_call (codeAny_mono (F X.A X.stack s H us zu vs zs Q E hr I.env0 r rz l h) fun r s' hq => ?_)
  cases r with
  | error e => exact hx pins σ H s e s' I hq
  | ok fl =>
    cases fl with
    | ret u => exact I.after hq
    | next => exact False.elim hq
    | brk => exact False.elim hq
    | cont => exact False.elim hq
/-- f(e, .., k = v, ..), f a def with * and ** -/
theorem pe_callK (F : FnRK X.prog X.w X.K X.mg X.base CX k f ks sp) (hr : Room k X.A) (hg : Gl X x) (hm : X.mg x = some (.ref f)) (hk : PySem.W.keepIn X.K (.ref f) = true) (hx : Passes CX X E)
    (ha : PA X (e :: es) t) (hkw : PK X kws tk) (hall : (backToKw pos (keywordEach kws X.env)).all (·.1.isSome) = true := by rfl) (hks : (backToKw pos (keywordEach kws X.env)).filterMap (·.1) = ks := by rfl)
    (hdb : (x == ("__debug__" : Str)) = false := by decide) (he : starEach (e :: es) X.env = (false, eval e X.env) :: starEach es X.env := by rfl)
    (hpl : ((backTo pos (starEach (e :: es) X.env)).any (·.1) || (backToKw pos (keywordEach kws X.env)).any (·.1.isNone)) = false := by rfl) :
    PE X (.Call (.Name x p) (e :: es) kws pos) (tCallK sp ks.length E t tk) := by
  refine ⟨fun pins s σ H Q I h => ?_⟩
  refine wpAny_Call_Name_kw (ld_glob I hg hm ?_ hdb)
  refine PySem.W.callWith_KW (h₀ := X.base) I.ok.mod.kin hk hall (thn (ha.run pos pins s σ H _ I h) fun us s1 ⟨vs, H1, I1, r, q⟩ => ?_) hpl he
  refine thn (hkw.run pos pins s1 σ H1 _ I1 q) fun ws s2 ⟨zs, H2, I2, rz, l1, q2⟩ => ⟨I2.kIn, ?_⟩
  rw [hks]
  exact run_fnRK F hr hx I2 r rz l1 q2
/-- the same without keywords -/
theorem pe_callK0 (F : FnRK X.prog X.w X.K X.mg X.base CX k f [] sp) (hr : Room k X.A) (hg : Gl X x) (hm : X.mg x = some (.ref f)) (hk : PySem.W.keepIn X.K (.ref f) = true) (hx : Passes CX X E)
    (ha : PA X (e :: es) t) (hdb : (x == ("__debug__" : Str)) = false := by decide) (he : starEach (e :: es) X.env = (false, eval e X.env) :: starEach es X.env := by rfl) (hpl : (backTo pos (starEach es X.env)).any (·.1) = false := by rfl) :
    PE X (.Call (.Name x p) (e :: es) [] pos) (tCallK sp 0 E t tNil) := by
  refine ⟨fun pins s σ H Q I h => ?_⟩
  refine wpAny_Call_Name_kw (ld_glob I hg hm ?_ hdb)
  refine PySem.W.callWith_K (h₀ := X.base) I.ok.mod.kin hk (thn (ha.run pos pins s σ H _ I h) fun us s1 ⟨vs, H1, I1, r, q⟩ => ⟨I1.kIn, ?_⟩) he hpl
  exact run_fnRK (zu := []) (zs := []) F hr hx I1 r .nil q.1 q.2
instance {σ : L2.St} {H : Hp} {Q : VK} : Step (tCallK sp n E t tk σ H Q) (t σ H fun vs H1 => tk σ H1 fun zs H2 => zs.length = n ∧ sp vs zs H2 Q E) := ⟨id⟩
end
end PW
/-! ### what joined tables tell -/
namespace PW
open PySem PySem.Spec PyProof.Rows L2
/-- what the joined tables tell of the names zs -/
def TbM (K : PySem.W.Frag) (cap S0 : Sz) (d0 : Nat) (env : Str → Int) (H : Hp) (ts : List (List (Key × V))) (more : List (Key × V)) (zs : List Str) : Prop := ∀ z ∈ zs, ∃ x, valV (mergeK (mergeK [] (mrgT ts)) more) (.inr z) = some x ∧ NumV K cap H d0 S0 x (env z)
def KbP (x qual : Str) (params : Arguments) (body : List Stmt) (scope : Scope) (p1 pv pd : Str) (ks : List Str) : Prop := ∀ (kV doc pm : Value) (an : Option Addr) (cdv ct : Value) (u : Value) (rest zu : List Value), zu.length = ks.length → bindArgs (PySem.W.fnOf x qual params body scope .none kV doc pm an cdv ct) ⟨u :: rest, ks.zip zu⟩ =
      (newTuple rest >>= fun t => (alloc ({ cls := .type "dict", data := .dict #[] } : Obj) : Sem Addr) >>= fun d => forIn (ks.zip zu) PUnit.unit (fun q r => (do nsSet d q.1 q.2; pure (ForInStep.yield r))) >>= fun _ => pure [(p1, u), (pv, t), (pd, Value.ref d)])
end PW
/-! ### number_of (sizes at any caps) -/
namespace PW
open PySem PySem.Spec PyProof.Rows L2
def spNumB (K : PySem.W.Frag) (D : Nat) : Sp := fun vs H Q _ => ∃ v p q t d as ts more cap S0 d0 env c S e, vs = [v, .ref p, .ref q] ∧ H p = some (.tup (as.map V.ref)) ∧ Paired (fun a t => H a = some (.dK t)) as ts ∧ H q = some (.dK more) ∧ (ts.length ≤ 100 ∧ (∀ t ∈ ts, t.length ≤ 1000) ∧ more.length ≤ 1000) ∧
  IsTm K H d v t ∧ (t.dep ≤ 17 ∧ t.nms.length ≤ 100000 ∧ t.cns = []) ∧ 1 ≤ d0 ∧ e ≤ D ∧ t.Fit cap S0 d0 c S e ∧ TbM K cap S0 d0 env H ts more t.nms ∧ ∀ r H', Ex H H' → IsT K c H' e S r (t.val env) → Q (.ref r) H'
section
variable {P : Program} {w : World} {K : PySem.W.Frag} {mg : Str → Option Value} {base : Heap}
theorem body_number_of {k D : Nat} (T : Txt K mg)
    (G_merged : FnOk P w K mg base CX0 k (He.ga K "merged") (fdOf K (He.ga K "merged")) p_merged (spMerged))
    (G_need_known : FnOk P w K mg base CX0 k (He.ga K "need_known") (fdOf K (He.ga K "need_known")) p_need_known (spNeed))
    (G_names_within : FnOk P w K mg base CX0 k (He.ga K "names_within") (fdOf K (He.ga K "names_within")) p_names_within (spNmsW K 16))
    (G_calls_within : FnOk P w K mg base CX0 k (He.ga K "calls_within") (fdOf K (He.ga K "calls_within")) p_calls_within (spCnsW K 16))
    (G_worth : FnOk P w K mg base CX0 k (He.ga K "worth") (fdOf K (He.ga K "worth")) p_worth (spWorth K D 16)) (cdv : Value) (A : Around) (outer : List Env) (s : Shared) (H : Hp) (vs : List V) (Q : VK) (E : XK) (hr : Room k (A.deeper (envOfC "number_of" (defScope s_number_of) s.heap.objs.size (He.ga K "number_of") cdv))) (h : spNumB K D vs H Q E) :
    ∃ t, PSs (cxOf CX0 P w K mg base n_number_of "number_of" (defScope s_number_of) (He.ga K "number_of") cdv A outer s H E) (defBody s_number_of) t ∧ t { nx := fun _ H' => Q .non H', rt := Q } (start n_number_of vs) H := by
  obtain ⟨v, p, q, t, d, as, ts, more, cap, S0, d0, env, c, S, e, rfl, hp, hts, hq, ⟨l1, l2, l3⟩, ht, ⟨hd, hn, hcn⟩, h0, hD, hf, hm, hQ⟩ := h
  refine ⟨_, PSs.nox ((pss_cons (ps_set (i := 3) sc_number_of.nd rfl (Or.inl rfl) (pe_call G_merged hr rfl T.g_merged T.d_merged.kp (b_merged T) .nil pass0 (pa_cons (pv 1) (pa_cons (pv 2) pa_nil))))
    (pss_cons (ps_expr (pe_call G_need_known hr rfl T.g_need_known T.d_need_known.kp (b_need_known T) .nil pass0 (pa_cons (pe_call G_names_within hr rfl T.g_names_within T.d_names_within.kp (b_names_within T) .nil pass0 (pa_cons (pv 0) pa_nil)) (pa_cons (pe_call G_calls_within hr rfl T.g_calls_within T.d_calls_within.kp (b_calls_within T) .nil pass0 (pa_cons (pv 0) pa_nil)) (pa_cons (pv 3) pa_nil)))))
    (pss_one (ps_ret (pe_call G_worth hr rfl T.g_worth T.d_worth.kp (b_worth T) .nil pass0 (pa_cons (pv 0) (pa_cons (pv 3) pa_nil)))))))), ?_⟩
  show tSeq _ _ _ [some v, some (.ref p), some (.ref q), none] H
  walk_at "K"
  walk_at "go"
  refine ⟨p, q, as, ts, more, rfl, hp, hts, hq, l1, l2, l3, fun r H1 x1 hr0 h1 => ?_⟩
  walk_at "go"
  refine ⟨v, t, d, rfl, ht.ex x1, by omega, hn, fun l H2 x2 hl0 hl => ?_⟩
  walk_at "go"
  refine ⟨v, t, d, rfl, ht.ex (x1.trans x2), by omega, by rw [hcn]; exact Nat.zero_le _, fun l2 H3 x3 hl20 hl2 => ?_⟩
  rw [hcn] at hl2
  have x13 := (x1.trans x2).trans x3
  walk_at "go"
  refine ⟨l, l2, r, _, t.nms, rfl, x3 _ _ hl, hl2, (x2.trans x3) _ _ h1, fun z hz => ?_, ?_⟩
  · obtain ⟨x, e1, _⟩ := hm z hz
    exact ⟨x, e1⟩
  · walk_at "go"
    exact ⟨v, t, d, r, cap, S0, d0, env, c, S, e, rfl, ht.ex x13, by omega, h0, hD, hf, ⟨_, (x2.trans x3) _ _ h1, fun z hz => by
      obtain ⟨x, e1, e2⟩ := hm z hz
      exact ⟨x, e1, e2.ex x13⟩⟩, fun r H4 x4 h4 => hQ r H4 (x13.trans x4) h4⟩
end
theorem starKw_num {K : PySem.W.Frag} {D : Nat} {ks : List Str} {v : V} {zs : List V} {t : Tm} {d : Nat} {as : List Addr} {ts : List (List (Key × V))} {cap S0 : Sz} {d0 e : Nat} {c S : Sz} {env : Str → Int} {H : Hp} {Q : VK} {E : XK} (ht : IsTm K H d v t) (hd : t.dep ≤ 17) (hn : t.nms.length ≤ 100000) (hcn : t.cns = [])
    (hts : Paired (fun a t => H a = some (.dK t)) as ts) (l1 : ts.length ≤ 100) (l2 : ∀ t ∈ ts, t.length ≤ 1000) (l3 : zs.length = ks.length) (l4 : ks.length ≤ 1000) (h0 : 1 ≤ d0) (hD : e ≤ D) (hf : t.Fit cap S0 d0 c S e) (hm : TbM K cap S0 d0 env H ts (kwD ks zs) t.nms)
    (q : ∀ r H', Ex H H' → IsT K c H' e S r (t.val env) → Q (.ref r) H') : starKw ks (spNumB K D) (v :: as.map V.ref) zs H Q E := by
  have e1 := pr_len hts
  refine ⟨v, _, rfl, ?_, fun p dd hp hdd hne => ?_⟩
  · rw [List.length_map, e1]
    exact Nat.le_trans l1 (by decide +kernel)
  · have x : Ex H (L2.upd (L2.upd H p (.tup (as.map V.ref))) dd (.dK (kwD ks zs))) := (Ex.new hp).trans (Ex.new (by rw [upd_ne hne]; exact hdd))
    refine ⟨v, p, dd, t, d, as, ts, _, cap, S0, d0, env, c, S, e, rfl, (upd_ne (Ne.symm hne)).trans upd_same, L2.Paired.mapP hts fun _ _ z => x _ _ z, upd_same, ⟨l1, l2, Nat.le_trans (Nat.le_of_eq (kwD_len l3)) l4⟩, ht.ex x, ⟨hd, hn, hcn⟩, h0, hD, hf, fun z hz => ?_, fun r H' x' h => q r H' (x.trans x') h⟩
    obtain ⟨y, h1, h2⟩ := hm z hz
    exact ⟨y, h1, h2.ex x⟩
section
variable {P : Program} {w : World} {K : PySem.W.Frag} {mg : Str → Option Value} {base : Heap}
theorem kb_num0 : KbP "number_of" "number_of" (defArgs s_number_of) (defBody s_number_of) (defScope s_number_of) "term" "tables" "more" [] := fun _ _ _ _ _ _ _ rest zu h => match zu, h, rest with | [], _, [] => rfl | [], _, _ :: _ => rfl
theorem ok_number_of {k D : Nat} {ks : List Str} (T : Txt K mg) (nd : ks.Nodup) (hz : ks.length ≤ 1000) (hb : KbP "number_of" "number_of" (defArgs s_number_of) (defBody s_number_of) (defScope s_number_of) "term" "tables" "more" ks)
    (G_merged : FnOk P w K mg base CX0 k (He.ga K "merged") (fdOf K (He.ga K "merged")) p_merged (spMerged))
    (G_need_known : FnOk P w K mg base CX0 k (He.ga K "need_known") (fdOf K (He.ga K "need_known")) p_need_known (spNeed))
    (G_names_within : FnOk P w K mg base CX0 k (He.ga K "names_within") (fdOf K (He.ga K "names_within")) p_names_within (spNmsW K 16))
    (G_calls_within : FnOk P w K mg base CX0 k (He.ga K "calls_within") (fdOf K (He.ga K "calls_within")) p_calls_within (spCnsW K 16))
    (G_worth : FnOk P w K mg base CX0 k (He.ga K "worth") (fdOf K (He.ga K "worth")) p_worth (spWorth K D 16)) : FnRK P w K mg base CX0 (k + 1) (He.ga K "number_of") ks (starKw ks (spNumB K D)) :=
  funD_kw T.d_number_of sc_number_of nd hz hb fun cdv A outer s H vs Q E hr h => body_number_of T G_merged G_need_known G_names_within G_calls_within G_worth cdv A outer s H vs Q E hr h
end
end PW
/-! ### terms over towers, drawn -/
namespace PW
open PySem PySem.Spec PyProof.Rows L2
/-- an exponent as drawn -/
def SmE (ns : List Str) : Tm → Prop
  | .num i => i.natAbs ≤ 100
  | .nam z => z ∈ ns
  | .len (.num i) => i.natAbs < 10 ^ 9
  | .sub (.tim j (.nam z)) (.num i) => j = 2 ∧ z ∈ ns ∧ i.natAbs ≤ 100
  | _ => False
/-- a term as drawn, of at most n levels -/
def SmT (ns : List Str) : Nat → Tm → Prop
  | 0, _ => False
  | _ + 1, .num i => i.natAbs ≤ 60
  | _ + 1, .nam z => z ∈ ns
  | _ + 1, .pow e => SmE ns e
  | n + 1, .add a b => SmT ns n a ∧ SmT ns n b
  | n + 1, .sub a b => SmT ns n a ∧ SmT ns n b
  | n + 1, .tim i a => i.natAbs ≤ 10 ∧ SmT ns n a
  | n + 1, .len a => SmT ns n a
  | n + 1, .quo a i => (1 ≤ i ∧ i ≤ 99) ∧ SmT ns n a
  | _ + 1, .cal _ _ => False
theorem SmT.up {ns : List Str} : ∀ {n m : Nat} {t : Tm}, n ≤ m → SmT ns n t → SmT ns m t
  | 0, _, _, _, h => h.elim
  | n + 1, 0, _, e, _ => absurd e (by omega)
  | n + 1, m + 1, t, e, h => by
    cases t with
    | num i => exact h
    | nam z => exact h
    | pow a => exact h
    | add a b => exact ⟨SmT.up (by omega) h.1, SmT.up (by omega) h.2⟩
    | sub a b => exact ⟨SmT.up (by omega) h.1, SmT.up (by omega) h.2⟩
    | tim i a => exact ⟨h.1, SmT.up (by omega) h.2⟩
    | len a => exact SmT.up (n := n) (m := m) (t := a) (by omega) h
    | quo a i => exact ⟨h.1, SmT.up (by omega) h.2⟩
    | cal f as => exact h
theorem SmT.le_nam {ns : List Str} {z : Str} {n : Nat} (h : z ∈ ns) : SmT ns (max 1 n) (.nam z) := SmT.up (n := 1) (Nat.le_max_left _ _) h
theorem SmT.le_num {ns : List Str} {i : Int} {n : Nat} (h : i.natAbs ≤ 60) : SmT ns (max 1 n) (.num i) := SmT.up (n := 1) (Nat.le_max_left _ _) h
theorem SmT.le_pow {ns : List Str} {a : Tm} {n : Nat} (h : SmE ns a) : SmT ns (max 1 n) (.pow a) := SmT.up (n := 1) (Nat.le_max_left _ _) h
/-- a name drawn from the list of names -/
theorem nmOf {K : PySem.W.Frag} {H : Hp} {b c l : Addr} {ns : List Str} {Q : VK} {E : XK} (hN : NmL (hide H b) l ns) (hB : BagAt H b c) (hne : ns ≠ []) (hn : ns.length ≤ 1000) (q : ∀ z H', z ∈ ns → BagAt H' b c → ExB b H H' → Q (.str z) H') : spOf K [.ref b, .ref l] H Q E := by
  have hl6 := Ex.hide _ b _ _ hN.at_
  have nlb : l ≠ b := fun z => by
    have e3 := hN.at_
    rw [z, hide_same] at e3
    cases e3
  have hpos : 0 < ns.length := List.length_pos_iff.mpr hne
  refine ⟨b, c, .ref l, _, rfl, hB, Or.inl ⟨l, rfl, nlb, Or.inl hl6⟩, by rw [List.length_map]; exact hpos, by rw [List.length_map]; exact Nat.le_trans hn (by decide), fun v7 H7 hv7 hB7 x8 => ?_⟩
  obtain ⟨z, hz, rfl⟩ := List.mem_map.mp hv7
  exact q z H7 hz hB7 x8
/-- one of the values of a new list -/
theorem lsOf {K : PySem.W.Frag} {H : Hp} {b c m : Addr} {xs : List V} {Q : VK} {E : XK} (hB : BagAt H b c) (hm : H m = none) (h0 : 0 < xs.length) (hn : xs.length ≤ 1000) (q : ∀ v H', v ∈ xs → BagAt H' b c → ExB b H H' → Q v H') : spOf K [.ref b, .ref m] (L2.upd H m (.lst xs)) Q E :=
  ⟨b, c, .ref m, _, rfl, hB.new hm, Or.inl ⟨m, rfl, (hB.ne hm).1.symm, Or.inl upd_same⟩, h0, Nat.le_trans hn (by decide), fun v H' hv hB' x => q v H' hv hB' ((Ex.new hm).tb.trans x)⟩
def spLSm (K : PySem.W.Frag) (n : Nat) : Sp := fun vs H Q _ => ∃ b c l ns dd, vs = [.ref b, .ref l, .int dd] ∧ BagAt H b c ∧ NmL (hide H b) l ns ∧ ns.length ≤ 1000 ∧ dd ≤ (n : Int) + 1 ∧
  ∀ v t H', IsTm K (hide H' b) (max 1 dd.toNat + 3) v t → SmT ns (max 1 dd.toNat) t → BagAt H' b c → ExB b H H' → Q v H'
section
variable {P : Program} {w : World} {K : PySem.W.Frag} {mg : Str → Option Value} {base : Heap}
theorem ok1__law_small_term {k n : Nat} {spj : Sp} (T : Txt K mg) (hj : n = 0 ∨ ∃ j, n = j + 1 ∧ spj = spLSm K j)
    (G__law_pull : FnOk P w K mg base CX0 k (He.ga K "_law_pull") (fdOf K (He.ga K "_law_pull")) p__law_pull (spPull))
    (G__law_of : FnOk P w K mg base CX0 k (He.ga K "_law_of") (fdOf K (He.ga K "_law_of")) p__law_of (spOf K))
    (G__law_small_term : FnOk P w K mg base CX0 k (He.ga K "_law_small_term") (fdOf K (He.ga K "_law_small_term")) p__law_small_term (spj)) : FnOk P w K mg base CX0 (k + 1) (He.ga K "_law_small_term") (fdOf K (He.ga K "_law_small_term")) p__law_small_term (spLSm K n) := by
  refine FunD.ok T.d__law_small_term sc__law_small_term (fun vs H Q E h => ?_) (fun cdv A outer s H vs Q E hr h => ?_)
  · obtain ⟨b, c, l, ns, dd, rfl, _⟩ := h
    rfl
  · obtain ⟨b, c, l, ns, dd, rfl, hB, hN, hn, hdn, hQ⟩ := h
    refine ⟨_, PSs.nox ((pss_cons (ps_set (i := 3) sc__law_small_term.nd rfl (Or.inl rfl) (pe_call G__law_pull hr rfl T.g__law_pull T.d__law_pull.kp (b__law_pull T) .nil pass0 (pa_cons (pv 0) (pa_cons pe_int pa_nil))))
    (pss_cons (ps_if (PW.pt (pw_or (pt_cmpR op_lt (pv 2) pe_int (nomark _)) (pw_or1 (pt_cmpR op_eq (pv 3) pe_int (nomark _)))))
      (pss_one (ps_ret (pe_ifExp (PW.pt (pw_and (pt_cmpR (op_neD hr.units) (pv 1) (pe_lst pa_nil) (nomark _)) (pw_and1 (pt_cmpR op_gt (pe_call G__law_pull hr rfl T.g__law_pull T.d__law_pull.kp (b__law_pull T) .nil pass0 (pa_cons (pv 0) (pa_cons pe_int pa_nil))) pe_int (nomark _))))) (pe_tup (pa_cons pe_str (pa_cons (pe_call G__law_of hr rfl T.g__law_of T.d__law_of.kp (b__law_of T) .nil pass0 (pa_cons (pv 0) (pa_cons (pv 1) pa_nil))) pa_nil))) (pe_tup (pa_cons pe_str (pa_cons (pe_op op_sub (pe_call G__law_pull hr rfl T.g__law_pull T.d__law_pull.kp (b__law_pull T) .nil pass0 (pa_cons (pv 0) (pa_cons pe_int pa_nil))) pe_int) pa_nil))))))
      pss_nil)
    (pss_cons (ps_if (pt_cmpR op_eq (pv 3) pe_int (nomark _))
      (pss_cons (ps_set (i := 4) sc__law_small_term.nd rfl (Or.inl rfl) (pe_call G__law_of hr rfl T.g__law_of T.d__law_of.kp (b__law_of T) .nil pass0 (pa_cons (pv 0) (pa_cons (pe_lst (pa_cons (pe_tup (pa_cons pe_str (pa_cons (pe_op op_sub (pe_call G__law_pull hr rfl T.g__law_pull T.d__law_pull.kp (b__law_pull T) .nil pass0 (pa_cons (pv 0) (pa_cons pe_int pa_nil))) pe_int) pa_nil))) (pa_cons (pe_tup (pa_cons pe_str (pa_cons (pe_tup (pa_cons pe_str (pa_cons (pe_call G__law_pull hr rfl T.g__law_pull T.d__law_pull.kp (b__law_pull T) .nil pass0 (pa_cons (pv 0) (pa_cons (pe_op op_pow pe_int pe_int) pa_nil))) pa_nil))) pa_nil))) pa_nil))) pa_nil))))
        (pss_cons (ps_if (pt_cmpR (op_neD hr.units) (pv 1) (pe_lst pa_nil) (nomark _))
          (pss_one (ps_set (i := 4) sc__law_small_term.nd rfl (Or.inl rfl) (pe_call G__law_of hr rfl T.g__law_of T.d__law_of.kp (b__law_of T) .nil pass0 (pa_cons (pv 0) (pa_cons (pe_lst (pa_cons (pv 4) (pa_cons (pe_tup (pa_cons pe_str (pa_cons (pe_call G__law_of hr rfl T.g__law_of T.d__law_of.kp (b__law_of T) .nil pass0 (pa_cons (pv 0) (pa_cons (pv 1) pa_nil))) pa_nil))) (pa_cons (pe_tup (pa_cons pe_str (pa_cons (pe_tup (pa_cons pe_str (pa_cons pe_int (pa_cons (pe_tup (pa_cons pe_str (pa_cons (pe_call G__law_of hr rfl T.g__law_of T.d__law_of.kp (b__law_of T) .nil pass0 (pa_cons (pv 0) (pa_cons (pv 1) pa_nil))) pa_nil))) pa_nil)))) (pa_cons (pe_tup (pa_cons pe_str (pa_cons (pe_call G__law_pull hr rfl T.g__law_pull T.d__law_pull.kp (b__law_pull T) .nil pass0 (pa_cons (pv 0) (pa_cons pe_int pa_nil))) pa_nil))) pa_nil)))) pa_nil)))) pa_nil)))))
          pss_nil)
        (pss_one (ps_ret (pe_tup (pa_cons pe_str (pa_cons (pv 4) pa_nil)))))))
      pss_nil)
    (pss_cons (ps_set (i := 5) sc__law_small_term.nd rfl (Or.inl rfl) (pe_call G__law_small_term hr rfl T.g__law_small_term T.d__law_small_term.kp (b__law_small_term T) .nil pass0 (pa_cons (pv 0) (pa_cons (pv 1) (pa_cons (pe_op op_sub (pv 2) pe_int) pa_nil)))))
    (pss_cons (ps_if (pt_cmpR op_lt (pv 3) pe_int (nomark _))
      (pss_one (ps_ret (pe_tup (pa_cons (pe_ix ix_list (pe_lst (pa_cons pe_str (pa_cons pe_str (pa_cons pe_str pa_nil)))) (pe_op op_sub (pv 3) pe_int) (fun _ _ => rfl)) (pa_cons (pv 5) (pa_cons (pe_call G__law_small_term hr rfl T.g__law_small_term T.d__law_small_term.kp (b__law_small_term T) .nil pass0 (pa_cons (pv 0) (pa_cons (pv 1) (pa_cons (pe_op op_sub (pv 2) pe_int) pa_nil)))) pa_nil))))))
      pss_nil)
    (pss_cons (ps_if (pt_cmpR op_eq (pv 3) pe_int (nomark _))
      (pss_one (ps_ret (pe_tup (pa_cons pe_str (pa_cons (pe_op op_sub (pe_call G__law_pull hr rfl T.g__law_pull T.d__law_pull.kp (b__law_pull T) .nil pass0 (pa_cons (pv 0) (pa_cons pe_int pa_nil))) pe_int) (pa_cons (pv 5) pa_nil))))))
      pss_nil)
    (pss_one (ps_ret (pe_ifExp (pt_cmpR op_eq (pv 3) pe_int (nomark _)) (pe_tup (pa_cons pe_str (pa_cons (pv 5) pa_nil))) (pe_tup (pa_cons pe_str (pa_cons (pv 5) (pa_cons (pe_op op_add pe_int (pe_call G__law_of hr rfl T.g__law_of T.d__law_of.kp (b__law_of T) .nil pass0 (pa_cons (pv 0) (pa_cons (pe_lst (pa_cons (pe_call G__law_pull hr rfl T.g__law_pull T.d__law_pull.kp (b__law_pull T) .nil pass0 (pa_cons (pv 0) (pa_cons pe_int pa_nil))) (pa_cons (pe_call G__law_pull hr rfl T.g__law_pull T.d__law_pull.kp (b__law_pull T) .nil pass0 (pa_cons (pv 0) (pa_cons pe_int pa_nil))) pa_nil))) pa_nil)))) pa_nil)))))))))))))), ?_⟩
    show tSeq _ _ _ [some (V.ref b), some (V.ref l), some (V.int dd), none, none, none] H
    walk_at "K"
    have fin : ∀ (xs : List V) (t : Tm) (H3 : Hp), BagAt H3 b c → ExB b H H3 → TmRow K (hide H3 b) (IsTm K (hide H3 b) (max 1 dd.toNat + 2)) xs t → SmT ns (max 1 dd.toNat) t → ∀ p, H3 p = none → Q (.ref p) (L2.upd H3 p (.tup xs)) := fun xs t H3 hB3 x3 r ok p hp => by
      obtain ⟨u, hu⟩ := hB3.some
      exact hQ _ t _ (tm_new hu hp r) ok (hB3.new hp) (x3.trans (Ex.new hp).tb)
    walk_at "go"
    refine ⟨b, c, 8, rfl, hB, by decide, by decide, fun way H1 w0 w1 hB1 x1 => ?_⟩
    have hN1 := hN.ex x1.hd
    walk_at "go"
    refine r_if2 (fun e => ?_) (fun e => ?_)
    · skip
      walk_at "go"
      intro m2 hm2
      walk_at "go"
      have hB5 := hB1.new (o := .lst []) hm2
      have x5 := x1.trans (Ex.new (o := .lst []) hm2).tb (b := b)
      have hN5 := hN1.ex ((Ex.new (o := .lst []) hm2).hides b)
      have hl5 := Ex.hide _ b _ _ hN5.at_
      refine r_neNs (SqL.of hl5) (nm_ok hN.ok) (SqL.of upd_same) ?_
      walk_at "go"
      refine r_if2 (fun e => ?_) (fun e => ?_)
      · walk_at "go"
        refine ⟨b, c, 4, rfl, hB5, by decide, by decide, fun r6 H6 r60 r61 hB6 x6 => ?_⟩
        have x7 := x5.trans x6
        have hN6 := hN5.ex x6.hd
        walk_at "go"
        refine r_if2 (fun e2 => ?_) (fun e2 => ?_)
        · walk_at "go"
          refine (nmOf hN6 hB6 (fun z => by
            subst z
            cases e) hn fun z H7 hz hB7 x8 => ?_)
          walk_at "go"
          intro p hp
          exact fin _ (.nam z) _ hB7 (x7.trans x8) rfl (SmT.le_nam hz) p hp
        · walk_at "go"
          refine ⟨b, c, 60, rfl, hB6, by decide, by decide, fun r8 H8 r80 r81 hB8 x8 => ?_⟩
          walk_at "go"
          intro p hp
          exact fin _ (.num (r8 - 20)) _ hB8 (x7.trans x8) rfl (SmT.le_num (by omega)) p hp
      · walk_at "go"
        refine ⟨b, c, 60, rfl, hB5, by decide, by decide, fun r8 H8 r80 r81 hB8 x8 => ?_⟩
        walk_at "go"
        intro p hp
        exact fin _ (.num (r8 - 20)) _ hB8 (x5.trans x8) rfl (SmT.le_num (by omega)) p hp
    · have hd2 : ¬ dd < 2 := of_decide_eq_false e
      walk_at "go"
      refine r_if2 (fun e2 => ?_) (fun e2 => ?_)
      · skip
        walk_at "go"
        intro m2 hm2
        walk_at "go"
        have hB5 := hB1.new (o := .lst []) hm2
        have x5 := x1.trans (Ex.new (o := .lst []) hm2).tb (b := b)
        have hN5 := hN1.ex ((Ex.new (o := .lst []) hm2).hides b)
        have hl5 := Ex.hide _ b _ _ hN5.at_
        refine r_neNs (SqL.of hl5) (nm_ok hN.ok) (SqL.of upd_same) ?_
        walk_at "go"
        refine r_if2 (fun e => ?_) (fun e => ?_)
        · walk_at "go"
          refine ⟨b, c, 4, rfl, hB5, by decide, by decide, fun r6 H6 r60 r61 hB6 x6 => ?_⟩
          have x7 := x5.trans x6
          have hN6 := hN5.ex x6.hd
          walk_at "go"
          refine r_if2 (fun e2 => ?_) (fun e2 => ?_)
          · walk_at "go"
            refine (nmOf hN6 hB6 (fun z => by
              subst z
              cases e) hn fun z H7 hz hB7 x8 => ?_)
            walk_at "go"
            intro p hp
            exact fin _ (.nam z) _ hB7 (x7.trans x8) rfl (SmT.le_nam hz) p hp
          · walk_at "go"
            refine ⟨b, c, 60, rfl, hB6, by decide, by decide, fun r8 H8 r80 r81 hB8 x8 => ?_⟩
            walk_at "go"
            intro p hp
            exact fin _ (.num (r8 - 20)) _ hB8 (x7.trans x8) rfl (SmT.le_num (by omega)) p hp
        · walk_at "go"
          refine ⟨b, c, 60, rfl, hB5, by decide, by decide, fun r8 H8 r80 r81 hB8 x8 => ?_⟩
          walk_at "go"
          intro p hp
          exact fin _ (.num (r8 - 20)) _ hB8 (x5.trans x8) rfl (SmT.le_num (by omega)) p hp
      · have hw0 : ¬ way = 0 := fun z => of_decide_eq_false e2 (by rw [z])
        obtain ⟨j, rfl, rfl⟩ : ∃ j, n = j + 1 ∧ spj = spLSm K j := hj.elim (fun z => by omega) id
        obtain ⟨m, rfl⟩ : ∃ m : Nat, dd = (m : Int) + 2 := ⟨(dd - 2).toNat, by omega⟩
        have em : max 1 ((m : Int) + 2 - 1).toNat = m + 1 := by omega
        have eM : max 1 ((m : Int) + 2).toNat = m + 2 := by omega
        walk_at "go"
        refine r_if2 (fun e => ?_) (fun e => ?_)
        · walk_at "go"
          refine ⟨b, c, 90, rfl, hB1, by decide, by decide, fun r2 H2 r20 r21 hB2 x2 => ?_⟩
          have x2 := x1.trans x2
          walk_at "go"
          intro t1 h1
          obtain ⟨u, hu⟩ := hB2.some
          have f1 : IsTm K _ 1 (.ref t1) (.num (r2 - 9)) := tm_new (d := 0) hu h1 rfl
          have hB3 := hB2.new (o := .tup [V.str "number", V.int (r2 - 9)]) h1
          have x3 := x2.trans (Ex.new (o := .tup [V.str "number", V.int (r2 - 9)]) h1).tb (b := b)
          walk_at "go"
          refine ⟨b, c, _, rfl, hB3, by decide, by decide, fun r4 H4 r40 r41 hB4 x4 => ?_⟩
          rw [show (10 : Int) ^ Int.toNat 9 = 1000000000 by decide] at r41
          have f1 := f1.ex x4.hd
          have x4 := x3.trans x4
          walk_at "go"
          intro t2 h2
          obtain ⟨u4, hu4⟩ := hB4.some
          have f2 : IsTm K _ 1 (.ref t2) (.num r4) := tm_new (d := 0) hu4 h2 rfl
          have y5 := Ex.new (o := .tup [V.str "number", V.int r4]) h2
          have hB5 := hB4.new (o := .tup [V.str "number", V.int r4]) h2
          have f1 := f1.ex (y5.hides b)
          walk_at "go"
          intro t3 h3
          obtain ⟨u5, hu5⟩ := hB5.some
          have f3 : IsTm K _ 2 (.ref t3) (.len (.num r4)) := tm_new (d := 1) hu5 h3 ⟨_, rfl, f2⟩
          have y6 := Ex.new (o := .tup [V.str "length", V.ref t2]) h3
          have hB6 := hB5.new (o := .tup [V.str "length", V.ref t2]) h3
          have f1 := f1.ex (y6.hides b)
          have x6 := x4.trans (y5.trans y6).tb (b := b)
          clear f2 y5 y6 hB5 hu hu4 hu5
          generalize L2.upd (L2.upd H4 t2 _) t3 _ = H6 at f1 f3 hB6 x6 ⊢
          walk_at "go"
          intro m1 hm1
          walk_at "go"
          refine lsOf hB6 hm1 (by simp) (by simp) fun v7 H7 hv7 hB7 x7 => ?_
          have hN7 := hN.ex (x6.trans x7).hd
          obtain ⟨a7, f7, s7⟩ : ∃ a, IsTm K (hide H7 b) 3 v7 a ∧ SmE ns a := by
            simp only [List.mem_cons, List.not_mem_nil, or_false] at hv7
            rcases hv7 with rfl | rfl
            · exact ⟨_, (f1.ex x7.hd).up (by decide), (show (r2 - 9).natAbs ≤ 100 by omega)⟩
            · exact ⟨_, (f3.ex x7.hd).up (by decide), (show r4.natAbs < 10 ^ 9 by omega)⟩
          have x7 := x6.trans x7
          clear f1 f3 hv7 hm1 x6 hB6 h1 h2 h3 x4 x3 x2 hB2 hB3 hB4
          have pwf : ∀ v a H', IsTm K (hide H' b) 3 v a → SmE ns a → BagAt H' b c → ExB b H H' → ∀ p, H' p = none → Q (.ref p) (L2.upd H' p (.tup [V.str "power", v])) := fun v a H' fv sv hB8 x8 p hp => fin _ (.pow a) _ hB8 x8 ⟨_, rfl, fv.up (by omega)⟩ (SmT.le_pow sv) p hp
          walk_at "go"
          intro m2 hm2
          walk_at "go"
          have hB8 := hB7.new (o := .lst []) hm2
          have x8 := x7.trans (Ex.new (o := .lst []) hm2).tb (b := b)
          have y8 := (Ex.new (o := .lst []) hm2).hides b
          have hN8 := hN7.ex y8
          have f8 := f7.ex y8
          have hl8 := Ex.hide _ b _ _ hN8.at_
          refine r_neNs (SqL.of hl8) (nm_ok hN.ok) (SqL.of upd_same) ?_
          generalize L2.upd H7 m2 _ = H8 at hB8 x8 hN8 f8 ⊢
          clear f7 y8 hl8 hN7 hB7 x7
          walk_at "go"
          refine r_if2 (fun e => ?_) (fun e => ?_)
          · have hne : ns ≠ [] := fun z => by
              subst z
              cases e
            walk_at "go"
            refine nmOf hN8 hB8 hne hn fun z9 H9 hz9 hB9 x9 => ?_
            have f9 := f8.ex x9.hd
            have hN9 := hN8.ex x9.hd
            have x9 := x8.trans x9
            walk_at "go"
            intro t1 h1
            obtain ⟨u, hu⟩ := hB9.some
            have g1 : IsTm K _ 1 (.ref t1) (.nam z9) := tm_new (d := 0) hu h1 rfl
            have y := Ex.new (o := .tup [V.str "name", V.str z9]) h1
            have hB10 := hB9.new (o := .tup [V.str "name", V.str z9]) h1
            have f10 := f9.ex (y.hides b)
            have hN10 := hN9.ex (y.hides b)
            have x10 := x9.trans y.tb
            generalize L2.upd H9 t1 _ = H10 at g1 hB10 f10 hN10 x10 ⊢
            clear y hu h1 hB9 f9 hN9 x9 hB8 f8 hN8 x8
            walk_at "go"
            refine nmOf hN10 hB10 hne hn fun z11 H11 hz11 hB11 x11 => ?_
            have f11 := f10.ex x11.hd
            have g1 := g1.ex x11.hd
            have x11 := x10.trans x11
            clear hB10 f10 hN10 x10
            walk_at "go"
            intro t2 h2
            obtain ⟨u, hu⟩ := hB11.some
            have g2 : IsTm K _ 1 (.ref t2) (.nam z11) := tm_new (d := 0) hu h2 rfl
            have y := Ex.new (o := .tup [V.str "name", V.str z11]) h2
            have hB12 := hB11.new (o := .tup [V.str "name", V.str z11]) h2
            have f12 := f11.ex (y.hides b)
            have g1 := g1.ex (y.hides b)
            have x12 := x11.trans y.tb
            generalize L2.upd H11 t2 _ = H12 at g1 g2 hB12 f12 x12 ⊢
            clear y hu h2 hB11 f11 x11
            walk_at "go"
            intro t3 h3
            obtain ⟨u, hu⟩ := hB12.some
            have g3 : IsTm K _ 2 (.ref t3) (.tim 2 (.nam z11)) := tm_new (d := 1) hu h3 ⟨_, rfl, g2⟩
            have y := Ex.new (o := .tup [V.str "times", V.int 2, V.ref t2]) h3
            have hB13 := hB12.new (o := .tup [V.str "times", V.int 2, V.ref t2]) h3
            have f13 := f12.ex (y.hides b)
            have g1 := g1.ex (y.hides b)
            have x13 := x12.trans y.tb
            generalize L2.upd H12 t3 _ = H13 at g1 g3 hB13 f13 x13 ⊢
            clear y hu h3 hB12 f12 x12 g2
            walk_at "go"
            refine ⟨b, c, 30, rfl, hB13, by decide, by decide, fun r14 H14 r140 r141 hB14 x14 => ?_⟩
            have f14 := f13.ex x14.hd
            have g1 := g1.ex x14.hd
            have g3 := g3.ex x14.hd
            have x14 := x13.trans x14
            clear hB13 f13 x13
            walk_at "go"
            intro t4 h4
            obtain ⟨u, hu⟩ := hB14.some
            have g4 : IsTm K _ 1 (.ref t4) (.num r14) := tm_new (d := 0) hu h4 rfl
            have y := Ex.new (o := .tup [V.str "number", V.int r14]) h4
            have hB15 := hB14.new (o := .tup [V.str "number", V.int r14]) h4
            have f15 := f14.ex (y.hides b)
            have g1 := g1.ex (y.hides b)
            have g3 := g3.ex (y.hides b)
            have x15 := x14.trans y.tb
            generalize L2.upd H14 t4 _ = H15 at g1 g3 g4 hB15 f15 x15 ⊢
            clear y hu h4 hB14 f14 x14
            walk_at "go"
            intro t5 h5
            obtain ⟨u, hu⟩ := hB15.some
            have g5 : IsTm K _ 3 (.ref t5) (.sub (.tim 2 (.nam z11)) (.num r14)) := tm_new (d := 2) hu h5 ⟨_, _, rfl, g3, g4.up (by decide)⟩
            have y := Ex.new (o := .tup [V.str "subtract", V.ref t3, V.ref t4]) h5
            have hB16 := hB15.new (o := .tup [V.str "subtract", V.ref t3, V.ref t4]) h5
            have f16 := f15.ex (y.hides b)
            have g1 := g1.ex (y.hides b)
            have x16 := x15.trans y.tb
            generalize L2.upd H15 t5 _ = H16 at g1 g5 hB16 f16 x16 ⊢
            clear y hu h5 hB15 f15 x15 g3 g4
            walk_at "go"
            intro m1 hm1
            walk_at "go"
            refine lsOf hB16 hm1 (by simp) (by simp) fun v17 H17 hv17 hB17 x17 => ?_
            walk_at "go"
            intro p hp
            simp only [List.mem_cons, List.not_mem_nil, or_false] at hv17
            rcases hv17 with rfl | rfl | rfl
            · exact pwf _ _ _ (f16.ex x17.hd) (s7) (hB17) (x16.trans x17) p hp
            · exact pwf _ _ _ ((g1.ex x17.hd).up (by decide)) ((show z9 ∈ ns from hz9)) (hB17) (x16.trans x17) p hp
            · exact pwf _ _ _ (g5.ex x17.hd) ((show (2 : Int) = 2 ∧ z11 ∈ ns ∧ r14.natAbs ≤ 100 from ⟨rfl, hz11, by omega⟩)) (hB17) (x16.trans x17) p hp
          · walk_at "go"
            intro p hp
            exact pwf _ _ _ (f8) (s7) (hB8) (x8) p hp
        · have hw1 : ¬ way = 1 := fun z => of_decide_eq_false e (by rw [z])
          walk_at "go"
          refine ⟨b, c, l, ns, _, rfl, hB1, hN1, hn, by omega, fun v1 t1 H2 hv1 s1 hB2 x2 => ?_⟩
          rw [em] at hv1 s1
          rw [eM] at fin
          have x12 := x1.trans x2
          have hN2 := hN1.ex x2.hd
          clear hN1 hB1 x1 e e2
          walk_at "go"
          refine r_if2 (fun e => ?_) (fun e => ?_)
          · have hw4 : way < 5 := of_decide_eq_true e
            walk_at "go"
            intro l3 hl3
            have hB3 := hB2.new (o := .lst [V.str "add", V.str "subtract", V.str "add"]) hl3
            have x3 := (Ex.new (o := .lst [V.str "add", V.str "subtract", V.str "add"]) hl3).tb (b := b)
            have hv3 := hv1.ex x3.hd
            walk_at "go"
            obtain ⟨wd, hat, hwd⟩ : ∃ wd : Str, atI [V.str "add", V.str "subtract", V.str "add"] (way - 2) = some (.str wd) ∧ (wd = "add" ∨ wd = "subtract") := by
              have : way = 2 ∨ way = 3 ∨ way = 4 := by omega
              rcases this with rfl | rfl | rfl
              · exact ⟨"add", rfl, .inl rfl⟩
              · exact ⟨"subtract", rfl, .inr rfl⟩
              · exact ⟨"add", rfl, .inl rfl⟩
            refine r_ixL (SqL.of upd_same) hat ?_
            walk_at "go"
            refine ⟨b, c, l, ns, _, rfl, hB3, hN2.ex x3.hd, hn, by omega, fun v5 t5 H5 hv5 s5 hB5 x5 => ?_⟩
            rw [em] at hv5 s5
            have hy5 := hv3.ex x5.hd
            walk_at "go"
            refine fin _ (if wd = "add" then .add t1 t5 else .sub t1 t5) H5 hB5 ((x12.trans x3).trans x5) ?_ ?_
            · rcases hwd with rfl | rfl
              · exact ⟨_, _, rfl, hy5, hv5⟩
              · rw [if_neg (by decide +kernel)]
                exact ⟨_, _, rfl, hy5, hv5⟩
            · rcases hwd with rfl | rfl
              · exact (⟨s1, s5⟩ : SmT ns (m + 2) (.add t1 t5))
              · rw [if_neg (by decide +kernel)]
                exact (⟨s1, s5⟩ : SmT ns (m + 2) (.sub t1 t5))
          · walk_at "go"
            refine r_if2 (fun e => ?_) (fun e => ?_)
            · walk_at "go"
              refine ⟨b, c, 21, rfl, hB2, by decide, by decide, fun r4 H4 r40 r41 hB4 x4 => ?_⟩
              walk_at "go"
              exact fin _ (.tim (r4 - 10) t1) H4 hB4 (x12.trans x4) ⟨_, rfl, hv1.ex x4.hd⟩ (⟨by omega, s1⟩ : SmT ns (m + 2) (.tim (r4 - 10) t1))
            · walk_at "go"
              refine r_if2 (fun e => ?_) (fun e => ?_)
              · walk_at "go"
                exact fin _ (.len t1) H2 hB2 x12 ⟨_, rfl, hv1⟩ (s1 : SmT ns (m + 2) (.len t1))
              · walk_at "go"
                refine ⟨b, c, 9, rfl, hB2, by decide, by decide, fun r4 H4 r40 r41 hB4 x4 => ?_⟩
                walk_at "go"
                refine ⟨b, c, 99, rfl, hB4, by decide, by decide, fun r5 H5 r50 r51 hB5 x5 => ?_⟩
                walk_at "go"
                intro m1 hm1
                walk_at "go"
                refine lsOf hB5 hm1 (by simp) (by simp) fun v6 H6 hv6 hB6 x6 => ?_
                have x46 := (x4.trans x5).trans x6
                obtain ⟨i, rfl, hi⟩ : ∃ i : Int, v6 = .int i ∧ 0 ≤ i ∧ i < 99 := by
                  simp only [List.mem_cons, List.not_mem_nil, or_false] at hv6
                  rcases hv6 with rfl | rfl
                  · exact ⟨_, rfl, r40, by omega⟩
                  · exact ⟨_, rfl, r50, r51⟩
                walk_at "go"
                intro p hp
                exact fin _ (.quo t1 (1 + i)) H6 hB6 (x12.trans x46) ⟨_, rfl, hv1.ex x46.hd⟩ (⟨⟨by omega, by omega⟩, s1⟩ : SmT ns (m + 2) (.quo t1 (1 + i))) p hp
theorem ok__law_small_term {k : Nat} (T : Txt K mg)
    (G__law_pull : FnOk P w K mg base CX0 k (He.ga K "_law_pull") (fdOf K (He.ga K "_law_pull")) p__law_pull (spPull))
    (G__law_of : FnOk P w K mg base CX0 k (He.ga K "_law_of") (fdOf K (He.ga K "_law_of")) p__law_of (spOf K)) : ∀ n, FnOk P w K mg base CX0 (k + n + 1) (He.ga K "_law_small_term") (fdOf K (He.ga K "_law_small_term")) p__law_small_term (spLSm K n)
  | 0 => ok1__law_small_term (spj := spNo) T (.inl rfl) G__law_pull G__law_of fnOk_no
  | n + 1 => ok1__law_small_term T (.inr ⟨n, rfl, rfl⟩) (G__law_pull.mono (by omega)) (G__law_of.mono (by omega)) (ok__law_small_term T G__law_pull G__law_of n)
end
end PW
/-! ### the sizes of drawn terms over towers -/
namespace PW
open PySem PySem.Spec PyProof.Rows L2
def S17 : Sz := ⟨1000, 2, 0⟩
/-- S1 bounds what an operator makes of numbers of size S0 -/
structure Grow (S0 S1 : Sz) : Prop where
  z : 2 * S0.z + 2 * (S0.n * (S0.s + 7)) + 2 * S0.s + 20 ≤ S1.z
  n : 2 * S0.n ≤ S1.n
  s : 2 * S0.s ≤ S1.s ∧ S0.s + 10 ≤ S1.s
  l : (lenSz capT).Le S1
  m : S0.Le LIM
theorem Grow.tot {S0 S1 a b : Sz} {m : Nat} (g : Grow S0 S1) (ha : a.Le S0) (hb : b.Le S0) (hm : m ≤ 7) : (totSz a b m).Le S1 := by
  have e1 : a.n * b.s ≤ S0.n * S0.s := Nat.mul_le_mul ha.n hb.s
  have e2 : b.n * (m + a.s) ≤ S0.n * (S0.s + 7) := Nat.mul_le_mul hb.n (by have := ha.s; omega)
  have e3 : S0.n * S0.s ≤ S0.n * (S0.s + 7) := Nat.mul_le_mul_left _ (by omega)
  have := g.z
  have := g.n
  have := g.s
  have := ha.z
  have := hb.z
  have := ha.n
  have := hb.n
  have := ha.s
  have := hb.s
  refine ⟨?_, ?_, ?_⟩
  · show a.z + b.z + a.n * b.s + b.n * (m + a.s) + a.s + b.s + m + 1 ≤ S1.z
    omega
  · show a.n + b.n ≤ S1.n
    omega
  · show a.s + b.s ≤ S1.s
    omega
theorem Grow.div {S0 S1 a : Sz} (g : Grow S0 S1) (ha : a.Le S0) : (divSz a).Le S1 := by
  have := g.z
  have := g.n
  have := g.s
  have := ha.z
  have := ha.n
  have := ha.s
  refine ⟨?_, ?_, ?_⟩
  · show a.z + 2 * a.s + 12 ≤ S1.z
    omega
  · show a.n ≤ S1.n
    omega
  · show a.s + 10 ≤ S1.s
    omega
theorem groS0 : Grow S17 ⟨4488, 10, 100⟩ := ⟨by decide, by decide, by decide, ⟨by decide, by decide, by decide⟩, ⟨by decide, by decide, by decide⟩⟩
theorem groS1 : Grow ⟨4488, 10, 100⟩ ⟨13776, 26, 210⟩ := ⟨by decide, by decide, by decide, ⟨by decide, by decide, by decide⟩, ⟨by decide, by decide, by decide⟩⟩
theorem groS2 : Grow ⟨13776, 26, 210⟩ ⟨41716, 58, 430⟩ := ⟨by decide, by decide, by decide, ⟨by decide, by decide, by decide⟩, ⟨by decide, by decide, by decide⟩⟩
theorem groS3 : Grow ⟨41716, 58, 430⟩ ⟨140000, 122, 870⟩ := ⟨by decide, by decide, by decide, ⟨by decide, by decide, by decide⟩, ⟨by decide, by decide, by decide⟩⟩
def lv5 : Nat → Sz
  | 0 => S17
  | 1 => S17
  | 2 => ⟨4488, 10, 100⟩
  | 3 => ⟨13776, 26, 210⟩
  | 4 => ⟨41716, 58, 430⟩
  | _ => ⟨140000, 122, 870⟩
theorem lv5_ge (n : Nat) : S17.Le (lv5 n) := by
  match n with
  | 0 => exact Sz.Le.refl _
  | 1 => exact Sz.Le.refl _
  | 2 => exact ⟨by decide, by decide, by decide⟩
  | 3 => exact ⟨by decide, by decide, by decide⟩
  | 4 => exact ⟨by decide, by decide, by decide⟩
  | n + 5 => exact ⟨by show 1000 ≤ 140000; decide, by show 2 ≤ 122; decide, Nat.zero_le _⟩
theorem lv5_grow {n : Nat} (h1 : 1 ≤ n) (h : n ≤ 4) : Grow (lv5 n) (lv5 (n + 1)) := by
  match n, h1, h with
  | 1, _, _ => exact groS0
  | 2, _, _ => exact groS1
  | 3, _, _ => exact groS2
  | 4, _, _ => exact groS3
theorem capT_z : CapOk Z0 := ⟨by decide, by decide, by decide⟩
theorem smI {i : Int} (h : i.natAbs < 2 ^ 30) : Sz.Le ⟨bt i, 0, 0⟩ S17 := ⟨by
  have := bt_le.mpr h
  show bt i ≤ 1000
  omega, Nat.zero_le _, Nat.le_refl _⟩
/-- an exponent as drawn -/
theorem SmE.fit {ns : List Str} {d0 : Nat} (h0 : 1 ≤ d0) : ∀ {t : Tm}, SmE ns t → t.Fit capT S17 d0 capT ⟨1100, 2, 0⟩ d0
  | .num i, h => ⟨(smI (show i.natAbs < 2 ^ 30 by
      have : i.natAbs ≤ 100 := h
      omega)).trans ⟨by decide, by decide, by decide⟩, h0⟩
  | .nam z, _ => ⟨Sz.Le.refl _, ⟨by decide, by decide, by decide⟩, Nat.le_refl _⟩
  | .len (.num i), h => ⟨Z0, ⟨bt i, 0, 0⟩, 1, capT_z, ⟨by decide, by decide, by decide⟩, Nat.le_refl _, h0, ⟨Sz.Le.refl _, Nat.le_refl _⟩, (smI (Nat.lt_trans (show i.natAbs < 10 ^ 9 from h) (by decide))).trans ⟨by decide, by decide, by decide⟩, ⟨by decide, by decide, by decide⟩⟩
  | .sub (.tim j (.nam z)) (.num i), h => by
    obtain ⟨rfl, _, h3⟩ := (show j = 2 ∧ z ∈ ns ∧ i.natAbs ≤ 100 from h)
    refine ⟨capT, totSz Z0 S17 (bt 2), ⟨30, 0, 0⟩, d0, hcT, Sz.Le.refl _, Nat.le_refl _, ?_, ⟨⟨bt_le.mpr (show i.natAbs < 2 ^ 30 by omega), Nat.le_refl _, Nat.le_refl _⟩, h0⟩, ⟨by decide, by decide, by decide⟩, ⟨by decide, by decide, by decide⟩, ?_⟩
    · exact ⟨capT, S17, d0, hcT, Sz.Le.refl _, Nat.le_refl _, ⟨Sz.Le.refl _, Sz.Le.refl _, Nat.le_refl _⟩, ⟨by decide, by decide, by decide⟩, by decide, Sz.Le.refl _⟩
    · exact ⟨by decide, by decide, by decide⟩
theorem SmT.fit {ns : List Str} {d0 : Nat} (h0 : 1 ≤ d0) (hd : d0 ≤ 8) : ∀ {n : Nat} {t : Tm}, n ≤ 5 → SmT ns n t → t.Fit capT S17 d0 capT (lv5 n) (d0 + 1)
  | 0, _, _, h => h.elim
  | n + 1, .num i, _, h => ⟨(smI (show i.natAbs < 2 ^ 30 by
      have : i.natAbs ≤ 60 := h
      omega)).trans (lv5_ge _), by omega⟩
  | n + 1, .nam z, _, _ => ⟨Sz.Le.refl _, lv5_ge _, by omega⟩
  | n + 1, .pow e, _, h => ⟨capT, _, d0, hcT, Sz.Le.refl _, Nat.le_refl _, SmE.fit h0 h, ⟨by decide, by decide, by decide⟩, Sz.Le.trans ⟨by decide, by decide, by decide⟩ (lv5_ge _)⟩
  | 0 + 1, .add a b, _, h => h.1.elim
  | 0 + 1, .sub a b, _, h => h.1.elim
  | 0 + 1, .tim i a, _, h => h.2.elim
  | 0 + 1, .len a, _, h => (show False from h).elim
  | 0 + 1, .quo a i, _, h => h.2.elim
  | n + 2, .add a b, hn, h => by
    have g := lv5_grow (n := n + 1) (by omega) (by omega)
    exact ⟨capT, _, _, _, hcT, Sz.Le.refl _, Nat.le_refl _, SmT.fit h0 hd (by omega) h.1, SmT.fit h0 hd (by omega) h.2, g.m, g.m, g.tot (Sz.Le.refl _) (Sz.Le.refl _) (by omega)⟩
  | n + 2, .sub a b, hn, h => by
    have g := lv5_grow (n := n + 1) (by omega) (by omega)
    exact ⟨capT, _, _, _, hcT, Sz.Le.refl _, Nat.le_refl _, SmT.fit h0 hd (by omega) h.1, SmT.fit h0 hd (by omega) h.2, g.m, g.m, g.tot (Sz.Le.refl _) (Sz.Le.refl _) (by omega)⟩
  | n + 2, .tim i a, hn, h => by
    have g := lv5_grow (n := n + 1) (by omega) (by omega)
    have hi : i.natAbs ≤ 10 := h.1
    have hb : bt i ≤ 4 := bt_le.mpr (by omega)
    exact ⟨capT, _, _, hcT, Sz.Le.refl _, Nat.le_refl _, SmT.fit h0 hd (by omega) h.2, g.m, by omega, g.tot ⟨Nat.zero_le _, Nat.zero_le _, Nat.zero_le _⟩ (Sz.Le.refl _) (by omega)⟩
  | n + 2, .len a, hn, h => by
    have g := lv5_grow (n := n + 1) (by omega) (by omega)
    exact ⟨capT, _, _, hcT, Sz.Le.refl _, by omega, Nat.le_refl _, SmT.fit h0 hd (by omega) (show SmT ns (n + 1) a from h), g.m, g.l⟩
  | n + 2, .quo a i, hn, h => by
    have g := lv5_grow (n := n + 1) (by omega) (by omega)
    obtain ⟨⟨i1, i2⟩, ha⟩ := (show (1 ≤ i ∧ i ≤ 99) ∧ SmT ns (n + 1) a from h)
    have hs := g.m.s
    have hs : (lv5 (n + 1)).s ≤ 1200 := hs
    exact ⟨capT, _, _, hcT, Sz.Le.refl _, Nat.le_refl _, SmT.fit h0 hd (by omega) ha, g.m, ⟨i1, by omega⟩, (show 10 + (lv5 (n + 1)).s + (d0 + 1) * 100 ≤ 8800 by omega), g.div (Sz.Le.refl _)⟩
/-- its names are among those given, each level doubles them -/
theorem SmE.nms {ns : List Str} : ∀ {t : Tm}, SmE ns t → (∀ z ∈ t.nms, z ∈ ns) ∧ t.nms.length ≤ 1 ∧ t.cns = [] ∧ t.dep ≤ 3
  | .num i, _ => ⟨fun z hz => by rw [Tm.nms] at hz; exact (nomatch hz), by simp [Tm.nms], rfl, by simp [Tm.dep]⟩
  | .nam y, h => ⟨fun z hz => by rw [Tm.nms, List.mem_singleton] at hz; subst hz; exact h, by simp [Tm.nms], rfl, by simp [Tm.dep]⟩
  | .len (.num i), _ => ⟨fun z hz => by simp [Tm.nms] at hz, by simp [Tm.nms], by simp [Tm.cns], by simp [Tm.dep]⟩
  | .sub (.tim j (.nam y)) (.num i), h => ⟨fun z hz => by
      simp [Tm.nms] at hz
      subst hz
      exact (show j = 2 ∧ z ∈ ns ∧ i.natAbs ≤ 100 from h).2.1, by simp [Tm.nms], by simp [Tm.cns], by simp [Tm.dep]⟩
theorem SmT.nms {ns : List Str} : ∀ {n : Nat} {t : Tm}, SmT ns n t → (∀ z ∈ t.nms, z ∈ ns) ∧ t.nms.length ≤ 2 ^ n ∧ t.cns = [] ∧ t.dep ≤ n + 3
  | 0, _, h => h.elim
  | n + 1, t, h => by
    have p : 1 ≤ 2 ^ n := Nat.pow_pos (by decide)
    have p2 : 2 ^ (n + 1) = 2 ^ n * 2 := Nat.pow_succ ..
    cases t with
    | num i => exact ⟨fun z hz => by rw [Tm.nms] at hz; exact (nomatch hz), by simp [Tm.nms], rfl, by simp [Tm.dep]⟩
    | nam y => exact ⟨fun z hz => by rw [Tm.nms, List.mem_singleton] at hz; subst hz; exact h, by simp [Tm.nms]; omega, rfl, by simp [Tm.dep]⟩
    | pow e =>
      obtain ⟨a1, a2, a3, a4⟩ := SmE.nms (show SmE ns e from h)
      exact ⟨fun z hz => a1 z (by rw [Tm.nms] at hz; exact hz), by rw [Tm.nms]; omega, by rw [Tm.cns]; exact a3, by rw [Tm.dep]; omega⟩
    | add a b =>
      obtain ⟨a1, a2, a3, a4⟩ := SmT.nms h.1
      obtain ⟨b1, b2, b3, b4⟩ := SmT.nms h.2
      exact ⟨fun z hz => by rw [Tm.nms] at hz; exact (List.mem_append.mp hz).elim (a1 z) (b1 z), by rw [Tm.nms, List.length_append]; omega, by rw [Tm.cns, a3, b3]; rfl, by rw [Tm.dep]; omega⟩
    | sub a b =>
      obtain ⟨a1, a2, a3, a4⟩ := SmT.nms h.1
      obtain ⟨b1, b2, b3, b4⟩ := SmT.nms h.2
      exact ⟨fun z hz => by rw [Tm.nms] at hz; exact (List.mem_append.mp hz).elim (a1 z) (b1 z), by rw [Tm.nms, List.length_append]; omega, by rw [Tm.cns, a3, b3]; rfl, by rw [Tm.dep]; omega⟩
    | tim i a =>
      obtain ⟨a1, a2, a3, a4⟩ := SmT.nms h.2
      exact ⟨fun z hz => by rw [Tm.nms] at hz; exact a1 z hz, by rw [Tm.nms]; omega, by rw [Tm.cns]; exact a3, by rw [Tm.dep]; omega⟩
    | len a =>
      obtain ⟨a1, a2, a3, a4⟩ := SmT.nms (show SmT ns n a from h)
      exact ⟨fun z hz => by rw [Tm.nms] at hz; exact a1 z hz, by rw [Tm.nms]; omega, by rw [Tm.cns]; exact a3, by rw [Tm.dep]; omega⟩
    | quo a i =>
      obtain ⟨a1, a2, a3, a4⟩ := SmT.nms h.2
      exact ⟨fun z hz => by rw [Tm.nms] at hz; exact a1 z hz, by rw [Tm.nms]; omega, by rw [Tm.cns]; exact a3, by rw [Tm.dep]; omega⟩
    | cal f as => exact h.elim
end PW
/-! ### the terms inside, the levels -/
namespace PW
open PySem PySem.Spec PyProof.Rows L2
def spLInner (K : PySem.W.Frag) : Sp := fun vs H Q _ => ∃ v t d, vs = [v] ∧ IsTm K H (d + 1) v t ∧ ∀ l ys H', Ex H H' → H l = none → H' l = some (.lst ys) → Paired (IsTm K H d) ys t.parts → Q (.ref l) H'
section
variable {P : Program} {w : World} {K : PySem.W.Frag} {mg : Str → Option Value} {base : Heap}
theorem ok__law_inner (T : Txt K mg) : FnOk P w K mg base CX0 (1) (He.ga K "_law_inner") (fdOf K (He.ga K "_law_inner")) p__law_inner (spLInner K) := by
  refine FunD.ok T.d__law_inner sc__law_inner (fun vs H Q E h => ?_) (fun cdv A outer s H vs Q E hr h => ?_)
  · obtain ⟨v, t, d, rfl, _⟩ := h
    rfl
  · obtain ⟨v, t, d, rfl, ht, hQ⟩ := h
    refine ⟨_, PSs.nox ((pss_cons (ps_set (i := 1) sc__law_inner.nd rfl (Or.inl rfl) (pe_ix ix_seq (pv 0) pe_int (fun _ _ => rfl)))
    (pss_cons (ps_if (pt_cmpR op_in_seq (pv 1) (pe_lst (pa_cons pe_str (pa_cons pe_str pa_nil))) rfl)
      (pss_one (ps_ret (pe_lst pa_nil)))
      pss_nil)
    (pss_cons (ps_if (pt_cmpR op_eq (pv 1) pe_str (nomark _))
      (pss_one (ps_ret (pe_callTy call_listN (by rfl) T.f_list (by decide +kernel) (pa_cons (pe_ix ix_seq (pv 0) pe_int (fun _ _ => rfl)) pa_nil))))
      pss_nil)
    (pss_cons (ps_if (pt_cmpR op_eq (pv 1) pe_str (nomark _))
      (pss_one (ps_ret (pe_lst (pa_cons (pe_ix ix_seq (pv 0) pe_int (fun _ _ => rfl)) pa_nil))))
      pss_nil)
    (pss_one (ps_ret (pe_ifExp (pt_cmpR op_in_seq (pv 1) (pe_lst (pa_cons pe_str (pa_cons pe_str pa_nil))) rfl) (pe_lst (pa_cons (pe_ix ix_seq (pv 0) pe_int (fun _ _ => rfl)) (pa_cons (pe_ix ix_seq (pv 0) pe_int (fun _ _ => rfl)) pa_nil))) (pe_lst (pa_cons (pe_ix ix_seq (pv 0) pe_int (fun _ _ => rfl)) pa_nil)))))))))), ?_⟩
    show tSeq _ _ _ [some v, none] H
    walk_at "K"
    obtain ⟨p, xs, rfl, hs, row⟩ := ht
    cases t with
    | num i =>
      have row : xs = _ := row
      subst row
      walk_at "go"
      intro l hl
      walk_at "go"
      intro l2 hl2
      exact hQ l2 _ _ ((Ex.new hl).trans (Ex.new hl2)) (Ex.free (Ex.new hl) hl2) upd_same .nil
    | nam z =>
      have row : xs = _ := row
      subst row
      walk_at "go"
      intro l hl
      walk_at "go"
      intro l2 hl2
      exact hQ l2 _ _ ((Ex.new hl).trans (Ex.new hl2)) (Ex.free (Ex.new hl) hl2) upd_same .nil
    | cal f as =>
      obtain ⟨q, ys, rfl, hq, hys⟩ := row
      walk_at "go"
      intro l hl
      have hq2 := ((Ex.new (o := .lst [V.str "number", V.str "name"]) hl)) _ _ hq
      walk_at "go"
      intro l2 hl2
      exact hQ l2 _ _ ((Ex.new hl).trans (Ex.new hl2)) (Ex.free (Ex.new hl) hl2) upd_same hys
    | tim i a =>
      obtain ⟨x, rfl, hx⟩ := row
      walk_at "go"
      intro l hl
      walk_at "go"
      intro l2 hl2
      exact hQ l2 _ _ ((Ex.new hl).trans (Ex.new hl2)) (Ex.free (Ex.new hl) hl2) upd_same (.cons hx .nil)
    | pow a =>
      obtain ⟨x, rfl, hx⟩ := row
      walk_at "go"
      intro l hl
      walk_at "go"
      intro l2 hl2
      walk_at "go"
      intro l3 hl3
      have e := (Ex.new hl).trans (Ex.new (o := .lst [V.str "add", V.str "subtract"]) hl2)
      exact hQ l3 _ _ (e.trans (Ex.new hl3)) (Ex.free e hl3) upd_same (.cons hx .nil)
    | len a =>
      obtain ⟨x, rfl, hx⟩ := row
      walk_at "go"
      intro l hl
      walk_at "go"
      intro l2 hl2
      walk_at "go"
      intro l3 hl3
      have e := (Ex.new hl).trans (Ex.new (o := .lst [V.str "add", V.str "subtract"]) hl2)
      exact hQ l3 _ _ (e.trans (Ex.new hl3)) (Ex.free e hl3) upd_same (.cons hx .nil)
    | quo a i =>
      obtain ⟨x, rfl, hx⟩ := row
      walk_at "go"
      intro l hl
      walk_at "go"
      intro l2 hl2
      walk_at "go"
      intro l3 hl3
      have e := (Ex.new hl).trans (Ex.new (o := .lst [V.str "add", V.str "subtract"]) hl2)
      exact hQ l3 _ _ (e.trans (Ex.new hl3)) (Ex.free e hl3) upd_same (.cons hx .nil)
    | add a a2 =>
      obtain ⟨x, y, rfl, hx, hy⟩ := row
      walk_at "go"
      intro l hl
      walk_at "go"
      intro l2 hl2
      walk_at "go"
      intro l3 hl3
      have e := (Ex.new hl).trans (Ex.new (o := .lst [V.str "add", V.str "subtract"]) hl2)
      exact hQ l3 _ _ (e.trans (Ex.new hl3)) (Ex.free e hl3) upd_same (.cons hx (.cons hy .nil))
    | sub a a2 =>
      obtain ⟨x, y, rfl, hx, hy⟩ := row
      walk_at "go"
      intro l hl
      walk_at "go"
      intro l2 hl2
      walk_at "go"
      intro l3 hl3
      have e := (Ex.new hl).trans (Ex.new (o := .lst [V.str "add", V.str "subtract"]) hl2)
      exact hQ l3 _ _ (e.trans (Ex.new hl3)) (Ex.free e hl3) upd_same (.cons hx (.cons hy .nil))
end
end PW
/-! ### the law's words of either kind (names, called names) -/
namespace PW
open PySem PySem.Spec PyProof.Rows L2
def ownN : Tm → List Str
  | .nam z => [z]
  | _ => []
theorem nms_all (t : Tm) : t.nms = ownN t ++ Tm.nmss t.parts := by
  cases t <;> simp [Tm.nms, Tm.nmss, Tm.parts, ownN]
def kindS : Bool → Str
  | true => "name"
  | false => "call"
def kws : Bool → Tm → List Str
  | true, t => t.nms
  | false, t => t.cns
def kwss : Bool → List Tm → List Str
  | true, as => Tm.nmss as
  | false, as => Tm.cnss as
def own2 : Bool → Tm → List Str
  | true, t => ownN t
  | false, t => t.hcn
theorem kws_all (k : Bool) (t : Tm) : kws k t = own2 k t ++ kwss k t.parts := by
  cases k with
  | true => exact nms_all t
  | false => exact Tm.cns_parts t
theorem kwss_get {k : Bool} {as : List Tm} {i : Nat} {a : Tm} (h : as[i]? = some a) : kwss k (as.take (i + 1)) = kwss k (as.take i) ++ kws k a := by
  cases k with
  | true => exact nmss_get h
  | false => exact cnss_getT h
theorem kwss_take {kd : Bool} {l : List Tm} {k : Nat} : (kwss kd (l.take k)).length ≤ (kwss kd l).length := by
  cases kd with
  | true => exact Tm.nmss_take
  | false => exact Tm.cnss_take
theorem kwss_nil {k : Bool} : kwss k [] = [] := by
  cases k <;> rfl
def spLWords (K : PySem.W.Frag) (n : Nat) : Sp := fun vs H Q _ => ∃ v t d kd, vs = [v, .str (kindS kd)] ∧ IsTm K H d v t ∧ t.dep ≤ n + 1 ∧ (kws kd t).length ≤ 100000 ∧ ∀ l H', Ex H H' → H' l = some (.lst ((kws kd t).map V.str)) → Q (.ref l) H'
section
variable {P : Program} {w : World} {K : PySem.W.Frag} {mg : Str → Option Value} {base : Heap}
theorem ok1__law_words {k n : Nat} {spj : Sp} (T : Txt K mg) (hj : n = 0 ∨ ∃ j, n = j + 1 ∧ spj = spLWords K j)
    (G__law_inner : FnOk P w K mg base CX0 k (He.ga K "_law_inner") (fdOf K (He.ga K "_law_inner")) p__law_inner (spLInner K))
    (G__law_words : FnOk P w K mg base CX0 k (He.ga K "_law_words") (fdOf K (He.ga K "_law_words")) p__law_words (spj)) : FnOk P w K mg base CX0 (k + 1) (He.ga K "_law_words") (fdOf K (He.ga K "_law_words")) p__law_words (spLWords K n) := by
  refine FunD.ok T.d__law_words sc__law_words (fun vs H Q E h => ?_) (fun cdv A outer s H vs Q E hr h => ?_)
  · obtain ⟨v, t, d, kd, rfl, _⟩ := h
    rfl
  · obtain ⟨v, t, d, kd, rfl, ht, hd, hn, hQ⟩ := h
    refine ⟨_, PSs.nox ((pss_cons (ps_set (i := 2) sc__law_words.nd rfl (Or.inl rfl) (pe_ifExp (pt_cmpR op_eq (pe_ix ix_seq (pv 0) pe_int (fun _ _ => rfl)) (pv 1) (nomark _)) (pe_lst (pa_cons (pe_ix ix_seq (pv 0) pe_int (fun _ _ => rfl)) pa_nil)) (pe_lst pa_nil)))
    (pss_cons (ps_for PassesOwn.never rfl (pi_list (pe_call G__law_inner hr rfl T.g__law_inner T.d__law_inner.kp (b__law_inner T) .nil pass0 (pa_cons (pv 0) pa_nil))) (pg_name (i := 3) sc__law_words.nd rfl (Or.inl rfl) (hf := by first | exact Or.inl rfl | exact Or.inr rfl))
      (pss_one (ps_set (i := 2) sc__law_words.nd rfl (Or.inl rfl) (pe_op op_cat (pv 2) (pe_call G__law_words hr rfl T.g__law_words T.d__law_words.kp (b__law_words T) .nil pass0 (pa_cons (pv 3) (pa_cons (pv 1) pa_nil)))))))
    (pss_one (ps_ret (pv 2)))))), ?_⟩
    show tSeq _ _ _ [some v, some (V.str (kindS kd)), none, none] H
    walk_at "K"
    obtain ⟨d, rfl⟩ : ∃ e, d = e + 1 := ⟨d - 1, by
      have := ht.depth
      have := t.dep_pos
      omega⟩
    have ht0 := ht
    obtain ⟨p, xs, rfl, hs, row⟩ := ht
    obtain ⟨r, er⟩ := row.head
    have rest : ∀ f H1, Ex H H1 → H1 f = some (.lst ((own2 kd t).map V.str)) → ∀ y3, tFor (iList K (tCall (spLInner K) [] E0 (tCons (tVar 0) tNil))) (gName 3)
          (tAsg (tOp rCat (tVar 2) (tCall spj [] E0 (tCons (tVar 3) (tCons (tVar 1) tNil)))) (gName 2)) { nx := tRet (tVar 2) { nx := fun x H' => Q V.non H', rt := Q }, rt := Q } [some (.ref p), some (.str (kindS kd)), some (.ref f), y3] H1 := fun f H1 x1 hf y3 => by
      walk_at "go"
      refine ⟨.ref p, t, d, rfl, ht0.ex x1, fun l ys H2 x2 hl0 hl hys => ?_⟩
      have hlen := pr_len hys
      have x12 := x1.trans x2
      have eN := kws_all kd t
      walk_at "go"
      refine for_it (walk_list (xs := ys)) (fun i σ H' => (∃ f y3, σ = [some (.ref p), some (.str (kindS kd)), some (.ref f), y3] ∧ H' f = some (.lst ((own2 kd t ++ kwss kd (t.parts.take i)).map V.str))) ∧ Ex H2 H') ⟨⟨f, _, rfl, by
        have := x2 _ _ hf
        rw [List.take_zero, kwss_nil, List.append_nil]
        exact this⟩, Ex.refl _⟩ (fun i σ H' _ h => SqL.of (h.2 _ _ hl)) ?_ ?_
      · rintro i x σ H3 H3' hi ⟨⟨f, y3, rfl, hf3⟩, x3⟩ ⟨rfl, hx⟩
        obtain ⟨a, ha, hv⟩ := pr_get hys hx
        have had := Tm.dep_parts hd a (List.mem_of_getElem? ha)
        obtain ⟨j, rfl, rfl⟩ : ∃ j, n = j + 1 ∧ spj = spLWords K j := hj.elim (fun z => by
          have := a.dep_pos
          omega) id
        have e1 := kwss_get (k := kd) ha
        have h1 := kwss_take (kd := kd) (l := t.parts) (k := i + 1)
        rw [e1, List.length_append] at h1
        rw [eN, List.length_append] at hn
        walk_at "go"
        refine ⟨x, a, d, kd, rfl, hv.ex (x2.trans x3), by omega, by omega, fun q H4 x4 hq => ?_⟩
        walk_at "go"
        refine ⟨f, q, _, _, rfl, rfl, x4 _ _ hf3, hq, ?_, fun g hg => ?_⟩
        · rw [List.length_map, List.length_map, List.length_append]
          exact Nat.le_trans (show _ ≤ 100000 by omega) (by decide)
        · walk_at "go"
          rw [← List.map_append, List.append_assoc, ← e1]
          exact ⟨⟨g, _, rfl, upd_same⟩, (x3.trans x4).trans (Ex.new hg)⟩
      · rintro σ H3 ⟨⟨f, y3, rfl, hf3⟩, x3⟩
        rw [hlen, List.take_length, ← eN] at hf3
        walk_at "go"
        exact hQ f H3 (x12.trans x3) hf3
    by_cases hw : t.word = kindS kd
    · cases kd with
      | true =>
        obtain ⟨z, rfl⟩ := word_name hw
        have row : xs = _ := row
        subst row
        walk_at "go"
        intro f hf
        exact rest f _ (Ex.new hf) upd_same none
      | false =>
        obtain ⟨f0, as, rfl⟩ := word_call hw
        obtain ⟨q, ys, rfl, hq, hys⟩ := row
        walk_at "go"
        intro f hf
        exact rest f _ (Ex.new hf) upd_same none
    · have hs2 := hs
      rw [er] at hs2
      walk_at "go"
      refine r_ifF' (decide_eq_false fun z => hw (V.str.inj z)) ?_
      walk_at "go"
      intro f hf
      refine rest f _ (Ex.new hf) ?_ none
      have e0 : own2 kd t = [] := by
        cases kd with
        | true =>
          cases t with
          | nam z => exact absurd rfl hw
          | _ => rfl
        | false =>
          cases t with
          | cal f as => exact absurd rfl hw
          | _ => rfl
      rw [e0]
      exact upd_same
theorem ok__law_words {k : Nat} (T : Txt K mg) (G__law_inner : FnOk P w K mg base CX0 (k) (He.ga K "_law_inner") (fdOf K (He.ga K "_law_inner")) p__law_inner (spLInner K)) : ∀ n, FnOk P w K mg base CX0 (k + n + 1) (He.ga K "_law_words") (fdOf K (He.ga K "_law_words")) p__law_words (spLWords K n)
  | 0 => ok1__law_words (spj := spNo) T (.inl rfl) G__law_inner fnOk_no
  | n + 1 => ok1__law_words T (.inr ⟨n, rfl, rfl⟩) (G__law_inner.mono (by omega)) (ok__law_words T G__law_inner n)
end
end PW
/-! ### own errors made and raised: all that the text raises -/
namespace PW
open PySem PySem.Spec PyProof.Rows L2
section
variable {P : Program} {w : World} {K : PySem.W.Frag} {mg : Str → Option Value} {base : Heap}
theorem xmk_InvalidNumber (hP : IsPG P) (T : Txt K mg) : Makes1 P w K mg (He.ga K "InvalidNumber") "InvalidNumber" "value" := by
  intro A s v R X hg ⟨mb, hb, hbb⟩ hlim hd hR
  have M := T.x_InvalidNumber
  refine PySem.W.exc_made (M := fun m => ∃ tu, m = fun (y : Str) => if y = "value" then some v else if y = "tag" then some (.str "InvalidNumber" tu) else none) M.oex M.iC M.tC X (by show 1 ≤ sizeLine; decide) ?_ ?_
  · intro A' h2 x t0 R' hA' hk xK hx hq
    refine PySem.W.init_run (s := ⟨h2, s.gens, s.drawn, s.toks, s.os⟩) (mg := mg) (mb := mb) (args := [v]) (binds := [("self", .ref x), ("value", v)]) M.oex (T.xi_InvalidNumber hP) (X.keeps hk) (hg.keeps hk) (hb.keeps hk) ((hbb _ (by decide)).trans (by rfl)) (hlim.keeps hk) hx (by omega)
      (fun _ _ _ _ _ _ _ _ => BindsTo.of_eq (by rfl)) (by decide +kernel) (fun y hy => ?_) rfl rfl rfl T.f_super (fun _ _ _ => rfl) (fun _ => rfl) (fun _ => rfl) rfl rfl (by rfl) (by rfl) (by rfl) (by rfl) ?_
    · rcases List.mem_cons.mp hy with rfl | hy
      · rfl
      · rcases List.mem_cons.mp hy with rfl | hy
        · rfl
        · cases hy
    · intro L cda cc s1 t1 os g d hn hL k hx1
      have xL : L ≠ x := Nat.ne_of_gt (Nat.lt_of_lt_of_le (Heap.lt_size hx) hL)
      refine PySem.W.init1_run (tag := "InvalidNumber") (fld := "value") (v := v) M.oex (PySem.W.in_but (X.keeps hk) xK k) hn (by rfl) (by rfl) hx1 xK xL rfl (by rfl) (by rfl) (by rfl) (M.no _ (by decide)) (M.no _ (by decide)) ?_
      intro h' tk dx tu e
      obtain ⟨g1, d1, os1⟩ : s1.gens = s.gens ∧ s1.drawn = s.drawn ∧ s1.os = s.os := ⟨g, d, os⟩
      have z := hq h' tk dx t1 _ ⟨tu, rfl⟩ ⟨fun b o nb q => e.keep b o nb (k b o nb q), e.obj, ?_, e.dne, e.ns⟩
      · rw [← g1, ← d1, ← os1] at z
        exact z
      · exact Nat.le_trans (Nat.le_trans hL (Nat.le_of_lt hn.lt)) e.dbig
  · intro h' tk e d m ⟨tu, hm⟩ E
    subst hm
    exact hR h' tk e d tu E
theorem xmk_UnknownName (hP : IsPG P) (T : Txt K mg) : Makes1 P w K mg (He.ga K "UnknownName") "UnknownName" "name" := by
  intro A s v R X hg ⟨mb, hb, hbb⟩ hlim hd hR
  have M := T.x_UnknownName
  refine PySem.W.exc_made (M := fun m => ∃ tu, m = fun (y : Str) => if y = "name" then some v else if y = "tag" then some (.str "UnknownName" tu) else none) M.oex M.iC M.tC X (by show 1 ≤ sizeLine; decide) ?_ ?_
  · intro A' h2 x t0 R' hA' hk xK hx hq
    refine PySem.W.init_run (s := ⟨h2, s.gens, s.drawn, s.toks, s.os⟩) (mg := mg) (mb := mb) (args := [v]) (binds := [("self", .ref x), ("name", v)]) M.oex (T.xi_UnknownName hP) (X.keeps hk) (hg.keeps hk) (hb.keeps hk) ((hbb _ (by decide)).trans (by rfl)) (hlim.keeps hk) hx (by omega)
      (fun _ _ _ _ _ _ _ _ => BindsTo.of_eq (by rfl)) (by decide +kernel) (fun y hy => ?_) rfl rfl rfl T.f_super (fun _ _ _ => rfl) (fun _ => rfl) (fun _ => rfl) rfl rfl (by rfl) (by rfl) (by rfl) (by rfl) ?_
    · rcases List.mem_cons.mp hy with rfl | hy
      · rfl
      · rcases List.mem_cons.mp hy with rfl | hy
        · rfl
        · cases hy
    · intro L cda cc s1 t1 os g d hn hL k hx1
      have xL : L ≠ x := Nat.ne_of_gt (Nat.lt_of_lt_of_le (Heap.lt_size hx) hL)
      refine PySem.W.init1_run (tag := "UnknownName") (fld := "name") (v := v) M.oex (PySem.W.in_but (X.keeps hk) xK k) hn (by rfl) (by rfl) hx1 xK xL rfl (by rfl) (by rfl) (by rfl) (M.no _ (by decide)) (M.no _ (by decide)) ?_
      intro h' tk dx tu e
      obtain ⟨g1, d1, os1⟩ : s1.gens = s.gens ∧ s1.drawn = s.drawn ∧ s1.os = s.os := ⟨g, d, os⟩
      have z := hq h' tk dx t1 _ ⟨tu, rfl⟩ ⟨fun b o nb q => e.keep b o nb (k b o nb q), e.obj, ?_, e.dne, e.ns⟩
      · rw [← g1, ← d1, ← os1] at z
        exact z
      · exact Nat.le_trans (Nat.le_trans hL (Nat.le_of_lt hn.lt)) e.dbig
  · intro h' tk e d m ⟨tu, hm⟩ E
    subst hm
    exact hR h' tk e d tu E

end
end PW
/-! ### what an error has; a call's value or its error's tag and field -/
namespace PW
open PySem PySem.Spec PyProof.Rows L2
/-- the errors of the text: class, tag, dict, what _law_field tells -/
inductive ErrRow (K : PySem.W.Frag) : Addr → Str → List (Str × V) → V → Prop where
  | InvalidNumber (v : V) : ErrRow K (He.ga K "InvalidNumber") "InvalidNumber" [("value", v), ("tag", .str "InvalidNumber")] v
  | UnknownName (v : V) : ErrRow K (He.ga K "UnknownName") "UnknownName" [("name", v), ("tag", .str "UnknownName")] v
theorem ErrRow.facts {K : PySem.W.Frag} {mg : Str → Option Value} (T : Txt K mg) {C : Addr} {tag : Str} {fs : List (Str × V)} {x : V} (h : ErrRow K C tag fs x) : XfC K C ∧ PySem.W.findIn K (.ref C) "tag" = some none ∧ PySem.W.exmAny K (.ref C) [.ref (He.ga K "WishError"), .ref (He.ga K "Missing"), .ref (He.ga K "NothingLeft")] = some true ∧ fs.lookup ("tag" : Str) = some (V.str tag) := by
  cases h with
  | InvalidNumber v => exact ⟨T.x_InvalidNumber.xf, T.x_InvalidNumber.no _ (by decide), T.xm_InvalidNumber, rfl⟩
  | UnknownName v => exact ⟨T.x_UnknownName.xf, T.x_UnknownName.no _ (by decide), T.xm_UnknownName, rfl⟩

/-- H holds an error -/
def ErrD (C : Addr) (fs : List (Str × V)) (cls : Value) (d : Option Addr) (H : Hp) : Prop := ∃ dd, cls = .ref C ∧ d = some dd ∧ H dd = some (.xd fs)
def spField (K : PySem.W.Frag) : Sp := fun vs H Q _ => ∃ a C tag fs x cls d, vs = [.ref a] ∧ ErrRow K C tag fs x ∧ H a = some (excE a cls d) ∧ ErrD C fs cls d H ∧ ∀ H', Ex H H' → Q x H'
section
variable {P : Program} {w : World} {K : PySem.W.Frag} {mg : Str → Option Value} {base : Heap}
theorem cxW_K {N : List Str} {qual : Str} {scope : Scope} {f : Addr} {cd : Value} {A : Around} {outer : List Env} {s : Shared} {H : Hp} {E : XK} : (cxW P w K mg base N qual scope f cd A outer s H E).K = K := rfl
theorem okW__law_field (T : Txt K mg) : FnW P w K mg base 1 (He.ga K "_law_field") (fdOf K (He.ga K "_law_field")) p__law_field (spField K) := by
  refine fnW_of T.d__law_field sc__law_field (fun vs H Q E h => ?_) (fun cdv A outer s H vs Q E hr h => ?_)
  · obtain ⟨a, C, tag, fs, x, cls, d, rfl, _⟩ := h
    rfl
  · obtain ⟨a, C, tag, fs, x, cls, d, rfl, row, ha, ⟨dd, rfl, rfl, hd⟩, q⟩ := h
    refine ⟨_, ((pss_cons (ps_if (pt_cmpR op_in_seq (PW.pe_xe (pv 0)) (pe_lst (pa_cons pe_str (pa_cons pe_str pa_nil))) rfl)
      (pss_one (ps_ret (PW.pe_xe (pv 0))))
      pss_nil)
    (pss_cons (ps_if (pt_cmpR op_in_seq (PW.pe_xe (pv 0)) (pe_lst (pa_cons pe_str (pa_cons pe_str (pa_cons pe_str (pa_cons pe_str (pa_cons pe_str (pa_cons pe_str pa_nil))))))) rfl)
      (pss_one (ps_ret (PW.pe_xe (pv 0))))
      pss_nil)
    (pss_cons (ps_if (pt_cmpR op_in_seq (PW.pe_xe (pv 0)) (pe_lst (pa_cons pe_str (pa_cons pe_str pa_nil))) rfl)
      (pss_one (ps_ret (PW.pe_xe (pv 0))))
      pss_nil)
    (pss_cons (ps_if (pt_cmpR op_eq (PW.pe_xe (pv 0)) pe_str (nomark _))
      (pss_one (ps_ret (PW.pe_xe (pv 0))))
      pss_nil)
    (pss_cons (ps_if (pt_cmpR op_eq (PW.pe_xe (pv 0)) pe_str (nomark _))
      (pss_one (ps_ret (PW.pe_xe (pv 0))))
      pss_nil)
    (pss_cons (ps_if (pt_cmpR op_eq (PW.pe_xe (pv 0)) pe_str (nomark _))
      (pss_one (ps_ret (PW.pe_xe (pv 0))))
      pss_nil)
    (pss_one (ps_ret (pe_ifExp (pt_cmpR op_eq (PW.pe_xe (pv 0)) pe_str (nomark _)) (PW.pe_xe (pv 0)) pe_non)))))))))), ?_⟩
    show tSeq _ _ _ [some (V.ref a)] H
    simp only [cxW_K]
    cases row with
    | InvalidNumber v =>
      have M := T.x_InvalidNumber
      refine ⟨_, rfl, a, _, dd, _, _, rfl, M.xf, M.no _ (by decide), ha, hd, rfl, ?_⟩
      walk_at "go"
      intro p0 hp0
      walk_at "go"
      refine ⟨_, rfl, a, _, dd, _, _, rfl, M.xf, M.no _ (by decide), (Ex.new hp0 _ _ ha), (Ex.new hp0 _ _ hd), rfl, ?_⟩
      exact q _ (Ex.new hp0)
    | UnknownName v =>
      have M := T.x_UnknownName
      refine ⟨_, rfl, a, _, dd, _, _, rfl, M.xf, M.no _ (by decide), ha, hd, rfl, ?_⟩
      walk_at "go"
      intro p0 hp0
      walk_at "go"
      refine ⟨_, rfl, a, _, dd, _, _, rfl, M.xf, M.no _ (by decide), (Ex.new hp0 _ _ ha), (Ex.new hp0 _ _ hd), rfl, ?_⟩
      walk_at "go"
      intro p1 hp1
      walk_at "go"
      refine ⟨_, rfl, a, _, dd, _, _, rfl, M.xf, M.no _ (by decide), (Ex.new hp1 _ _ (Ex.new hp0 _ _ ha)), (Ex.new hp1 _ _ (Ex.new hp0 _ _ hd)), rfl, ?_⟩
      exact q _ ((Ex.new hp0).trans (Ex.new hp1))

/-- try: return ("value", a()) / except (..) as e: return (e.tag, _law_field(e)) -/
def ErrK (K : PySem.W.Frag) (Q : VK) : XK := fun cls d H' => ∃ C tag fs x, ErrRow K C tag fs x ∧ ErrD C fs cls d H' ∧ ∀ p H'', Ex H' H'' → H'' p = some (.tup [.str tag, x]) → Q (.ref p) H''
def TTwhy (K : PySem.W.Frag) : (XK → Hp → VK → Prop) → Hp → VK → Prop := fun tl H Q =>
  tl (ErrK K Q) H (fun v H' => [V.str "value", v].length ≤ sizeLine ∧ ∀ p, H' p = none → Q (.ref p) (upd H' p (.tup [.str "value", v])))
theorem r_why {tl : XK → Hp → VK → Prop} {H : Hp} {Q : VK} (h : tl (ErrK K Q) H (fun v H' => [V.str "value", v].length ≤ sizeLine ∧ ∀ p, H' p = none → Q (.ref p) (upd H' p (.tup [.str "value", v])))) : TTwhy K tl H Q := h
theorem why_gives {X : Cx} {k : Nat} {q : Str} {g : Addr} {cdg : Value} (T : Txt X.K X.mg) (hr : Room (k + 3) X.A) (h0 : ∀ f : Addr, (L2.start n__law_why [V.ref f])[0]? = some (some (V.ref f))) :
    LamX.GivesTo X n__law_why "_law_why" (defScope s__law_why) g cdg (defBody s__law_why) "_law_ask_z" q (TTwhy X.K) := by
  intro f c' s H Q tl act hc h
  have GF := okW__law_field (P := X.prog) (w := X.w) (base := X.base) T
  refine ⟨_, pss_one (ps_try_e3 (X := (cxOf C8.CX0 X.prog X.w X.K X.mg X.base n__law_why "_law_why" (defScope s__law_why) g cdg X.A X.stack s H C8.E0).nox) (i := 1)
      (c1 := .ref (He.ga X.K "WishError")) (c2 := .ref (He.ga X.K "Missing")) (c3 := .ref (He.ga X.K "NothingLeft"))
      (tb := fun W D σ H => ∃ Ech : XK, (∀ cls d σ' H', Ech cls d H' → W cls d σ' H') ∧ σ[0]? = some (some (.ref f)) ∧ H c' = some (LamX.CodeO c' q) ∧ tl Ech H (fun v H1 => [V.str "value", v].length ≤ sizeLine ∧ ∀ p, H1 p = none → D.rt (.ref p) (upd H1 p (.tup [.str "value", v]))))
      (ts := fun a cls d => tRet (tTup (tCons (tXe X.K "tag" (tVar 1)) (tCons (tCall (spField X.K) [] E0 (tCons (tVar 1) tNil)) tNil))))
      rfl rfl rfl sc__law_why.nd rfl rfl ⟨rfl, by decide, .inl T.g_WishError⟩ ⟨rfl, by decide, .inl T.g_Missing⟩ ⟨rfl, by decide, .inl T.g_NothingLeft⟩ (fun W pn xe tk _ => ?_)
      (fun a cls d pn => ?_)), ?_⟩
  · refine ⟨fun pins s' σ H' D I h' => ?_⟩
    obtain ⟨Ech, hW, h1, h2, h3⟩ := h'
    have hq : ∀ (p1 p2 p3 p4 p5 : Pos) (j j2 : Nat), PSs ((cxOf C8.CX0 X.prog X.w X.K X.mg X.base n__law_why "_law_why" (defScope s__law_why) g cdg X.A X.stack s H C8.E0).tr pn xe) [.Return (some (.Tuple [.Constant (.str "value") j p4, .Call (.Name "_law_ask_z" p1) [] [] p2] j2 p3)) p5] _ :=
      fun p1 p2 p3 p4 p5 j j2 => pss_one (ps_ret (pe_tup (pa_cons pe_str (pa_cons (act W pn xe Ech p1 p2 tk hW) pa_nil))))
    refine (hq _ _ _ _ _ _ _).run pins s' σ H' D I ?_
    exact ⟨h1, h2, h3⟩
  · have z : Room 1 (X.A.deeper (envOfC "_law_why" (defScope s__law_why) s.heap.objs.size g cdg)) := (hr.deeper _).mono (by omega)
    have hr1 : L2H.RoomH 1 ((cxOf C8.CX0 X.prog X.w X.K X.mg X.base n__law_why "_law_why" (defScope s__law_why) g cdg X.A X.stack s H C8.E0).nox.suite a pn).A := ⟨z.dp, z.un⟩
    exact pss_one (ps_ret (pe_tup (pa_cons (pe_xe (pv 1)) (pa_cons (pe_callW GF hr1 rfl T.g__law_field T.d__law_field.kp (b__law_field T) (pa_cons (pv 1) pa_nil)) pa_nil))))
  · refine ⟨_, fun cls d σ' H' hx => ?_, h0 f, hc, h⟩
    obtain ⟨C, tag, fs, x, row, hI, hQ⟩ := hx
    obtain ⟨dd, rfl, rfl, hd⟩ := hI
    obtain ⟨xf, hno, hxm, hlk⟩ := row.facts T
    refine ⟨hxm, fun a ha hl => ?_⟩
    have e1 : upd H' a (excE a (.ref C) (some dd)) dd = some (.xd fs) := Ex.new ha _ _ hd
    have e2 : upd H' a (excE a (.ref C) (some dd)) a = some (excE a (.ref C) (some dd)) := upd_same
    have l1 : (σ'.set 1 (some (.ref a)))[1]? = some (some (.ref a)) := by
      rw [List.getElem?_set_self (by rw [hl]; show 1 < n__law_why.length; decide)]
    refine ⟨.ref a, l1, a, _, dd, _, _, rfl, xf, hno, e2, e1, hlk, .ref a, l1, ?_⟩
    refine ⟨a, C, tag, fs, x, _, _, rfl, row, e2, ⟨dd, rfl, rfl, e1⟩, fun H2 x2 => ⟨by show 2 ≤ sizeLine; decide, fun p hp => ?_⟩⟩
    exact hQ p _ (((Ex.new ha).trans x2).trans (Ex.new hp)) upd_same
/-- _law_why(lambda: body) -/
theorem pe_why {X : Cx} {c Pt : Addr} {k : Nat} {params : Arguments} {body : Expr} {scope : Scope} {t : XK → TE} {p lpos pos : Pos} (T : Txt X.K X.mg) (TB : LamX.TabB X.base X.mg c Pt) (hcode : X.env.code = .ref c) (hg : Gl X "_law_why") (hr : Room (k + 3) X.A)
    (L : LamX.LamS X.env.scope scope) (hdef : defaultsOf params X.env = ([], [])) (hbind : ∀ (q : Str) (cl : List (Str × Addr)) (pm cv ctv : Value), bindArgs (PySem.W.kla_fn "<lambda>" q params body scope cl pm cv ctv) ⟨[], []⟩ = pure [])
    (hbody : ∀ (A : Around) (outer : List Env) (s : Shared) (H : Hp) (E : XK) (f c' : Addr), Room k (A.deeper (LamX.lamEnv X scope s.heap.objs.size f c')) → PE (LamX.lamCx X A outer s H E scope f c') body (t E)) :
    PE X (.Call (.Name "_law_why" p) [.Lambda params body scope lpos] [] pos) (LamX.tLam [(Pt, X.env.qual ++ "<lambda>")] (TTwhy X.K) t) := by
  obtain ⟨oc, od, dV, kV, doc, pm, an, cdv, ct, osl, e, lk, hcd, _, _⟩ := T.d__law_why.ex
  have hb := b__law_why T
  rw [e] at lk
  have e2 : fdOf X.K (He.fAd X.K ("_law_why", none)) = _ := e
  rw [e2] at hb
  exact LamX.pe_lamcall (k := k) (Ng := n__law_why) (a := "_law_ask_z") hg T.g__law_why T.d__law_why.kp lk hcd hb sc__law_why rfl (.inl rfl) (why_gives T hr fun _ => rfl) TB hcode List.mem_cons_self (fun q hq _ => by
    rcases List.mem_cons.mp hq with rfl | hq
    · rfl
    · exact nomatch hq) (hr.mono (by omega)) L hdef hbind hbody
end
end PW
/-! ### laws with lambdas: the table grows, all else stays -/
namespace PW
open PySem PySem.Spec PyProof.Rows L2
open LamX (Tabs TabS CodeO ExtN TabB)
/-- the name of the law's lambdas' code, by its table -/
def TbL (Pt : Addr) : List (Addr × Str) := [(Pt, (envOfC "law" (defScope s_law) 0 0 .none).qual ++ "<lambda>")]
def spLawS (K : PySem.W.Frag) (Pt : Addr) : Sp := fun vs H Q _ => ∃ (a : Addr) (ns : List Int), vs = [.ref a] ∧ SqL K H a (ns.map V.int) ∧ ns.length ≤ 63 ∧ H Pt = some (.tbl #[]) ∧ ∀ H', Q (.bl true) H'
/-- the bag stands, the table too (told of the heap without the bag) -/
structure BT (Pt : Addr) (H : Hp) (b c : Addr) : Prop where
  bag : BagAt H b c
  tab : Tabs (TbL Pt) (hide H b)
theorem exb_hides {b : Addr} {H H' : Hp} (x : ExB b H H') : Ex (PW.hide H b) (PW.hide H' b) := fun a o h => by
  have na : a ≠ b := fun z => by
    rw [z, hide_same] at h
    cases h
  rw [hide_ne na] at h ⊢
  exact x a o na h
theorem BT.pull {Pt b c : Addr} {H H' : Hp} (t : BT Pt H b c) (hB : BagAt H' b c) (x : ExB b H H') : BT Pt H' b c := ⟨hB, t.tab.ext (exb_hides x)⟩
theorem BT.ex {Pt b c : Addr} {H H' : Hp} (t : BT Pt H b c) (x : Ex H H') : BT Pt H' b c := ⟨t.bag.grow x, t.tab.ext (x.hides b)⟩
theorem BT.tabs {Pt b c : Addr} {H : Hp} (t : BT Pt H b c) : Tabs (TbL Pt) H := t.tab.ext (Ex.hide H b)
theorem tabs_hide {T : List (Addr × Str)} {H : Hp} {b : Addr} {xs : List V} (hb : H b = some (.lst xs)) (t : Tabs T H) : Tabs T (hide H b) := fun p hp => by
  obtain ⟨ps, h1, h2, h3⟩ := t p hp
  have n1 : p.1 ≠ b := fun z => by
    rw [z, hb] at h1
    cases h1
  refine ⟨ps, (hide_ne n1).trans h1, h2, fun pos cv e => ?_⟩
  obtain ⟨c, e1, e2⟩ := h3 pos cv e
  have n2 : c ≠ b := fun z => by
    rw [z, hb] at e2
    have e3 : HO.lst xs = CodeO b p.2 := Option.some.inj e2
    cases e3
  exact ⟨c, e1, (hide_ne n2).trans e2⟩
theorem BT.lam {Pt b c : Addr} {H H1 : Hp} (t : BT Pt H b c) (x : ExtN H H1) (ht : Tabs (TbL Pt) H1) : BT Pt H1 b c := by
  obtain ⟨cells, i, g, s, h1, h2, _⟩ := t.bag.ex
  have k1 := x _ _ h1 (fun ps z => by cases z)
  have k2 := x _ _ h2 (fun ps z => by cases z)
  refine ⟨t.bag.keep (fun o q => ?_) (fun o q => ?_), tabs_hide k1 ht⟩
  · rw [h1] at q
    injection q with q
    subst q
    exact k1
  · rw [h2] at q
    injection q with q
    subst q
    exact k2
theorem BT.first {Pt b c : Addr} {H H1 : Hp} (hP : H Pt = some (.tbl #[])) (x : ∀ a o, H a = some o → H1 a = some o) (hB : BagAt H1 b c) : BT Pt H1 b c := by
  obtain ⟨cells, i, g, s, h1, _⟩ := hB.ex
  refine ⟨hB, tabs_hide h1 fun p hp => ?_⟩
  rcases List.mem_cons.mp hp with rfl | hp
  · exact TabS.nil (x _ _ hP)
  · exact nomatch hp
theorem ExtN.tup {K : PySem.W.Frag} {H H' : Hp} {p : Addr} {xs : List V} (e : ExtN H H') (h : SqT K H p xs) : SqT K H' p xs := by
  rcases h with (h | ⟨o, h⟩) | h
  · exact .inl (.inl (e _ _ h (fun _ z => by cases z)))
  · exact .inl (.inr ⟨o, e _ _ h (fun _ z => by cases z)⟩)
  · exact .inr h
end PW
/-! ### need_known that raises -/
namespace PW
open PySem PySem.Spec PyProof.Rows L2
def NamE (K : PySem.W.Frag) (z : Str) (H : Hp) (E : XK) : Prop := ∀ d H', Ex H H' → H' d = some (.xd [("name", .str z), ("tag", .str "UnknownName")]) → E (.ref (He.ga K "UnknownName")) (some d) H'
/-- the first name that is not told, or the first called one -/
def lostN (kvs : List (Key × V)) (ns cs : List Str) : Option Str := ((ns.filter fun z => (valV kvs (.inr z)).isNone) ++ cs).head?
def spNeedX (K : PySem.W.Frag) : Sp := fun vs H Q E => ∃ a b tb kvs, ∃ ns cs : List Str, ∃ z, vs = [.ref a, .ref b, .ref tb] ∧ H a = some (.lst (ns.map V.str)) ∧ H b = some (.lst (cs.map V.str)) ∧ H tb = some (.dK kvs) ∧ lostN kvs ns cs = some z ∧ NamE K z H E
theorem lost_at {kvs : List (Key × V)} {ns cs : List Str} {i : Nat} {z : Str} (h : ∀ y ∈ ns.take i, (valV kvs (.inr y)).isSome = true) (hz : ns[i]? = some z) (hn : valV kvs (.inr z) = none) : lostN kvs ns cs = some z := by
  unfold lostN
  have e : ns = ns.take i ++ z :: ns.drop (i + 1) := by
    obtain ⟨hlt, hz⟩ := List.getElem?_eq_some_iff.mp hz
    conv => lhs; rw [← List.take_append_drop i ns, List.drop_eq_getElem_cons hlt, hz]
  have e1 : (ns.take i).filter (fun z => (valV kvs (.inr z)).isNone) = [] := List.filter_eq_nil_iff.mpr fun y hy => by
    rw [Option.isNone_iff_eq_none]
    intro c
    have := h y hy
    rw [c] at this
    cases this
  rw [e, List.filter_append, e1, List.filter_cons_of_pos (by rw [hn]; rfl)]
  rfl
theorem lost_no {kvs : List (Key × V)} {ns cs : List Str} (h : ∀ y ∈ ns, (valV kvs (.inr y)).isSome = true) : lostN kvs ns cs = cs.head? := by
  unfold lostN
  have e1 : ns.filter (fun z => (valV kvs (.inr z)).isNone) = [] := List.filter_eq_nil_iff.mpr fun y hy => by
    rw [Option.isNone_iff_eq_none]
    intro c
    have := h y hy
    rw [c] at this
    cases this
  rw [e1]
  rfl
section
variable {P : Program} {w : World} {K : PySem.W.Frag} {mg : Str → Option Value} {base : Heap}
theorem okX_need_known (hP : IsPG P) (T : Txt K mg) : FnOk P w K mg base (L2.CX P w) (2) (He.ga K "need_known") (fdOf K (He.ga K "need_known")) p_need_known (spNeedX K) := by
  refine FunD.ok T.d_need_known sc_need_known (fun vs H Q E h => ?_) (fun cdv A outer s H vs Q E hr h => ?_)
  · obtain ⟨a, b, tb, kvs, ns, cs, z, rfl, _⟩ := h
    rfl
  · obtain ⟨a, b, tb, kvs, ns, cs, z, rfl, ha, hb, htb, hz, hE⟩ := h
    refine ⟨_, ((pss_cons (ps_for (passes_of rfl) rfl (pi_list (pv 0)) (pg_name (i := 3) sc_need_known.nd rfl (Or.inl rfl) (hf := by first | exact Or.inl rfl | exact Or.inr rfl))
      (pss_one (ps_if (pt_cmp (pc_dnotin (hu_of hr) (pv 3) (pv 2)))
          (pss_one (ps_raise rfl (takes_of rfl rfl rfl rfl) (PW.pmk1 (xmk_UnknownName hP T) (by decide) (raises_own T.x_UnknownName.oex.exC T.x_UnknownName.oex.tyC) T.x_UnknownName.oex.kC T.g_UnknownName hr (pa_cons (pv 3) pa_nil) rfl)))
          pss_nil)))
    (pss_one (ps_for (passes_of rfl) rfl (pi_list (pv 1)) (pg_name (i := 3) sc_need_known.nd rfl (Or.inl rfl) (hf := by first | exact Or.inl rfl | exact Or.inr rfl))
      (pss_one (ps_raise rfl (takes_of rfl rfl rfl rfl) (PW.pmk1 (xmk_UnknownName hP T) (by decide) (raises_own T.x_UnknownName.oex.exC T.x_UnknownName.oex.tyC) T.x_UnknownName.oex.kC T.g_UnknownName hr (pa_cons (pv 3) pa_nil) rfl))))))), ?_⟩
    show tSeq _ _ _ [some (.ref a), some (.ref b), some (.ref tb), none] H
    walk_at "K"
    walk_at "go"
    refine for_it (walk_list (xs := ns.map V.str)) (fun i σ H' => (∃ y, σ = [some (.ref a), some (.ref b), some (.ref tb), y]) ∧ H' = H ∧ ∀ y ∈ ns.take i, (valV kvs (.inr y)).isSome = true) ⟨⟨_, rfl⟩, rfl, fun y hy => by rw [List.take_zero] at hy; exact nomatch hy⟩ (fun i σ H' _ h => ?_) ?_ ?_
    · obtain ⟨_, rfl, _⟩ := h
      exact SqL.of ha
    · rintro i x σ H2 H2' hi ⟨⟨y, rfl⟩, rfl, hp⟩ ⟨rfl, hx⟩
      rw [List.getElem?_map] at hx
      obtain ⟨u, hu, rfl⟩ := Option.map_eq_some_iff.mp hx
      have g := DGet.k (k := (.inr u : Key)) htb
      cases hv : valV kvs (.inr u) with
      | none =>
        rw [hv] at g
        have e := lost_at (cs := cs) hp hu hv
        rw [hz] at e
        cases e
        walk_at "go"
        refine ⟨_, rfl, _, rfl, tb, none, rfl, g, ?_⟩
        walk_at "go"
        exact ⟨_, rfl, _, rfl, fun d hd => hE d _ (Ex.new hd) upd_same⟩
      | some v =>
        rw [hv] at g
        walk_at "go"
        refine ⟨_, rfl, _, rfl, tb, some v, rfl, g, ?_⟩
        walk_at "go"
        refine ⟨⟨_, rfl⟩, rfl, fun y hy => ?_⟩
        rw [List.take_add_one, hu] at hy
        rcases List.mem_append.mp hy with q | q
        · exact hp y q
        · rw [List.mem_singleton.mp q, hv]
          rfl
    · rintro σ H2 ⟨⟨y, rfl⟩, rfl, hp⟩
      rw [List.length_map, List.take_length] at hp
      rw [lost_no hp] at hz
      walk_at "go"
      refine for_it (tb := fun _ σ H => tMk1 (He.ga K "UnknownName") "UnknownName" "name" (tCons (tVar 3) tNil) σ H fun cls d H' => E cls d H') (walk_list (xs := cs.map V.str)) (fun i σ H' => (∃ y, σ = [some (.ref a), some (.ref b), some (.ref tb), y]) ∧ H' = H2 ∧ i = 0) ⟨⟨_, rfl⟩, rfl, rfl⟩ (fun i σ H' _ h => ?_) ?_ ?_
      · obtain ⟨_, rfl, _⟩ := h
        exact SqL.of hb
      · rintro i x σ H3 H3' hi ⟨⟨y, rfl⟩, rfl, rfl⟩ ⟨rfl, hx⟩
        rw [List.getElem?_map] at hx
        obtain ⟨u, hu, rfl⟩ := Option.map_eq_some_iff.mp hx
        rw [List.head?_eq_getElem?, hu] at hz
        cases hz
        walk_at "go"
        exact ⟨_, rfl, _, rfl, fun d hd => hE d _ (Ex.new hd) upd_same⟩
      · rintro σ H3 ⟨⟨y, rfl⟩, rfl, h0⟩
        cases cs with
        | nil => cases hz
        | cons c r => cases h0
end
end PW
/-! ### number_of that raises UnknownName -/
namespace PW
open PySem PySem.Spec PyProof.Rows L2
def spNumX (K : PySem.W.Frag) : Sp := fun vs H Q E => ∃ v p q t d as ts more z, vs = [v, .ref p, .ref q] ∧ H p = some (.tup (as.map V.ref)) ∧ Paired (fun a t => H a = some (.dK t)) as ts ∧ H q = some (.dK more) ∧ (ts.length ≤ 100 ∧ (∀ t ∈ ts, t.length ≤ 1000) ∧ more.length ≤ 1000) ∧
  IsTm K H d v t ∧ (t.dep ≤ 17 ∧ t.nms.length ≤ 100000 ∧ t.cns.length ≤ 100000) ∧ lostN (mergeK (mergeK [] (mrgT ts)) more) t.nms t.cns = some z ∧ NamE K z H E
section
variable {P : Program} {w : World} {K : PySem.W.Frag} {mg : Str → Option Value} {base : Heap}
theorem bodyX_number_of {k : Nat} (T : Txt K mg)
    (G_merged : FnOk P w K mg base CX0 k (He.ga K "merged") (fdOf K (He.ga K "merged")) p_merged (spMerged))
    (G_need_known : FnOk P w K mg base (L2.CX P w) k (He.ga K "need_known") (fdOf K (He.ga K "need_known")) p_need_known (spNeedX K))
    (G_names_within : FnOk P w K mg base CX0 k (He.ga K "names_within") (fdOf K (He.ga K "names_within")) p_names_within (spNmsW K 16))
    (G_calls_within : FnOk P w K mg base CX0 k (He.ga K "calls_within") (fdOf K (He.ga K "calls_within")) p_calls_within (spCnsW K 16))
    (G_worth : FnOk P w K mg base CX0 (k) (He.ga K "worth") (fdOf K (He.ga K "worth")) p_worth (spNo)) (cdv : Value) (A : Around) (outer : List Env) (s : Shared) (H : Hp) (vs : List V) (Q : VK) (E : XK) (hr : Room k (A.deeper (envOfC "number_of" (defScope s_number_of) s.heap.objs.size (He.ga K "number_of") cdv))) (h : spNumX K vs H Q E) :
    ∃ t, PSs (cxOf (L2.CX P w) P w K mg base n_number_of "number_of" (defScope s_number_of) (He.ga K "number_of") cdv A outer s H E) (defBody s_number_of) t ∧ t { nx := fun _ H' => Q .non H', rt := Q } (start n_number_of vs) H := by
  obtain ⟨v, p, q, t, d, as, ts, more, z, rfl, hp, hts, hq, ⟨l1, l2, l3⟩, ht, ⟨hd, hn, hcn⟩, hz, hE⟩ := h
  refine ⟨_, ((pss_cons (ps_set (i := 3) sc_number_of.nd rfl (Or.inl rfl) (pe_call G_merged hr rfl T.g_merged T.d_merged.kp (b_merged T) .nil pass0 (pa_cons (pv 1) (pa_cons (pv 2) pa_nil))))
    (pss_cons (ps_expr (pe_call G_need_known hr rfl T.g_need_known T.d_need_known.kp (b_need_known T) .nil (passes_call (takes_of rfl rfl rfl rfl) (fun _ _ _ _ h => h)) (pa_cons (pe_call G_names_within hr rfl T.g_names_within T.d_names_within.kp (b_names_within T) .nil pass0 (pa_cons (pv 0) pa_nil)) (pa_cons (pe_call G_calls_within hr rfl T.g_calls_within T.d_calls_within.kp (b_calls_within T) .nil pass0 (pa_cons (pv 0) pa_nil)) (pa_cons (pv 3) pa_nil)))))
    (pss_one (ps_ret (pe_call G_worth hr rfl T.g_worth T.d_worth.kp (b_worth T) .nil pass0 (pa_cons (pv 0) (pa_cons (pv 3) pa_nil)))))))), ?_⟩
  show tSeq _ _ _ [some v, some (.ref p), some (.ref q), none] H
  walk_at "K"
  walk_at "go"
  refine ⟨p, q, as, ts, more, rfl, hp, hts, hq, l1, l2, l3, fun r H1 x1 hr0 h1 => ?_⟩
  walk_at "go"
  refine ⟨v, t, d, rfl, ht.ex x1, by omega, hn, fun l H2 x2 hl0 hl => ?_⟩
  walk_at "go"
  refine ⟨v, t, d, rfl, ht.ex (x1.trans x2), by omega, hcn, fun l2 H3 x3 hl20 hl2 => ?_⟩
  have x13 := (x1.trans x2).trans x3
  walk_at "go"
  exact ⟨l, l2, r, _, t.nms, t.cns, z, rfl, x3 _ _ hl, hl2, (x2.trans x3) _ _ h1, hz, fun d H' x' h => hE d H' (x13.trans x') h⟩
theorem okX_number_of {k : Nat} {ks : List Str} (T : Txt K mg) (nd : ks.Nodup) (hz : ks.length ≤ 1000) (hb : KbP "number_of" "number_of" (defArgs s_number_of) (defBody s_number_of) (defScope s_number_of) "term" "tables" "more" ks)
    (G_merged : FnOk P w K mg base CX0 k (He.ga K "merged") (fdOf K (He.ga K "merged")) p_merged (spMerged))
    (G_need_known : FnOk P w K mg base (L2.CX P w) k (He.ga K "need_known") (fdOf K (He.ga K "need_known")) p_need_known (spNeedX K))
    (G_names_within : FnOk P w K mg base CX0 k (He.ga K "names_within") (fdOf K (He.ga K "names_within")) p_names_within (spNmsW K 16))
    (G_calls_within : FnOk P w K mg base CX0 k (He.ga K "calls_within") (fdOf K (He.ga K "calls_within")) p_calls_within (spCnsW K 16))
    (G_worth : FnOk P w K mg base CX0 (k) (He.ga K "worth") (fdOf K (He.ga K "worth")) p_worth (spNo)) : FnRK P w K mg base (L2.CX P w) (k + 1) (He.ga K "number_of") ks (starKw ks (spNumX K)) :=
  funD_kwX StX.cxUp T.d_number_of sc_number_of nd hz hb fun cdv A outer s H vs Q E hr h => bodyX_number_of T G_merged G_need_known G_names_within G_calls_within G_worth cdv A outer s H vs Q E hr h
end
theorem starKw_numX {K : PySem.W.Frag} {ks : List Str} {v : V} {zs : List V} {t : Tm} {d : Nat} {as : List Addr} {ts : List (List (Key × V))} {z : Str} {H : Hp} {Q : VK} {E : XK} (ht : IsTm K H d v t) (hd : t.dep ≤ 17) (hn : t.nms.length ≤ 100000) (hcn : t.cns.length ≤ 100000)
    (hts : Paired (fun a t => H a = some (.dK t)) as ts) (l1 : ts.length ≤ 100) (l2 : ∀ t ∈ ts, t.length ≤ 1000) (l3 : zs.length = ks.length) (l4 : ks.length ≤ 1000) (hz : lostN (mergeK (mergeK [] (mrgT ts)) (kwD ks zs)) t.nms t.cns = some z) (q : NamE K z H E) : starKw ks (spNumX K) (v :: as.map V.ref) zs H Q E := by
  have e1 := pr_len hts
  refine ⟨v, _, rfl, ?_, fun p dd hp hdd hne => ?_⟩
  · rw [List.length_map, e1]
    exact Nat.le_trans l1 (by decide +kernel)
  · have x : Ex H (L2.upd (L2.upd H p (.tup (as.map V.ref))) dd (.dK (kwD ks zs))) := (Ex.new hp).trans (Ex.new (by rw [upd_ne hne]; exact hdd))
    exact ⟨v, p, dd, t, d, as, ts, _, z, rfl, (upd_ne (Ne.symm hne)).trans upd_same, L2.Paired.mapP hts fun _ _ z => x _ _ z, upd_same, ⟨l1, l2, Nat.le_trans (Nat.le_of_eq (kwD_len l3)) l4⟩, ht.ex x, ⟨hd, hn, hcn⟩, hz, fun d' H' x' h => q d' H' (x.trans x') h⟩
end PW
/-! ### drawn terms over small ints: the law's own int operators stay in bounds; called names are few -/
namespace PW
open PySem PySem.Spec PyProof.Rows L2
/-- every name tells an int from -10 to 120 -/
def Env0120 (env : Str → Int) (ns : List Str) : Prop := ∀ z ∈ ns, -10 ≤ env z ∧ env z ≤ 120
theorem pw2_abs {v : Int} (h : v ≤ 400) : (pw2 v).natAbs ≤ 2 ^ 400 := by
  unfold pw2
  by_cases e : v < 0
  · rw [if_pos e]
    exact Nat.zero_le _
  · rw [if_neg e]
    obtain ⟨n, rfl⟩ : ∃ n : Nat, v = (n : Int) := ⟨v.toNat, by omega⟩
    rw [Int.toNat_natCast, Int.natAbs_pow]
    exact Nat.pow_le_pow_right (by decide) (by omega)
theorem lgv_abs {v : Int} {k : Nat} (h : v.natAbs < 2 ^ k) : (lgv v).natAbs ≤ k + 1 := by
  have h1 : bt v ≤ k := bt_le.mpr h
  unfold lgv
  split <;> omega
theorem SmE.vok {ns : List Str} {env : Str → Int} (he : Env0120 env ns) : ∀ {t : Tm}, SmE ns t → t.VOk env ∧ t.val env ≤ 400
  | .num i, h => ⟨trivial, by
      have : i.natAbs ≤ 100 := h
      show i ≤ 400
      omega⟩
  | .nam z, h => ⟨trivial, by
      have := he z h
      show env z ≤ 400
      omega⟩
  | .len (.num i), h => ⟨trivial, by
      have h1 : i.natAbs < 10 ^ 9 := h
      have h2 := lgv_abs (v := i) (k := 30) (Nat.lt_trans h1 (by decide))
      show lgv i ≤ 400
      omega⟩
  | .sub (.tim j (.nam z)) (.num i), h => by
    obtain ⟨rfl, h2, h3⟩ := (show j = 2 ∧ z ∈ ns ∧ i.natAbs ≤ 100 from h)
    have := he z h2
    refine ⟨⟨⟨trivial, by decide, ?_⟩, trivial⟩, ?_⟩
    · show (env z).natAbs < 2 ^ 100000
      exact Nat.lt_of_le_of_lt (show (env z).natAbs ≤ 2 ^ 100 by
        have : (2 : Nat) ^ 7 ≤ 2 ^ 100 := Nat.pow_le_pow_right (by decide) (by decide)
        omega) (Nat.pow_lt_pow_right (by decide) (by decide))
    · show env z * 2 - i ≤ 400
      omega
theorem abs_div {a i : Int} (h : 1 ≤ i) : (a / i).natAbs ≤ a.natAbs := by
  rcases Int.le_total 0 a with h0 | h0
  · have h1 := Int.ediv_nonneg h0 (show 0 ≤ i by omega)
    have h2 := Int.ediv_le_self i h0
    omega
  · have h1 : a ≤ a / i := by
      refine (Int.le_ediv_iff_mul_le (by omega)).mpr ?_
      have h3 : -a * 1 ≤ -a * i := Int.mul_le_mul_of_nonneg_left h (by omega)
      rw [Int.neg_mul, Int.neg_mul] at h3
      omega
    have h2 : a / i ≤ 0 := by
      have h5 := Int.ediv_mul_le a (show i ≠ 0 by omega)
      by_cases c : a / i ≤ 0
      · exact c
      · have h6 : 1 * i ≤ (a / i) * i := Int.mul_le_mul_of_nonneg_right (by omega) (by omega)
        omega
    omega
theorem SmT.vok {ns : List Str} {env : Str → Int} (he : Env0120 env ns) : ∀ {n : Nat} {t : Tm}, n ≤ 100 → SmT ns n t → t.VOk env ∧ (t.val env).natAbs ≤ 2 ^ (400 + 4 * n)
  | 0, _, _, h => h.elim
  | n + 1, t, hn, h => by
    have hn : n ≤ 100 := by omega
    have q : (2 : Nat) ^ (400 + 4 * (n + 1)) = 2 ^ (400 + 4 * n) * 16 := by
      rw [show 400 + 4 * (n + 1) = (400 + 4 * n) + 4 by omega, Nat.pow_add]
    have q0 : (2 : Nat) ^ 400 ≤ 2 ^ (400 + 4 * n) := Nat.pow_le_pow_right (by decide) (by omega)
    have q1 : (2 : Nat) ^ 30 ≤ 2 ^ (400 + 4 * n) := Nat.pow_le_pow_right (by decide) (by omega)
    have q2 : 1 ≤ (2 : Nat) ^ (400 + 4 * n) := Nat.pow_pos (by decide)
    cases t with
    | num i =>
      have : i.natAbs ≤ 60 := h
      exact ⟨trivial, by
        show i.natAbs ≤ _
        omega⟩
    | nam z =>
      have := he z h
      exact ⟨trivial, by
        show (env z).natAbs ≤ _
        omega⟩
    | pow e =>
      obtain ⟨h1, h2⟩ := SmE.vok he (show SmE ns e from h)
      refine ⟨⟨h1, by omega⟩, ?_⟩
      have := pw2_abs h2
      show (pw2 (e.val env)).natAbs ≤ _
      omega
    | add a b =>
      obtain ⟨a1, a2⟩ := SmT.vok he hn h.1
      obtain ⟨b1, b2⟩ := SmT.vok he hn h.2
      refine ⟨⟨a1, b1⟩, ?_⟩
      show (a.val env + b.val env).natAbs ≤ _
      omega
    | sub a b =>
      obtain ⟨a1, a2⟩ := SmT.vok he hn h.1
      obtain ⟨b1, b2⟩ := SmT.vok he hn h.2
      refine ⟨⟨a1, b1⟩, ?_⟩
      show (a.val env - b.val env).natAbs ≤ _
      omega
    | tim i a =>
      obtain ⟨hi, ha⟩ := (show i.natAbs ≤ 10 ∧ SmT ns n a from h)
      obtain ⟨a1, a2⟩ := SmT.vok he hn ha
      refine ⟨⟨a1, Nat.lt_of_le_of_lt hi (by decide), ?_⟩, ?_⟩
      · exact Nat.lt_of_le_of_lt a2 (Nat.pow_lt_pow_right (by decide) (by omega))
      · show (a.val env * i).natAbs ≤ _
        rw [Int.natAbs_mul]
        have := Nat.mul_le_mul a2 hi
        omega
    | len a =>
      obtain ⟨a1, a2⟩ := SmT.vok he hn (show SmT ns n a from h)
      refine ⟨a1, ?_⟩
      have h3 := lgv_abs (v := a.val env) (k := 400 + 4 * n + 1) (Nat.lt_of_le_of_lt a2 (Nat.pow_lt_pow_right (by decide) (by omega)))
      have h4 : 400 + 4 * n + 2 ≤ 2 ^ (400 + 4 * n) := by
        have h5 : (2 : Nat) ^ 10 ≤ 2 ^ (400 + 4 * n) := Nat.pow_le_pow_right (by decide) (by omega)
        have h6 : (2 : Nat) ^ 10 = 1024 := by decide
        omega
      show (lgv (a.val env)).natAbs ≤ _
      omega
    | quo a i =>
      obtain ⟨⟨i1, i2⟩, ha⟩ := (show (1 ≤ i ∧ i ≤ 99) ∧ SmT ns n a from h)
      obtain ⟨a1, a2⟩ := SmT.vok he hn ha
      refine ⟨⟨a1, i1, Int.lt_of_le_of_lt i2 (by decide)⟩, ?_⟩
      have := abs_div (a := a.val env) i1
      show (a.val env / i).natAbs ≤ _
      omega
    | cal f as => exact h.elim
namespace Tm
mutual
theorem cns_cost : ∀ t : Tm, t.cns.length ≤ t.cost
  | .num _ => by simp [cns]
  | .nam _ => by simp [cns]
  | .add a b => by
    have h1 := cns_cost a
    have h2 := cns_cost b
    simp only [cns, cost, List.length_append]
    omega
  | .sub a b => by
    have h1 := cns_cost a
    have h2 := cns_cost b
    simp only [cns, cost, List.length_append]
    omega
  | .tim _ a => by
    have h1 := cns_cost a
    simp only [cns, cost]
    omega
  | .pow a => by
    have h1 := cns_cost a
    simp only [cns, cost]
    omega
  | .len a => by
    have h1 := cns_cost a
    simp only [cns, cost]
    omega
  | .quo a _ => by
    have h1 := cns_cost a
    simp only [cns, cost]
    omega
  | .cal f as => by
    have h1 := cnss_cost as
    simp only [cns, cost, List.length_cons]
    omega
theorem cnss_cost : ∀ as : List Tm, (cnss as).length ≤ costs as
  | [] => by simp [cnss]
  | a :: r => by
    have h1 := cns_cost a
    have h2 := cnss_cost r
    simp only [cnss, costs, List.length_append]
    omega
end
end Tm
namespace Tm
mutual
/-- the names and called names of a term in range are names -/
theorem ok_words {n m q : Nat} : ∀ {t : Tm}, t.ok n m q → (∀ z ∈ t.nms, isNameZ z = true) ∧ ∀ z ∈ t.cns, isNameZ z = true
  | .num _, _ => ⟨fun z hz => by simp [nms] at hz, fun z hz => by simp [cns] at hz⟩
  | .nam y, h => ⟨fun z hz => by
      simp only [nms, List.mem_singleton] at hz
      subst hz
      simp only [ok] at h
      exact h, fun z hz => by simp [cns] at hz⟩
  | .add a b, h => by
    simp only [ok] at h
    have h1 := ok_words h.1
    have h2 := ok_words h.2
    refine ⟨fun z hz => ?_, fun z hz => ?_⟩
    · simp only [nms, List.mem_append] at hz
      exact hz.elim (h1.1 z) (h2.1 z)
    · simp only [cns, List.mem_append] at hz
      exact hz.elim (h1.2 z) (h2.2 z)
  | .sub a b, h => by
    simp only [ok] at h
    have h1 := ok_words h.1
    have h2 := ok_words h.2
    refine ⟨fun z hz => ?_, fun z hz => ?_⟩
    · simp only [nms, List.mem_append] at hz
      exact hz.elim (h1.1 z) (h2.1 z)
    · simp only [cns, List.mem_append] at hz
      exact hz.elim (h1.2 z) (h2.2 z)
  | .tim _ a, h => by
    simp only [ok] at h
    have h1 := ok_words h.2
    exact ⟨fun z hz => h1.1 z (by simpa only [nms] using hz), fun z hz => h1.2 z (by simpa only [cns] using hz)⟩
  | .pow a, h => by
    simp only [ok] at h
    have h1 := ok_words h
    exact ⟨fun z hz => h1.1 z (by simpa only [nms] using hz), fun z hz => h1.2 z (by simpa only [cns] using hz)⟩
  | .len a, h => by
    simp only [ok] at h
    have h1 := ok_words h
    exact ⟨fun z hz => h1.1 z (by simpa only [nms] using hz), fun z hz => h1.2 z (by simpa only [cns] using hz)⟩
  | .quo a _, h => by
    simp only [ok] at h
    have h1 := ok_words h.2
    exact ⟨fun z hz => h1.1 z (by simpa only [nms] using hz), fun z hz => h1.2 z (by simpa only [cns] using hz)⟩
  | .cal f as, h => by
    simp only [ok] at h
    have h1 := oks_words h.2.2
    refine ⟨fun z hz => h1.1 z (by simpa only [nms] using hz), fun z hz => ?_⟩
    simp only [cns, List.mem_cons] at hz
    rcases hz with rfl | hz
    · exact h.1
    · exact h1.2 z hz
theorem oks_words {n m q : Nat} : ∀ {as : List Tm}, oks n m q as → (∀ z ∈ nmss as, isNameZ z = true) ∧ ∀ z ∈ cnss as, isNameZ z = true
  | [], _ => ⟨fun z hz => by simp [nmss] at hz, fun z hz => by simp [cnss] at hz⟩
  | a :: r, h => by
    simp only [oks] at h
    have h1 := ok_words h.1
    have h2 := oks_words h.2
    refine ⟨fun z hz => ?_, fun z hz => ?_⟩
    · simp only [nmss, List.mem_append] at hz
      exact hz.elim (h1.1 z) (h2.1 z)
    · simp only [cnss, List.mem_append] at hz
      exact hz.elim (h1.2 z) (h2.2 z)
end
end Tm
end PW
/-! ### equal terms are alike -/
namespace PW
open PySem PySem.Spec PyProof.Rows L2
theorem Sm.tups {K : PySem.W.Frag} {n : Nat} {H : Hp} {p q : Addr} {xs ys : List V} (hp : H p = some (.tup xs)) (hq : H q = some (.tup ys)) (hl : xs.length ≤ 100000) (h : Paired (Sm K n H) xs ys) : Sm K (n + 1) H (.ref p) (.ref q) :=
  .inr ⟨p, q, xs, ys, rfl, rfl, .inr ⟨hp, hq⟩, pr_len h, hl, fun i u v hu hv => by
    obtain ⟨y, hy, z⟩ := pr_get h hu
    rw [hv] at hy
    injection hy with hy
    subst hy
    exact z⟩
theorem Sm.lsts {K : PySem.W.Frag} {n : Nat} {H : Hp} {p q : Addr} {xs ys : List V} (hp : H p = some (.lst xs)) (hq : H q = some (.lst ys)) (hl : xs.length ≤ 100000) (h : Paired (Sm K n H) xs ys) : Sm K (n + 1) H (.ref p) (.ref q) :=
  .inr ⟨p, q, xs, ys, rfl, rfl, .inl ⟨hp, hq⟩, pr_len h, hl, fun i u v hu hv => by
    obtain ⟨y, hy, z⟩ := pr_get h hu
    rw [hv] at hy
    injection hy with hy
    subst hy
    exact z⟩
theorem Sm.up {K : PySem.W.Frag} : ∀ {n : Nat} {H : Hp} {x y : V}, Sm K n H x y → Sm K (n + 1) H x y
  | 0, _, _, _, h => .inl h
  | n + 1, H, x, y, h => by
    rcases h with h | ⟨p, q, xs, ys, h1, h2, h3, h4, h5, h6⟩
    · exact .inl h
    · exact .inr ⟨p, q, xs, ys, h1, h2, h3, h4, h5, fun i u v hu hv => Sm.up (h6 i u v hu hv)⟩
theorem IsTm.same {K : PySem.W.Frag} {H : Hp} : ∀ {d d' : Nat} {v v' : V} {t : Tm} {n m q : Nat}, t.ok n m q → IsTm K H d v t → IsTm K H d' v' t → Sm K (2 * d) H v v'
  | 0, _, _, _, _, _, _, _, _, h, _ => h.elim
  | _ + 1, 0, _, _, _, _, _, _, _, _, h => h.elim
  | d + 1, d' + 1, v, v', t, n, m, q, ok, h, h' => by
    obtain ⟨p, xs, rfl, h1, h2⟩ := h
    obtain ⟨p', xs', rfl, h1', h2'⟩ := h'
    have fl : ∀ {z : Str}, Sm K (2 * d + 1) H (.str z) (.str z) := Sm.flat rfl
    have fi : ∀ {i : Int}, Sm K (2 * d + 1) H (.int i) (.int i) := Sm.flat rfl
    have sub : ∀ {x x' : V} {a : Tm}, a.ok n m q → IsTm K H d x a → IsTm K H d' x' a → Sm K (2 * d + 1) H x x' := fun o z z' => (IsTm.same o z z').up
    show Sm K (2 * d + 1 + 1) H (.ref p) (.ref p')
    have l4 : ∀ {zs : List V}, zs.length ≤ 3 → zs.length ≤ 100000 := fun z => Nat.le_trans z (by decide)
    cases t with
    | num i =>
      have h2 : xs = _ := h2
      have h2' : xs' = _ := h2'
      subst h2 h2'
      exact Sm.tups h1 h1' (l4 (by show 2 ≤ 3; decide)) (.cons fl (.cons fi .nil))
    | nam z =>
      have h2 : xs = _ := h2
      have h2' : xs' = _ := h2'
      subst h2 h2'
      exact Sm.tups h1 h1' (l4 (by show 2 ≤ 3; decide)) (.cons fl (.cons fl .nil))
    | add a b =>
      have ok : a.ok n m q ∧ b.ok n m q := by simpa only [Tm.ok] using ok
      obtain ⟨x, y, rfl, e2, e3⟩ := h2
      obtain ⟨x', y', rfl, e2', e3'⟩ := h2'
      exact Sm.tups h1 h1' (l4 (by show 3 ≤ 3; decide)) (.cons fl (.cons (sub ok.1 e2 e2') (.cons (sub ok.2 e3 e3') .nil)))
    | sub a b =>
      have ok : a.ok n m q ∧ b.ok n m q := by simpa only [Tm.ok] using ok
      obtain ⟨x, y, rfl, e2, e3⟩ := h2
      obtain ⟨x', y', rfl, e2', e3'⟩ := h2'
      exact Sm.tups h1 h1' (l4 (by show 3 ≤ 3; decide)) (.cons fl (.cons (sub ok.1 e2 e2') (.cons (sub ok.2 e3 e3') .nil)))
    | tim i a =>
      have ok : i.natAbs < m ∧ a.ok n m q := by simpa only [Tm.ok] using ok
      obtain ⟨x, rfl, e2⟩ := h2
      obtain ⟨x', rfl, e2'⟩ := h2'
      exact Sm.tups h1 h1' (l4 (by show 3 ≤ 3; decide)) (.cons fl (.cons fi (.cons (sub ok.2 e2 e2') .nil)))
    | pow a =>
      have ok : a.ok n m q := by simpa only [Tm.ok] using ok
      obtain ⟨x, rfl, e2⟩ := h2
      obtain ⟨x', rfl, e2'⟩ := h2'
      exact Sm.tups h1 h1' (l4 (by show 2 ≤ 3; decide)) (.cons fl (.cons (sub ok e2 e2') .nil))
    | len a =>
      have ok : a.ok n m q := by simpa only [Tm.ok] using ok
      obtain ⟨x, rfl, e2⟩ := h2
      obtain ⟨x', rfl, e2'⟩ := h2'
      exact Sm.tups h1 h1' (l4 (by show 2 ≤ 3; decide)) (.cons fl (.cons (sub ok e2 e2') .nil))
    | quo a i =>
      have ok : (1 ≤ i ∧ i < (q : Nat)) ∧ a.ok n m q := by simpa only [Tm.ok] using ok
      obtain ⟨x, rfl, e2⟩ := h2
      obtain ⟨x', rfl, e2'⟩ := h2'
      exact Sm.tups h1 h1' (l4 (by show 3 ≤ 3; decide)) (.cons fl (.cons (sub ok.2 e2 e2') (.cons fi .nil)))
    | cal f as =>
      have ok : isNameZ f = true ∧ as.length ≤ 3 ∧ Tm.oks n m q as := by simpa only [Tm.ok] using ok
      obtain ⟨r, ys, rfl, e2, e3⟩ := h2
      obtain ⟨r', ys', rfl, e2', e3'⟩ := h2'
      have go : ∀ {as : List Tm} {ys ys' : List V}, Tm.oks n m q as → Paired (IsTm K H d) ys as → Paired (IsTm K H d') ys' as → Paired (Sm K (2 * d) H) ys ys' := by
        intro as
        induction as with
        | nil =>
          intro ys ys' _ z z'
          cases z
          cases z'
          exact .nil
        | cons a r ih =>
          intro ys ys' o z z'
          have o : a.ok n m q ∧ Tm.oks n m q r := by simpa only [Tm.oks] using o
          cases z with
          | cons z1 z2 =>
            cases z' with
            | cons z1' z2' => exact .cons (IsTm.same o.1 z1 z1') (ih o.2 z2 z2')
      exact Sm.tups h1 h1' (l4 (by show 3 ≤ 3; decide)) (.cons fl (.cons fl (.cons (Sm.tups e2 e2' (l4 (by rw [pr_len e3]; exact ok.2.1)) (go ok.2.2 e3 e3')) .nil)))
end PW
/-! ### tuples stay -/
namespace PW
open PySem PySem.Spec PyProof.Rows L2
def TE (H H' : Hp) : Prop := ∀ p ys, H p = some (.tup ys) → H' p = some (.tup ys)
theorem TE.trans {H H1 H2 : Hp} (x : TE H H1) (y : TE H1 H2) : TE H H2 := fun p ys h => y p ys (x p ys h)
theorem TE.of {H H' : Hp} (x : Ex H H') : TE H H' := fun p ys h => x p _ h
theorem TE.upd {H : Hp} {D : Addr} {l l' : List V} (h : H D = some (.lst l)) : TE H (L2.upd H D (.lst l')) := fun p ys hp => (upd_ne fun z => by
  rw [z, h] at hp
  cases hp).trans hp
theorem TE.hid {H : Hp} {D : Addr} {l : List V} (h : H D = some (.lst l)) : TE H (hide H D) := fun p ys hp => (hide_ne fun z => by
  rw [z, h] at hp
  cases hp).trans hp
theorem TE.bag {H H' : Hp} {b c : Addr} (hB : BagAt H b c) (x : ExB b H H') : TE H H' := fun p ys hp => x p _ (fun z => by
  obtain ⟨cells, i, g, s, h, _⟩ := hB
  rw [z, h] at hp
  cases hp) hp
theorem TE.hidB {H : Hp} {b c : Addr} (hB : BagAt H b c) : TE H (hide H b) := by
  obtain ⟨cells, i, g, s, h, _⟩ := hB
  exact TE.hid h
theorem IsTm.te {K : PySem.W.Frag} {H H' : Hp} (x : TE H H') : ∀ {d : Nat} {v : V} {t : Tm}, IsTm K H d v t → IsTm K H' d v t
  | 0, _, _, h => h.elim
  | d + 1, v, t, h => by
    obtain ⟨p, xs, e, h1, h2⟩ := h
    exact ⟨p, xs, e, x _ _ h1, h2.imp (fun q => x _ _ q) fun _ _ z => IsTm.te x z⟩
theorem IsCd.te {K : PySem.W.Frag} {H H' : Hp} {e : Nat} (x : TE H H') : ∀ {d : Nat} {v : V} {c : Cd}, IsCd K H e d v c → IsCd K H' e d v c
  | 0, _, _, h => h.elim
  | d + 1, v, c, h => by
    obtain ⟨p, xs, e, h1, h2⟩ := h
    exact ⟨p, xs, e, x _ _ h1, h2.imp (fun _ _ z => IsCd.te x z) fun _ _ z => z.te x⟩
theorem prd_teC {K : PySem.W.Frag} {H H' : Hp} (x : TE H H') {e d : Nat} {ys : List V} {as : List Cd} (h : Paired (IsCd K H e d) ys as) : Paired (IsCd K H' e d) ys as := L2.Paired.mapP h fun _ _ z => z.te x
end PW
/-! ### tables of small ints, drawn -/
namespace PW
open PySem PySem.Spec PyProof.Rows L2
open LamX (Tabs TabS CodeO ExtN TabB)
theorem ExB.put {b D : Addr} {H H' : Hp} {o : HO} (x : ExB b H H') (hD : H D = none) : ExB b H (L2.upd H' D o) := fun a u n h => by
  have ne : a ≠ D := fun z => by
    rw [z, hD] at h
    cases h
  rw [upd_ne ne]
  exact x a u n h
theorem ExB.new0 {b D : Addr} {H : Hp} {o : HO} (hD : H D = none) : ExB b H (L2.upd H D o) := ExB.put ExB.refl hD
theorem prd_appT {α β : Type} {F : α → β → Prop} : ∀ {xs xs' : List α} {ys ys' : List β}, Paired F xs ys → Paired F xs' ys' → Paired F (xs ++ xs') (ys ++ ys')
  | _, _, _, _, .nil, h => h
  | _, _, _, _, .cons a b, h => .cons a (prd_appT b h)
theorem mem_merge {P : V → Prop} {k : Key} : ∀ {kvs a : List (Key × V)}, (∀ kv ∈ kvs, P kv.2) → (k ∈ kvs.map (·.1) ∨ ∃ y, valV a k = some y ∧ P y) → ∃ y, valV (mergeK a kvs) k = some y ∧ P y
  | [], a, _, h => by
    rcases h with h | h
    · exact nomatch h
    · exact h
  | p :: r, a, hP, h => by
    refine mem_merge (kvs := r) (a := putK a p.1 p.2) (fun kv hk => hP kv (List.mem_cons_of_mem _ hk)) ?_
    rw [valV_put]
    by_cases e : k = p.1
    · exact .inr ⟨p.2, if_pos e, hP p List.mem_cons_self⟩
    · rcases h with h | ⟨y, h1, h2⟩
      · rw [List.map_cons] at h
        exact .inl ((List.mem_cons.mp h).resolve_left e)
      · exact .inr ⟨y, by rw [if_neg e]; exact h1, h2⟩
/-- a drawn table: each of the names zs has an int from 0 to 120 -/
def SmV (x : V) : Prop := ∃ i : Int, x = .int i ∧ -10 ≤ i ∧ i ≤ 120
structure Tb120 (m : List (Key × V)) (zs : List Str) : Prop where
  key : ∀ kv ∈ m, ∃ z ∈ zs, kv.1 = .inr z
  val : ∀ z ∈ zs, ∃ y, valV m (.inr z) = some y ∧ SmV y
  all : ∀ z y, valV m (.inr z) = some y → SmV y
  nd : (m.map (·.1)).Nodup
  len : m.length ≤ 1000
theorem val_mem {m : List (Key × V)} {k : Key} {y : V} (h : valV m k = some y) : (k, y) ∈ m := by
  unfold valV at h
  obtain ⟨p, hp, rfl⟩ := Option.map_eq_some_iff.mp h
  have e := List.find?_some hp
  have e1 : p.1 = k := by simpa using e
  have := List.mem_of_find?_eq_some hp
  rw [← e1]
  exact this
theorem merge_mem {kvs : List (Key × V)} : ∀ {a : List (Key × V)} {q : Key × V}, q ∈ mergeK a kvs → q ∈ a ∨ ∃ p ∈ kvs, q.2 = p.2 := by
  induction kvs with
  | nil => intro a q h; exact .inl h
  | cons p r ih =>
    intro a q h
    rcases ih (a := putK a p.1 p.2) h with z | ⟨x, hx, e⟩
    · unfold putK at z
      split at z
      · obtain ⟨u, hu, rfl⟩ := List.mem_map.mp z
        by_cases c : u.1 = p.1
        · rw [if_pos c]
          exact .inr ⟨p, List.mem_cons_self, rfl⟩
        · rw [if_neg c]
          exact .inl hu
      · rcases List.mem_append.mp z with z | z
        · exact .inl z
        · rw [List.mem_singleton.mp z]
          exact .inr ⟨p, List.mem_cons_self, rfl⟩
    · exact .inr ⟨x, List.mem_cons_of_mem _ hx, e⟩
theorem merge_key {kvs : List (Key × V)} : ∀ {a : List (Key × V)} {q : Key × V}, q ∈ mergeK a kvs → q ∈ a ∨ ∃ p ∈ kvs, q.1 = p.1 := by
  induction kvs with
  | nil => intro a q h; exact .inl h
  | cons p r ih =>
    intro a q h
    have put : ∀ {q : Key × V}, q ∈ putK a p.1 p.2 → q ∈ a ∨ q.1 = p.1 := fun {q} z => by
      unfold putK at z
      split at z
      · obtain ⟨u, hu, rfl⟩ := List.mem_map.mp z
        by_cases c : u.1 = p.1
        · rw [if_pos c]
          exact .inr c
        · rw [if_neg c]
          exact .inl hu
      · rcases List.mem_append.mp z with z | z
        · exact .inl z
        · rw [List.mem_singleton.mp z]
          exact .inr rfl
    rcases ih (a := putK a p.1 p.2) h with z | ⟨x, hx, e⟩
    · rcases put z with z | z
      · exact .inl z
      · exact .inr ⟨p, List.mem_cons_self, z⟩
    · exact .inr ⟨x, List.mem_cons_of_mem _ hx, e⟩
theorem Tb120.of {kvs : List (Key × V)} {zs : List Str} (hk : kvs.map (·.1) = zs.map Sum.inr) (hv : ∀ kv ∈ kvs, SmV kv.2) (hl : zs.length ≤ 1000) : Tb120 (mergeK [] kvs) zs := by
  refine ⟨fun kv hkv => ?_, fun z hz => mem_merge hv (.inl (by rw [hk]; exact List.mem_map.mpr ⟨z, hz, rfl⟩)), fun z y h => ?_, nodup_merge (a := []) List.nodup_nil, ?_⟩
  · rcases merge_key hkv with q | ⟨p, hp, e⟩
    · exact nomatch q
    · have : p.1 ∈ kvs.map (·.1) := List.mem_map.mpr ⟨p, hp, rfl⟩
      rw [hk] at this
      obtain ⟨z, hz, e2⟩ := List.mem_map.mp this
      exact ⟨z, hz, e.trans e2.symm⟩
  · rcases merge_mem (val_mem h) with q | ⟨p, hp, e⟩
    · exact nomatch q
    · rw [show y = p.2 from e]
      exact hv p hp
  · have q1 := length_mergeK kvs []
    have q2 := congrArg List.length hk
    rw [List.length_map, List.length_map] at q2
    simp only [List.length_nil] at q1
    omega
/-- what a table tells, as ints (0 where it tells nothing) -/
def envM (m : List (Key × V)) (z : Str) : Int := match valV m (.inr z) with
  | some (.int i) => i
  | _ => 0
theorem Tb120.env {m : List (Key × V)} {zs : List Str} (t : Tb120 m zs) {z : Str} (hz : z ∈ zs) : valV m (.inr z) = some (.int (envM m z)) := by
  obtain ⟨y, h, i, rfl, _⟩ := t.val z hz
  unfold envM
  rw [h]
theorem Tb120.low {m : List (Key × V)} {zs : List Str} (t : Tb120 m zs) : Env0120 (envM m) zs := fun z hz => by
  obtain ⟨y, h, i, rfl, h0, h1⟩ := t.val z hz
  have e := t.env hz
  rw [h] at e
  injection e with e
  injection e with e
  rw [← e]
  exact ⟨h0, h1⟩
theorem Tb120.tbI {m : List (Key × V)} {zs : List Str} {H : Hp} {tb : Addr} (t : Tb120 m zs) (e : H tb = some (.dK m)) : TbI (envM m) H tb zs := ⟨m, e, fun z hz => t.env hz⟩
theorem num120 {K : PySem.W.Frag} {H : Hp} {i : Int} (h0 : -10 ≤ i) (h1 : i ≤ 120) : NumV K capT H 8 S17 (.int i) i := .inr ⟨rfl, smI (by omega), by decide⟩
theorem valV_one1 {m : List (Key × V)} (nd : (m.map (·.1)).Nodup) (k : Key) : valV (mergeK (mergeK [] (mrgT [m])) (kwD [] ([] : List V))) k = valV m k := by
  show valV (mergeK [] (mergeK [] m)) k = valV m k
  rw [valV_merge (nodup_merge (a := []) List.nodup_nil), valV_merge nd]
  cases valV m k <;> rfl
theorem Tb120.tbm {K : PySem.W.Frag} {m : List (Key × V)} {zs : List Str} {H : Hp} (t : Tb120 m zs) : TbM K capT S17 8 (envM m) H [m] (kwD [] ([] : List V)) zs := fun z hz => by
  have l := t.low z hz
  exact ⟨_, (valV_one1 t.nd _).trans (t.env hz), num120 l.1 l.2⟩
/-- two tables, the later one wins -/
def env2M (m m2 : List (Key × V)) (z : Str) : Int := match valV m2 (.inr z) with
  | some (.int i) => i
  | _ => envM m z
theorem env2_val {m m2 : List (Key × V)} {zs ys : List Str} (t : Tb120 m zs) (t2 : Tb120 m2 ys) {z : Str} (hz : z ∈ zs) : (valV m2 (.inr z)).getD (.int (envM m z)) = .int (env2M m m2 z) ∧ -10 ≤ env2M m m2 z ∧ env2M m m2 z ≤ 120 := by
  unfold env2M
  cases h : valV m2 (.inr z) with
  | none =>
    have l := t.low z hz
    exact ⟨rfl, l.1, l.2⟩
  | some y =>
    obtain ⟨i, rfl, h0, h1⟩ := t2.all z y h
    exact ⟨rfl, h0, h1⟩
theorem valV_two {m m2 : List (Key × V)} (nd : (m.map (·.1)).Nodup) (nd2 : (m2.map (·.1)).Nodup) (k : Key) : valV (mergeK [] (mrgT [m, m2])) k = match valV m2 k with | some v => some v | none => valV m k := by
  show valV (mergeK [] (mergeK (mergeK [] (mergeK [] m)) m2)) k = _
  rw [valV_merge (nodup_merge (nodup_merge (a := []) List.nodup_nil))]
  rw [valV_merge nd2, valV_merge (nodup_merge (a := []) List.nodup_nil), valV_merge nd]
  cases valV m2 k with
  | some v => rfl
  | none => cases valV m k <;> rfl
theorem tbm2' {K : PySem.W.Frag} {m m2 : List (Key × V)} {zs ys : List Str} {H : Hp} (t : Tb120 m zs) (t2 : Tb120 m2 ys) : TbM K capT S17 8 (env2M m m2) H [m, m2] (kwD [] ([] : List V)) zs := fun z hz => by
  have e := env2_val t t2 hz
  refine ⟨_, ?_, num120 e.2.1 e.2.2⟩
  show valV (mergeK [] (mrgT [m, m2])) (.inr z) = _
  rw [valV_two t.nd t2.nd, ← e.1]
  cases valV m2 (.inr z) with
  | some v => rfl
  | none => exact t.env hz
/-- the same with x told by a keyword -/
def env3M (m m2 : List (Key × V)) (i : Int) (z : Str) : Int := if z = "x" then i else env2M m m2 z
theorem tbm3 {K : PySem.W.Frag} {m m2 : List (Key × V)} {zs ys : List Str} {H : Hp} {r : Addr} {i : Int} (t : Tb120 m zs) (t2 : Tb120 m2 ys) (hr : IsT K capT H 8 S17 r i) : TbM K capT S17 8 (env3M m m2 i) H [m, m2] (kwD ["x"] [V.ref r]) zs := fun z hz => by
  have e := env2_val t t2 hz
  show ∃ x, valV (mergeK (mergeK [] (mrgT [m, m2])) [(.inr "x", V.ref r)]) (.inr z) = some x ∧ _
  rw [valV_merge (by simp)]
  unfold env3M
  by_cases c : z = "x"
  · subst c
    rw [valV_pos rfl, if_pos rfl]
    exact ⟨_, rfl, .inl ⟨r, rfl, hr⟩⟩
  · rw [valV_neg (fun q => c (Sum.inr.inj q).symm), valV_nil, if_neg c]
    refine ⟨_, ?_, num120 e.2.1 e.2.2⟩
    rw [valV_two t.nd t2.nd, ← e.1]
    cases valV m2 (.inr z) with
    | some v => rfl
    | none => exact t.env hz
theorem env3_low {m m2 : List (Key × V)} {zs ys : List Str} {i : Int} (t : Tb120 m zs) (t2 : Tb120 m2 ys) (h0 : -10 ≤ i) (h1 : i ≤ 120) : Env0120 (env3M m m2 i) zs := fun z hz => by
  unfold env3M
  split
  · exact ⟨h0, h1⟩
  · exact (env2_val t t2 hz).2
theorem env2_low {m m2 : List (Key × V)} {zs ys : List Str} (t : Tb120 m zs) (t2 : Tb120 m2 ys) : Env0120 (env2M m m2) zs := fun z hz => (env2_val t t2 hz).2
/-- the law's own joined table -/
theorem both_tbI {m m2 : List (Key × V)} {kvs : List (Key × V)} {zs ys : List Str} {H : Hp} {tb : Addr} (t : Tb120 m zs) (t2 : Tb120 m2 ys) (hk : ∀ z ∈ zs, (.inr z : Key) ∈ kvs.map (·.1))
    (hv : ∀ kv ∈ kvs, ∃ z ∈ zs, kv.1 = .inr z ∧ kv.2 = .int (env2M m m2 z)) (e : H tb = some (.dK (mergeK [] kvs))) : TbI (env2M m m2) H tb zs := ⟨_, e, fun z hz => by
  have key : ∀ (kvs a : List (Key × V)), (∀ kv ∈ kvs, ∃ z ∈ zs, kv.1 = .inr z ∧ kv.2 = .int (env2M m m2 z)) → ((.inr z : Key) ∈ kvs.map (·.1) ∨ valV a (.inr z) = some (.int (env2M m m2 z))) → valV (mergeK a kvs) (.inr z) = some (.int (env2M m m2 z)) := by
    intro kvs
    induction kvs with
    | nil =>
      intro a _ h
      exact h.resolve_left (fun q => nomatch q)
    | cons p r ih =>
      intro a hv h
      refine ih (putK a p.1 p.2) (fun kv hk => hv kv (List.mem_cons_of_mem _ hk)) ?_
      rw [valV_put]
      obtain ⟨y, hy, e1, e2⟩ := hv p List.mem_cons_self
      by_cases c : (.inr z : Key) = p.1
      · right
        rw [if_pos c, e2]
        rw [e1] at c
        rw [Sum.inr.inj c]
      · rw [if_neg c]
        rcases h with h | h
        · rw [List.map_cons] at h
          exact .inl ((List.mem_cons.mp h).resolve_left c)
        · exact .inr h
  exact key kvs [] hv (.inl (hk z hz))⟩
theorem TbI.put {env : Str → Int} {H : Hp} {tb : Addr} {zs : List Str} {m : List (Key × V)} {i : Int} (h : TbI env H tb zs) (e : H tb = some (.dK m)) : TbI (fun z => if z = "x" then i else env z) (L2.upd H tb (.dK (putK m (.inr "x") (.int i)))) tb zs := ⟨_, upd_same, fun z hz => by
  obtain ⟨kvs, e1, q⟩ := h
  rw [e] at e1
  injection e1 with e1
  injection e1 with e1
  subst e1
  rw [valV_put]
  by_cases c : z = "x"
  · subst c
    rw [if_pos rfl]
    show _ = some (V.int (if ("x" : Str) = "x" then i else env "x"))
    rw [if_pos rfl]
  · rw [if_neg (fun q => c (Sum.inr.inj q))]
    show _ = some (V.int (if z = "x" then i else env z))
    rw [if_neg c]
    exact q z hz⟩
/-- a dict is locked while a comprehension walks its keys -/
theorem r_lockK {t : L2.TE} {σ : L2.St} {H : Hp} {Q : VK} {d : Addr} {m : List (Key × V)} (h : H d = some (.dK m)) (q : ∀ od, t σ (L2.upd H d (.frz od (.dK m))) fun v H' => H' d = some (.frz od (.dK m)) ∧ Q v (L2.upd H' d (.dK m))) : tLockE t σ H Q := ⟨d, _, h, trivial, q⟩
theorem ex_unlock {H H' : Hp} {d : Addr} {od : Obj} {u : HO} (h : H d = some u) (x : Ex (L2.upd H d (.frz od u)) H') : Ex H (L2.upd H' d u) := fun a o e => by
  by_cases c : a = d
  · subst c
    rw [h] at e
    rw [upd_same]
    exact e
  · rw [upd_ne c]
    exact x a o ((upd_ne c).trans e)
theorem putK_few {m : List (Key × V)} {k : Key} {v : V} : (putK m k v).length ≤ m.length + 1 := by
  unfold putK
  split
  · rw [List.length_map]
    omega
  · rw [List.length_append]
    exact Nat.le_refl _
theorem cut_strs (ns : List Str) (lo hi : Option Int) : ∃ ys : List Str, cutV (ns.map V.str) lo hi = ys.map V.str ∧ ys.length ≤ ns.length := by
  refine ⟨(ns.drop (HT.sIx (ns.map V.str).length 0 lo)).take (HT.sIx (ns.map V.str).length (ns.map V.str).length hi - HT.sIx (ns.map V.str).length 0 lo), ?_, ?_⟩
  · unfold cutV
    rw [List.map_take, List.map_drop]
  · rw [List.length_take, List.length_drop]
    omega
theorem tabs_put {T : List (Addr × Str)} {H : Hp} {D : Addr} {m : List (Key × V)} {o : HO} (hD : H D = some (.dK m)) (t : Tabs T H) : Tabs T (L2.upd H D o) := fun p hp => by
  obtain ⟨ps, h1, h2, h3⟩ := t p hp
  have n1 : p.1 ≠ D := fun z => by
    rw [z, hD] at h1
    cases h1
  refine ⟨ps, (upd_ne n1).trans h1, h2, fun pos cv e => ?_⟩
  obtain ⟨c, e1, e2⟩ := h3 pos cv e
  have n2 : c ≠ D := fun z => by
    rw [z, hD] at e2
    have e3 : HO.dK m = CodeO D p.2 := Option.some.inj e2
    cases e3
  exact ⟨c, e1, (upd_ne n2).trans e2⟩
theorem hide_upd2 {H : Hp} {b D : Addr} {o : HO} (h : D ≠ b) : hide (L2.upd H D o) b = L2.upd (hide H b) D o := by
  funext a
  by_cases e : a = b
  · subst e
    rw [hide_same, upd_ne h.symm, hide_same]
  · rw [hide_ne e]
    by_cases q : a = D
    · subst q
      rw [upd_same, upd_same]
    · rw [upd_ne q, upd_ne q, hide_ne e]
theorem BT.putD {Pt b c D : Addr} {H : Hp} {m : List (Key × V)} {o : HO} (t : BT Pt H b c) (hD : H D = some (.dK m)) : BT Pt (L2.upd H D o) b c := by
  obtain ⟨cells, i, g, s, h1, h2, _⟩ := t.bag.ex
  have n1 : b ≠ D := fun z => by
    rw [← z, h1] at hD
    cases hD
  have n2 : c ≠ D := fun z => by
    rw [← z, h2] at hD
    cases hD
  refine ⟨t.bag.put n1 n2, ?_⟩
  rw [hide_upd2 n1.symm]
  exact tabs_put ((hide_ne n1.symm).trans hD) t.tab
theorem r_iKeysK {i : Nat} {σ : L2.St} {H : Hp} {R : It → Hp → Prop} {d : Addr} {o : Obj} {kvs : List (Key × V)} (h : σ[i]? = some (some (.ref d))) (e : H d = some (.frz o (.dK kvs))) (q : R (Itk d o kvs) H) : iKeys (tVar i) σ H R := r_var h ⟨d, o, rfl, .inl ⟨kvs, e, q⟩⟩
instance {td ty tx : L2.TE} {σ : L2.St} {H : Hp} {Q : VK} : Step (tDGet2 td ty tx σ H Q) (td σ H fun x H1 => ∃ a, x = .ref a ∧ IsD H1 a ∧ ty σ H1 fun y H2 => tx σ H2 fun z H3 => ∃ o, DGet H3 a y o ∧ Q (o.getD z) H3) := ⟨id⟩
instance {td ty : L2.TE} {σ : L2.St} {H : Hp} {Q : VK} : Step (tDNotIn ty td σ H Q) (ty σ H fun y H1 => td σ H1 fun x H2 => ∃ a o, x = .ref a ∧ DGet H2 a y o ∧ Q (.bl (!o.isSome)) H2) := ⟨id⟩
instance {td ty : L2.TE} {σ : L2.St} {H : Hp} {Q : VK} : Step (tDGet td ty σ H Q) (td σ H fun x H1 => ty σ H1 fun y H2 => ∃ a v, x = .ref a ∧ DGet H2 a y (some v) ∧ Q v H2) := ⟨id⟩
instance {td ty tv : L2.TE} {D : Ends} {σ : L2.St} {H : Hp} : Step (sDPut td ty tv D σ H) (tv σ H fun v H1 => td σ H1 fun x H2 => ty σ H2 fun y H3 => ∃ a H4, x = .ref a ∧ DPut H3 a y v H4 ∧ D.nx σ H4) := ⟨id⟩
theorem pairs_of {H : Hp} {ns : List Str} {f : Str → Int} : ∀ {acc : List V} {m : List (Key × V)}, acc.length = m.length → (∀ (i : Nat) v, acc[i]? = some v → ∃ p z, v = .ref p ∧ z ∈ ns ∧ (m[i]?).map (·.1) = some (.inr z) ∧ H p = some (.tup [.str z, .int (f z)])) →
    ∃ (ps : List Addr) (kvs : List (Key × V)), acc = ps.map V.ref ∧ Paired (fun p (kv : Key × V) => H p = some (.tup [kV kv.1, kv.2])) ps kvs ∧ kvs.map (·.1) = m.map (·.1) ∧ ∀ kv ∈ kvs, ∃ z ∈ ns, kv.1 = .inr z ∧ kv.2 = .int (f z)
  | [], [], _, _ => ⟨[], [], rfl, .nil, rfl, fun _ h => nomatch h⟩
  | [], _ :: _, h, _ => nomatch h
  | _ :: _, [], h, _ => nomatch h
  | x :: acc, q :: m, h, hE => by
    obtain ⟨ps, kvs, h1, h2, h3, h4⟩ := pairs_of (acc := acc) (m := m) (Nat.succ.inj h) fun i v hv => hE (i + 1) v hv
    obtain ⟨p, z, rfl, hz, e1, e2⟩ := hE 0 x rfl
    have e3 : q.1 = .inr z := Option.some.inj e1
    refine ⟨p :: ps, (.inr z, .int (f z)) :: kvs, by rw [h1]; rfl, .cons e2 h2, by rw [List.map_cons, List.map_cons, h3, e3], fun kv hk => ?_⟩
    rcases List.mem_cons.mp hk with rfl | hk
    · exact ⟨z, hz, rfl, rfl⟩
    · exact h4 kv hk
theorem val_key {m : List (Key × V)} {k : Key} {y : V} (h : valV m k = some y) : k ∈ m.map (·.1) := List.mem_map.mpr ⟨_, val_mem h, rfl⟩
theorem merge_one {m : List (Key × V)} (nd : (m.map (·.1)).Nodup) {ns cs : List Str} : lostN (mergeK (mergeK [] (mrgT [m])) (kwD [] ([] : List V))) ns cs = ((ns.filter fun z => (valV m (.inr z)).isNone) ++ cs).head? := by
  unfold lostN
  have e : (fun z : Str => (valV (mergeK (mergeK [] (mrgT [m])) (kwD [] ([] : List V))) (.inr z)).isNone) = fun z => (valV m (.inr z)).isNone := by
    funext z
    rw [valV_one1 nd]
  rw [e]
section
variable {K : PySem.W.Frag}
/-- [(name, .. a small int drawn) for name in names] -/
theorem tab_lcG {tv : L2.TE} {sa b c l : Addr} {zs : List Str} {y2 y3 y4 y5 y6 y7 y8 y9 y10 y11 y12 y13 y14 y15 y16 y17 : Option V} {H : Hp} {D : Addr} {Qd : Hp → Prop} (hD : H D = none) (hB : BagAt H b c) (hl : (hide H b) l = some (.lst (zs.map V.str))) (hz : zs.length ≤ 1000)
    (hv : ∀ (x : Option V) (Ha : Hp) (Q : VK), BagAt Ha b c → (∀ r Hc, -10 ≤ r → r ≤ 120 → BagAt Hc b c → ExB b Ha Hc → Q (.int r) Hc) → tv [some (.ref sa), some (.ref b), y2, y3, y4, y5, y6, y7, y8, y9, y10, y11, y12, y13, y14, y15, y16, x] Ha Q)
    (q : ∀ H' ps kvs, BagAt H' b c → ExB b H H' → H' D = some (.lst (ps.map V.ref)) → Paired (fun p (kv : Key × V) => H' p = some (.tup [kV kv.1, kv.2])) ps kvs → kvs.map (·.1) = zs.map Sum.inr → (∀ kv ∈ kvs, SmV kv.2) → Qd H') :
    LcW (Itl K l) (gName 17) tYes (tTup (tCons (tVar 17) (tCons tv tNil))) [17] [some (.ref sa), some (.ref b), y2, y3, y4, y5, y6, y7, y8, y9, y10, y11, y12, y13, y14, y15, y16, y17] H D Qd := by
  have nD := hB.ne hD
  have nl : l ≠ b := fun z => by
    rw [z, hide_same] at hl
    cases hl
  have hl2 := Ex.hide H b _ _ hl
  refine lc_itW (walk_list (xs := zs.map V.str)) (σw := [some (.ref sa), some (.ref b), y2, y3, y4, y5, y6, y7, y8, y9, y10, y11, y12, y13, y14, y15, y16, none]) rfl (fun i H' => BagAt H' b c ∧ ExB b H H' ∧ ∃ ps kvs, H' D = some (.lst (ps.map V.ref)) ∧ ps.length = i ∧ Paired (fun p (kv : Key × V) => H' p = some (.tup [kV kv.1, kv.2])) ps kvs ∧ kvs.map (·.1) = (zs.take i).map Sum.inr ∧ ∀ kv ∈ kvs, SmV kv.2) ?_ ?_ ?_ ?_
  · exact ⟨hB.new hD, ExB.new0 hD, [], [], upd_same, rfl, .nil, rfl, fun _ h => nomatch h⟩
  · rintro i H' _ ⟨_, x, _⟩
    exact SqL.of (x _ _ nl hl2)
  · rintro j x Ha Hb hj ⟨hBa, xa, ps, kvs, hps, hln, hpa, hks, hvs⟩ ⟨rfl, hx⟩
    rw [List.getElem?_map] at hx
    obtain ⟨z, hz2, rfl⟩ := Option.map_eq_some_iff.mp hx
    walk_at "go"
    refine ⟨rfl, ?_⟩
    walk_at "go"
    refine hv _ _ _ hBa fun r Hc r0 r1 hBc xc => ?_
    walk_at "go"
    intro p hp
    walk_at "go"
    have x11 := xc.trans (Ex.new (o := .tup [V.str z, V.int r]) hp).tb (b := b)
    have hac := x11 _ _ nD.1.symm hps
    have hpD : p ≠ D := (ne_of_none (xc _ _ nD.1.symm hps) hp).symm
    refine ⟨ps.map V.ref, hac, Nat.lt_of_lt_of_le (show (ps.map V.ref).length < 100001 by have := List.length_map (as := zs) V.str; rw [List.length_map]; omega) (by decide), (hBc.new hp).put nD.1 nD.2, ExB.put (xa.trans x11) hD, ps ++ [p], kvs ++ [(.inr z, .int r)], ?_, ?_, ?_, ?_, ?_⟩
    · rw [upd_same, List.map_append]
      rfl
    · rw [List.length_append, hln]
      rfl
    · refine prd_appT (L2.Paired.mapP hpa fun p' kv h => ?_) (.cons ((upd_ne hpD).trans upd_same) .nil)
      have n1 : p' ≠ D := fun e => by
        rw [e, hps] at h
        cases h
      have n2 : p' ≠ b := fun e => by
        obtain ⟨cells, i, g, s, hb1, _⟩ := hBa.ex
        rw [e, hb1] at h
        cases h
      exact (upd_ne n1).trans (x11 _ _ n2 h)
    · rw [List.map_append, hks, List.take_add_one, hz2, List.map_append]
      rfl
    · intro kv hk
      rcases List.mem_append.mp hk with h | h
      · exact hvs kv h
      · rw [List.mem_singleton.mp h]
        exact ⟨r, rfl, r0, r1⟩
  · rintro H' ⟨hB', x', ps, kvs, hps, _, hpa, hks, hvs⟩
    rw [List.length_map, List.take_length] at hks
    exact q H' ps kvs hB' x' hps hpa hks hvs
/-- [(name, pull(bag, 121)) for name in names] -/
theorem tab_lc {sa b c l : Addr} {zs : List Str} {y2 y3 y4 y5 y6 y7 y8 y9 y10 y11 y12 y13 y14 y15 y16 y17 : Option V} {H : Hp} {D : Addr} {Qd : Hp → Prop} (hD : H D = none) (hB : BagAt H b c) (hl : (hide H b) l = some (.lst (zs.map V.str))) (hz : zs.length ≤ 1000)
    (q : ∀ H' ps kvs, BagAt H' b c → ExB b H H' → H' D = some (.lst (ps.map V.ref)) → Paired (fun p (kv : Key × V) => H' p = some (.tup [kV kv.1, kv.2])) ps kvs → kvs.map (·.1) = zs.map Sum.inr → (∀ kv ∈ kvs, SmV kv.2) → Qd H') :
    LcW (Itl K l) (gName 17) tYes (tTup (tCons (tVar 17) (tCons (tCall spPull [] E0 (tCons (tVar 1) (tCons (tC (.int 121)) tNil))) tNil))) [17] [some (.ref sa), some (.ref b), y2, y3, y4, y5, y6, y7, y8, y9, y10, y11, y12, y13, y14, y15, y16, y17] H D Qd := by
  refine tab_lcG hD hB hl hz (fun x Ha Q hBa q => ?_) q
  walk_at "go"
  refine ⟨b, c, 121, rfl, hBa, by decide, by decide, fun r Hc r0 r1 hBc xc => ?_⟩
  exact q r Hc (by omega) (by omega) hBc xc
end
theorem hd_updL {H : Hp} {b D : Addr} {o : HO} : hide (hide (L2.upd H D o) b) D = hide (hide H b) D := by
  funext a
  by_cases e : a = D
  · subst e
    rw [hide_same, hide_same]
  · rw [hide_ne e, hide_ne e]
    by_cases q : a = b
    · subst q
      rw [hide_same, hide_same]
    · rw [hide_ne q, hide_ne q, upd_ne e]
theorem hd_inL {H : Hp} {b D : Addr} {o : HO} (hD : H D = none) : Ex (hide H b) (hide (hide (L2.upd H D o) b) D) := by
  rw [hd_updL]
  intro a u h
  have n : a ≠ D := fun z => by
    subst z
    have e := Ex.hide H b _ _ h
    rw [hD] at e
    cases e
  rw [hide_ne n]
  exact h
end PW
/-! ### law k16: what stays, joined tables -/
namespace PW
open PySem PySem.Spec PyProof.Rows L2
open LamX (Tabs TabS CodeO ExtN TabB)
/-- later tables win -/
def vOr : Option V → Option V → Option V
  | some v, _ => some v
  | none, y => y
theorem valV_snoc {f m : List (Key × V)} (n1 : (f.map (·.1)).Nodup) (n2 : (m.map (·.1)).Nodup) (k : Key) : valV (mergeK (mergeK [] f) m) k = vOr (valV m k) (valV f k) := by
  rw [valV_mm n1 n2]
  cases valV m k <;> rfl
theorem mrg_nd {f m : List (Key × V)} : ((mergeK (mergeK [] f) m).map (·.1)).Nodup := nodup_merge (nodup_merge (a := []) List.nodup_nil)
theorem valV_top {f more : List (Key × V)} (n1 : (f.map (·.1)).Nodup) (n2 : (more.map (·.1)).Nodup) (k : Key) : valV (mergeK (mergeK [] f) more) k = vOr (valV more k) (valV f k) := valV_snoc n1 n2 k
theorem mrg1_nd {a : List (Key × V)} : ((mrgT [a]).map (·.1)).Nodup := mrg_nd
theorem nd0 : (([] : List (Key × V)).map (·.1)).Nodup := List.nodup_nil
theorem mrgL_nd {as : List (List (Key × V))} {a : List (Key × V)} : ((mrgT (as ++ [a])).map (·.1)).Nodup := by
  unfold mrgT
  rw [List.foldl_append]
  exact mrg_nd
theorem mrg2_nd {a b : List (Key × V)} : ((mrgT [a, b]).map (·.1)).Nodup := mrgL_nd (as := [a])
theorem mrg3_nd {a b c : List (Key × V)} : ((mrgT [a, b, c]).map (·.1)).Nodup := mrgL_nd (as := [a, b])
theorem valV_m2 {a b : List (Key × V)} (na : (a.map (·.1)).Nodup) (nb : (b.map (·.1)).Nodup) (k : Key) : valV (mrgT [a, b]) k = vOr (valV b k) (valV a k) := by
  show valV (mergeK (mergeK [] (mergeK (mergeK [] []) a)) b) k = _
  rw [valV_snoc mrg_nd nb, valV_snoc nd0 na]
  cases valV b k <;> cases valV a k <;> rfl
theorem valV_m3 {a b c : List (Key × V)} (na : (a.map (·.1)).Nodup) (nb : (b.map (·.1)).Nodup) (nc : (c.map (·.1)).Nodup) (k : Key) : valV (mrgT [a, b, c]) k = vOr (valV c k) (vOr (valV b k) (valV a k)) := by
  show valV (mergeK (mergeK [] (mrgT [a, b])) c) k = _
  rw [valV_snoc mrg2_nd nc, valV_m2 na nb]
theorem valV_kw0 {f : List (Key × V)} (n1 : (f.map (·.1)).Nodup) (k : Key) : valV (mergeK (mergeK [] f) (kwD [] ([] : List V))) k = valV f k := by
  show valV (mergeK (mergeK [] f) []) k = valV f k
  rw [valV_top n1 nd0]
  rfl
theorem env2_or {m m2 : List (Key × V)} {zs ys : List Str} (t : Tb120 m zs) (t2 : Tb120 m2 ys) {z : Str} (hz : z ∈ zs) : vOr (valV m2 (.inr z)) (valV m (.inr z)) = some (.int (env2M m m2 z)) := by
  rw [← (env2_val t t2 hz).1]
  cases valV m2 (.inr z) with
  | some v => rfl
  | none => exact t.env hz
/-- number_of(t, high, low, high) -/
theorem tbm_hlh {K : PySem.W.Frag} {m m2 : List (Key × V)} {zs ys : List Str} {H : Hp} (t : Tb120 m zs) (t2 : Tb120 m2 ys) : TbM K capT S17 8 (env2M m m2) H [m2, m, m2] (kwD [] ([] : List V)) zs := fun z hz => by
  have e := env2_val t t2 hz
  refine ⟨_, ?_, num120 e.2.1 e.2.2⟩
  rw [valV_kw0 mrg3_nd, valV_m3 t2.nd t.nd t2.nd, ← env2_or t t2 hz]
  have h := t.env hz
  cases valV m2 (.inr z) with
  | some v => rfl
  | none =>
    rw [h]
    rfl
/-- number_of(t, high, high, low) -/
theorem tbm_hhl {K : PySem.W.Frag} {m m2 : List (Key × V)} {zs ys : List Str} {H : Hp} (t : Tb120 m zs) (t2 : Tb120 m2 ys) : TbM K capT S17 8 (envM m) H [m2, m2, m] (kwD [] ([] : List V)) zs := fun z hz => by
  have l := t.low z hz
  refine ⟨_, ?_, num120 l.1 l.2⟩
  rw [valV_kw0 mrg3_nd, valV_m3 t2.nd t2.nd t.nd, t.env hz]
  rfl
/-- the same with x told by a keyword, as an int -/
theorem tbm3i {K : PySem.W.Frag} {m m2 : List (Key × V)} {zs ys : List Str} {H : Hp} {i : Int} (t : Tb120 m zs) (t2 : Tb120 m2 ys) (h0 : -10 ≤ i) (h1 : i ≤ 120) : TbM K capT S17 8 (env3M m m2 i) H [m, m2] (kwD ["x"] [V.int i]) zs := fun z hz => by
  have e := env2_val t t2 hz
  rw [valV_top mrg2_nd (by exact List.nodup_cons.mpr ⟨List.not_mem_nil, List.nodup_nil⟩), valV_m2 t.nd t2.nd]
  unfold env3M
  by_cases c : z = "x"
  · subst c
    rw [if_pos rfl]
    exact ⟨_, rfl, num120 h0 h1⟩
  · rw [if_neg c]
    refine ⟨_, ?_, num120 e.2.1 e.2.2⟩
    rw [← env2_or t t2 hz]
    rw [show valV (kwD ["x"] [V.int i]) (.inr z) = none from valV_neg (fun q => c (Sum.inr.inj q).symm)]
    rfl
def env4M (m m2 : List (Key × V)) (i j : Int) (z : Str) : Int := if z = "y" then j else env3M m m2 i z
theorem env4_low {m m2 : List (Key × V)} {zs ys : List Str} {i j : Int} (t : Tb120 m zs) (t2 : Tb120 m2 ys) (h0 : -10 ≤ i) (h1 : i ≤ 120) (h2 : -10 ≤ j) (h3 : j ≤ 120) : Env0120 (env4M m m2 i j) zs := fun z hz => by
  unfold env4M
  split
  · exact ⟨h2, h3⟩
  · exact env3_low t t2 h0 h1 z hz
/-- the same with x and y told by keywords -/
theorem tbm4 {K : PySem.W.Frag} {m m2 : List (Key × V)} {zs ys : List Str} {H : Hp} {r r2 : Addr} {i j : Int} (t : Tb120 m zs) (t2 : Tb120 m2 ys) (hr : IsT K capT H 8 S17 r i) (hr2 : IsT K capT H 8 S17 r2 j) : TbM K capT S17 8 (env4M m m2 i j) H [m, m2] (kwD ["x", "y"] [V.ref r, V.ref r2]) zs := fun z hz => by
  have e := env2_val t t2 hz
  rw [valV_top mrg2_nd (by show ([Sum.inr "x", Sum.inr "y"] : List Key).Nodup; decide), valV_m2 t.nd t2.nd]
  unfold env4M env3M
  have ne : ¬ (Sum.inr "x" : Key) = .inr "y" := by decide
  by_cases c : z = "y"
  · subst c
    rw [if_pos rfl]
    refine ⟨_, ?_, .inl ⟨r2, rfl, hr2⟩⟩
    rw [show valV (kwD ["x", "y"] [V.ref r, V.ref r2]) (.inr "y") = some (V.ref r2) from (valV_neg ne).trans (valV_pos rfl)]
    rfl
  · rw [if_neg c]
    by_cases d : z = "x"
    · subst d
      rw [if_pos rfl]
      exact ⟨_, rfl, .inl ⟨r, rfl, hr⟩⟩
    · rw [if_neg d]
      refine ⟨_, ?_, num120 e.2.1 e.2.2⟩
      rw [← env2_or t t2 hz]
      rw [show valV (kwD ["x", "y"] [V.ref r, V.ref r2]) (.inr z) = none from (valV_neg (fun q => d (Sum.inr.inj q).symm)).trans (valV_neg (fun q => c (Sum.inr.inj q).symm))]
      rfl
theorem TbI.putN {env : Str → Int} {H : Hp} {tb : Addr} {zs : List Str} {m : List (Key × V)} {i : Int} (nm : Str) (h : TbI env H tb zs) (e : H tb = some (.dK m)) : TbI (fun z => if z = nm then i else env z) (L2.upd H tb (.dK (putK m (.inr nm) (.int i)))) tb zs := ⟨_, upd_same, fun z hz => by
  obtain ⟨kvs, e1, q⟩ := h
  rw [e] at e1
  injection e1 with e1
  injection e1 with e1
  subst e1
  rw [valV_put]
  by_cases c : z = nm
  · subst c
    rw [if_pos rfl]
    show _ = some (V.int (if z = z then i else env z))
    rw [if_pos rfl]
  · rw [if_neg (fun q => c (Sum.inr.inj q))]
    show _ = some (V.int (if z = nm then i else env z))
    rw [if_neg c]
    exact q z hz⟩
theorem Tb120.flat {m : List (Key × V)} {zs : List Str} (t : Tb120 m zs) : ∀ p ∈ m, flatB p.2 = true := fun p hp => by
  obtain ⟨z, hz, e⟩ := t.key p hp
  have h := val_nodup t.nd p hp
  rw [e] at h
  obtain ⟨i, q, _⟩ := t.all z _ h
  rw [q]
  rfl
/-- what stays: names, term, table -/
structure S16 (K : PySem.W.Frag) (G : Hp) (l0 l1 : Addr) (n0 n1 : List Str) (v : V) (t : Tm) (tb lt : Addr) (m1 m2 : List (Key × V)) : Prop where
  nm0 : NmL G l0 n0
  nm1 : NmL G l1 n1
  tm : IsTm K G 8 v t
  low : G tb = some (.dK m1)
  high : G lt = some (.dK m2)
theorem S16.ex {K : PySem.W.Frag} {G G' : Hp} {l0 l1 : Addr} {n0 n1 : List Str} {v : V} {t : Tm} {tb lt : Addr} {m1 m2 : List (Key × V)} (x : Ex G G') (h : S16 K G l0 l1 n0 n1 v t tb lt m1 m2) : S16 K G' l0 l1 n0 n1 v t tb lt m1 m2 := ⟨h.nm0.ex x, h.nm1.ex x, h.tm.ex x, x _ _ h.low, x _ _ h.high⟩
theorem NmL.put {G : Hp} {l D : Addr} {ns : List Str} {m : List (Key × V)} {o : HO} (hD : G D = some (.dK m)) (h : NmL G l ns) : NmL (L2.upd G D o) l ns := by
  refine ⟨?_, h.ok⟩
  have n2 : l ≠ D := fun z => by
    have e := h.at_
    rw [z, hD] at e
    cases e
  exact (upd_ne n2).trans h.at_
theorem S16.put {K : PySem.W.Frag} {G : Hp} {l0 l1 D : Addr} {n0 n1 : List Str} {v : V} {t : Tm} {tb lt : Addr} {m1 m2 m : List (Key × V)} {o : HO} (hD : G D = some (.dK m)) (n : tb ≠ D ∧ lt ≠ D) (h : S16 K G l0 l1 n0 n1 v t tb lt m1 m2) : S16 K (L2.upd G D o) l0 l1 n0 n1 v t tb lt m1 m2 := by
  refine ⟨h.nm0.put hD, h.nm1.put hD, IsTm.te (fun p ys q => ?_) h.tm, (upd_ne n.1).trans h.low, (upd_ne n.2).trans h.high⟩
  have n2 : p ≠ D := fun z => by
    rw [z, hD] at q
    cases q
  exact (upd_ne n2).trans q
theorem NmL.app {H : Hp} {l l2 L : Addr} {ns ms : List Str} (h : NmL H l ns) (h2 : NmL H l2 ms) (e : H L = some (.lst (ns.map V.str ++ ms.map V.str))) : NmL H L (ns ++ ms) := ⟨by rw [e, List.map_append], fun z hz => (List.mem_append.mp hz).elim (h.ok z) (h2.ok z)⟩
theorem isNm_x' : IsNm "x" := isNm_iff.mp (by decide +kernel)
theorem isNm_y' : IsNm "y" := isNm_iff.mp (by decide +kernel)
def n_xy : List Str := ["x", "y"]
def n_x1 : List Str := ["x"]
def n_yx : List Str := ["y", "x"]
theorem nm_xys {ns : List Str} (h : ns = n_xy ∨ ns = n_x1 ∨ ns = n_yx) : (∀ z ∈ ns, IsNm z) ∧ ns.length ≤ 2 := by
  rcases h with rfl | rfl | rfl
  · exact ⟨fun z hz => by
      rcases List.mem_cons.mp hz with rfl | hz
      · exact isNm_x'
      · rw [List.mem_singleton.mp hz]
        exact isNm_y', by decide⟩
  · exact ⟨fun z hz => by
      rw [List.mem_singleton.mp hz]
      exact isNm_x', by decide⟩
  · exact ⟨fun z hz => by
      rcases List.mem_cons.mp hz with rfl | hz
      · exact isNm_y'
      · rw [List.mem_singleton.mp hz]
        exact isNm_x', by decide⟩
/-- the copies kept -/
structure K16 (G : Hp) (kl c1 c2 : Addr) (m1 m2 : List (Key × V)) : Prop where
  kl_ : G kl = some (.lst [.ref c1, .ref c2])
  c1_ : G c1 = some (.dK m1)
  c2_ : G c2 = some (.dK m2)
theorem K16.ex {G G' : Hp} {kl c1 c2 : Addr} {m1 m2 : List (Key × V)} (x : Ex G G') (h : K16 G kl c1 c2 m1 m2) : K16 G' kl c1 c2 m1 m2 := ⟨x _ _ h.kl_, x _ _ h.c1_, x _ _ h.c2_⟩
theorem K16.put {G : Hp} {kl c1 c2 D : Addr} {m1 m2 m : List (Key × V)} {o : HO} (hD : G D = some (.dK m)) (n : c1 ≠ D ∧ c2 ≠ D) (h : K16 G kl c1 c2 m1 m2) : K16 (L2.upd G D o) kl c1 c2 m1 m2 := by
  have n0 : kl ≠ D := fun z => by
    have e := h.kl_
    rw [z, hD] at e
    cases e
  exact ⟨(upd_ne n0).trans h.kl_, (upd_ne n.1).trans h.c1_, (upd_ne n.2).trans h.c2_⟩
theorem bag_lst16 {H : Hp} {b c : Addr} (h : BagAt H b c) : ∃ xs : List V, H b = some (.lst xs) := by
  obtain ⟨_, _, _, _, z, _⟩ := h
  exact ⟨_, z⟩
end PW
/-! ### law k16 -/
namespace PW
open PySem PySem.Spec PyProof.Rows L2
open LamX (Tabs TabS CodeO ExtN TabB)
section
variable {P : Program} {w : World} {K : PySem.W.Frag} {mg : Str → Option Value} {base : Heap}
theorem num16 {K : PySem.W.Frag} {ks : List Str} {v : V} {zs : List V} {t : Tm} {ns : List Str} {d : Nat} {as : List Addr} {ts : List (List (Key × V))} {env : Str → Int} {H : Hp} {Q : VK} {E : XK} (ht : IsTm K H d v t) (hs : SmT ns 5 t)
    (hts : Paired (fun a t => H a = some (.dK t)) as ts) (l1 : ts.length ≤ 100) (l2 : ∀ t ∈ ts, t.length ≤ 1000) (l3 : zs.length = ks.length) (l4 : ks.length ≤ 1000) (hm : TbM K capT S17 8 env H ts (kwD ks zs) ns)
    (q : ∀ r H', Ex H H' → IsT K capT H' 9 (lv5 5) r (t.val env) → Q (.ref r) H') : starKw ks (spNumB K 11) (v :: as.map V.ref) zs H Q E := by
  obtain ⟨a1, a2, a3, a4⟩ := SmT.nms hs
  have h32 : (2 : Nat) ^ 5 = 32 := by decide
  exact starKw_num (cap := capT) (S0 := S17) (d0 := 8) (c := capT) (S := lv5 5) (e := 9) (env := env) ht (by omega) (by omega) a3 hts l1 l2 l3 l4 (by decide) (by decide) (SmT.fit (by decide) (by decide) (by decide) hs) (fun z hz => hm z (a1 z hz)) q
/-- _law_is of a number and its value -/
theorem is16 {K : PySem.W.Frag} {ns : List Str} {env : Str → Int} {t : Tm} {r : Addr} {H : Hp} {Q : VK} {E : XK} (he : Env0120 env ns) (hs : SmT ns 5 t) (hr : IsT K capT H 9 (lv5 5) r (t.val env)) (q : ∀ H', Ex H H' → Q (.bl true) H') : spLIs K capT 9 [.ref r, .int (t.val env)] H Q E :=
  ⟨r, lv5 5, t.val env, rfl, hr, ⟨by decide, by decide, by decide⟩, Nat.lt_of_le_of_lt (SmT.vok he (by decide) hs).2 (Nat.pow_lt_pow_right (by decide) (by decide)), q⟩
theorem val16 {K : PySem.W.Frag} {ns : List Str} {env : Str → Int} {t : Tm} {v : V} {d : Nat} {tb : Addr} {H : Hp} {Q : VK} {E : XK} (he : Env0120 env ns) (hs : SmT ns 5 t) (ht : IsTm K H d v t) (hb : TbI env H tb ns) (q : ∀ H', Ex H H' → Q (.int (t.val env)) H') : spLVal K 16 [v, .ref tb] H Q E := by
  obtain ⟨a1, a2, a3, a4⟩ := SmT.nms hs
  exact ⟨v, t, d, tb, env, rfl, ht, by omega, (SmT.vok he (by decide) hs).1, hb.sub a1, q⟩
theorem ok_law16 {k k0 kx : Nat} {Pt : Addr} (hkx : kx + 3 ≤ k) (T : Txt K mg) (TB : LamX.TabB base mg (He.codeOf K ("law", none)) Pt)
    (G__law_bag : FnOk P w K mg base CX0 k (He.ga K "_law_bag") (fdOf K (He.ga K "_law_bag")) p__law_bag (spBag K))
    (G__law_pull : FnOk P w K mg base CX0 k (He.ga K "_law_pull") (fdOf K (He.ga K "_law_pull")) p__law_pull (spPull))
    (G__law_of : FnOk P w K mg base CX0 k (He.ga K "_law_of") (fdOf K (He.ga K "_law_of")) p__law_of (spOf K))
    (G__law_names : FnOk P w K mg base CX0 k (He.ga K "_law_names") (fdOf K (He.ga K "_law_names")) p__law_names (spLNames))
    (G__law_small_term : FnOk P w K mg base CX0 k (He.ga K "_law_small_term") (fdOf K (He.ga K "_law_small_term")) p__law_small_term (spLSm K 4))
    (G__law_term : FnOk P w K mg base CX0 k (He.ga K "_law_term") (fdOf K (He.ga K "_law_term")) p__law_term (spLTerm K 3))
    (G__law_words : FnOk P w K mg base CX0 k (He.ga K "_law_words") (fdOf K (He.ga K "_law_words")) p__law_words (spLWords K 16))
    (G__law_value : FnOk P w K mg base CX0 k (He.ga K "_law_value") (fdOf K (He.ga K "_law_value")) p__law_value (spLVal K 16))
    (G__law_is : FnOk P w K mg base CX0 k (He.ga K "_law_is") (fdOf K (He.ga K "_law_is")) p__law_is (spLIs K capT 9))
    (G__law_same : FnOk P w K mg base CX0 k (He.ga K "_law_same") (fdOf K (He.ga K "_law_same")) p__law_same (spSame K 61))
    (G_Tower_small : FnOk P w K mg base CX0 k (He.ma K (He.ga K "Tower") "small") (fdOf K (He.fAd K ("Tower", some "small"))) p_Tower_small (spSmall K))
    (G_number_of : ∀ ks ∈ ([[], ["x"], ["x", "y"]] : List (List Str)), FnRK P w K mg base CX0 k (He.ga K "number_of") ks (starKw ks (spNumB K 11)))
    (GX_number_of : ∀ ks ∈ ([[]] : List (List Str)), FnRK P w K mg base (L2.CX P w) kx (He.ga K "number_of") ks (starKw ks (spNumX K)))
    (G_Tower___init__ : FnOk P w K mg base CX0 (k0) (He.ma K (He.ga K "Tower") "__init__") (fdOf K (He.fAd K ("Tower", some "__init__"))) p_Tower___init__ (spInit K)) (hk : k0 + 1 = k) : FnOk P w K mg base CX0 (k + 1) (He.ga K "law") (fdOf K (He.ga K "law")) p_law (spLawS K Pt) := by
  subst hk
  refine FunD.okC (p := ("law", none)) T.d_law sc_law (fun vs H Q E h => ?_) (fun A outer s H vs Q E hr h => ?_)
  · obtain ⟨a, ns, rfl, _⟩ := h
    rfl
  · obtain ⟨sa, ns, rfl, ha, hl, hP, hQ⟩ := h
    refine ⟨_, PSs.nox ((pss_cons (ps_set (i := 1) sc_law.nd rfl (Or.inr rfl) (pe_call G__law_bag hr rfl T.g__law_bag T.d__law_bag.kp (b__law_bag T) .nil pass0 (pa_cons (pv 0) pa_nil)))
    (pss_cons (ps_for PassesOwn.never rfl (pi_range1 rfl T.f_range (pa_cons pe_int pa_nil)) (pg_name (i := 2) sc_law.nd rfl (Or.inl rfl) (hf := by first | exact Or.inl rfl | exact Or.inr rfl))
      (pss_cons (ps_set (i := 3) sc_law.nd rfl (Or.inl rfl) (pe_call G__law_of hr rfl T.g__law_of T.d__law_of.kp (b__law_of T) .nil pass0 (pa_cons (pv 1) (pa_cons (pe_lst (pa_cons (pe_lst (pa_cons pe_str (pa_cons pe_str pa_nil))) (pa_cons (pe_lst (pa_cons pe_str pa_nil)) (pa_cons (pe_lst (pa_cons pe_str (pa_cons pe_str pa_nil))) pa_nil)))) pa_nil))))
        (pss_cons (ps_set (i := 4) sc_law.nd rfl (Or.inl rfl) (pe_call G__law_names hr rfl T.g__law_names T.d__law_names.kp (b__law_names T) .nil pass0 (pa_cons (pv 1) (pa_cons pe_int pa_nil))))
        (pss_cons (ps_set (i := 5) sc_law.nd rfl (Or.inl rfl) (pe_call G__law_small_term hr rfl T.g__law_small_term T.d__law_small_term.kp (b__law_small_term T) .nil pass0 (pa_cons (pv 1) (pa_cons (pe_op op_cat (pv 3) (pv 4)) (pa_cons pe_int pa_nil)))))
        (pss_cons (ps_set (i := 6) sc_law.nd rfl (Or.inr rfl) (pe_callTy (call_dictP rfl) (by rfl) T.f_dict (by decide +kernel) (pa_cons (pe_lc (own := [("_law_name_z", 17)]) rfl sc_law.nd (pi_list (pe_op op_cat (pv 3) (pv 4))) (blkOk_by (own := [("_law_name_z", 17)]) (N := n_law) (sc := defScope s_law) (by decide +kernel)) (fun _ _ _ _ _ => (pg_name (i := 17) sc_law.nd rfl (Or.inl rfl) (hf := by first | exact Or.inl rfl | exact Or.inr rfl))) (fun _ _ _ _ _ => pts_nil) (fun _ _ _ _ _ => (pe_tup (pa_cons (pv 17) (pa_cons (pe_call G__law_pull hr rfl T.g__law_pull T.d__law_pull.kp (b__law_pull T) .nil pass0 (pa_cons (pv 1) (pa_cons pe_int pa_nil))) pa_nil))))) pa_nil)))
        (pss_cons (ps_set (i := 7) sc_law.nd rfl (Or.inr rfl) (pe_callTy (call_dictP rfl) (by rfl) T.f_dict (by decide +kernel) (pa_cons (pe_lc (own := [("_law_name_z", 17)]) rfl sc_law.nd (pi_list (pe_slice sl_list (pv 4) po_none (po_some (pe_call G__law_pull hr rfl T.g__law_pull T.d__law_pull.kp (b__law_pull T) .nil pass0 (pa_cons (pv 1) (pa_cons pe_int pa_nil)))))) (blkOk_by (own := [("_law_name_z", 17)]) (N := n_law) (sc := defScope s_law) (by decide +kernel)) (fun _ _ _ _ _ => (pg_name (i := 17) sc_law.nd rfl (Or.inl rfl) (hf := by first | exact Or.inl rfl | exact Or.inr rfl))) (fun _ _ _ _ _ => pts_nil) (fun _ _ _ _ _ => (pe_tup (pa_cons (pv 17) (pa_cons (pe_op op_sub (pe_call G__law_pull hr rfl T.g__law_pull T.d__law_pull.kp (b__law_pull T) .nil pass0 (pa_cons (pv 1) (pa_cons pe_int pa_nil))) (pe_call G__law_pull hr rfl T.g__law_pull T.d__law_pull.kp (b__law_pull T) .nil pass0 (pa_cons (pv 1) (pa_cons pe_int pa_nil)))) pa_nil))))) pa_nil)))
        (pss_cons (ps_par (i := 8) (j := 9) (by rfl) sc_law.nd rfl rfl (by decide) rfl rfl (pa_cons (pe_call G__law_pull hr rfl T.g__law_pull T.d__law_pull.kp (b__law_pull T) .nil pass0 (pa_cons (pv 1) (pa_cons pe_int pa_nil))) (pa_cons (pe_make T.mk_Tower G_Tower___init__ hr rfl T.g_Tower (b_Tower___init___2 T) (dv_Tower___init___2 T) pass0 (pa_cons (pe_call G__law_pull hr rfl T.g__law_pull T.d__law_pull.kp (b__law_pull T) .nil pass0 (pa_cons (pv 1) (pa_cons pe_int pa_nil))) pa_nil)) pa_nil)) (by rfl))
        (pss_cons (ps_set (i := 10) sc_law.nd rfl (Or.inl rfl) (pe_callTy (call_dictP rfl) (by rfl) T.f_dict (by decide +kernel) (pa_cons (pe_lock (pe_lc (own := [("_law_name_z", 17)]) rfl sc_law.nd (pi_keys (pv 6)) (blkOk_by (own := [("_law_name_z", 17)]) (N := n_law) (sc := defScope s_law) (by decide +kernel)) (fun _ _ _ _ _ => (pg_name (i := 17) sc_law.nd rfl (Or.inl rfl) (hf := by first | exact Or.inl rfl | exact Or.inr rfl))) (fun _ _ _ _ _ => pts_nil) (fun _ _ _ _ _ => (pe_tup (pa_cons (pv 17) (pa_cons (pe_dget2 (hu_of hr) (pv 7) (pv 17) (pe_dget (hu_of hr) (pv 6) (pv 17) (fun _ _ => rfl)) ⟨rfl, rfl, rfl, rfl⟩) pa_nil)))))) pa_nil)))
        (pss_cons (ps_set (i := 11) sc_law.nd rfl (Or.inl rfl) (pe_lst (pa_cons (pe_callTy call_dictD (by rfl) T.f_dict (by decide +kernel) (pa_cons (pv 6) pa_nil)) (pa_cons (pe_callTy call_dictD (by rfl) T.f_dict (by decide +kernel) (pa_cons (pv 7) pa_nil)) pa_nil))))
        (pss_cons (ps_if (PW.pt (pw_or (pt_not (pt_val (pe_call G__law_is hr rfl T.g__law_is T.d__law_is.kp (b__law_is T) .nil pass0 (pa_cons (PW.pe_callK0 (G_number_of [] (by simp)) hr rfl T.g_number_of T.d_number_of.kp pass0 (pa_cons (pv 5) (pa_cons (pv 6) (pa_cons (pv 7) pa_nil)))) (pa_cons (pe_call G__law_value hr rfl T.g__law_value T.d__law_value.kp (b__law_value T) .nil pass0 (pa_cons (pv 5) (pa_cons (pv 10) pa_nil))) pa_nil))))) (pw_or1 (pt_not (pt_val (pe_call G__law_is hr rfl T.g__law_is T.d__law_is.kp (b__law_is T) .nil pass0 (pa_cons (PW.pe_callK0 (G_number_of [] (by simp)) hr rfl T.g_number_of T.d_number_of.kp pass0 (pa_cons (pv 5) (pa_cons (pv 6) pa_nil))) (pa_cons (pe_call G__law_value hr rfl T.g__law_value T.d__law_value.kp (b__law_value T) .nil pass0 (pa_cons (pv 5) (pa_cons (pv 6) pa_nil))) pa_nil))))))))
          (pss_one (ps_ret pe_bl))
          pss_nil)
        (pss_cons (ps_if (PW.pt (pw_or (pt_not (pt_val (pe_call G__law_is hr rfl T.g__law_is T.d__law_is.kp (b__law_is T) .nil pass0 (pa_cons (PW.pe_callK0 (G_number_of [] (by simp)) hr rfl T.g_number_of T.d_number_of.kp pass0 (pa_cons (pv 5) (pa_cons (pv 7) (pa_cons (pv 6) (pa_cons (pv 7) pa_nil))))) (pa_cons (pe_call G__law_value hr rfl T.g__law_value T.d__law_value.kp (b__law_value T) .nil pass0 (pa_cons (pv 5) (pa_cons (pv 10) pa_nil))) pa_nil))))) (pw_or1 (pt_not (pt_val (pe_call G__law_is hr rfl T.g__law_is T.d__law_is.kp (b__law_is T) .nil pass0 (pa_cons (PW.pe_callK0 (G_number_of [] (by simp)) hr rfl T.g_number_of T.d_number_of.kp pass0 (pa_cons (pv 5) (pa_cons (pv 7) (pa_cons (pv 7) (pa_cons (pv 6) pa_nil))))) (pa_cons (pe_call G__law_value hr rfl T.g__law_value T.d__law_value.kp (b__law_value T) .nil pass0 (pa_cons (pv 5) (pa_cons (pv 6) pa_nil))) pa_nil))))))))
          (pss_one (ps_ret pe_bl))
          pss_nil)
        (pss_cons (ps_dput (hu_of hr) (pv 10) pe_str (pv 8) (by rfl))
        (pss_cons (ps_if (pt_not (pt_val (pe_call G__law_is hr rfl T.g__law_is T.d__law_is.kp (b__law_is T) .nil pass0 (pa_cons (PW.pe_callK (G_number_of ["x"] (by simp)) hr rfl T.g_number_of T.d_number_of.kp pass0 (pa_cons (pv 5) (pa_cons (pv 6) (pa_cons (pv 7) pa_nil))) (pk_cons (pv 8) pk_nil)) (pa_cons (pe_call G__law_value hr rfl T.g__law_value T.d__law_value.kp (b__law_value T) .nil pass0 (pa_cons (pv 5) (pa_cons (pv 10) pa_nil))) pa_nil)))))
          (pss_one (ps_ret pe_bl))
          pss_nil)
        (pss_cons (ps_dput (hu_of hr) (pv 10) pe_str (pe_meth0 (pv 9) T.k_Tower T.m_Tower_small G_Tower_small hr (b_Tower_small T) .nil pass0) (by rfl))
        (pss_cons (ps_if (PW.pt (pw_or (pt_not (pt_val (pe_call G__law_is hr rfl T.g__law_is T.d__law_is.kp (b__law_is T) .nil pass0 (pa_cons (PW.pe_callK (G_number_of ["x", "y"] (by simp)) hr rfl T.g_number_of T.d_number_of.kp pass0 (pa_cons (pv 5) (pa_cons (pv 6) (pa_cons (pv 7) pa_nil))) (pk_cons (pe_make T.mk_Tower G_Tower___init__ hr rfl T.g_Tower (b_Tower___init___2 T) (dv_Tower___init___2 T) pass0 (pa_cons (pv 8) pa_nil)) (pk_cons (pv 9) pk_nil))) (pa_cons (pe_call G__law_value hr rfl T.g__law_value T.d__law_value.kp (b__law_value T) .nil pass0 (pa_cons (pv 5) (pa_cons (pv 10) pa_nil))) pa_nil))))) (pw_or1 (pt_cmpR (PW.op_neLD (Nat.lt_of_le_of_lt (Nat.add_le_add_left (show 1 ≤ 64 by decide) _) hr.units)) (pe_lst (pa_cons (pv 6) (pa_cons (pv 7) pa_nil))) (pv 11) (nomark _)))))
          (pss_one (ps_ret pe_bl))
          pss_nil)
        (pss_cons (ps_set (i := 12) sc_law.nd rfl (Or.inl rfl) (pe_call G__law_names hr rfl T.g__law_names T.d__law_names.kp (b__law_names T) .nil pass0 (pa_cons (pv 1) (pa_cons pe_int pa_nil))))
        (pss_cons (ps_set (i := 13) sc_law.nd rfl (Or.inr rfl) (pe_call G__law_term hr rfl T.g__law_term T.d__law_term.kp (b__law_term T) .nil pass0 (pa_cons (pv 1) (pa_cons (pe_op op_cat (pv 3) (pv 4)) (pa_cons (pv 12) (pa_cons pe_int pa_nil))))))
        (pss_cons (ps_setLc (i := 14) (own := [("_law_name_z", 17)]) rfl sc_law.nd rfl rfl (sw_true rfl rfl rfl (by decide +kernel)) (pi_list (pe_call G__law_words hr rfl T.g__law_words T.d__law_words.kp (b__law_words T) .nil pass0 (pa_cons (pv 13) (pa_cons pe_str pa_nil)))) (blkOk_by (own := [("_law_name_z", 17)]) (N := n_law) (sc := defScope s_law) (by decide +kernel)) (fun _ _ _ _ _ => (pg_name (i := 17) sc_law.nd rfl (Or.inl rfl) (hf := by first | exact Or.inl rfl | exact Or.inr rfl))) (fun _ _ _ _ _ => (pts_one (pt_cmp (pc_dnotin (hu_of hr) (pv 17) (pv 7))))) (fun _ _ _ _ _ => (pv 17)))
        (pss_cons (ps_set (i := 15) sc_law.nd rfl (Or.inl rfl) (pe_op op_cat (pv 14) (pe_call G__law_words hr rfl T.g__law_words T.d__law_words.kp (b__law_words T) .nil pass0 (pa_cons (pv 13) (pa_cons pe_str pa_nil)))))
        (pss_cons (ps_set (i := 16) sc_law.nd rfl (Or.inl rfl) (pe_ifExp (pt_cmpR (op_neD hr.units) (pv 15) (pe_lst pa_nil) (nomark _)) (PW.pe_why T TB rfl rfl (hr.mono hkx) (LamX.lamS_by (by rfl)) rfl (by intros; rfl) (fun A outer s H E f c' hr => by exact (PW.pe_callK0 (GX_number_of [] (by simp)) hr rfl T.g_number_of T.d_number_of.kp (passes_call (takes_of rfl rfl rfl rfl) (fun _ _ _ _ h => h)) (pa_cons (pv 13) (pa_cons (pv 7) pa_nil))))) (pe_tup (pa_cons pe_str (pa_cons pe_non pa_nil)))))
        (pss_one (ps_if (pt_not (pt_val (pe_call G__law_same hr rfl T.g__law_same T.d__law_same.kp (b__law_same T) .nil pass0 (pa_cons (pv 16) (pa_cons (pe_tup (pa_cons pe_str (pa_cons (pe_ix ix_list (pe_op op_cat (pv 15) (pe_lst (pa_cons pe_non pa_nil))) pe_int (fun _ _ => rfl)) pa_nil))) pa_nil)))))
          (pss_one (ps_ret pe_bl))
          pss_nil))))))))))))))))))))))
    (pss_one (ps_ret (pe_call G__law_same hr rfl T.g__law_same T.d__law_same.kp (b__law_same T) .nil pass0 (pa_cons (pe_meth0 (PW.pe_callK0 (G_number_of [] (by simp)) hr rfl T.g_number_of T.d_number_of.kp pass0 (pa_cons (pe_tup (pa_cons pe_str (pa_cons pe_int pa_nil))) pa_nil)) T.k_Tower T.m_Tower_small G_Tower_small hr (b_Tower_small T) .nil pass0) (pa_cons pe_int pa_nil)))))))), ?_⟩
    show tSeq _ _ _ [some (V.ref sa), none, none, none, none, none, none, none, none, none, none, none, none, none, none, none, none, none] H
    walk_at "K"
    walk_at "go"
    refine ⟨sa, ns, rfl, ha, hl, fun b c H1 hb hc hB x1 => ?_⟩
    have hT0 := BT.first hP x1 hB
    clear hP x1 hb hc ha
    walk_at "go"
    refine for_it walk_range (fun i σ H => (∃ y2 y3 y4 y5 y6 y7 y8 y9 y10 y11 y12 y13 y14 y15 y16 y17, σ = [some (.ref sa), some (.ref b), y2, y3, y4, y5, y6, y7, y8, y9, y10, y11, y12, y13, y14, y15, y16, y17]) ∧ BT Pt H b c) ?_ (fun _ _ _ _ _ => trivial) ?_ ?_
    · exact ⟨⟨_, _, _, _, _, _, _, _, _, _, _, _, _, _, _, _, rfl⟩, hT0⟩
    · clear hB hT0 H1
      rintro i x σ H1 H0 hi ⟨⟨y2, y3, y4, y5, y6, y7, y8, y9, y10, y11, y12, y13, y14, y15, y16, y17, rfl⟩, hT⟩ ⟨rfl, rfl⟩
      walk_at "go"
      intro t1 ht1
      have hT1 := hT.ex (Ex.new (o := .lst [V.str "x", V.str "y"]) ht1)
      have a1 : (hide (L2.upd H0 t1 (.lst [V.str "x", V.str "y"])) b) t1 = some (.lst (n_xy.map V.str)) := (hide_ne (hT.bag.ne ht1).1.symm).trans upd_same
      generalize L2.upd H0 t1 (.lst [V.str "x", V.str "y"]) = H1 at hT1 a1 ⊢
      clear hT ht1
      walk_at "go"
      intro t2 ht2
      have x2 := Ex.new (o := .lst [V.str "x"]) ht2
      have hT2 := hT1.ex x2
      have a1 := x2.hides b _ _ a1
      have a2 : (hide (L2.upd H1 t2 (.lst [V.str "x"])) b) t2 = some (.lst (n_x1.map V.str)) := (hide_ne (hT1.bag.ne ht2).1.symm).trans upd_same
      generalize L2.upd H1 t2 (.lst [V.str "x"]) = H2 at hT2 a1 a2 ⊢
      clear x2 hT1 ht2
      walk_at "go"
      intro t3 ht3
      have x3 := Ex.new (o := .lst [V.str "y", V.str "x"]) ht3
      have hT3 := hT2.ex x3
      have a1 := x3.hides b _ _ a1
      have a2 := x3.hides b _ _ a2
      have a3 : (hide (L2.upd H2 t3 (.lst [V.str "y", V.str "x"])) b) t3 = some (.lst (n_yx.map V.str)) := (hide_ne (hT2.bag.ne ht3).1.symm).trans upd_same
      generalize L2.upd H2 t3 (.lst [V.str "y", V.str "x"]) = H3 at hT3 a1 a2 a3 ⊢
      clear x3 hT2 ht3
      walk_at "go"
      intro t4 ht4
      walk_at "go"
      refine lsOf hT3.bag ht4 (Nat.succ_pos _) (by simp) fun nv H4 hnv hB4 x4 => ?_
      have hT4 := hT3.pull hB4 x4
      have xh := x4.hd
      obtain ⟨l0, n0, rfl, hN0, hn0⟩ : ∃ l0 n0, nv = V.ref l0 ∧ NmL (hide H4 b) l0 n0 ∧ n0.length ≤ 2 := by
        simp only [List.mem_cons, List.not_mem_nil, or_false] at hnv
        rcases hnv with rfl | rfl | rfl
        · exact ⟨_, n_xy, rfl, ⟨xh _ _ a1, (nm_xys (.inl rfl)).1⟩, by decide⟩
        · exact ⟨_, n_x1, rfl, ⟨xh _ _ a2, (nm_xys (.inr (.inl rfl))).1⟩, by decide⟩
        · exact ⟨_, n_yx, rfl, ⟨xh _ _ a3, (nm_xys (.inr (.inr rfl))).1⟩, by decide⟩
      clear xh x4 hB4 hnv a1 a2 a3 hT3 ht4
      walk_at "go"
      refine ⟨b, c, 2, rfl, hT4.bag, by decide, by decide, fun l1 n1 H5 hN1 hln hB5 x5 => ?_⟩
      have hT5 := hT4.pull hB5 x5
      have hN0 := hN0.ex x5.hd
      have hl1 : n1.length = 2 := hln
      clear hT4 x5 hB5 hln
      walk_at "go"
      refine r_cat (Ex.hide H5 b _ _ hN0.at_) (Ex.hide H5 b _ _ hN1.at_) (by rw [List.length_map, List.length_map, hl1]; exact Nat.le_trans (show n0.length + 2 ≤ 4 by omega) (by decide)) fun L hL => ?_
      have x6 := Ex.new (o := .lst (n0.map V.str ++ n1.map V.str)) hL
      have hT6 := hT5.ex x6
      have hNA : NmL (hide (L2.upd H5 L (.lst (n0.map V.str ++ n1.map V.str))) b) L (n0 ++ n1) := NmL.app (hN0.ex (x6.hides b)) (hN1.ex (x6.hides b)) ((hide_ne (hT5.bag.ne hL).1.symm).trans upd_same)
      have hN0 := hN0.ex (x6.hides b)
      have hN1 := hN1.ex (x6.hides b)
      have hla : (n0 ++ n1).length ≤ 4 := by rw [List.length_append]; omega
      generalize L2.upd H5 L (.lst (n0.map V.str ++ n1.map V.str)) = H6 at hT6 hNA hN0 hN1 ⊢
      clear x6 hT5 hL
      walk_at "go"
      refine ⟨b, c, L, n0 ++ n1, 5, rfl, hT6.bag, hNA, by omega, by decide, fun v t H7 hv hs hB7 x7 => ?_⟩
      have hT7 := hT6.pull hB7 x7
      have hN0 := hN0.ex x7.hd
      have hN1 := hN1.ex x7.hd
      have hs : SmT (n0 ++ n1) 5 t := hs
      have hv : IsTm K (hide H7 b) 8 v t := hv
      clear x7 hT6 hB7 hNA
      walk_at "go"
      refine r_cat (Ex.hide H7 b _ _ hN0.at_) (Ex.hide H7 b _ _ hN1.at_) (by rw [List.length_map, List.length_map, hl1]; exact Nat.le_trans (show n0.length + 2 ≤ 4 by omega) (by decide)) fun L2' hL2 => ?_
      have x8 := Ex.new (o := .lst (n0.map V.str ++ n1.map V.str)) hL2
      have hT8 := hT7.ex x8
      have hNA : NmL (hide (L2.upd H7 L2' (.lst (n0.map V.str ++ n1.map V.str))) b) L2' (n0 ++ n1) := NmL.app (hN0.ex (x8.hides b)) (hN1.ex (x8.hides b)) ((hide_ne (hT7.bag.ne hL2).1.symm).trans upd_same)
      have hN0 := hN0.ex (x8.hides b)
      have hN1 := hN1.ex (x8.hides b)
      have hv := hv.ex (x8.hides b)
      generalize L2.upd H7 L2' (.lst (n0.map V.str ++ n1.map V.str)) = H8 at hT8 hNA hN0 hN1 hv ⊢
      clear x8 hT7 hL2
      have gL8 : SqL K H8 L2' ((n0 ++ n1).map V.str) := SqL.of (Ex.hide H8 b _ _ hNA.at_)
      walk_at "go"
      intro D4 hD4
      refine tab_lc hD4 hT8.bag hNA.at_ (by omega) fun H9 ps kvs hB9 x9 g9 hpa hks hvs => ?_
      walk_at "go"
      refine ⟨D4, ps, kvs, rfl, SqL.of g9, L2.Paired.mapP hpa fun _ _ h => SqT.of h, fun tb htb => ?_⟩
      have q1 := Tb120.of hks hvs (by omega)
      have x10 := Ex.new (o := .dK (mergeK [] kvs)) htb
      have hT10 := (hT8.pull hB9 x9).ex x10
      have ntb : tb ≠ b := (hB9.ne htb).1.symm
      have hN0 := hN0.ex (x9.trans x10.tb).hd
      have hN1 := hN1.ex (x9.trans x10.tb).hd
      have hv := hv.ex (x9.trans x10.tb).hd
      have g10 : (hide (L2.upd H9 tb (.dK (mergeK [] kvs))) b) tb = some (.dK (mergeK [] kvs)) := (hide_ne ntb).trans upd_same
      generalize L2.upd H9 tb (.dK (mergeK [] kvs)) = H10 at hT10 hN0 hN1 hv g10 ⊢
      generalize mergeK [] kvs = m1 at q1 g10 ⊢
      clear hT8 hNA gL8 x9 x10 g9 hpa hks hvs hB9 ntb htb hD4
      have gL10 := Ex.hide H10 b _ _ hN1.at_
      walk_at "go"
      refine ⟨b, c, 3, rfl, hT10.bag, by decide, by decide, fun q H11 z0 z1 hB11 x11 => ?_⟩
      have hT11 := hT10.pull hB11 x11
      have hN0 := hN0.ex x11.hd
      have hN1 := hN1.ex x11.hd
      have hv := hv.ex x11.hd
      have g11 := x11.hd _ _ g10
      clear hT10 x11 hB11 gL10 g10
      have gL11 := Ex.hide H11 b _ _ hN1.at_
      walk_at "go"
      intro ls hls
      obtain ⟨ys, ec, hys⟩ := cut_strs n1 none (some q)
      rw [ec]
      have x12 := Ex.new (o := .lst (ys.map V.str)) hls
      have hT12 := hT11.ex x12
      have g12 : (hide (L2.upd H11 ls (.lst (ys.map V.str))) b) ls = some (.lst (ys.map V.str)) := (hide_ne (hT11.bag.ne hls).1.symm).trans upd_same
      have hN0 := hN0.ex (x12.hides b)
      have hN1 := hN1.ex (x12.hides b)
      have hv := hv.ex (x12.hides b)
      have g11 := x12.hides b _ _ g11
      generalize L2.upd H11 ls (.lst (ys.map V.str)) = H12 at hT12 g12 hN0 hN1 hv g11 ⊢
      clear x12 hT11 hls ec gL11 z0 z1
      have gL12 : SqL K H12 ls (ys.map V.str) := SqL.of (Ex.hide H12 b _ _ g12)
      walk_at "go"
      intro D5 hD5
      refine tab_lcG hD5 hT12.bag g12 (by omega) (fun x Ha Q hBa q => ?_) fun H13 ps kvs hB13 x13 g13 hpa hks hvs => ?_
      · walk_at "go"
        refine ⟨b, c, 121, rfl, hBa, by decide, by decide, fun r Hc r0 r1 hBc xc => ?_⟩
        walk_at "go"
        refine ⟨b, c, 9, rfl, hBc, by decide, by decide, fun r2 Hd r20 r21 hBd xd => ?_⟩
        walk_at "go"
        exact q _ Hd (by omega) (by omega) hBd (xc.trans xd)
      walk_at "go"
      refine ⟨D5, ps, kvs, rfl, SqL.of g13, L2.Paired.mapP hpa fun _ _ h => SqT.of h, fun lt hlt => ?_⟩
      have q2 := Tb120.of hks hvs (by omega)
      have x14 := Ex.new (o := .dK (mergeK [] kvs)) hlt
      have hT14 := (hT12.pull hB13 x13).ex x14
      have g11 := x13.hd _ _ g11
      have ntl : tb ≠ lt := ne_of_none (Ex.hide H13 b _ _ g11) hlt
      have S14 : S16 K (hide (L2.upd H13 lt (.dK (mergeK [] kvs))) b) l0 l1 n0 n1 v t tb lt m1 (mergeK [] kvs) := ⟨hN0.ex (x13.trans x14.tb).hd, hN1.ex (x13.trans x14.tb).hd, hv.ex (x13.trans x14.tb).hd, (x14.hides b) _ _ g11, (hide_ne (hB13.ne hlt).1.symm).trans upd_same⟩
      generalize L2.upd H13 lt (.dK (mergeK [] kvs)) = H14 at hT14 S14 ⊢
      generalize mergeK [] kvs = m2 at q2 S14 ⊢
      clear hT12 x13 x14 g13 hpa hks hvs hB13 hlt hD5 hN0 hN1 hv g11 g12 gL12
      walk_at "go"
      refine ⟨b, c, 121, rfl, hT14.bag, by decide, by decide, fun px H15 p0 p1 hB15 x15 => ?_⟩
      have hT15 := hT14.pull hB15 x15
      have S15 := S14.ex x15.hd
      clear hT14 S14 x15 hB15
      walk_at "go"
      refine ⟨b, c, 121, rfl, hT15.bag, by decide, by decide, fun py H16 p2 p3 hB16 x16 => ?_⟩
      have hT16 := hT15.pull hB16 x16
      have S16 := S15.ex x16.hd
      clear hT15 S15 x16 hB16
      walk_at "go"
      refine mk_plain (cap := capT) (d := 7) T.e_Tower___init___parts (Sz.Le.refl _) fun tw H17 x17 h17 => ?_
      have hT17 := hT16.ex x17
      have S17 := S16.ex (x17.hides b)
      obtain ⟨bs17, hbs17⟩ := bag_lst16 hT17.bag
      have k17 : IsT K capT (hide H17 b) 8 PW.S17 tw py := IsT.hideL hbs17 (h17.mono (smI (by omega)))
      clear x17 h17 hT16 S16 hbs17 bs17
      have tb17 := Ex.hide H17 b _ _ S17.low
      have lt17 := Ex.hide H17 b _ _ S17.high
      walk_at "go"
      refine r_lockK tb17 fun od => ?_
      refine r_iKeysK rfl upd_same ?_
      intro D6 hD6
      have nD6t : D6 ≠ tb := fun z => by
        rw [z, upd_same] at hD6
        cases hD6
      refine lc_grow (walk_keys (kvs := m1) (d := tb) (o := od)) (σw := [some (.ref sa), some (.ref b), some (.int (0 + (i : Nat))), some (.ref l0), some (.ref l1), some v, some (.ref tb), some (.ref lt), some (.int px), some (.ref tw), y10, y11, y12, y13, y14, y15, y16, none]) rfl (fun i H v => ∃ p z, v = .ref p ∧ z ∈ n0 ++ n1 ∧ (m1[i]?).map (·.1) = some (.inr z) ∧ H p = some (.tup [.str z, .int (env2M m1 m2 z)])) hD6 (by have := q1.len; omega) (fun _ x => x _ _ upd_same) (fun i Ha Hb v x h => ?_) ?_ ?_
      · obtain ⟨p, z, h1, h2, h3, h4⟩ := h
        exact ⟨p, z, h1, h2, h3, x _ _ h4⟩
      · rintro j x Ha Hb acc R hj xa hacc ⟨rfl, k, v0, hk, rfl⟩ hR
        obtain ⟨z, hz, ek⟩ := q1.key _ (List.mem_of_getElem? hk)
        have ek : k = .inr z := ek
        subst ek
        have ha1 := xa _ _ ((upd_ne ntl.symm).trans lt17)
        have ha2 := xa _ _ (upd_same (H := H17) (a := tb) (o := .frz od (.dK m1)))
        walk_at "go"
        refine ⟨rfl, ?_⟩
        walk_at "go"
        refine ⟨lt, rfl, .inl ⟨m2, .inl ha1⟩, ?_⟩
        walk_at "go"
        refine ⟨tb, .int (envM m1 z), rfl, .inl ⟨m1, .inr z, .inr ⟨od, ha2⟩, rfl, (q1.env hz).symm⟩, ?_⟩
        refine ⟨_, DGet.k (k := .inr z) ha1, ?_⟩
        rw [(env2_val q1 q2 hz).1]
        walk_at "go"
        intro p hp
        have np : p ≠ D6 := (ne_of_none hacc hp).symm
        exact hR _ _ ⟨p, z, rfl, hz, by rw [hk]; rfl, (hide_ne np).trans upd_same⟩ (Ex.new hp)
      · intro H20 acc x20 hacc hl20 hE
        obtain ⟨ps3, kvs3, rfl, hps3, hks3, hvs3⟩ := pairs_of hl20 hE
        have x20' := ex_unlock tb17 x20
        have hps3' : Paired (fun p (kv : Key × V) => (L2.upd H20 tb (.dK m1)) p = some (.tup [kV kv.1, kv.2])) ps3 kvs3 := L2.Paired.mapP hps3 fun p kv h => by
          have h := Ex.hide H20 D6 _ _ h
          have n1 : p ≠ tb := fun z => by
            rw [z, x20 _ _ upd_same] at h
            cases h
          exact (upd_ne n1).trans h
        have hD6' : (L2.upd H20 tb (.dK m1)) D6 = some (.lst (ps3.map V.ref)) := (upd_ne nD6t).trans hacc
        have hT20 := hT17.ex x20'
        have S20 := S17.ex (x20'.hides b)
        have k20 := k17.ex (x20'.hides b)
        refine ⟨x20 _ _ upd_same, ?_⟩
        generalize L2.upd H20 tb (.dK m1) = H21 at hps3' hD6' hT20 S20 k20 ⊢
        clear x20 x20' hE hacc hl20 hps3 hT17 S17 k17 tb17 lt17 hD6 nD6t
        walk_at "go"
        refine ⟨D6, ps3, kvs3, rfl, SqL.of hD6', L2.Paired.mapP hps3' fun _ _ h => SqT.of h, fun bo hbo => ?_⟩
        have x22 := Ex.new (o := .dK (mergeK [] kvs3)) hbo
        have hT22 := hT20.ex x22
        have S22 := S20.ex (x22.hides b)
        have k22 := k20.ex (hd_inL (o := .dK (mergeK [] kvs3)) hbo)
        have nbo : bo ≠ b := (hT20.bag.ne hbo).1.symm
        have nbt : tb ≠ bo := ne_of_none (Ex.hide H21 b _ _ S20.low) hbo
        have nbl : lt ≠ bo := ne_of_none (Ex.hide H21 b _ _ S20.high) hbo
        have b22 : (hide (L2.upd H21 bo (.dK (mergeK [] kvs3))) b) bo = some (.dK (mergeK [] kvs3)) := (hide_ne nbo).trans upd_same
        have ti22 : TbI (env2M m1 m2) (hide (L2.upd H21 bo (.dK (mergeK [] kvs3))) b) bo (n0 ++ n1) := both_tbI q1 q2 (fun z hz => by
          rw [hks3]
          exact val_key (q1.env hz)) hvs3 b22
        have l3 : (mergeK [] kvs3).length ≤ 1000 := by
          have e1 := length_mergeK kvs3 []
          have e2 := congrArg List.length hks3
          rw [List.length_map, List.length_map] at e2
          have := q1.len
          simp only [List.length_nil] at e1
          omega
        generalize L2.upd H21 bo (.dK (mergeK [] kvs3)) = H22 at hT22 S22 k22 b22 ti22 ⊢
        generalize mergeK [] kvs3 = mb at b22 l3 ⊢
        clear x22 hT20 S20 k20 hbo hD6' hps3' hks3 hvs3
        have tb22 := Ex.hide H22 b _ _ S22.low
        have lt22 := Ex.hide H22 b _ _ S22.high
        walk_at "go"
        refine ⟨tb, m1, rfl, .inl tb22, fun c1 hc1 => ?_⟩
        have x23 := Ex.new (o := .dK m1) hc1
        have hT23 := hT22.ex x23
        have S23 := S22.ex (x23.hides b)
        have k23 := k22.ex ((x23.hides b).hides bo)
        have b23 := x23.hides b _ _ b22
        have ti23 := ti22.ex (x23.hides b)
        have nc1b : c1 ≠ b := (hT22.bag.ne hc1).1.symm
        have nc1t : tb ≠ c1 := ne_of_none tb22 hc1
        have nc1o : c1 ≠ bo := (ne_of_none (Ex.hide H22 b _ _ b22) hc1).symm
        have c23 : (hide (L2.upd H22 c1 (.dK m1)) b) c1 = some (.dK m1) := (hide_ne nc1b).trans upd_same
        generalize L2.upd H22 c1 (.dK m1) = H23 at hT23 S23 k23 b23 ti23 c23 ⊢
        clear x23 hT22 S22 k22 b22 ti22 tb22 lt22 hc1
        have lt23 := Ex.hide H23 b _ _ S23.high
        walk_at "go"
        refine ⟨lt, m2, rfl, .inl lt23, fun c2 hc2 => ?_⟩
        have x24 := Ex.new (o := .dK m2) hc2
        have hT24 := hT23.ex x24
        have S24 := S23.ex (x24.hides b)
        have k24 := k23.ex ((x24.hides b).hides bo)
        have b24 := x24.hides b _ _ b23
        have ti24 := ti23.ex (x24.hides b)
        have c124 := x24.hides b _ _ c23
        have nc2b : c2 ≠ b := (hT23.bag.ne hc2).1.symm
        have nc2t : lt ≠ c2 := ne_of_none lt23 hc2
        have nc2o : c2 ≠ bo := (ne_of_none (Ex.hide H23 b _ _ b23) hc2).symm
        have c24 : (hide (L2.upd H23 c2 (.dK m2)) b) c2 = some (.dK m2) := (hide_ne nc2b).trans upd_same
        generalize L2.upd H23 c2 (.dK m2) = H24 at hT24 S24 k24 b24 ti24 c124 c24 ⊢
        clear x24 hT23 S23 k23 b23 ti23 c23 lt23 hc2
        walk_at "go"
        intro kl hkl
        have x25 := Ex.new (o := .lst [V.ref c1, V.ref c2]) hkl
        have hT25 := hT24.ex x25
        have S25 := S24.ex (x25.hides b)
        have k25 := k24.ex ((x25.hides b).hides bo)
        have b25 := x25.hides b _ _ b24
        have ti25 := ti24.ex (x25.hides b)
        have K25 : K16 (hide (L2.upd H24 kl (.lst [V.ref c1, V.ref c2])) b) kl c1 c2 m1 m2 := ⟨(hide_ne (hT24.bag.ne hkl).1.symm).trans upd_same, x25.hides b _ _ c124, x25.hides b _ _ c24⟩
        generalize L2.upd H24 kl (.lst [V.ref c1, V.ref c2]) = H25 at hT25 S25 k25 b25 ti25 K25 ⊢
        clear x25 hT24 S24 k24 b24 ti24 c124 c24 hkl
        have xh := Ex.hide H25 b
        walk_at "go"
        refine ⟨rfl, num16 (as := [tb, lt]) (ts := [m1, m2]) (env := env2M m1 m2) (S25.tm.ex xh) hs (.cons (xh _ _ S25.low) (.cons (xh _ _ S25.high) .nil)) (by simp) (by have l1 := q1.len; have l2 := q2.len; intro t ht; simp only [List.mem_cons, List.not_mem_nil, or_false] at ht; rcases ht with rfl | rfl <;> assumption) rfl (by simp) (tbm2' q1 q2) fun r H26 x26 hr => ?_⟩
        have hT26 := hT25.ex x26
        have S26 := S25.ex (x26.hides b)
        have k26 := k25.ex ((x26.hides b).hides bo)
        have b26 := x26.hides b _ _ b25
        have ti26 := ti25.ex (x26.hides b)
        have K26 := K25.ex (x26.hides b)
        clear hT25 S25 k25 b25 ti25 K25 xh x26
        have xh := Ex.hide H26 b
        walk_at "go"
        refine val16 (env := env2M m1 m2) (env2_low q1 q2) hs (S26.tm.ex xh) (ti26.ex xh) fun H27 x27 => ?_
        have hr := hr.ex x27
        have hT27 := hT26.ex x27
        have S27 := S26.ex (x27.hides b)
        have k27 := k26.ex ((x27.hides b).hides bo)
        have b27 := x27.hides b _ _ b26
        have ti27 := ti26.ex (x27.hides b)
        have K27 := K26.ex (x27.hides b)
        clear hT26 S26 k26 b26 ti26 K26 xh x27
        walk_at "go"
        refine is16 (env2_low q1 q2) hs hr fun H28 x28 => ?_
        have hT28 := hT27.ex x28
        have S28 := S27.ex (x28.hides b)
        have k28 := k27.ex ((x28.hides b).hides bo)
        have b28 := x28.hides b _ _ b27
        have ti28 := ti27.ex (x28.hides b)
        have K28 := K27.ex (x28.hides b)
        clear hT27 S27 k27 b27 ti27 K27 x28 hr
        have xh := Ex.hide H28 b
        walk_at "go"
        refine ⟨rfl, num16 (as := [tb]) (ts := [m1]) (env := envM m1) (S28.tm.ex xh) hs (.cons (xh _ _ S28.low) .nil) (by simp) (by have l1 := q1.len; have l2 := q2.len; intro t ht; simp only [List.mem_cons, List.not_mem_nil, or_false] at ht; rcases ht with rfl <;> assumption) rfl (by simp) (q1.tbm) fun r H29 x29 hr => ?_⟩
        have hT29 := hT28.ex x29
        have S29 := S28.ex (x29.hides b)
        have k29 := k28.ex ((x29.hides b).hides bo)
        have b29 := x29.hides b _ _ b28
        have ti29 := ti28.ex (x29.hides b)
        have K29 := K28.ex (x29.hides b)
        clear hT28 S28 k28 b28 ti28 K28 xh x29
        have xh := Ex.hide H29 b
        walk_at "go"
        refine val16 (env := envM m1) (q1.low) hs (S29.tm.ex xh) (q1.tbI (xh _ _ S29.low)) fun H30 x30 => ?_
        have hr := hr.ex x30
        have hT30 := hT29.ex x30
        have S30 := S29.ex (x30.hides b)
        have k30 := k29.ex ((x30.hides b).hides bo)
        have b30 := x30.hides b _ _ b29
        have ti30 := ti29.ex (x30.hides b)
        have K30 := K29.ex (x30.hides b)
        clear hT29 S29 k29 b29 ti29 K29 xh x30
        walk_at "go"
        refine is16 (q1.low) hs hr fun H31 x31 => ?_
        have hT31 := hT30.ex x31
        have S31 := S30.ex (x31.hides b)
        have k31 := k30.ex ((x31.hides b).hides bo)
        have b31 := x31.hides b _ _ b30
        have ti31 := ti30.ex (x31.hides b)
        have K31 := K30.ex (x31.hides b)
        clear hT30 S30 k30 b30 ti30 K30 x31 hr
        have xh := Ex.hide H31 b
        walk_at "go"
        refine ⟨rfl, num16 (as := [lt, tb, lt]) (ts := [m2, m1, m2]) (env := env2M m1 m2) (S31.tm.ex xh) hs (.cons (xh _ _ S31.high) (.cons (xh _ _ S31.low) (.cons (xh _ _ S31.high) .nil))) (by simp) (by have l1 := q1.len; have l2 := q2.len; intro t ht; simp only [List.mem_cons, List.not_mem_nil, or_false] at ht; rcases ht with rfl | rfl | rfl <;> assumption) rfl (by simp) (tbm_hlh q1 q2) fun r H32 x32 hr => ?_⟩
        have hT32 := hT31.ex x32
        have S32 := S31.ex (x32.hides b)
        have k32 := k31.ex ((x32.hides b).hides bo)
        have b32 := x32.hides b _ _ b31
        have ti32 := ti31.ex (x32.hides b)
        have K32 := K31.ex (x32.hides b)
        clear hT31 S31 k31 b31 ti31 K31 xh x32
        have xh := Ex.hide H32 b
        walk_at "go"
        refine val16 (env := env2M m1 m2) (env2_low q1 q2) hs (S32.tm.ex xh) (ti32.ex xh) fun H33 x33 => ?_
        have hr := hr.ex x33
        have hT33 := hT32.ex x33
        have S33 := S32.ex (x33.hides b)
        have k33 := k32.ex ((x33.hides b).hides bo)
        have b33 := x33.hides b _ _ b32
        have ti33 := ti32.ex (x33.hides b)
        have K33 := K32.ex (x33.hides b)
        clear hT32 S32 k32 b32 ti32 K32 xh x33
        walk_at "go"
        refine is16 (env2_low q1 q2) hs hr fun H34 x34 => ?_
        have hT34 := hT33.ex x34
        have S34 := S33.ex (x34.hides b)
        have k34 := k33.ex ((x34.hides b).hides bo)
        have b34 := x34.hides b _ _ b33
        have ti34 := ti33.ex (x34.hides b)
        have K34 := K33.ex (x34.hides b)
        clear hT33 S33 k33 b33 ti33 K33 x34 hr
        have xh := Ex.hide H34 b
        walk_at "go"
        refine ⟨rfl, num16 (as := [lt, lt, tb]) (ts := [m2, m2, m1]) (env := envM m1) (S34.tm.ex xh) hs (.cons (xh _ _ S34.high) (.cons (xh _ _ S34.high) (.cons (xh _ _ S34.low) .nil))) (by simp) (by have l1 := q1.len; have l2 := q2.len; intro t ht; simp only [List.mem_cons, List.not_mem_nil, or_false] at ht; rcases ht with rfl | rfl | rfl <;> assumption) rfl (by simp) (tbm_hhl q1 q2) fun r H35 x35 hr => ?_⟩
        have hT35 := hT34.ex x35
        have S35 := S34.ex (x35.hides b)
        have k35 := k34.ex ((x35.hides b).hides bo)
        have b35 := x35.hides b _ _ b34
        have ti35 := ti34.ex (x35.hides b)
        have K35 := K34.ex (x35.hides b)
        clear hT34 S34 k34 b34 ti34 K34 xh x35
        have xh := Ex.hide H35 b
        walk_at "go"
        refine val16 (env := envM m1) (q1.low) hs (S35.tm.ex xh) (q1.tbI (xh _ _ S35.low)) fun H36 x36 => ?_
        have hr := hr.ex x36
        have hT36 := hT35.ex x36
        have S36 := S35.ex (x36.hides b)
        have k36 := k35.ex ((x36.hides b).hides bo)
        have b36 := x36.hides b _ _ b35
        have ti36 := ti35.ex (x36.hides b)
        have K36 := K35.ex (x36.hides b)
        clear hT35 S35 k35 b35 ti35 K35 xh x36
        walk_at "go"
        refine is16 (q1.low) hs hr fun H37 x37 => ?_
        have hT37 := hT36.ex x37
        have S37 := S36.ex (x37.hides b)
        have k37 := k36.ex ((x37.hides b).hides bo)
        have b37 := x37.hides b _ _ b36
        have ti37 := ti36.ex (x37.hides b)
        have K37 := K36.ex (x37.hides b)
        clear hT36 S36 k36 b36 ti36 K36 x37 hr
        walk_at "go"
        have bb := Ex.hide H37 b _ _ b37
        refine ⟨bo, _, rfl, DPut.k (k := .inr "x") bb (Nat.lt_of_le_of_lt l3 (by decide)), ?_⟩
        have hT38 := hT37.putD (o := .dK (putK mb (.inr "x") (.int px))) bb
        have eh : hide (L2.upd H37 bo (.dK (putK mb (.inr "x") (.int px)))) b = L2.upd (hide H37 b) bo (.dK (putK mb (.inr "x") (.int px))) := hide_upd2 nbo
        have S38 : S16 K (hide (L2.upd H37 bo (.dK (putK mb (.inr "x") (.int px)))) b) l0 l1 n0 n1 v t tb lt m1 m2 := by
          rw [eh]
          exact S37.put b37 ⟨nbt, nbl⟩
        have k38 : IsT K capT (hide (hide (L2.upd H37 bo (.dK (putK mb (.inr "x") (.int px)))) b) bo) 8 PW.S17 tw py := by
          rw [hd_updL]
          exact k37
        have b38 : (hide (L2.upd H37 bo (.dK (putK mb (.inr "x") (.int px)))) b) bo = some (.dK (putK mb (.inr "x") (.int px))) := by
          rw [eh]
          exact upd_same
        have ti38 : TbI (env3M m1 m2 px) (hide (L2.upd H37 bo (.dK (putK mb (.inr "x") (.int px)))) b) bo (n0 ++ n1) := by
          rw [eh]
          exact ti37.putN "x" b37
        have K38 : K16 (hide (L2.upd H37 bo (.dK (putK mb (.inr "x") (.int px)))) b) kl c1 c2 m1 m2 := by
          rw [eh]
          exact K37.put b37 ⟨nc1o, nc2o⟩
        have mx_len := Nat.le_trans (putK_few (m := mb) (k := .inr "x") (v := .int px)) (Nat.add_le_add_right l3 1)
        generalize L2.upd H37 bo (.dK (putK mb (.inr "x") (.int px))) = H38 at hT38 S38 k38 b38 ti38 K38 ⊢
        generalize putK mb (.inr "x") (.int px) = mx at b38 mx_len
        clear eh bb hT37 S37 k37 b37 ti37 K37
        have xh := Ex.hide H38 b
        walk_at "go"
        refine ⟨rfl, num16 (as := [tb, lt]) (ts := [m1, m2]) (env := env3M m1 m2 px) (S38.tm.ex xh) hs (.cons (xh _ _ S38.low) (.cons (xh _ _ S38.high) .nil)) (by simp) (by simp; exact ⟨q1.len, q2.len⟩) rfl (by simp) (tbm3i q1 q2 (by omega) (by omega)) fun r H39 x39 hr => ?_⟩
        have hT39 := hT38.ex x39
        have S39 := S38.ex (x39.hides b)
        have k39 := k38.ex ((x39.hides b).hides bo)
        have b39 := x39.hides b _ _ b38
        have ti39 := ti38.ex (x39.hides b)
        have K39 := K38.ex (x39.hides b)
        clear hT38 S38 k38 b38 ti38 K38 xh x39
        have xh := Ex.hide H39 b
        walk_at "go"
        refine val16 (env := env3M m1 m2 px) (env3_low q1 q2 (by omega) (by omega)) hs (S39.tm.ex xh) (ti39.ex xh) fun H40 x40 => ?_
        have hr := hr.ex x40
        have hT40 := hT39.ex x40
        have S40 := S39.ex (x40.hides b)
        have k40 := k39.ex ((x40.hides b).hides bo)
        have b40 := x40.hides b _ _ b39
        have ti40 := ti39.ex (x40.hides b)
        have K40 := K39.ex (x40.hides b)
        clear hT39 S39 k39 b39 ti39 K39 xh x40
        walk_at "go"
        refine is16 (env3_low q1 q2 (by omega) (by omega)) hs hr fun H41 x41 => ?_
        have hT41 := hT40.ex x41
        have S41 := S40.ex (x41.hides b)
        have k41 := k40.ex ((x41.hides b).hides bo)
        have b41 := x41.hides b _ _ b40
        have ti41 := ti40.ex (x41.hides b)
        have K41 := K40.ex (x41.hides b)
        clear hT40 S40 k40 b40 ti40 K40 x41 hr
        have kk := (k41.ex (Ex.hide (hide H41 b) bo)).ex (Ex.hide H41 b)
        walk_at "go"
        refine meth_num rfl kk ?_
        walk_at "go"
        refine ⟨capT, tw, _, _, _, rfl, kk, fun H42 x42 => ?_⟩
        have hsv : smallV py = .int py := by
          unfold smallV
          rw [if_pos (show py.natAbs < 2 ^ 64 by omega)]
        rw [hsv]
        have hT42 := hT41.ex x42
        have S42 := S41.ex (x42.hides b)
        have k42 := k41.ex ((x42.hides b).hides bo)
        have b42 := x42.hides b _ _ b41
        have ti42 := ti41.ex (x42.hides b)
        have K42 := K41.ex (x42.hides b)
        clear hT41 S41 k41 b41 ti41 K41 x42 kk hsv
        walk_at "go"
        have bb := Ex.hide H42 b _ _ b42
        refine ⟨bo, _, rfl, DPut.k (k := .inr "y") bb (Nat.lt_of_le_of_lt mx_len (by decide)), ?_⟩
        have hT43 := hT42.putD (o := .dK (putK mx (.inr "y") (.int py))) bb
        have eh : hide (L2.upd H42 bo (.dK (putK mx (.inr "y") (.int py)))) b = L2.upd (hide H42 b) bo (.dK (putK mx (.inr "y") (.int py))) := hide_upd2 nbo
        have S43 : S16 K (hide (L2.upd H42 bo (.dK (putK mx (.inr "y") (.int py)))) b) l0 l1 n0 n1 v t tb lt m1 m2 := by
          rw [eh]
          exact S42.put b42 ⟨nbt, nbl⟩
        have k43 : IsT K capT (hide (hide (L2.upd H42 bo (.dK (putK mx (.inr "y") (.int py)))) b) bo) 8 PW.S17 tw py := by
          rw [hd_updL]
          exact k42
        have b43 : (hide (L2.upd H42 bo (.dK (putK mx (.inr "y") (.int py)))) b) bo = some (.dK (putK mx (.inr "y") (.int py))) := by
          rw [eh]
          exact upd_same
        have ti43 : TbI (env4M m1 m2 px py) (hide (L2.upd H42 bo (.dK (putK mx (.inr "y") (.int py)))) b) bo (n0 ++ n1) := by
          rw [eh]
          exact ti42.putN "y" b42
        have K43 : K16 (hide (L2.upd H42 bo (.dK (putK mx (.inr "y") (.int py)))) b) kl c1 c2 m1 m2 := by
          rw [eh]
          exact K42.put b42 ⟨nc1o, nc2o⟩
        have my_len := Nat.le_trans (putK_few (m := mx) (k := .inr "y") (v := .int py)) (Nat.add_le_add_right mx_len 1)
        generalize L2.upd H42 bo (.dK (putK mx (.inr "y") (.int py))) = H43 at hT43 S43 k43 b43 ti43 K43 ⊢
        generalize putK mx (.inr "y") (.int py) = my at b43 my_len
        clear eh bb hT42 S42 k42 b42 ti42 K42
        walk_at "go"
        refine mk_plain (cap := capT) (d := 7) T.e_Tower___init___parts (Sz.Le.refl _) fun rx H44 x44 h44 => ?_
        have h44 : IsT K capT H44 8 PW.S17 rx px := h44.mono (smI (by omega))
        have hT44 := hT43.ex x44
        have S44 := S43.ex (x44.hides b)
        have k44 := k43.ex ((x44.hides b).hides bo)
        have b44 := x44.hides b _ _ b43
        have ti44 := ti43.ex (x44.hides b)
        have K44 := K43.ex (x44.hides b)
        clear hT43 S43 k43 b43 ti43 K43 x44
        have xh := Ex.hide H44 b
        have kk := (k44.ex (Ex.hide (hide H44 b) bo)).ex xh
        walk_at "go"
        refine ⟨rfl, num16 (as := [tb, lt]) (ts := [m1, m2]) (env := env4M m1 m2 px py) (S44.tm.ex xh) hs (.cons (xh _ _ S44.low) (.cons (xh _ _ S44.high) .nil)) (by simp) (by simp; exact ⟨q1.len, q2.len⟩) rfl (by simp) (tbm4 q1 q2 h44 kk) fun r H45 x45 hr => ?_⟩
        have hT45 := hT44.ex x45
        have S45 := S44.ex (x45.hides b)
        have k45 := k44.ex ((x45.hides b).hides bo)
        have b45 := x45.hides b _ _ b44
        have ti45 := ti44.ex (x45.hides b)
        have K45 := K44.ex (x45.hides b)
        clear hT44 S44 k44 b44 ti44 K44 xh x45 kk h44
        have xh := Ex.hide H45 b
        walk_at "go"
        refine val16 (env := env4M m1 m2 px py) (env4_low q1 q2 (by omega) (by omega) (by omega) (by omega)) hs (S45.tm.ex xh) (ti45.ex xh) fun H46 x46 => ?_
        have hr := hr.ex x46
        have hT46 := hT45.ex x46
        have S46 := S45.ex (x46.hides b)
        have k46 := k45.ex ((x46.hides b).hides bo)
        have b46 := x46.hides b _ _ b45
        have ti46 := ti45.ex (x46.hides b)
        have K46 := K45.ex (x46.hides b)
        clear hT45 S45 k45 b45 ti45 K45 xh x46
        walk_at "go"
        refine is16 (env4_low q1 q2 (by omega) (by omega) (by omega) (by omega)) hs hr fun H47 x47 => ?_
        have hT47 := hT46.ex x47
        have S47 := S46.ex (x47.hides b)
        have k47 := k46.ex ((x47.hides b).hides bo)
        have b47 := x47.hides b _ _ b46
        have ti47 := ti46.ex (x47.hides b)
        have K47 := K46.ex (x47.hides b)
        clear hT46 S46 k46 b46 ti46 K46 x47 hr
        walk_at "go"
        intro cl hcl
        have x48 := Ex.new (o := .lst [V.ref tb, V.ref lt]) hcl
        walk_at "go"
        have xs := (Ex.hide H47 b).trans x48
        refine ⟨cl, kl, tb, lt, c1, c2, m1, m2, rfl, rfl, upd_same, xs _ _ K47.kl_, ⟨xs _ _ S47.low, xs _ _ K47.c1_, xs _ _ S47.high, xs _ _ K47.c2_⟩, ⟨nc1t, nc2t⟩, ⟨q1.nd, q2.nd, q1.flat, q2.flat⟩, ?_⟩
        have hT48 := hT47.ex x48
        have N0 := S47.nm0.ex (x48.hides b)
        have N1 := S47.nm1.ex (x48.hides b)
        have g48 := x48.hides b _ _ S47.high
        generalize L2.upd H47 cl (.lst [V.ref tb, V.ref lt]) = H48 at hT48 N0 N1 g48 ⊢
        clear xs x48 hcl hT47 S47 k47 b47 ti47 K47
        clear nc1b nc1t nc1o nc2b nc2t nc2o nbo nbt nbl ntl l3 mx_len my_len
        walk_at "go"
        refine ⟨b, c, 2, rfl, hT48.bag, by decide, by decide, fun lc cs H49 hC hcln hB49 x49 => ?_⟩
        have hT49 := hT48.pull hB49 x49
        have N0 := N0.ex x49.hd
        have N1 := N1.ex x49.hd
        have g49 := x49.hd _ _ g48
        clear x49 hB49 hT48 g48
        walk_at "go"
        refine r_cat (Ex.hide H49 b _ _ N0.at_) (Ex.hide H49 b _ _ N1.at_) (by rw [List.length_map, List.length_map, hl1]; exact Nat.le_trans (show n0.length + 2 ≤ 4 by omega) (by decide)) fun L3 hL3 => ?_
        have x50 := Ex.new (o := .lst (n0.map V.str ++ n1.map V.str)) hL3
        have hT50 := hT49.ex x50
        have hNA : NmL (hide (L2.upd H49 L3 (.lst (n0.map V.str ++ n1.map V.str))) b) L3 (n0 ++ n1) := NmL.app (N0.ex (x50.hides b)) (N1.ex (x50.hides b)) ((hide_ne (hT49.bag.ne hL3).1.symm).trans upd_same)
        have C50 := hC.ex (x50.hides b)
        have g50 := x50.hides b _ _ g49
        generalize L2.upd H49 L3 (.lst (n0.map V.str ++ n1.map V.str)) = H50 at hT50 hNA C50 g50 ⊢
        clear x50 hT49 N0 N1 hC g49 hL3
        walk_at "go"
        refine ⟨b, c, L3, lc, n0 ++ n1, cs, 4, rfl, hT50.bag, hNA, C50, by omega, by rw [hcln]; decide, by decide, fun wv wt H51 hw hok hcost hB51 x51 => ?_⟩
        have hT51 := hT50.pull hB51 x51
        have f51 := x51.hd _ _ g50
        have hw2 := Tm.ok_words hok
        have ld := hw.depth
        have ld : wt.dep ≤ 4 := ld
        have lc1 : wt.nms.length < 16 := hcost.2
        have lc2 : wt.cns.length ≤ 648 := Nat.le_trans (Tm.cns_cost wt) hcost.1
        obtain ⟨wd, hw⟩ : ∃ d, IsTm K (hide H51 b) d wv wt := ⟨_, hw⟩
        clear x51 hB51 hT50 hNA C50 g50 hok hcost
        walk_at "go"
        refine ⟨wv, wt, wd, true, rfl, hw.ex (Ex.hide H51 b), by omega, show wt.nms.length ≤ 100000 by omega, fun wl H52 x52 hwl => ?_⟩
        have hwl : H52 wl = some (.lst (wt.nms.map V.str)) := hwl
        have hT52 := hT51.ex x52
        have f52 := x52.hides b _ _ f51
        have hw := hw.ex (x52.hides b)
        clear x52 hT51 f51
        have gwl : SqL K H52 wl (wt.nms.map V.str) := SqL.of hwl
        have f52' := Ex.hide H52 b _ _ f52
        walk_at "go"
        intro D9 hD9
        refine lc_itW (walk_list (xs := wt.nms.map V.str)) (σw := [some (.ref sa), some (.ref b), some (.int (0 + (i : Nat))), some (.ref l0), some (.ref l1), some v, some (.ref tb), some (.ref lt), some (.int px), some (.ref tw), some (.ref bo), some (.ref kl), some (.ref lc), some wv, y14, y15, y16, none]) rfl (fun i H => Ex H52 H ∧ H D9 = some (.lst (((wt.nms.take i).filter fun z => (valV m2 (.inr z)).isNone).map V.str))) ?_ ?_ ?_ ?_
        · exact ⟨Ex.new hD9, upd_same⟩
        · rintro i H _ ⟨x, _⟩
          exact x.lst gwl
        · rintro j x Ha Hb hj ⟨xa, ha⟩ ⟨rfl, hx⟩
          rw [List.getElem?_map] at hx
          obtain ⟨z, hz, rfl⟩ := Option.map_eq_some_iff.mp hx
          walk_at "go"
          refine ⟨rfl, ?_⟩
          walk_at "go"
          refine ⟨lt, _, rfl, DGet.k (k := .inr z) (xa _ _ f52'), ?_⟩
          walk_at "go"
          have tk : wt.nms.take (j + 1) = wt.nms.take j ++ [z] := by rw [List.take_add_one, hz]; rfl
          refine r_if2 (fun e => ?_) (fun e => ?_)
          · walk_at "go"
            have e2 : (valV m2 (.inr z)).isNone = true := by
              rw [← Option.not_isSome]
              exact e
            refine ⟨_, ha, ?_, xa.mut hD9, ?_⟩
            · rw [List.length_map]
              refine Nat.lt_of_le_of_lt (List.length_filter_le _ _) (Nat.lt_of_le_of_lt (show _ ≤ 56 by rw [List.length_take]; omega) (by decide))
            · have e3 : [z].filter (fun z => (valV m2 (.inr z)).isNone) = [z] := by simp only [List.filter, e2]
              rw [upd_same, tk, List.filter_append, List.map_append, e3]
              rfl
          · have e2 : (valV m2 (.inr z)).isNone = false := by
              rw [← Option.not_isSome]
              exact e
            refine ⟨xa, ?_⟩
            have e3 : [z].filter (fun z => (valV m2 (.inr z)).isNone) = [] := by simp only [List.filter, e2]
            rw [ha, tk, List.filter_append, e3, List.append_nil]
        · rintro H47 ⟨x47, ha⟩
          rw [List.length_map, List.take_length] at ha
          have hT47 := hT52.ex x47
          have f47 := x47.hides b _ _ f52
          have hv47 := hw.ex (x47.hides b)
          clear x47 hT52 f52 hw gwl f52' hwl hD9
          have xh := Ex.hide H47 b
          walk_at "go"
          refine ⟨wv, wt, wd, false, rfl, hv47.ex xh, by omega, show wt.cns.length ≤ 100000 by omega, fun wc H48 x48 hwc => ?_⟩
          have hwc : H48 wc = some (.lst (wt.cns.map V.str)) := hwc
          have hT48 := hT47.ex x48
          have f48 := x48.hides b _ _ f47
          have hv48 := hv47.ex (x48.hides b)
          have ha := x48 _ _ ha
          clear xh x48 hT47 f47 hv47
          walk_at "go"
          refine r_cat ha hwc (by rw [List.length_map, List.length_map]; exact Nat.le_trans (Nat.add_le_add (Nat.le_trans (List.length_filter_le _ _) (show _ ≤ 56 by omega)) (show wt.cns.length ≤ 1732 by omega)) (by decide)) fun lo hlo => ?_
          rw [← List.map_append]
          have x49 := Ex.new (o := .lst (((wt.nms.filter fun z => (valV m2 (.inr z)).isNone) ++ wt.cns).map V.str)) hlo
          have hT49 := hT48.ex x49
          have f49 := x49.hides b _ _ f48
          have hv49 := hv48.ex (x49.hides b)
          have glo : (L2.upd H48 lo (.lst (((wt.nms.filter fun z => (valV m2 (.inr z)).isNone) ++ wt.cns).map V.str))) lo = some (.lst (((wt.nms.filter fun z => (valV m2 (.inr z)).isNone) ++ wt.cns).map V.str)) := upd_same
          have lok : ∀ z ∈ (wt.nms.filter fun z => (valV m2 (.inr z)).isNone) ++ wt.cns, PyData.strOk z = true := nm_ok fun z hz => isNm_iff.mp ((List.mem_append.mp hz).elim (fun q => hw2.1 z (List.mem_filter.mp q).1) (hw2.2 z))
          have llo : ((wt.nms.filter fun z => (valV m2 (.inr z)).isNone) ++ wt.cns).length ≤ 2000 := by
            have := List.length_filter_le (fun z => (valV m2 (.inr z)).isNone) wt.nms
            rw [List.length_append]
            omega
          have hm := merge_one q2.nd (ns := wt.nms) (cs := wt.cns)
          generalize L2.upd H48 lo (.lst (((wt.nms.filter fun z => (valV m2 (.inr z)).isNone) ++ wt.cns).map V.str)) = H49 at hT49 f49 hv49 glo ⊢
          generalize (wt.nms.filter fun z => (valV m2 (.inr z)).isNone) ++ wt.cns = lost at hm lok glo llo ⊢
          clear x49 ha hwc hT48 f48 hv48 hlo hw2
          walk_at "go"
          intro le hle
          have x50 := Ex.new (o := .lst []) hle
          have hT50 := hT49.ex x50
          have f50 := x50.hides b _ _ f49
          have hv50 := hv49.ex (x50.hides b)
          have glo := x50 _ _ glo
          have gle : (L2.upd H49 le (.lst [])) le = some (.lst []) := upd_same
          generalize L2.upd H49 le (.lst []) = H50 at hT50 f50 hv50 glo gle ⊢
          clear x50 hT49 f49 hv49 hle
          walk_at "go"
          refine r_neNs (SqL.of glo) lok (SqL.of gle) ?_
          clear gle lok
          walk_at "go"
          cases lost with
          | nil =>
            walk_at "go"
            intro p1 hp1
            have x51 := Ex.new (o := .tup [V.str "UnknownName", V.non]) hp1
            have hT51 := hT50.ex x51
            have glo := x51 _ _ glo
            have g51 : (L2.upd H50 p1 (.tup [V.str "UnknownName", V.non])) p1 = some (.tup [V.str "UnknownName", V.non]) := upd_same
            generalize L2.upd H50 p1 (.tup [V.str "UnknownName", V.non]) = H51 at hT51 glo g51 ⊢
            clear x51 hT50 f50 hv50 hp1
            walk_at "go"
            intro l5 hl5
            have x52 := Ex.new (o := .lst [V.non]) hl5
            refine r_cat (x52 _ _ glo) upd_same (by simp; decide +kernel) fun l6 hl6 => ?_
            rw [show ([] : List Str).map V.str ++ [V.non] = [V.non] from rfl]
            have x53 := Ex.new (o := .lst [V.non]) hl6
            walk_at "go"
            intro p2 hp2
            walk_at "go"
            have xx := (x52.trans x53).trans (Ex.new (o := .tup [V.str "UnknownName", V.non]) hp2)
            refine ⟨_, _, rfl, Sm.tups (xx _ _ g51) upd_same (by walk_at "len") (.cons (Sm.flat rfl) (.cons (Sm.flat rfl) .nil)), fun H54 x54 => ?_⟩
            walk_at "go"
            exact ⟨⟨_, _, _, _, _, _, _, _, _, _, _, _, _, _, _, _, rfl⟩, (hT51.ex xx).ex x54⟩
          | cons z rest =>
            rw [show (z :: rest).isEmpty = false from rfl]
            walk_at "go"
            refine ⟨hT50.tabs, fun H51 xn hTb => ?_⟩
            have hT51 := hT50.lam xn hTb
            have f51 := xn _ _ (Ex.hide H50 b _ _ f50) (fun _ q => by cases q)
            have hv51 : IsTm K H51 wd wv wt := IsTm.te (fun p ys e => xn _ _ e (fun _ q => by cases q)) (hv50.ex (Ex.hide H50 b))
            have glo := xn _ _ glo (fun _ q => by cases q)
            clear hT50 f50 hv50 xn hTb
            refine r_why ?_
            walk_at "go"
            refine ⟨rfl, starKw_numX (as := [lt]) (ts := [m2]) (z := z) hv51 (by omega) (by omega) (by omega) (.cons f51 .nil) (by simp) (by simpa using q2.len) rfl (by simp) hm fun d H52 x52 hd => ?_⟩
            refine ⟨_, _, _, _, ErrRow.UnknownName (.str z), ⟨d, rfl, rfl, hd⟩, fun p1 H53 x53 hp1 => ?_⟩
            have hT53 := hT51.ex (x52.trans x53)
            have glo := (x52.trans x53) _ _ glo
            clear hT51 f51 hv51 x52 x53 hd hm
            walk_at "go"
            intro l5 hl5
            have x54 := Ex.new (o := .lst [V.non]) hl5
            refine r_cat (x54 _ _ glo) upd_same (by rw [List.length_map]; exact Nat.le_trans (Nat.add_le_add_right llo _) (by decide)) fun l6 hl6 => ?_
            rw [show (z :: rest).map V.str ++ [V.non] = V.str z :: (rest.map V.str ++ [V.non]) from rfl]
            have x55 := Ex.new (o := .lst (V.str z :: (rest.map V.str ++ [V.non]))) hl6
            walk_at "go"
            intro p2 hp2
            walk_at "go"
            have xx := (x54.trans x55).trans (Ex.new (o := .tup [V.str "UnknownName", V.str z]) hp2)
            refine ⟨_, _, rfl, Sm.tups (xx _ _ hp1) upd_same (by walk_at "len") (.cons (Sm.flat rfl) (.cons (Sm.flat rfl) .nil)), fun H54 x56 => ?_⟩
            walk_at "go"
            exact ⟨⟨_, _, _, _, _, _, _, _, _, _, _, _, _, _, _, _, rfl⟩, (hT53.ex xx).ex x56⟩
    · rintro σ H ⟨⟨y2, y3, y4, y5, y6, y7, y8, y9, y10, y11, y12, y13, y14, y15, y16, y17, rfl⟩, hT⟩
      clear hT0 hB H1
      walk_at "go"
      intro p0 hp0
      have c1 : IsTm K (L2.upd H p0 (.tup [V.str "number", V.int 5])) 1 (.ref p0) (.num 5) := IsTm.mk upd_same rfl
      generalize L2.upd H p0 (.tup [V.str "number", V.int 5]) = H2 at c1 ⊢
      clear hT hp0
      walk_at "go"
      refine ⟨rfl, num16 (ns := []) (as := []) (ts := []) (env := fun _ => 0) (t := .num 5) c1 (show (5 : Int).natAbs ≤ 60 by decide) .nil (by decide) (fun _ h => nomatch h) rfl (by decide) (fun _ h => nomatch h) fun r H3 x3 hr => ?_⟩
      have hr : IsT K capT H3 9 (lv5 5) r 5 := hr
      walk_at "go"
      refine meth_num rfl hr ?_
      walk_at "go"
      refine ⟨capT, r, _, _, _, rfl, hr, fun H4 x4 => ?_⟩
      rw [show smallV 5 = .int 5 from by decide +kernel]
      walk_at "go"
      refine ⟨_, _, rfl, Sm.flat rfl, fun H5 x5 => ?_⟩
      exact hQ _
end
end PW
namespace PW
open PySem PySem.Spec PyProof.Rows L2
abbrev sp_law (K : PySem.W.Frag) : Sp := spLawS K (He.cT K ("law", none)).2
theorem law_end {K : PySem.W.Frag} {H : Hp} {a : Addr} {ns : List Int} (hl : ns.length ≤ 63) (hO : ∀ q ∈ ([("law", none)] : List He.Defn), H (He.cT K q).2 = some (.tbl #[])) (hS : SqL K H a (ns.map V.int)) : sp_law K [.ref a] H (fun v _ => v = .bl true) fun _ _ _ => False :=
  ⟨a, ns, rfl, hS, hl, hO _ List.mem_cons_self, fun _ => rfl⟩
theorem kb_numX : KbP "number_of" "number_of" (defArgs s_number_of) (defBody s_number_of) (defScope s_number_of) "term" "tables" "more" ["x"] := fun _ _ _ _ _ _ _ rest zu h => match zu, h, rest with | [_], _, [] => rfl | [_], _, _ :: _ => rfl
theorem kb_numXY : KbP "number_of" "number_of" (defArgs s_number_of) (defBody s_number_of) (defScope s_number_of) "term" "tables" "more" ["x", "y"] := fun _ _ _ _ _ _ _ rest zu h => match zu, h, rest with | [_, _], _, [] => rfl | [_, _], _, _ :: _ => rfl
theorem law_ok {P : Program} {w : World} {K : PySem.W.Frag} {mg : Str → Option Value} {base : Heap} (hP : IsPG P) (T : Txt K mg) (TB : ∀ q ∈ ([("law", none)] : List He.Defn), LamX.TabB base mg (He.cT K q).1 (He.cT K q).2) :
    FnOk P w K mg base CX0 92 (He.ga K "law") (fdOf K (He.ga K "law")) p_law (sp_law K) := by
  have g1 := ok__law_pull (P := P) (w := w) (base := base) T
  have g2 := ok__law_of T g1
  have g3 := ok__law_two (P := P) (w := w) (base := base) T
  have gz := ok__law_size (P := P) (w := w) (base := base) T
  have gl := ok__law_letters (P := P) (w := w) (base := base) T
  have gn := ok__law_names (k := 2) T (g1.mono (by decide)) g2 (gl.mono (by decide)) ((ok__law_is_name T gl).mono (by decide))
  have ge := ok__law_leaf (k := 2) T (g1.mono (by decide)) g2
  have gt := ok__law_term (k := 3) T (g1.mono (by decide)) (g2.mono (by decide)) ge 3
  have gs := ok__law_small_term (k := 2) T (g1.mono (by decide)) g2 4
  have gw := ok__law_words (P := P) (w := w) (base := base) (k := 1) T (ok__law_inner T) 16
  have gv := ok__law_value (k := 1) T g3 gz 16
  have al : FnOk P w K mg base CX0 73 (He.ma K (He.ga K "Tower") "length") (fdOf K (He.fAd K ("Tower", some "length"))) p_Tower_length (spLength K capT 9) := ((a_length T 11).mono (by decide)).imp fun vs H Q E h => ⟨capT, 9, hcT, by decide, h⟩
  have am : FnOk P w K mg base CX0 73 (He.ma K (He.ga K "Tower") "__mod__") (fdOf K (He.fAd K ("Tower", some "__mod__"))) p_Tower___mod__ (spMod K capT 9) := ((a_mod T 11).mono (by decide)).imp fun vs H Q E h => ⟨capT, 9, hcT, by decide, h⟩
  have gi := ok__law_is (P := P) (w := w) (base := base) (k := 73) (d := 9) (cap := capT) T (by decide) (by decide) ⟨by decide, by decide, by decide⟩ ((ok__law_same T 0).mono (by decide)) ((ok__law_sign T).mono (by decide)) (gz.mono (by decide)) ((ok_sign T).mono (by decide)) ((ok_small T).mono (by decide)) al am
  have pp := ok_parts_of (P := P) (w := w) (base := base) T
  have pn := ok_names_within T pp 16
  have pc := ok_calls_within T pp 16
  have pw := ok_worth (P := P) (w := w) (base := base) (k := 72) (D := 11) T ((ok_init T).mono (by decide)) ((ok_tower_of T).mono (by decide)) ((a_mul T 11).mono (by decide)) ((a_power T 11).mono (by decide)) ((a_length T 11).mono (by decide)) ((a_floordiv T 11).mono (by decide)) ((a_add T 11).mono (by decide)) ((a_sub T 11).mono (by decide)) 16
  have gm := ok_merged (P := P) (w := w) (base := base) T
  have gk := ok_need_known (P := P) (w := w) (base := base) T
  have gkx := okX_need_known (P := P) (w := w) (base := base) hP T
  refine ok_law16 (k := 91) (k0 := 90) (kx := 61) (by decide) T (TB _ List.mem_cons_self) ((ok__law_bag T).mono (by decide)) (g1.mono (by decide)) (g2.mono (by decide)) (gn.mono (by decide)) (gs.mono (by decide)) (gt.mono (by decide)) (gw.mono (by decide)) (gv.mono (by decide)) (gi.mono (by decide)) ((ok__law_same T 61).mono (by decide)) ((ok_small T).mono (by decide)) (fun ks h => ?_) (fun ks h => ?_) ((ok_init T).mono (by decide)) rfl
  · rcases List.mem_cons.mp h with rfl | h
    · exact ok_number_of (k := 90) T (by decide +kernel) (by decide) kb_num0 (gm.mono (by decide)) (gk.mono (by decide)) (pn.mono (by decide)) (pc.mono (by decide)) (pw.mono (by decide))
    · rcases List.mem_cons.mp h with h | h
      · subst h
        exact ok_number_of (k := 90) T (by decide +kernel) (by decide) kb_numX (gm.mono (by decide)) (gk.mono (by decide)) (pn.mono (by decide)) (pc.mono (by decide)) (pw.mono (by decide))
      · have h : ks = (["x", "y"] : List Str) := List.mem_singleton.mp h
        subst h
        exact ok_number_of (k := 90) T (by decide +kernel) (by decide) kb_numXY (gm.mono (by decide)) (gk.mono (by decide)) (pn.mono (by decide)) (pc.mono (by decide)) (pw.mono (by decide))
  · obtain rfl : ks = [] := List.mem_singleton.mp h
    exact okX_number_of (k := 60) T (by decide +kernel) (by decide) kb_num0 (gm.mono (by decide)) (gkx.mono (by decide)) (pn.mono (by decide)) (pc.mono (by decide)) fnOk_no
end PW
open PySem PySem.W PySem.Calls PyProof.Rows
theorem PySem.Challenge.cw_powerwish_k16_values_of_terms_holds : PySem.Challenge.rw_powerwish_k16_values_of_terms.Holds := by
  w_on; o_law
  refine HandSHeadRun.head_any (r := OpenLaw.row PySem.Challenge.rw_powerwish_k16_values_of_terms) (q := view (OpenLaw.row PySem.Challenge.rw_powerwish_k16_values_of_terms).prog [52]) (H := PW.hk) (ob := PW.ob) (M := 6000) (loose := PW.loose) (d := HandSHeadRun.topDef (OpenLaw.row PySem.Challenge.rw_powerwish_k16_values_of_terms).prog 52) (kwd := []) PW.ob_eq
    (by kernel_rfl) (fun s => by kernel_rfl) PW.run (by kernel_rfl) (by kernel_rfl) (by kernel_rfl) (by rfl) (by first | assumption | decide +kernel) (by decide +kernel) ⟨rfl, rfl, rfl, rfl, rfl, by decide +kernel⟩ ?hw ?hc
  case hw => w_witness2
  case hc =>
    refine LamX.walk_ofTsE (l := PySem.Challenge.rw_powerwish_k16_values_of_terms) (n := 63) (k := 92) (x := "_law_script") (CX := fun _ => L2.CX0) rfl (by decide) (by kernel_rfl) ⟨rfl, by decide, by decide⟩ ?F (fun _ _ _ _ _ z => z)
    intro w mg fa h Y G hmg0
    obtain ⟨K, KX, c⟩ := Y
    have hmg : mg ("law" : PySem.Str) = some (.ref fa) := by
      have e : (HandSHeadRun.topDef (OpenLaw.row PySem.Challenge.rw_powerwish_k16_values_of_terms).prog 52).name = ("law" : PySem.Str) := by kernel_rfl
      rw [← e]
      exact hmg0
    have T := PW.txt_of KX G c c.m
    have ef := hmg.symm.trans T.g_law
    cases ef
    have hP : PW.IsPG (PySem.Challenge.rw_powerwish_k16_values_of_terms).prog := ⟨by kernel_rfl, by kernel_rfl⟩
    exact ⟨K, KX, _, PW.tf.map (He.cT K), PW.sp_law K, fun p hp => (List.mem_map.mp hp).elim fun q hq => by rw [← hq.2]; exact c.empty q hq.1, fun p hp => (List.mem_map.mp hp).elim fun q hq => by rw [← hq.2]; exact c.out q hq.1, fun p hp => (List.mem_map.mp hp).elim fun q hq => by rw [← hq.2]; exact PySem.W.codeHd_of_K KX (c.hd q hq.1),
      fun s v => L2.FunD.bindsA (ps := PW.p_law) T.d_law (fun _ _ _ _ _ _ us hl => match us, hl with | [_], _ => rfl) s [v] rfl, fun H a ns hl _ hO hS => PW.law_end hl (fun q hq => hO _ (List.mem_map.mpr ⟨q, hq, rfl⟩)) hS,
      fun base _ _ tb => PW.law_ok (P := (PySem.Challenge.rw_powerwish_k16_values_of_terms).prog) (w := w) (base := base) hP T fun q hq => tb _ (List.mem_map.mpr ⟨q, hq, rfl⟩)⟩
#print axioms PySem.Challenge.cw_powerwish_k16_values_of_terms_holds
