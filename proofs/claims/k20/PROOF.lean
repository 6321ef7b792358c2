import PyProof.Rows.All
import Wide.All
import OpenK.AllK
import Wide.FinOn
import KE.KStateDown
import Lean
import HandS.Base
import HandS.Call
import HandS.Ends
import HandS.List
import HandS.Comp
import HandS.Iter
import HandS.Dict
import HandS.Text
import HandS.Exc
import HandS.More
import HandS.Words
import HandS.WordsExc
import HandS.WordsList
import HandS.WordsDict
import HandS.Defaults
import HandS.IsInst
import HandS.Wide
import HandS.WideBits
import HandS.Walk
import HandS.Zip
import HandS.FStr
import HandS.Codes
import HandS.TryOnly
import HandS.ExcOwn
import HandS.Steps
import HandS.Slots
import HandS.SlotsOwn
import HandS.MakeKwOnly
import HandS.Style
import HandS.Star
import HandS.ClsMeth
import HandS.ListEq
import HandS.ExcInit
import HandS.ExcField
import HandS.ExcSuper
import HandS.Lambda
import HandS.EndTab
import HandS.HeadWalk
import HandS.HeadHook4
import HandS.HotCalls
import HandS.TryMany
import KE.KExcSuper
import KE.KSuper
import KE.KNestM
import HandS.Head0
import HandS.Head1
import HandS.Head2
import HandS.HeadEnd
import HandS.HeadHook1
import HandS.HeadHook2
import PySem.Challenge.RW_powerwish_k20_texts_that_are_no_conditio
set_option Elab.async false
set_option linter.all false
set_option maxRecDepth 100000
set_option maxHeartbeats 4000000
/-! ### the hook: facts, and Bools of one's own -/
namespace PW
open PySem PySem.Spec PyProof.Rows L2
def fdOf (K : PySem.W.Frag) (a : Addr) : FuncData := match K.lookup a with
  | some ⟨_, _, .func fd, _⟩ => fd
  | _ => default
theorem funD_of {K : PySem.W.Frag} {x qual : Str} {params : Arguments} {body : List Stmt} {scope : Scope} {dvs : List V} {kws : List (Str × V)} {f : Addr} (h : ∃ fd, FunD K x qual params body scope dvs kws f fd) :
    FunD K x qual params body scope dvs kws f (fdOf K f) := by
  obtain ⟨fd, F⟩ := h
  obtain ⟨oc, od, dV, kV, doc, pm, an, cdv, ct, osl, e, lk, _⟩ := F.ex
  have e2 : fdOf K f = fd := by
    unfold fdOf
    rw [lk]
  rw [e2]
  exact F
/-- a def reached by a path of one's own (a staticmethod's), without defaults -/
structure DefA where
  at_ : PySem.W.Frag → Addr
  name : Str
  qual : Str
  params : Arguments
  body : List Stmt
  scope : Scope
def fnWA (K : PySem.W.Frag) (d : DefA) : He.FnW := match K.lookup (d.at_ K) with
  | some ⟨_, _, .func fd, _⟩ => some (fd.name, fd.qualname, fd.params, fd.body, fd.scope, fd.globals, fd.closure, fd.builtins)
  | _ => none
def DefA.val (d : DefA) : He.FnW := some (d.name, d.qual, d.params, .stmts d.body, d.scope, mainGlobals, [], builtinsNs)
def DefA.ok (K : PySem.W.Frag) (d : DefA) : Bool := PySem.W.keepIn K (.ref (d.at_ K)) && (match K.lookup (d.at_ K) with
  | some ⟨_, _, .func fd, _⟩ => PySem.W.codeIn K fd.code d.qual && (He.dflB K fd.defaults [] && He.kwdB K fd.kwdefaults [])
  | _ => false)
theorem DefA.funD {K : PySem.W.Frag} {d : DefA} (e : fnWA K d = d.val) (c : d.ok K = true) : ∃ fd, FunD K d.name d.qual d.params d.body d.scope [] [] (d.at_ K) fd := by
  obtain ⟨kp, c2⟩ := He.ba c
  unfold fnWA at e
  cases q : K.lookup (d.at_ K) with
  | none =>
    rw [q] at c2
    cases c2
  | some o =>
    obtain ⟨oc, od, dt, osl⟩ := o
    rw [q] at c2 e
    cases dt with
    | func fd =>
      obtain ⟨n1, n2, n3, n4, n5, n6, n7, n8, n9, n10, n11, n12, n13, n14, n15⟩ := fd
      have e2 : (some (n1, n2, n3, n4, n5, n6, n7, n15) : He.FnW) = some (d.name, d.qual, d.params, .stmts d.body, d.scope, mainGlobals, [], builtinsNs) := e
      simp only [Option.some.injEq, Prod.mk.injEq] at e2
      obtain ⟨h1, h2, h3, h4, h5, h6, h7, h8⟩ := e2
      subst h1 h2 h3 h4 h5 h6 h7 h8
      have c3 : (PySem.W.codeIn K n13 d.qual && (He.dflB K n8 [] && He.kwdB K n9 [])) = true := c2
      obtain ⟨k1, k2⟩ := He.ba c3
      obtain ⟨k3, k4⟩ := He.ba k2
      exact ⟨_, ⟨oc, od, n8, n9, n10, n11, n12, n13, n14, osl, rfl, q, k1, He.dflB_ok k3, He.kwdB_ok k4⟩, kp⟩
    | _ => cases c2
/-- a staticmethod's function -/
def sgA (C m : Str) (K : PySem.W.Frag) : Addr := match PySem.W.recIn K (He.ma K (He.ga K C) m) "staticmethod" with
  | some (.ref g :: _) => g
  | _ => 0
/-- a keyword-only default that is an object -/
def kwA (p : Str × Option Str) (x : Str) (K : PySem.W.Frag) : Addr := match K.lookup (He.fAd K p) with
  | some ⟨_, _, .func fd, _⟩ => (match fd.kwdefaults with
    | .ref D => (match PySem.W.nsIn K D x with
      | some (some (.ref a)) => a
      | _ => 0)
    | _ => 0)
  | _ => 0
/-- an empty tuple at a -/
def emptyT (K : PySem.W.Frag) (a : Addr) : Bool := match K.lookup a with
  | some ⟨.type c, _, .seq its _, _⟩ => decide (c = "tuple") && decide (its.size = 0)
  | _ => false
theorem emptyT_ok {K : PySem.W.Frag} {a : Addr} (h : emptyT K a = true) (H : Hp) : SqT K H a [] := by
  unfold emptyT at h
  cases q : K.lookup a with
  | none =>
    rw [q] at h
    cases h
  | some o =>
    obtain ⟨oc, od, dt, osl⟩ := o
    rw [q] at h
    cases oc with
    | type c =>
      cases dt with
      | seq its n =>
        obtain ⟨h1, h2⟩ := He.ba (show (decide (c = "tuple") && decide (its.size = 0)) = true from h)
        have h3 : its.size = 0 := of_decide_eq_true h2
        have h4 : its = #[] := Array.eq_empty_of_size_eq_zero h3
        subst h4
        exact .inr ⟨_, #[], n, q, congrArg Value.type (of_decide_eq_true h1), rfl, Nat.zero_le _, .nil⟩
      | _ => cases h
    | _ => cases dt <;> cases h
abbrev AlM : Type := He.AlD × (List He.FnW × Bool)
def obsM (fa : List He.Fa) (fn : List He.DefD) (fs : List DefA) (ex : PySem.W.Frag → List Bool) (K : PySem.W.Frag) : AlM := (He.obsD fa fn K, (fs.map (fnWA K), (fs.all fun d => d.ok K) && (ex K).all id))
def valM (fn : List He.DefD) (fs : List DefA) : AlM := (He.valD fn, (fs.map DefA.val, true))
structure SaysM (fa : List He.Fa) (fn : List He.DefD) (fs : List DefA) (ex : PySem.W.Frag → List Bool) (K : PySem.W.Frag) : Prop where
  d : He.SaysD fa fn K
  s : ∀ d ∈ fs, ∃ fd, FunD K d.name d.qual d.params d.body d.scope [] [] (d.at_ K) fd
  b : ∀ b ∈ ex K, b = true
theorem map_mem {α β : Type} {f g : α → β} : ∀ {l : List α}, l.map f = l.map g → ∀ a ∈ l, f a = g a
  | [], _, _, h => by cases h
  | x :: r, e, a, h => by
    rw [List.map_cons, List.map_cons] at e
    injection e with e1 e2
    rcases List.mem_cons.mp h with rfl | h
    · exact e1
    · exact map_mem e2 a h
theorem exN {l : List Bool} (h : ∀ b ∈ l, b = true) (i : Nat) {b : Bool} (e : l[i]? = some b) : b = true := h b (List.mem_of_getElem? e)
def obsMG (n : Nat) (fa : List He.Fa) (fn : List He.DefD) (fs : List DefA) (ex : PySem.W.Frag → List Bool) (g : Addr → Option Obj) : AlM := obsM fa fn fs ex (He.frG g (He.asD g n ++ [cStatics]))
theorem saysM_of {fa : List He.Fa} {fn : List He.DefD} {fs : List DefA} {ex : PySem.W.Frag → List Bool} {K : PySem.W.Frag} (e : obsM fa fn fs ex K = valM fn fs) : SaysM fa fn fs ex K := by
  have e1 : He.obsD fa fn K = He.valD fn := congrArg (fun z : AlM => z.1) e
  have e2 : fs.map (fnWA K) = fs.map DefA.val := congrArg (fun z : AlM => z.2.1) e
  have e3 : ((fs.all fun d => d.ok K) && (ex K).all id) = true := congrArg (fun z : AlM => z.2.2) e
  obtain ⟨e4, e5⟩ := He.ba e3
  exact ⟨e1, fun d hd => DefA.funD (map_mem e2 d hd) (List.all_eq_true.mp e4 d hd), fun b hb => List.all_eq_true.mp e5 b hb⟩
def hookM (n : Nat) (fa : List He.Fa) (fn : List He.DefD) (fs : List DefA) (ex : PySem.W.Frag → List Bool) : PySem.W.Hook where
  α := AlM
  obs := fun s => obsMG n fa fn fs ex s.heap.get?
  val := fun _ => valM fn fs
  says := fun _ h => ∃ K : PySem.W.Frag, K.In h ∧ SaysM fa fn fs ex K
  of := fun _ _ e => ⟨_, He.frG_in, saysM_of e⟩
  keeps := fun _ _ _ ⟨K, hK, c⟩ k => ⟨K, PySem.W.Frag.In.keeps hK k, c⟩
theorem obsMG_eq {n : Nat} {fa : List He.Fa} {fn : List He.DefD} {fs : List DefA} {ex : PySem.W.Frag → List Bool} {g : Addr → Option Obj} {s : Shared} (h : ∀ a, g a = s.heap.get? a) : obsMG n fa fn fs ex g = (hookM n fa fn fs ex).obs s := by
  have e : g = s.heap.get? := funext h
  rw [e] <;> rfl
/-! ### a module's constants -/
section
variable {X : Cx} {x : Str} {pos : Pos}
theorem pe_gint {i : Int} (hg : Gl X x) (h : ∃ t, X.mg x = some (.int i t)) (hd : (x == ("__debug__" : Str)) = false := by decide) : PE X (.Name x pos) (tC (.int i)) := by
  obtain ⟨t, h⟩ := h
  exact pe_glob hg h ⟨t, rfl⟩ hd
theorem pe_gstr {z : Str} (hg : Gl X x) (h : ∃ t, X.mg x = some (.str z t)) (hd : (x == ("__debug__" : Str)) = false := by decide) : PE X (.Name x pos) (tC (.str z)) := by
  obtain ⟨t, h⟩ := h
  exact pe_glob hg h ⟨t, rfl⟩ hd
end
end PW
/-! ### readings, one step at a time -/
namespace PW
open PySem PySem.Spec PyProof.Rows L2
section
variable {σ : L2.St} {H : Hp} {Q : VK} {D : Ends} {v x y : V} {i j : Int} {n m : Nat} {ta tb tc te : TE} {t u : TT} {s1 s2 : TS} {r r' : R2} {K : PySem.W.Frag} {tA tR : TA}
theorem r_var (h : σ[n]? = some (some v)) (q : Q v H) : tVar n σ H Q := ⟨v, h, q⟩
theorem r_c (q : Q v H) : tC v σ H Q := q
theorem r_op (h : ta σ H fun x H1 => tb σ H1 fun y H2 => r x y H2 Q) : tOp r ta tb σ H Q := h
theorem r_un {r : V → Hp → VK → Prop} (h : ta σ H fun x H1 => r x H1 Q) : tUn r ta σ H Q := h
theorem r_chain (h : ta σ H fun x H1 => tb σ H1 fun y H2 => r x y H2 fun z H3 => ∃ k, z = .bl k ∧ (if k = true then tc σ H3 fun w' H4 => r' y w' H4 Q else Q (.bl false) H3)) : tChain r r' ta tb tc σ H Q := h
theorem r_test {Q : Bool → Hp → Prop} (h : te σ H fun x H' => ∃ k, x = .bl k ∧ Q k H') : tTest te σ H Q := h
theorem r_b {Q : Bool → Hp → Prop} (h : te σ H fun x H' => ∃ k, x = .bl k ∧ Q k H') : tB te σ H Q := h
theorem r_bl {b : Bool} {Q : Bool → Prop} (q : Q b) : ∃ k, V.bl b = .bl k ∧ Q k := ⟨b, rfl, q⟩
theorem r_bl' {b : Bool} {Q : Bool → Hp → Prop} (q : Q b H) : ∃ k, V.bl b = .bl k ∧ Q k H := ⟨b, rfl, q⟩
theorem r_not {Q : Bool → Hp → Prop} (h : t σ H fun c H1 => Q (!c) H1) : tNot t σ H Q := h
theorem r_and {Q : Bool → Hp → Prop} (h : t σ H fun c H1 => if c = true then u σ H1 Q else Q false H1) : tAnd t u σ H Q := h
theorem r_or {Q : Bool → Hp → Prop} (h : t σ H fun c H1 => if c = true then Q true H1 else u σ H1 Q) : tOr t u σ H Q := h
theorem r_andV (h : ta σ H fun x H1 => ∃ c, x = .bl c ∧ if c = true then tb σ H1 Q else Q (.bl false) H1) : tAndV ta tb σ H Q := h
theorem r_orV (h : ta σ H fun x H1 => ∃ c, x = .bl c ∧ if c = true then Q (.bl true) H1 else tb σ H1 Q) : tOrV ta tb σ H Q := h
theorem r_notV (h : ta σ H fun x H1 => ∃ c, x = .bl c ∧ Q (.bl (!c)) H1) : tNotV ta σ H Q := h
theorem r_isN (h : ta σ H fun x H1 => Q (.bl (decide (x = .non))) H1) : tIsN ta σ H Q := h
theorem r_notN (h : ta σ H fun x H1 => Q (.bl (!decide (x = .non))) H1) : tNotN ta σ H Q := h
theorem r_ifE (h : t σ H fun c H1 => if c = true then ta σ H1 Q else tb σ H1 Q) : tIf t ta tb σ H Q := h
theorem r_ifS (h : t σ H fun b H1 => if b = true then s1 D σ H1 else s2 D σ H1) : tIfS t s1 s2 D σ H := h
theorem r_seq (h : s1 { D with nx := s2 D } σ H) : tSeq s1 s2 D σ H := h
theorem r_next (h : D.nx σ H) : tNext D σ H := h
theorem r_brk (h : D.bk σ H) : tBreak D σ H := h
theorem r_cnt (h : D.ct σ H) : tCont D σ H := h
theorem r_ret (h : te σ H D.rt) : tRet te D σ H := h
theorem r_retN (h : D.rt .non H) : tRetN D σ H := h
theorem r_drop (h : te σ H fun _ H1 => D.nx σ H1) : tDrop te D σ H := h
theorem r_asg {g : TG} (h : te σ H fun x H1 => g x σ H1 D.nx) : tAsg te g D σ H := h
theorem r_gname {Q : L2.St → Hp → Prop} (h : Q (σ.set n (some v)) H) : gName n v σ H Q := h
theorem r_gsub {to ti : TE} {ts : TSet} {Q : L2.St → Hp → Prop} (h : to σ H fun o H1 => ti σ H1 fun i H2 => ts o i v H2 fun H3 => Q σ H3) : gSub to ti ts v σ H Q := h
theorem r_aug {ti : TIp} (hx : σ[n]? = some (some x)) (h : te σ H fun y H1 => ti x y H1 fun z H2 => D.nx (σ.set n (some z)) H2) : tAug n te ti D σ H := ⟨x, hx, h⟩
theorem r_ipI {g : Int → Int → Int} {Q : VK} (q : Q (.int (g i j)) H) : ipI g (.int i) (.int j) H Q := ⟨i, j, rfl, rfl, q⟩
theorem r_nil {Q : List V → Hp → Prop} (h : Q [] H) : tNil σ H Q := h
theorem r_cons {Q : List V → Hp → Prop} (h : ta σ H fun x H1 => tR σ H1 fun xs H2 => Q (x :: xs) H2) : tCons ta tR σ H Q := h
theorem r_cb {r : List V → Hp → VK → Prop} (h : tA σ H fun vs H1 => r vs H1 Q) : tCB r tA σ H Q := h
theorem r_call {sp : Sp} {dvs : List V} {E : XK} (h : tA σ H fun vs H1 => sp (vs ++ dvs) H1 Q E) : tCall sp dvs E tA σ H Q := h
theorem r_I0 {g : Int → Int → V} (q : Q (g i j) H) : rI0 g (.int i) (.int j) H Q := ⟨i, j, rfl, rfl, q⟩
theorem r_I {C : Int → Int → Prop} {g : Int → Int → V} (c : C i j) (q : Q (g i j) H) : rI C g (.int i) (.int j) H Q := ⟨i, j, rfl, rfl, c, q⟩
theorem r_U {g : Int → V} (q : Q (g i) H) : rU g (.int i) H Q := ⟨i, rfl, q⟩
theorem r_eq (h : scal x y = true) (q : Q (.bl (decide (x = y))) H) : rEq x y H Q := ⟨h, q⟩
theorem r_ne (h : scal x y = true) (q : Q (.bl (!decide (x = y))) H) : rNe x y H Q := ⟨h, q⟩
theorem r_ixL {p : Addr} {xs : List V} (h : SqL K H p xs) (a : atI xs i = some v) (q : Q v H) : rIxL K (.ref p) (.int i) H Q := ⟨p, xs, i, v, rfl, rfl, h, a, q⟩
theorem r_ixT {p : Addr} {xs : List V} (h : SqT K H p xs) (a : atI xs i = some v) (q : Q v H) : rIxT K (.ref p) (.int i) H Q := ⟨p, xs, i, v, rfl, rfl, h, a, q⟩
theorem r_setL {p : Addr} {xs : List V} {k : Nat} {Q : Hp → Prop} (h : H p = some (.lst xs)) (e : ixN xs.length i = some k) (q : Q (upd H p (.lst (xs.set k v)))) : rSetL (.ref p) (.int i) v H Q := ⟨p, xs, i, k, rfl, rfl, h, e, q⟩
theorem r_lst {l : Nat} (hl : l = l) (h : tA σ H fun xs H1 => xs.length ≤ sizeLine ∧ ∀ p, H1 p = none → Q (.ref p) (upd H1 p (.lst xs))) : tLst tA σ H Q := h
theorem r_lst1 {xs : List V} {R : Prop} (hl : xs.length ≤ 100000) (h : R) : xs.length ≤ sizeLine ∧ R := ⟨Nat.le_trans hl (by decide), h⟩
theorem r_tup (h : tA σ H fun xs H1 => xs.length ≤ sizeLine ∧ ∀ p, H1 p = none → Q (.ref p) (upd H1 p (.tup xs))) : tTup tA σ H Q := h
theorem r_ifT {A B : Prop} (h : A) : if true = true then A else B := by rw [if_pos rfl]; exact h
theorem r_ifF {A B : Prop} (h : B) : if false = true then A else B := by rw [if_neg Bool.false_ne_true]; exact h
theorem r_ifT' {c : Bool} {A B : Prop} (e : c = true) (h : A) : if c = true then A else B := by rw [if_pos e]; exact h
theorem r_ifF' {c : Bool} {A B : Prop} (e : c = false) (h : B) : if c = true then A else B := by rw [if_neg (by rw [e]; exact Bool.false_ne_true)]; exact h
theorem r_if2 {c : Bool} {A B : Prop} (h1 : c = true → A) (h2 : c = false → B) : if c = true then A else B := by
  cases c with
  | true => exact r_ifT (h1 rfl)
  | false => exact r_ifF (h2 rfl)
theorem r_int1 {Q : VK} (q : Q (.int i) H) : (∃ k, [V.int i] = [.int k] ∧ Q (.int k) H) ∨ ∃ k, [V.int i] = [.bl k] ∧ Q (.int (if k then 1 else 0)) H := .inl ⟨i, rfl, q⟩
theorem r_part {Q : Option Int → Hp → Prop} (h : te σ H fun x H1 => ∃ i, x = .int i ∧ Q (some i) H1) : tPart te σ H Q := h
theorem r_exI {R : Int → Prop} (h : R i) : ∃ k, V.int i = .int k ∧ R k := ⟨i, rfl, h⟩
theorem r_noPart {Q : Option Int → Hp → Prop} (h : Q none H) : tNoPart σ H Q := h
theorem r_sl {rs : V → Option Int → Option Int → Hp → VK → Prop} {tl th : TO} (h : te σ H fun x H1 => tl σ H1 fun l H2 => th σ H2 fun u H3 => rs x l u H3 Q) : tSl rs te tl th σ H Q := h
theorem r_slL {p : Addr} {xs : List V} {lo hi : Option Int} (h : SqL K H p xs) (q : ∀ l, H l = none → Q (.ref l) (upd H l (.lst (cutV xs lo hi)))) : rSlL K (.ref p) lo hi H Q := ⟨p, xs, rfl, h, q⟩
theorem r_slS {z : Str} {lo hi : Option Int} (h : z.length ≤ sizeLine) (q : Q (.str (cutS z lo hi)) H) : rSlS (.str z) lo hi H Q := ⟨z, rfl, h, q⟩
end
end PW
namespace PW
open PySem PySem.Spec PyProof.Rows L2
theorem cmx {i j : Int} (h1 : -(2 ^ 64) < i) (h2 : i < 2 ^ 64) (h3 : -(2 ^ 64) < j) (h4 : j < 2 ^ 64) : CMulX i j := mulx_ok (a := 64) (b := 64) (by omega) (by omega) (by decide)
theorem cdw {i j : Int} (h : 0 < j) (h2 : j < 2 ^ 64) : CDivW i j := wide_div (b := 64) h (by omega) (by decide) (by decide)
end PW
namespace PW
open PySem PySem.Spec PyProof.Rows L2
theorem cpow {i j : Int} (h : 0 ≤ j) (h2 : j ≤ 1000) (h3 : -(2 ^ 64) < i) (h4 : i < 2 ^ 64) : CPow i j := ⟨h, by omega, by omega⟩
theorem cdw2 {i j : Int} (h : 0 < j) (h2 : j.natAbs.log2 < 9000) : CDivW i j := ⟨h, h2⟩
/-! ### built-ins by named readings -/
def cInt : List V → Hp → VK → Prop := fun xs H Q => (∃ i, xs = [.int i] ∧ Q (.int i) H) ∨ ∃ k, xs = [.bl k] ∧ Q (.int (if k then 1 else 0)) H
def cLen (K : PySem.W.Frag) : List V → Hp → VK → Prop := fun xs H Q => ∃ x n, xs = [x] ∧ LenV K x H n ∧ Q (.int n) H
def cAbs : List V → Hp → VK → Prop := fun xs H Q => ∃ i, xs = [.int i] ∧ Q (.int (if i < 0 then -i else i)) H
def cMax : List V → Hp → VK → Prop := fun xs H Q => ∃ i j, xs = [.int i, .int j] ∧ Q (.int (if j > i then j else i)) H
def cMin : List V → Hp → VK → Prop := fun xs H Q => ∃ i j, xs = [.int i, .int j] ∧ Q (.int (if j < i then j else i)) H
def cList (K : PySem.W.Frag) : List V → Hp → VK → Prop := fun xs H Q => ∃ p ys, xs = [.ref p] ∧ (SqL K H p ys ∨ SqT K H p ys) ∧ ∀ l, H l = none → Q (.ref l) (upd H l (.lst ys))
def cTuple (K : PySem.W.Frag) : List V → Hp → VK → Prop := fun xs H Q => ∃ p ys, xs = [.ref p] ∧ ((SqL K H p ys ∧ ∀ l, H l = none → Q (.ref l) (upd H l (.tup ys))) ∨ (SqT K H p ys ∧ Q (.ref p) H))
def oAddS : R2 := fun x y H Q => ∃ i j, x = .str i ∧ y = .str j ∧ i.length + j.length ≤ sizeLine ∧ Q (.str (i ++ j)) H
section
variable {X : Cx}
theorem call_intN : CallR X (.type "int") cInt := call_int1
theorem call_lenN : CallR X (.builtin "len") (cLen X.K) := call_len
theorem call_absN : CallR X (.builtin "abs") cAbs := call_abs
theorem call_maxN (hc : X.calm = true) : CallR X (.builtin "max") cMax := call_max2 hc
theorem call_minN (hc : X.calm = true) : CallR X (.builtin "min") cMin := call_min2 hc
theorem call_listN : CallR X (.type "list") (cList X.K) := call_list_of
theorem call_tupleN : CallR X (.type "tuple") (cTuple X.K) := call_tuple_of
theorem op_addSN : OpR X (binaryOp .Add) oAddS := op_add_str
end
section
variable {H : Hp} {Q : VK} {i j : Int} {k : Bool} {K : PySem.W.Frag} {p : Addr} {ys : List V} {z z' : Str}
theorem r_cInt (q : Q (.int i) H) : cInt [.int i] H Q := .inl ⟨i, rfl, q⟩
theorem r_cLenS (h : z.length ≤ sizeLine) (q : Q (.int (z.length : Nat)) H) : cLen K [.str z] H Q := ⟨.str z, z.length, rfl, ⟨h, rfl⟩, q⟩
theorem r_cLenL (h : SqL K H p ys) (q : Q (.int (ys.length : Nat)) H) : cLen K [.ref p] H Q := ⟨.ref p, ys.length, rfl, .inl ⟨ys, h, rfl⟩, q⟩
theorem r_cLenT (h : SqT K H p ys) (q : Q (.int (ys.length : Nat)) H) : cLen K [.ref p] H Q := ⟨.ref p, ys.length, rfl, .inr ⟨ys, h, rfl⟩, q⟩
theorem r_cAbs (q : Q (.int (if i < 0 then -i else i)) H) : cAbs [.int i] H Q := ⟨i, rfl, q⟩
theorem r_cMax (q : Q (.int (if j > i then j else i)) H) : cMax [.int i, .int j] H Q := ⟨i, j, rfl, q⟩
theorem r_cMin (q : Q (.int (if j < i then j else i)) H) : cMin [.int i, .int j] H Q := ⟨i, j, rfl, q⟩
theorem r_cListL (h : SqL K H p ys) (q : ∀ l, H l = none → Q (.ref l) (upd H l (.lst ys))) : cList K [.ref p] H Q := ⟨p, ys, rfl, .inl h, q⟩
theorem r_cListT (h : SqT K H p ys) (q : ∀ l, H l = none → Q (.ref l) (upd H l (.lst ys))) : cList K [.ref p] H Q := ⟨p, ys, rfl, .inr h, q⟩
theorem r_cTupleL (h : SqL K H p ys) (q : ∀ l, H l = none → Q (.ref l) (upd H l (.tup ys))) : cTuple K [.ref p] H Q := ⟨p, ys, rfl, .inl ⟨h, q⟩⟩
theorem r_addS (h : z.length + z'.length ≤ sizeLine) (q : Q (.str (z ++ z')) H) : oAddS (.str z) (.str z') H Q := ⟨z, z', rfl, rfl, h, q⟩
end
end PW
namespace PW
open PySem PySem.Spec PyProof.Rows L2
section
variable {H : Hp} {Q : VK} {i : Int} {K : PySem.W.Frag} {p : Addr} {xs : List V} {v : V} {z : Str} {c : Nat}
theorem r_ixqL (h : SqL K H p xs) (a : atI xs i = some v) (q : Q v H) : rIx K (.ref p) (.int i) H Q := .inl (r_ixL h a q)
theorem r_ixqT (h : SqT K H p xs) (a : atI xs i = some v) (q : Q v H) : rIx K (.ref p) (.int i) H Q := .inr (.inl (r_ixT h a q))
theorem r_ixqS (h : z.length ≤ sizeLine) (a : atI z.cps.toList i = some c) (q : Q (.str ⟨#[c]⟩) H) : rIx K (.str z) (.int i) H Q := .inr (.inr ⟨z, i, c, rfl, rfl, h, a, q⟩)
theorem atI_mem {α : Type} {xs : List α} {i : Int} (h0 : 0 ≤ i) (h : i < (xs.length : Int)) : ∃ v, v ∈ xs ∧ atI xs i = some v := by
  have hl : i.toNat < xs.length := by omega
  have e : i = (i.toNat : Int) := by omega
  have h2 : atI xs (i.toNat : Int) = some xs[i.toNat] := atI_nat (List.getElem?_eq_getElem hl)
  exact ⟨_, List.getElem_mem hl, by rw [← e] at h2; exact h2⟩
end
end PW
namespace PW
open PySem PySem.Spec PyProof.Rows L2
/-! ### heaps that grow -/
def Ex (H H' : Hp) : Prop := ∀ a o, H a = some o → H' a = some o
theorem Ex.refl (H : Hp) : Ex H H := fun _ _ h => h
theorem Ex.trans {H H1 H2 : Hp} (a : Ex H H1) (b : Ex H1 H2) : Ex H H2 := fun c o h => b c o (a c o h)
theorem Ex.new {H : Hp} {p : Addr} {o : HO} (h : H p = none) : Ex H (L2.upd H p o) := fun a u e => by
  rw [upd_ne (ne_of_none e h)]
  exact e
theorem Ex.newT {H H1 : Hp} {p : Addr} {o : HO} (x : Ex H H1) (h : H1 p = none) : Ex H (L2.upd H1 p o) := x.trans (Ex.new h)
theorem Ex.free {H H' : Hp} {p : Addr} (e : Ex H H') (h : H' p = none) : H p = none := Same.free e h
/-- an object that H does not know may change -/
theorem Ex.mut {H H' : Hp} {p : Addr} {o : HO} (e : Ex H H') (h : H p = none) : Ex H (L2.upd H' p o) := fun a u ha => by
  rw [upd_ne (ne_of_none ha h)]
  exact e a u ha
theorem Ex.tup {K : PySem.W.Frag} {p : Addr} {H H' : Hp} {xs : List V} (e : Ex H H') (h : SqT K H p xs) : SqT K H' p xs := by
  rcases h with (h | ⟨o, h⟩) | h
  · exact .inl (.inl (e _ _ h))
  · exact .inl (.inr ⟨o, e _ _ h⟩)
  · exact .inr h
theorem Ex.lst {K : PySem.W.Frag} {p : Addr} {H H' : Hp} {xs : List V} (e : Ex H H') (h : SqL K H p xs) : SqL K H' p xs := by
  rcases h with (h | ⟨o, h⟩) | h
  · exact .inl (.inl (e _ _ h))
  · exact .inl (.inr ⟨o, e _ _ h⟩)
  · exact .inr h
/-! ### isinstance, targets, comprehensions -/
section
variable {K : PySem.W.Frag} {H : Hp} {Q : VK} {x v : V} {n m m1 m2 : String} {b b1 b2 : Bool} {tp a : Addr} {σ : L2.St} {xs r : List V} {k : Nat}
theorem r_isi (h : TyX K H x (.type n)) (e : kitB n m = some b) (q : Q (.bl b) H) : rIsi K [x, .ty m] H Q := ⟨x, .ty m, .type n, .type m, b, rfl, .ty m, h, kit_ty e, q⟩
theorem r_isiT2 (ht : H tp = some (.tup [.ty m1, .ty m2])) (h : TyX K H x (.type n)) (e1 : kitB n m1 = some b1) (e2 : kitB n m2 = some b2) (q : Q (.bl (b1 || b2)) H) : rIsiT K [x, .ref tp] H Q := by
  refine ⟨x, tp, [.ty m1, .ty m2], .type n, [.type m1, .type m2], b1 || b2, rfl, ht, .cons (.ty m1) (.cons (.ty m2) .nil), h, ?_, q⟩
  refine kitAny_cons (kit_ty e1) (fun h1 => ?_) (fun h1 => by rw [h1]; rfl)
  rw [h1, Bool.false_or]
  exact kitAny_cons (kit_ty e2) (fun h2 => by rw [h2]; exact kitAny_nil) fun h2 => h2
theorem r_gtup {t : List V → L2.St → Hp → (L2.St → Hp → Prop) → Prop} {Q : L2.St → Hp → Prop} (h : SqT K H a xs) (l : xs.length = k) (q : t xs σ H Q) : gTup K k t (.ref a) σ H Q := ⟨a, xs, rfl, h, l, q⟩
theorem r_gcons {t : TG} {u : List V → L2.St → Hp → (L2.St → Hp → Prop) → Prop} {Q : L2.St → Hp → Prop} (q : t v σ H fun σ' H' => u r σ' H' Q) : gCons t u (v :: r) σ H Q := ⟨v, r, rfl, q⟩
theorem r_gnil {Q : L2.St → Hp → Prop} (q : Q σ H) : gNil [] σ H Q := ⟨rfl, q⟩
theorem r_yes {Q : Bool → Hp → Prop} (q : Q true H) : tYes σ H Q := q
theorem r_lc {wi : TI} {g : TG} {tt : TT} {te : TE} {vs : List Nat} (h : wi σ H fun J H1 => ∀ D, H1 D = none → ∃ W : Nat → Nat → Hp → Prop, (∃ m, W 0 m (upd H1 D (.lst []))) ∧ ∀ i m H, W i m H →
  (J.stop i H ∧ Q (.ref D) H) ∨ (J.go i H ∧ ∃ Nx : Hp → Prop, (∀ H', Nx H' → ∃ m', m' < m ∧ W (i + 1) m' H') ∧ ∀ x H', J.yld i H x H' → g x (wipe σ vs) H' fun σ2 H2 => wipe σ2 vs = wipe σ vs ∧ tt σ2 H2 fun b H3 =>
    if b = true then te σ2 H3 fun y H4 => ∃ acc, H4 D = some (.lst acc) ∧ acc.length < sizeLine ∧ Nx (upd H4 D (.lst (acc ++ [y]))) else Nx H3)) : tLc wi g tt te vs σ H Q := h
theorem r_all {bs : List Bool} (h : SqL K H a (bs.map V.bl)) (q : Q (.bl (bs.all id)) H) : rAll K [.ref a] H Q := ⟨a, bs, rfl, h, q⟩
theorem r_any {bs : List Bool} (h : SqL K H a (bs.map V.bl)) (q : Q (.bl (bs.any id)) H) : rAny K [.ref a] H Q := ⟨a, bs, rfl, h, q⟩
end
theorem replicate_all (n : Nat) : (List.replicate n true).all id = true := by
  induction n with
  | zero => rfl
  | succ n ih => rw [List.replicate_succ, List.all_cons, ih]; rfl
end PW
namespace PW
open PySem PySem.Spec PyProof.Rows L2
section
variable {X : Cx} {es : List Expr} {e : Expr} {k n i : Nat} {t : TG} {u : TGs} {pos : Pos} {x : Str}
theorem pg_tupX {K : PySem.W.Frag} (hK : X.K = K) (hc : X.calm = true) (hn : (assignEach es X.env).length = n) (hst : (assignEach es X.env).findIdx? (·.1) = none) (h : PGs X es u) : PG X (.Tuple es k pos) (gTup K n u) := by
  subst hK
  exact pg_tup hc h hn hst
theorem pgs_consX (hs : (assignEach (e :: es) X.env).map (·.2) = assign e X.env :: (assignEach es X.env).map (·.2)) (h1 : PG X e t) (h2 : PGs X es u) : PGs X (e :: es) (gCons t u) := pgs_cons h1 h2 hs
theorem pg_nameX (i : Nat) (hN : X.N.Nodup) (hi : X.N[i]? = some x) (hx : Loc X.env.scope x) (hf : X.fn x = true ∨ X.env.scope.names.lookup x = some .local) : PG X (.Name x pos) (gName i) := pg_name hN hi hx hf
end
end PW
namespace PW
open L2
theorem kb_NoneType_bool : kitB "NoneType" "bool" = some false := by decide +kernel
theorem kb_NoneType_int : kitB "NoneType" "int" = some false := by decide +kernel
theorem kb_NoneType_str : kitB "NoneType" "str" = some false := by decide +kernel
theorem kb_NoneType_list : kitB "NoneType" "list" = some false := by decide +kernel
theorem kb_NoneType_tuple : kitB "NoneType" "tuple" = some false := by decide +kernel
theorem kb_NoneType_dict : kitB "NoneType" "dict" = some false := by decide +kernel
theorem kb_bool_bool : kitB "bool" "bool" = some true := by decide +kernel
theorem kb_bool_int : kitB "bool" "int" = some true := by decide +kernel
theorem kb_bool_str : kitB "bool" "str" = some false := by decide +kernel
theorem kb_bool_list : kitB "bool" "list" = some false := by decide +kernel
theorem kb_bool_tuple : kitB "bool" "tuple" = some false := by decide +kernel
theorem kb_bool_dict : kitB "bool" "dict" = some false := by decide +kernel
theorem kb_int_bool : kitB "int" "bool" = some false := by decide +kernel
theorem kb_int_int : kitB "int" "int" = some true := by decide +kernel
theorem kb_int_str : kitB "int" "str" = some false := by decide +kernel
theorem kb_int_list : kitB "int" "list" = some false := by decide +kernel
theorem kb_int_tuple : kitB "int" "tuple" = some false := by decide +kernel
theorem kb_int_dict : kitB "int" "dict" = some false := by decide +kernel
theorem kb_str_bool : kitB "str" "bool" = some false := by decide +kernel
theorem kb_str_int : kitB "str" "int" = some false := by decide +kernel
theorem kb_str_str : kitB "str" "str" = some true := by decide +kernel
theorem kb_str_list : kitB "str" "list" = some false := by decide +kernel
theorem kb_str_tuple : kitB "str" "tuple" = some false := by decide +kernel
theorem kb_str_dict : kitB "str" "dict" = some false := by decide +kernel
theorem kb_list_bool : kitB "list" "bool" = some false := by decide +kernel
theorem kb_list_int : kitB "list" "int" = some false := by decide +kernel
theorem kb_list_str : kitB "list" "str" = some false := by decide +kernel
theorem kb_list_list : kitB "list" "list" = some true := by decide +kernel
theorem kb_list_tuple : kitB "list" "tuple" = some false := by decide +kernel
theorem kb_list_dict : kitB "list" "dict" = some false := by decide +kernel
theorem kb_tuple_bool : kitB "tuple" "bool" = some false := by decide +kernel
theorem kb_tuple_int : kitB "tuple" "int" = some false := by decide +kernel
theorem kb_tuple_str : kitB "tuple" "str" = some false := by decide +kernel
theorem kb_tuple_list : kitB "tuple" "list" = some false := by decide +kernel
theorem kb_tuple_tuple : kitB "tuple" "tuple" = some true := by decide +kernel
theorem kb_tuple_dict : kitB "tuple" "dict" = some false := by decide +kernel
end PW
namespace PW
open PySem PySem.Spec PyProof.Rows L2
section
variable {H : Hp} {Q : VK} {x y : V}
theorem r_eqT (h : scal x x = true) (q : Q (.bl true) H) : rEq x x H Q := ⟨h, by rw [decide_eq_true rfl]; exact q⟩
theorem r_neT (h : scal x x = true) (q : Q (.bl false) H) : rNe x x H Q := ⟨h, by rw [decide_eq_true rfl]; exact q⟩
theorem r_eqF (h : scal x y = true) (n : ¬ x = y) (q : Q (.bl false) H) : rEq x y H Q := ⟨h, by rw [decide_eq_false n]; exact q⟩
theorem r_neF (h : scal x y = true) (n : ¬ x = y) (q : Q (.bl true) H) : rNe x y H Q := ⟨h, by rw [decide_eq_false n]; exact q⟩
end
end PW
namespace PW
open PySem PySem.Spec PyProof.Rows L2
theorem walk_zipT {K : PySem.W.Frag} {a b : Addr} {xs ys : List V} {n : Nat} (hn : n = min xs.length ys.length) : Walk (RZ.ItzT K a b) n (fun H => SqT K H a xs ∧ SqT K H b ys) (YPair (fun i => xs[i]?) (fun i => ys[i]?)) := by
  subst hn
  refine ⟨fun i _ hi q => ?_, fun _ q => ⟨xs, ys, q.1, q.2, by omega⟩, fun i H v H' _ q y => ?_⟩
  · have h1 : i < xs.length := by omega
    have h2 : i < ys.length := by omega
    exact ⟨xs, ys, xs[i], ys[i], q.1, q.2, by simp [h1], by simp [h2]⟩
  · obtain ⟨T, x, z, h1, h2, h3, h4, h5⟩ := y
    exact ⟨T, x, z, h1, h2, h3, h4 xs q.1, h5 ys q.2⟩
/-- a comprehension's turns over J, the new list at D -/
def LcW (J : It) (g : TG) (tt : TT) (te : TE) (vs : List Nat) (σ : L2.St) (H1 : Hp) (D : Addr) (Qd : Hp → Prop) : Prop :=
  ∃ W : Nat → Nat → Hp → Prop, (∃ m, W 0 m (upd H1 D (.lst []))) ∧ ∀ i m H, W i m H →
      (J.stop i H ∧ Qd H) ∨ (J.go i H ∧ ∃ Nx : Hp → Prop, (∀ H', Nx H' → ∃ m', m' < m ∧ W (i + 1) m' H') ∧ ∀ x H', J.yld i H x H' → g x (wipe σ vs) H' fun σ2 H2 => wipe σ2 vs = wipe σ vs ∧ tt σ2 H2 fun b H3 =>
        if b = true then te σ2 H3 fun y H4 => ∃ acc, H4 D = some (.lst acc) ∧ acc.length < sizeLine ∧ Nx (upd H4 D (.lst (acc ++ [y]))) else Nx H3)
/-- the heap without what stands at D -/
def hide (H : Hp) (D : Addr) : Hp := fun a => if a = D then none else H a
theorem hide_ne {H : Hp} {D a : Addr} (h : a ≠ D) : hide H D a = H a := by unfold hide; rw [if_neg h]
theorem hide_same {H : Hp} {D : Addr} : hide H D D = none := by unfold hide; rw [if_pos rfl]
theorem Ex.hide (H : Hp) (D : Addr) : Ex (hide H D) H := fun a o h => by
  by_cases e : a = D
  · subst e
    rw [hide_same] at h
    cases h
  · rw [hide_ne e] at h
    exact h
theorem hide_upd {H : Hp} {D : Addr} {o : HO} : hide (L2.upd H D o) D = hide H D := by
  funext a
  unfold PW.hide
  by_cases e : a = D
  · rw [if_pos e, if_pos e]
  · rw [if_neg e, if_neg e, upd_ne e]
theorem Ex.hides {H H' : Hp} (e : Ex H H') (D : Addr) : Ex (PW.hide H D) (PW.hide H' D) := fun a o h => by
  by_cases q : a = D
  · subst q
    rw [hide_same] at h
    cases h
  · rw [hide_ne q] at h ⊢
    exact e a o h
/-- .. over a walk whose place stays while the heap grows; no test; each element is told by E (of the heap without the new list) and leaves what was tracked -/
theorem lc_grow {J : It} {n : Nat} {G : Hp → Prop} {Y : Nat → Hp → V → Hp → Prop} (w : Walk J n G Y) {g : TG} {te : TE} {vs : List Nat} {σ : L2.St} {H1 : Hp} {D : Addr} {Qd : Hp → Prop} {σw : L2.St} (hw : wipe σ vs = σw) (E : Nat → Hp → V → Prop) (hD : H1 D = none) (hn : n ≤ 100000)
    (hG : ∀ H, Ex H1 H → G H) (hE : ∀ i H H' v, Ex H H' → E i H v → E i H' v)
    (hs : ∀ i x H H' acc (R : VK), i < n → Ex H1 H → H D = some (.lst acc) → Y i H x H' → (∀ v H4, E i (hide H4 D) v → Ex H H4 → R v H4) → g x σw H' fun σ2 H2 => wipe σ2 vs = σw ∧ te σ2 H2 R)
    (hd : ∀ H acc, Ex H1 H → H D = some (.lst acc) → acc.length = n → (∀ i v, acc[i]? = some v → E i (hide H D) v) → Qd H) : LcW J g tYes te vs σ H1 D Qd := by
  subst hw
  refine lc_it w (fun i H => Ex H1 H ∧ ∃ acc, H D = some (.lst acc) ∧ acc.length = i ∧ ∀ j v, acc[j]? = some v → E j (hide H D) v) ?_ (fun i H _ p => hG H p.1) ?_ ?_
  · exact ⟨Ex.new hD, [], upd_same, rfl, fun j v e => by simp at e⟩
  · rintro i x H H' hi ⟨p, acc, ha, hl, hE2⟩ y
    refine hs i x H H' acc _ hi p ha y fun v H4 e x4 => ?_
    refine ⟨acc, x4 _ _ ha, Nat.lt_of_lt_of_le (show acc.length < 100001 by omega) (by decide), (p.trans x4).mut hD, acc ++ [v], upd_same, by rw [List.length_append, hl]; rfl, fun j u hj => ?_⟩
    rw [hide_upd]
    by_cases h : j < acc.length
    · rw [List.getElem?_append_left h] at hj
      exact hE j _ _ u (x4.hides D) (hE2 j u hj)
    · have hj2 : j = acc.length := by
        have h3 : j < (acc ++ [v]).length := (List.getElem?_eq_some_iff.mp hj).1
        rw [List.length_append] at h3
        have h4 : [v].length = 1 := rfl
        omega
      subst hj2
      rw [List.getElem?_append_right (Nat.le_refl _), Nat.sub_self] at hj
      injection hj with hj
      subst hj
      rw [hl]
      exact e
  · rintro H ⟨p, acc, ha, hl, hE2⟩
    exact hd H acc p ha hl hE2
/-- a list of truths -/
theorem all_true {acc : List V} (h : ∀ (i : Nat) v, acc[i]? = some v → v = .bl true) : acc = (List.replicate acc.length true).map V.bl := by
  refine List.ext_getElem? fun i => ?_
  rw [List.getElem?_map, List.getElem?_replicate]
  cases e : acc[i]? with
  | none => rw [if_neg (by have := List.getElem?_eq_none_iff.mp e; omega)]; rfl
  | some v => rw [if_pos (List.getElem?_eq_some_iff.mp e).1, h i v e]; rfl
end PW
namespace PW
open PySem PySem.Spec PyProof.Rows L2
/-! ### unlike kinds -/
def vKind : V → Nat
  | .non => 0
  | .bl _ => 1
  | .int _ => 2
  | .str _ => 3
  | .byt _ => 4
  | .flt _ => 5
  | .ref _ => 6
  | .ty _ => 7
theorem vne {x y : V} (h : (vKind x == vKind y) = false) : ¬ x = y := fun e => by
  subst e
  rw [beq_self_eq_true] at h
  cases h
theorem dec_self {α : Type} {x : α} [Decidable (x = x)] : decide (x = x) = true := decide_eq_true rfl
theorem dec_kind {x y : V} (h : (vKind x == vKind y) = false) : decide (x = y) = false := decide_eq_false (vne h)
theorem ndec_self {α : Type} {x : α} [Decidable (x = x)] : (!decide (x = x)) = false := by rw [dec_self]; rfl
theorem ndec_kind {x y : V} (h : (vKind x == vKind y) = false) : (!decide (x = y)) = true := by rw [dec_kind h]; rfl
def hoKind : HO → Nat
  | .lst _ => 0
  | .tup _ => 1
  | .dK _ => 2
  | .dT _ => 3
  | .set _ _ => 4
  | .ins _ _ _ => 5
  | .own _ => 6
  | .xd _ => 7
  | .met _ _ => 8
  | .rng _ _ => 9
  | .frz _ _ => 10
  | .tbl _ => 11
  | .ext _ => 12
theorem ne_ofK {H : Hp} {a b : Addr} {o u : HO} (h : H a = some o) (h' : H b = some u) (k : (hoKind o == hoKind u) = false) : a ≠ b := ne_of h h' fun e => by
  subst e
  rw [beq_self_eq_true] at k
  cases k
end PW
namespace PW
open PySem PySem.Spec PyProof.Rows L2
section
variable {K : PySem.W.Frag} {tA : TA} {te : TE} {σ : L2.St} {H : Hp} {R : It → Hp → Prop}
theorem r_iZip (h : tA σ H fun vs H1 => ∃ a b xs ys, vs = [.ref a, .ref b] ∧ ((SqL K H1 a xs ∧ SqL K H1 b ys ∧ R (Itz K a b) H1) ∨ (SqT K H1 a xs ∧ SqT K H1 b ys ∧ R (RZ.ItzT K a b) H1))) : RZ.iZipA K tA σ H R := h
theorem r_iRng1 (h : tA σ H fun vs H1 => ∃ j : Int, vs = [.int j] ∧ -(2 ^ 62) ≤ j ∧ j < 2 ^ 62 ∧ R (Itr 0 j.toNat) H1) : iRng1 tA σ H R := h
theorem r_iRng2 (h : tA σ H fun vs H1 => ∃ i j : Int, vs = [.int i, .int j] ∧ (-(2 ^ 62) ≤ i ∧ i < 2 ^ 62 ∧ -(2 ^ 62) ≤ j ∧ j < 2 ^ 62) ∧ R (Itr i (j - i).toNat) H1) : iRng2 tA σ H R := h
theorem r_iStr (h : te σ H fun v H1 => ∃ x, v = .str x ∧ R (Its x) H1) : iStr te σ H R := h
theorem r_iList (h : te σ H fun x H1 => ∃ a, x = .ref a ∧ (∃ xs, SqL K H1 a xs) ∧ R (Itl K a) H1) : iList K te σ H R := h
theorem r_iTup (h : te σ H fun x H1 => ∃ a, x = .ref a ∧ (∃ xs, SqT K H1 a xs) ∧ R (Itt K a) H1) : iTup K te σ H R := h
theorem r_iEnum (h : tA σ H fun vs H1 => ∃ a xs, vs = [.ref a] ∧ SqL K H1 a xs ∧ R (Ite K a) H1) : iEnum K tA σ H R := h
theorem r_for {wi : TI} {g : TG} {tb : TS} {D : Ends} (h : wi σ H fun J H1 => ∃ W : Nat → Nat → L2.St → Hp → Prop, (∃ m, W 0 m σ H1) ∧ ∀ i m σ H, W i m σ H →
  (J.stop i H ∧ D.nx σ H) ∨ (J.go i H ∧ ∃ N : L2.St → Hp → Prop, (∀ σ' H', N σ' H' → ∃ m', m' < m ∧ W (i + 1) m' σ' H') ∧ ∀ x H', J.yld i H x H' → g x σ H' fun σ2 H2 => tb { D with nx := N, ct := N, bk := D.nx } σ2 H2)) : tFor wi g tb D σ H := h
end
end PW
/-! ### one step of a reading, by instances -/
namespace PW
open PySem PySem.Spec PyProof.Rows L2
class Step (g : Prop) (n : outParam Prop) : Prop where
  imp : n → g
class Get (σ : List (Option V)) (n : Nat) (v : outParam V) : Prop where
  eq : σ[n]? = some (some v)
instance {v : V} {r : List (Option V)} : Get (some v :: r) 0 v := ⟨rfl⟩
instance {x : Option V} {r : List (Option V)} {n : Nat} {v : V} [h : Get r n v] : Get (x :: r) (n + 1) v := ⟨h.eq⟩
class Put (σ : List (Option V)) (n : Nat) (v : V) (τ : outParam (List (Option V))) : Prop where
  eq : σ.set n (some v) = τ
instance {v : V} {x : Option V} {r : List (Option V)} : Put (x :: r) 0 v (some v :: r) := ⟨rfl⟩
instance {x : Option V} {r τ : List (Option V)} {n : Nat} {v : V} [h : Put r n v τ] : Put (x :: r) (n + 1) v (x :: τ) := ⟨by rw [List.set_cons_succ, h.eq]⟩
class Scal (x y : V) : Prop where
  eq : scal x y = true
instance {i j : Int} : Scal (.int i) (.int j) := ⟨rfl⟩
instance {i j : Bool} : Scal (.bl i) (.bl j) := ⟨rfl⟩
instance {i j : Str} : Scal (.str i) (.str j) := ⟨rfl⟩
section
variable {σ τ : L2.St} {H : Hp} {Q : VK} {D : Ends} {v x y : V} {i j : Int} {n m : Nat} {ta tb tc te : TE} {t u : TT} {s1 s2 : TS} {r r' : R2} {K : PySem.W.Frag} {tA tR : TA}
instance [h : Get σ n v] : Step (tVar n σ H Q) (Q v H) := ⟨fun q => ⟨v, h.eq, q⟩⟩
instance : Step (tC v σ H Q) (Q v H) := ⟨id⟩
instance : Step (tOp r ta tb σ H Q) (ta σ H fun x H1 => tb σ H1 fun y H2 => r x y H2 Q) := ⟨id⟩
instance {r : V → Hp → VK → Prop} : Step (tUn r ta σ H Q) (ta σ H fun x H1 => r x H1 Q) := ⟨id⟩
instance : Step (tChain r r' ta tb tc σ H Q) (ta σ H fun x H1 => tb σ H1 fun y H2 => r x y H2 fun z H3 => ∃ k, z = .bl k ∧ (if k = true then tc σ H3 fun w' H4 => r' y w' H4 Q else Q (.bl false) H3)) := ⟨id⟩
instance {Q : Bool → Hp → Prop} : Step (tTest te σ H Q) (te σ H fun x H' => ∃ k, x = .bl k ∧ Q k H') := ⟨id⟩
instance {Q : Bool → Hp → Prop} : Step (tB te σ H Q) (te σ H fun x H' => ∃ k, x = .bl k ∧ Q k H') := ⟨id⟩
instance {b : Bool} {Q : Bool → Prop} : Step (∃ k, V.bl b = .bl k ∧ Q k) (Q b) := ⟨fun q => ⟨b, rfl, q⟩⟩
instance {Q : Int → Prop} : Step (∃ k, V.int i = .int k ∧ Q k) (Q i) := ⟨fun q => ⟨i, rfl, q⟩⟩
instance {z : Str} {Q : Str → Prop} : Step (∃ k, V.str z = .str k ∧ Q k) (Q z) := ⟨fun q => ⟨z, rfl, q⟩⟩
instance {Q : Bool → Hp → Prop} : Step (tNot t σ H Q) (t σ H fun c H1 => Q (!c) H1) := ⟨id⟩
instance {Q : Bool → Hp → Prop} : Step (tAnd t u σ H Q) (t σ H fun c H1 => if c = true then u σ H1 Q else Q false H1) := ⟨id⟩
instance {Q : Bool → Hp → Prop} : Step (tOr t u σ H Q) (t σ H fun c H1 => if c = true then Q true H1 else u σ H1 Q) := ⟨id⟩
instance : Step (tAndV ta tb σ H Q) (ta σ H fun x H1 => ∃ c, x = .bl c ∧ if c = true then tb σ H1 Q else Q (.bl false) H1) := ⟨id⟩
instance : Step (tOrV ta tb σ H Q) (ta σ H fun x H1 => ∃ c, x = .bl c ∧ if c = true then Q (.bl true) H1 else tb σ H1 Q) := ⟨id⟩
instance : Step (tNotV ta σ H Q) (ta σ H fun x H1 => ∃ c, x = .bl c ∧ Q (.bl (!c)) H1) := ⟨id⟩
instance : Step (tIsN ta σ H Q) (ta σ H fun x H1 => Q (.bl (decide (x = .non))) H1) := ⟨id⟩
instance : Step (tNotN ta σ H Q) (ta σ H fun x H1 => Q (.bl (!decide (x = .non))) H1) := ⟨id⟩
instance : Step (tIf t ta tb σ H Q) (t σ H fun c H1 => if c = true then ta σ H1 Q else tb σ H1 Q) := ⟨id⟩
instance : Step (tIfS t s1 s2 D σ H) (t σ H fun b H1 => if b = true then s1 D σ H1 else s2 D σ H1) := ⟨id⟩
instance : Step (tSeq s1 s2 D σ H) (s1 { D with nx := s2 D } σ H) := ⟨id⟩
instance : Step (tNext D σ H) (D.nx σ H) := ⟨id⟩
instance : Step (tBreak D σ H) (D.bk σ H) := ⟨id⟩
instance : Step (tCont D σ H) (D.ct σ H) := ⟨id⟩
instance : Step (tRet te D σ H) (te σ H D.rt) := ⟨id⟩
instance : Step (tRetN D σ H) (D.rt .non H) := ⟨id⟩
instance : Step (tDrop te D σ H) (te σ H fun _ H1 => D.nx σ H1) := ⟨id⟩
instance {g : TG} : Step (tAsg te g D σ H) (te σ H fun x H1 => g x σ H1 D.nx) := ⟨id⟩
instance {Q : L2.St → Hp → Prop} [h : Put σ n v τ] : Step (gName n v σ H Q) (Q τ H) := ⟨fun q => by
  show Q (σ.set n (some v)) H
  rw [h.eq]
  exact q⟩
instance {to ti : TE} {ts : TSet} {Q : L2.St → Hp → Prop} : Step (gSub to ti ts v σ H Q) (to σ H fun o H1 => ti σ H1 fun i H2 => ts o i v H2 fun H3 => Q σ H3) := ⟨id⟩
instance {ti : TIp} [h : Get σ n x] : Step (tAug n te ti D σ H) (te σ H fun y H1 => ti x y H1 fun z H2 => D.nx (σ.set n (some z)) H2) := ⟨fun q => ⟨x, h.eq, q⟩⟩
instance {g : Int → Int → Int} : Step (ipI g (.int i) (.int j) H Q) (Q (.int (g i j)) H) := ⟨fun q => ⟨i, j, rfl, rfl, q⟩⟩
instance {Q : List V → Hp → Prop} : Step (tNil σ H Q) (Q [] H) := ⟨id⟩
instance {Q : List V → Hp → Prop} : Step (tCons ta tR σ H Q) (ta σ H fun x H1 => tR σ H1 fun xs H2 => Q (x :: xs) H2) := ⟨id⟩
instance {r : List V → Hp → VK → Prop} : Step (tCB r tA σ H Q) (tA σ H fun vs H1 => r vs H1 Q) := ⟨id⟩
instance {sp : Sp} {dvs : List V} {E : XK} : Step (tCall sp dvs E tA σ H Q) (tA σ H fun vs H1 => sp (vs ++ dvs) H1 Q E) := ⟨id⟩
instance {g : Int → Int → V} : Step (rI0 g (.int i) (.int j) H Q) (Q (g i j) H) := ⟨fun q => ⟨i, j, rfl, rfl, q⟩⟩
instance {g : Int → V} : Step (rU g (.int i) H Q) (Q (g i) H) := ⟨fun q => ⟨i, rfl, q⟩⟩
instance (priority := high) [s : Scal x x] : Step (rEq x x H Q) (Q (.bl true) H) := ⟨r_eqT s.eq⟩
instance (priority := high) [s : Scal x x] : Step (rNe x x H Q) (Q (.bl false) H) := ⟨r_neT s.eq⟩
instance [s : Scal x y] : Step (rEq x y H Q) (Q (.bl (decide (x = y))) H) := ⟨fun q => ⟨s.eq, q⟩⟩
instance [s : Scal x y] : Step (rNe x y H Q) (Q (.bl (!decide (x = y))) H) := ⟨fun q => ⟨s.eq, q⟩⟩
instance : Step (tLst tA σ H Q) (tA σ H fun xs H1 => xs.length ≤ sizeLine ∧ ∀ p, H1 p = none → Q (.ref p) (upd H1 p (.lst xs))) := ⟨id⟩
instance : Step (tTup tA σ H Q) (tA σ H fun xs H1 => xs.length ≤ sizeLine ∧ ∀ p, H1 p = none → Q (.ref p) (upd H1 p (.tup xs))) := ⟨id⟩
instance {A B : Prop} : Step (if true = true then A else B) A := ⟨r_ifT⟩
instance {A B : Prop} : Step (if false = true then A else B) B := ⟨r_ifF⟩
instance : Step (cInt [.int i] H Q) (Q (.int i) H) := ⟨r_cInt⟩
instance : Step (cAbs [.int i] H Q) (Q (.int (if i < 0 then -i else i)) H) := ⟨r_cAbs⟩
instance : Step (cMax [.int i, .int j] H Q) (Q (.int (if j > i then j else i)) H) := ⟨r_cMax⟩
instance : Step (cMin [.int i, .int j] H Q) (Q (.int (if j < i then j else i)) H) := ⟨r_cMin⟩
instance {Q : Option Int → Hp → Prop} : Step (tPart te σ H Q) (te σ H fun x H1 => ∃ i, x = .int i ∧ Q (some i) H1) := ⟨id⟩
instance {Q : Option Int → Hp → Prop} : Step (tNoPart σ H Q) (Q none H) := ⟨id⟩
instance {rs : V → Option Int → Option Int → Hp → VK → Prop} {tl th : TO} : Step (tSl rs te tl th σ H Q) (te σ H fun x H1 => tl σ H1 fun l H2 => th σ H2 fun u H3 => rs x l u H3 Q) := ⟨id⟩
instance {t : TG} {u : TGs} {l : List V} {Q : L2.St → Hp → Prop} : Step (gCons t u (v :: l) σ H Q) (t v σ H fun σ' H' => u l σ' H' Q) := ⟨r_gcons⟩
instance {Q : L2.St → Hp → Prop} : Step (gNil [] σ H Q) (Q σ H) := ⟨r_gnil⟩
instance {Q : Bool → Hp → Prop} : Step (tYes σ H Q) (Q true H) := ⟨id⟩
instance {wi : TI} {g : TG} {tt : TT} {vs : List Nat} : Step (tLc wi g tt te vs σ H Q) (wi σ H fun J H1 => ∀ D, H1 D = none → LcW J g tt te vs σ H1 D (fun H => Q (.ref D) H)) := ⟨id⟩
instance {R : It → Hp → Prop} : Step (RZ.iZipA K tA σ H R) (tA σ H fun vs H1 => ∃ a b xs ys, vs = [.ref a, .ref b] ∧ ((SqL K H1 a xs ∧ SqL K H1 b ys ∧ R (Itz K a b) H1) ∨ (SqT K H1 a xs ∧ SqT K H1 b ys ∧ R (RZ.ItzT K a b) H1))) := ⟨id⟩
def Rng1 (vs : List V) (H : Hp) (R : It → Hp → Prop) : Prop := ∃ j : Int, vs = [.int j] ∧ -(2 ^ 62) ≤ j ∧ j < 2 ^ 62 ∧ R (Itr 0 j.toNat) H
instance {R : It → Hp → Prop} : Step (iRng1 tA σ H R) (tA σ H fun vs H1 => Rng1 vs H1 R) := ⟨id⟩
def Rng2 (vs : List V) (H : Hp) (R : It → Hp → Prop) : Prop := ∃ i j : Int, vs = [.int i, .int j] ∧ (-(2 ^ 62) ≤ i ∧ i < 2 ^ 62 ∧ -(2 ^ 62) ≤ j ∧ j < 2 ^ 62) ∧ R (Itr i (j - i).toNat) H
instance {R : It → Hp → Prop} : Step (iRng2 tA σ H R) (tA σ H fun vs H1 => Rng2 vs H1 R) := ⟨id⟩
instance {R : It → Hp → Prop} : Step (iStr te σ H R) (te σ H fun v H1 => ∃ x, v = .str x ∧ R (Its x) H1) := ⟨id⟩
def WkL (K : PySem.W.Frag) (x : V) (H : Hp) (R : It → Hp → Prop) : Prop := ∃ a, x = .ref a ∧ (∃ xs, SqL K H a xs) ∧ R (Itl K a) H
instance {R : It → Hp → Prop} : Step (iList K te σ H R) (te σ H fun x H1 => WkL K x H1 R) := ⟨id⟩
def WkT (K : PySem.W.Frag) (x : V) (H : Hp) (R : It → Hp → Prop) : Prop := ∃ a, x = .ref a ∧ (∃ xs, SqT K H a xs) ∧ R (Itt K a) H
instance {R : It → Hp → Prop} : Step (iTup K te σ H R) (te σ H fun x H1 => WkT K x H1 R) := ⟨id⟩
def WkE (K : PySem.W.Frag) (vs : List V) (H : Hp) (R : It → Hp → Prop) : Prop := ∃ a xs, vs = [.ref a] ∧ SqL K H a xs ∧ R (Ite K a) H
instance {R : It → Hp → Prop} : Step (iEnum K tA σ H R) (tA σ H fun vs H1 => WkE K vs H1 R) := ⟨id⟩
/-- a for's turns over J -/
def ForW (J : It) (g : TG) (tb : TS) (D : Ends) (σ : L2.St) (H : Hp) : Prop := ∃ W : Nat → Nat → L2.St → Hp → Prop, (∃ m, W 0 m σ H) ∧ ∀ i m σ H, W i m σ H →
  (J.stop i H ∧ D.nx σ H) ∨ (J.go i H ∧ ∃ N : L2.St → Hp → Prop, (∀ σ' H', N σ' H' → ∃ m', m' < m ∧ W (i + 1) m' σ' H') ∧ ∀ x H', J.yld i H x H' → g x σ H' fun σ2 H2 => tb { D with nx := N, ct := N, bk := D.nx } σ2 H2)
instance {wi : TI} {g : TG} {tb : TS} : Step (tFor wi g tb D σ H) (wi σ H fun J H1 => ForW J g tb D σ H1) := ⟨id⟩
theorem rng1 {R : It → Hp → Prop} (h0 : -(2 ^ 62) ≤ j) (h1 : j < 2 ^ 62) (q : R (Itr 0 j.toNat) H) : Rng1 [.int j] H R := ⟨j, rfl, h0, h1, q⟩
theorem rng2 {R : It → Hp → Prop} (h0 : -(2 ^ 62) ≤ i) (h1 : i < 2 ^ 62) (h2 : -(2 ^ 62) ≤ j) (h3 : j < 2 ^ 62) (q : R (Itr i (j - i).toNat) H) : Rng2 [.int i, .int j] H R := ⟨i, j, rfl, ⟨h0, h1, h2, h3⟩, q⟩
theorem wkL {R : It → Hp → Prop} {a : Addr} {xs : List V} (h : SqL K H a xs) (q : R (Itl K a) H) : WkL K (.ref a) H R := ⟨a, rfl, ⟨xs, h⟩, q⟩
theorem wkT {R : It → Hp → Prop} {a : Addr} {xs : List V} (h : SqT K H a xs) (q : R (Itt K a) H) : WkT K (.ref a) H R := ⟨a, rfl, ⟨xs, h⟩, q⟩
theorem wkE {R : It → Hp → Prop} {a : Addr} {xs : List V} (h : SqL K H a xs) (q : R (Ite K a) H) : WkE K [.ref a] H R := ⟨a, xs, rfl, h, q⟩
end
end PW
namespace PW
open PySem PySem.Spec PyProof.Rows L2
section
variable {H : Hp} {Q : VK} {x : V} {c : Nat} {z : Str} {p : Addr} {xs : List V} {K : PySem.W.Frag}
instance : Step (rInS (.str ⟨#[c]⟩) (.str z) H Q) (Q (.bl (decide (c ∈ z.cps.toList))) H) := ⟨fun q => ⟨c, z, rfl, rfl, q⟩⟩
instance : Step (rNotInS (.str ⟨#[c]⟩) (.str z) H Q) (Q (.bl (!decide (c ∈ z.cps.toList))) H) := ⟨fun q => ⟨c, z, rfl, rfl, q⟩⟩
theorem r_inT (h : SqT K H p xs) (fx : flatV x = true) (fs : xs.all flatV = true) (q : Q (.bl (inV x xs)) H) : rIn K false x (.ref p) H Q := ⟨p, xs, rfl, .inr h, fx, fs, q⟩
theorem r_inL (h : SqL K H p xs) (fx : flatV x = true) (fs : xs.all flatV = true) (q : Q (.bl (inV x xs)) H) : rIn K false x (.ref p) H Q := ⟨p, xs, rfl, .inl h, fx, fs, q⟩
theorem r_ninT (h : SqT K H p xs) (fx : flatV x = true) (fs : xs.all flatV = true) (q : Q (.bl (!inV x xs)) H) : rIn K true x (.ref p) H Q := ⟨p, xs, rfl, .inr h, fx, fs, q⟩
theorem r_ninL (h : SqL K H p xs) (fx : flatV x = true) (fs : xs.all flatV = true) (q : Q (.bl (!inV x xs)) H) : rIn K true x (.ref p) H Q := ⟨p, xs, rfl, .inl h, fx, fs, q⟩
theorem acc_map {α : Type} {acc : List V} {l : List α} {f : α → V} (hl : acc.length = l.length) (h : ∀ (i : Nat) v, acc[i]? = some v → ∃ a, l[i]? = some a ∧ v = f a) : acc = l.map f := by
  refine List.ext_getElem? fun i => ?_
  rw [List.getElem?_map]
  cases e : acc[i]? with
  | none =>
    have h1 := List.getElem?_eq_none_iff.mp e
    rw [List.getElem?_eq_none_iff.mpr (show l.length ≤ i by omega)]
    rfl
  | some v =>
    obtain ⟨a, h1, h2⟩ := h i v e
    rw [h1, h2]
    rfl
end
end PW
namespace PW
open PySem PySem.Spec PyProof.Rows L2
/-! ### calls by keywords, the place of the arguments kept -/
section
variable {X : Cx} {CX : CXT} {k n : Nat} {f : Addr} {fd : FuncData} {ps ks : List Str} {sp : Sp} {E : XK} {x qual : Str} {p pos : Pos} {kws : List Keyword} {tk : TA} {g : List Value → List Value → List Value} {gV : List V → List V → List V}
theorem pe_callN0 (F : FnOk X.prog X.w X.K X.mg X.base CX k f fd ps sp) (hr : Room k X.A) (hg : Gl X x) (hm : X.mg x = some (.ref f)) (hk : PySem.W.keepIn X.K (.ref f) = true) (hb : KBn X.K fd ps 0 ks g gV) (hx : Passes CX X E)
    (hkw : PK X kws tk) (hall : (backToKw pos (keywordEach kws X.env)).all (·.1.isSome) = true := by rfl) (hks : (backToKw pos (keywordEach kws X.env)).filterMap (·.1) = ks := by rfl)
    (hdb : (x == ("__debug__" : Str)) = false := by decide) (hpl : ((backTo pos (starEach [] X.env)).any (·.1) || (backToKw pos (keywordEach kws X.env)).any (·.1.isNone)) = false := by rfl) :
    PE X (.Call (.Name x p) [] kws pos) (tCallN 0 ks.length sp gV E tNil tk) := by
  refine ⟨fun pins s σ H Q I h => ?_⟩
  refine wpAny_Call_Name_kw (ld_glob I hg hm ?_ hdb)
  refine PySem.W.callWith_KW0 (h₀ := X.base) I.ok.mod.kin hk hall ?_ hpl
  refine thn (hkw.run pos pins s σ H _ I h) fun ws s2 ⟨zs, H2, I2, rz, l1, l2, q2⟩ => ⟨I2.kIn, ?_⟩
  rw [hks]
  exact run_fnN (us := []) (vs := []) F hr hb hx I2 .nil rz rfl l2 q2
theorem kbn_app {K : PySem.W.Frag} {params : Arguments} {body : List Stmt} {scope : Scope} {kws : List (Str × V)} (F : FunD K x qual params body scope [] kws f fd) (n : Nat) (ks : List Str)
    (h : ∀ (kV doc pm : Value) (an : Option Addr) (cdv ct : Value) (us ws : List Value), us.length = n → ws.length = ks.length → bindArgs (PySem.W.fnOf x qual params body scope .none kV doc pm an cdv ct) ⟨us, ks.zip ws⟩ = pure (ps.zip (us ++ ws))) :
    KBn K fd ps n ks (fun us ws => us ++ ws) (fun vs zs => vs ++ zs) := by
  obtain ⟨oc, od, dV, kV, doc, pm, an, cdv, ct, osl, rfl, lk, hcd, hD, hK⟩ := F.ex
  rcases hD with ⟨_, rfl⟩ | ⟨e, _⟩
  · exact ⟨fun s us ws _ l1 l2 => .of_eq (h kV doc pm an cdv ct us ws l1 l2), fun r1 r2 => r1.append r2⟩
  · exact absurd rfl e
end
section
variable {σ : L2.St} {H : Hp} {Q : VK} {n m : Nat} {sp : Sp} {gV : List V → List V → List V} {E : XK} {t tk : TA}
instance : Step (tCallN n m sp gV E t tk σ H Q) (t σ H fun vs H1 => tk σ H1 fun zs H2 => vs.length = n ∧ zs.length = m ∧ sp (gV vs zs) H2 Q E) := ⟨id⟩
end
/-- a comprehension under an invariant of the heap that the new list does not touch; elements told apart from the heap -/
theorem lc_inv {J : It} {n : Nat} {G : Hp → Prop} {Y : Nat → Hp → V → Hp → Prop} (w : Walk J n G Y) {g : TG} {te : TE} {vs : List Nat} {σ : L2.St} {H1 : Hp} {D : Addr} {Qd : Hp → Prop} {σw : L2.St} (hw : wipe σ vs = σw) (I : Hp → Prop) (E : Nat → V → Prop) (hD : H1 D = none) (hn : n ≤ 100000)
    (h0 : I (upd H1 D (.lst []))) (hG : ∀ H, I H → G H)
    (hs : ∀ i x H H' acc (R : VK), i < n → I H → H D = some (.lst acc) → Y i H x H' → (∀ v H4, E i v → H4 D = some (.lst acc) → I (upd H4 D (.lst (acc ++ [v]))) → R v H4) → g x σw H' fun σ2 H2 => wipe σ2 vs = σw ∧ te σ2 H2 R)
    (hd : ∀ H acc, I H → H D = some (.lst acc) → acc.length = n → (∀ i v, acc[i]? = some v → E i v) → Qd H) : LcW J g tYes te vs σ H1 D Qd := by
  subst hw
  refine lc_it w (fun i H => I H ∧ ∃ acc, H D = some (.lst acc) ∧ acc.length = i ∧ ∀ j v, acc[j]? = some v → E j v) ?_ (fun i H _ p => hG H p.1) ?_ ?_
  · exact ⟨h0, [], upd_same, rfl, fun j v e => by simp at e⟩
  · rintro i x H H' hi ⟨p, acc, ha, hl, hE2⟩ y
    refine hs i x H H' acc _ hi p ha y fun v H4 e x4 hI => ?_
    refine ⟨acc, x4, Nat.lt_of_lt_of_le (show acc.length < 100001 by omega) (by decide), hI, acc ++ [v], upd_same, by rw [List.length_append, hl]; rfl, fun j u hj => ?_⟩
    by_cases h : j < acc.length
    · rw [List.getElem?_append_left h] at hj
      exact hE2 j u hj
    · have hj2 : j = acc.length := by
        have h3 : j < (acc ++ [v]).length := (List.getElem?_eq_some_iff.mp hj).1
        rw [List.length_append] at h3
        have h4 : [v].length = 1 := rfl
        omega
      subst hj2
      rw [List.getElem?_append_right (Nat.le_refl _), Nat.sub_self] at hj
      injection hj with hj
      subst hj
      rw [hl]
      exact e
  · rintro H ⟨p, acc, ha, hl, hE2⟩
    exact hd H acc p ha hl hE2
theorem r_and3 {A B C : Prop} (a : A) (b : B) (c : C) : A ∧ B ∧ C := ⟨a, b, c⟩
end PW
namespace PW
open PySem PySem.Spec PyProof.Rows L2
section
variable {z : Str} {R : Prop} {to te : TE} {σ : L2.St} {H : Hp} {Q : VK} {r : V → List V → Hp → VK → Prop}
instance : Step ((∃ a, V.str z = .str a) ∧ R) R := ⟨fun q => ⟨⟨z, rfl⟩, q⟩⟩
instance : Step (tM1 r to te σ H Q) (to σ H fun x H1 => (∃ a, x = .str a) ∧ te σ H1 fun y H2 => r x [y] H2 Q) := ⟨id⟩
instance : Step (tM0 r to σ H Q) (to σ H fun x H1 => (∃ a, x = .str a) ∧ r x [] H1 Q) := ⟨id⟩
end
theorem cutS_len (z : Str) (lo hi : Option Int) : (cutS z lo hi).length ≤ z.length := by
  show (List.toArray _).size ≤ z.cps.size
  rw [List.size_toArray, List.length_take, List.length_drop]
  have : z.cps.toList.length = z.cps.size := by simp
  omega
theorem add_len (y z : Str) : (y ++ z).length = y.length + z.length := by
  show (y.cps ++ z.cps).size = _
  rw [Array.size_append]
  rfl
/-- a list whose items are told one by one -/
theorem acc_exists {α : Type} {g : α → V} {p : α → Prop} : ∀ {acc : List V}, (∀ (i : Nat) v, acc[i]? = some v → ∃ a, v = g a ∧ p a) → ∃ l : List α, acc = l.map g ∧ l.length = acc.length ∧ ∀ a ∈ l, p a
  | [], _ => ⟨[], rfl, rfl, fun _ h => by cases h⟩
  | x :: r, h => by
    obtain ⟨a, e, pa⟩ := h 0 x rfl
    obtain ⟨l, e2, hl, pl⟩ := acc_exists (acc := r) fun i v hv => h (i + 1) v (by rw [List.getElem?_cons_succ]; exact hv)
    refine ⟨a :: l, by rw [e, e2]; rfl, by rw [List.length_cons, List.length_cons, hl], fun b hb => ?_⟩
    rcases List.mem_cons.mp hb with rfl | hb
    · exact pa
    · exact pl b hb
theorem joinL_len (S : List Nat) : ∀ ps : List (List Nat), (TL.joinL S ps).length ≤ (ps.map List.length).sum + ps.length * S.length
  | [] => Nat.zero_le _
  | [p] => by
    show p.length ≤ _
    simp
  | p :: q :: r => by
    have ih := joinL_len S (q :: r)
    show (p ++ (S ++ TL.joinL S (q :: r))).length ≤ _
    rw [List.length_append, List.length_append, List.map_cons, List.sum_cons, List.length_cons]
    have e : ((q :: r).length + 1) * S.length = (q :: r).length * S.length + S.length := Nat.succ_mul _ _
    rw [e]
    omega
theorem sum_le {k : Nat} : ∀ {l : List Str}, (∀ z ∈ l, z.length ≤ k) → (l.map (·.length)).sum ≤ l.length * k
  | [], _ => Nat.zero_le _
  | z :: r, h => by
    have h1 := h z (List.mem_cons_self ..)
    have h2 := sum_le (k := k) (l := r) fun y hy => h y (List.mem_cons_of_mem _ hy)
    rw [List.map_cons, List.sum_cons, List.length_cons, Nat.succ_mul]
    omega
end PW
namespace PW
open PySem PySem.Spec PyProof.Rows L2
theorem len_ok {n : Nat} (h : n ≤ 100000) : n ≤ sizeLine := Nat.le_trans h (by decide)
theorem log_ok {m : Int} (h0 : 0 ≤ m) (h : m < 2 ^ 64) : m.natAbs.log2 < 9000 := by
  have h2 : m.natAbs < 2 ^ 64 := by omega
  exact Nat.lt_trans (PySem.Flt.log2_lt_of (by decide) h2) (by decide)
section
variable {H : Hp} {Q : VK} {p : Addr} {xs : List V} {k : Int}
theorem r_rep (h : H p = some (.lst xs)) (h0 : 0 ≤ k) (h1 : k < 1000) (hl : xs.length ≤ 1000) (q : ∀ r, H r = none → Q (.ref r) (upd H r (.lst (List.replicate k.toNat xs).flatten))) : rRep (.ref p) (.int k) H Q := by
  refine ⟨p, k, xs, rfl, rfl, h, by omega, by omega, ?_, q⟩
  have h2 : xs.length * k.toNat ≤ 1000 * 1000 := Nat.mul_le_mul hl (by omega)
  exact Nat.le_trans h2 (by decide)
end
end PW
namespace PW
open PySem PySem.Spec PyProof.Rows L2
theorem r_seqP {s1 s2 : TS} {D : Ends} {σ : L2.St} {H : Hp} (P : L2.St → Hp → Prop) (hq : ∀ σ' H', P σ' H' → s2 D σ' H') (h : ∀ N : L2.St → Hp → Prop, (∀ σ' H', P σ' H' → N σ' H') → s1 { D with nx := N } σ H) : tSeq s1 s2 D σ H := h (s2 D) hq
end PW
namespace PW
open PySem PySem.Spec PyProof.Rows L2
theorem atI0 {α : Type} {x : α} {xs : List α} : atI (x :: xs) 0 = some x := atI_nat (j := 0) rfl
end PW
/-! ### own operators -/
namespace PW
open PySem PySem.Spec PyProof.Rows L2
/-- what x op y asks of the class at C whose def for op is at g: y another one of C, or an int -/
structure OwnB (K : PySem.W.Frag) (C : Addr) (op : Operator) (g : Addr) : Prop where
  sf : PySem.W.selfFirst K C = true
  at_ : PySem.W.findIn K (.ref C) (PySem.dunder op.info.2) = some (some (.ref g))
  fn : PySem.W.isFn K (.ref g) = true
  r : ∃ rc, PySem.W.findIn K (.ref C) (dunderR op.info.2) = some rc ∧ (rc = none ∨ ∃ h : Addr, rc = some (.ref h))
  i1 : ∃ fo, PySem.W.findIn K (.type "int") (PySem.dunder op.info.2) = some fo
  i2 : ∃ ro, PySem.W.findIn K (.type "int") (dunderR op.info.2) = some ro
theorem sub_int {K : PySem.W.Frag} {C : Addr} : PySem.W.subIn K (.type "int") (.ref C) = some false := by
  show (fastBuiltinMro "int").map (·.contains (Value.ref C)) = some false
  have e : fastBuiltinMro "int" = some [.type "int", .type "object"] := by decide +kernel
  rw [e]
  rfl
def rOwnB (C : Addr) (sp : Sp) (E : XK) : R2 := fun x y H Q => ∃ a dx fs, x = .ref a ∧ H a = some (.ins C dx fs) ∧ ((∃ i, y = .int i) ∨ ∃ b dy gs, y = .ref b ∧ H b = some (.ins C dy gs)) ∧ sp [x, y] H Q E
section
variable {X : Cx} {CX : CXT} {k : Nat} {C g : Addr} {fd : FuncData} {ps : List Str} {sp : Sp} {E : XK} {pins : List (Addr × Obj)} {σ : L2.St} {H : Hp} {s : Shared} {a dx : Addr} {fs : List (Str × V)}
theorem inst_of (I : Inv X pins σ H s) (e : H a = some (.ins C dx fs)) : ∃ od, PySem.W.InstAt s.heap a (PySem.W.instObj C dx) C (some od) := by
  obtain ⟨mA, O, _⟩ := ins_get I.hok e
  obtain ⟨od, J, _⟩ := O.look
  exact ⟨od, J⟩
theorem op_ownB {op : Operator} (O : OwnB X.K C op g) (F : FnOk X.prog X.w X.K X.mg X.base CX k g fd ps sp) (hr : Room k X.A) (hb : Binds X.K fd ps []) (hx : Passes CX X E) : OpR X (binaryOp op) (rOwnB C sp E) := by
  intro pins s σ H x y v u Q I rx ry h
  obtain ⟨a, dx, fs, rfl, ha, hy, q⟩ := h
  cases (show v = Value.ref a from rx)
  obtain ⟨od, J⟩ := inst_of I ha
  obtain ⟨m, hF⟩ := I.fr
  obtain ⟨rc, e1, e2⟩ := O.r
  obtain ⟨fo, e3⟩ := O.i1
  obtain ⟨ro, e4⟩ := O.i2
  have fin : ∀ w s', EP X pins σ Q w s' → PySem.W.CmpBack (EP X pins σ Q) w s' := fun w s' z => by
    have z' := z
    obtain ⟨z1, H', I', rz, qz⟩ := z'
    exact SlX.cmpback rz z
  rcases hy with ⟨i, rfl⟩ | ⟨b, dy, gs, rfl, hb2⟩
  · obtain ⟨t, e⟩ := (show ∃ t, u = Value.int i t from ry)
    cases e
    refine PySem.W.ksp_binT (T := "int") hF I.ok.mod.kin J rfl O.sf O.at_ O.fn e1 e2 e3 e4 sub_int ?_
    exact wpAny_mono (run_fn (us := [.ref a, .int i t]) (vs := [.ref a, .int i]) (dvs := []) (ds := []) F hr hb .nil hx I (.cons rfl (.cons ⟨t, rfl⟩ .nil)) q) fin fun _ _ e => e
  · cases (show u = Value.ref b from ry)
    obtain ⟨od', J'⟩ := inst_of I hb2
    refine PySem.W.binop_K hF I.ok.mod.kin J J'.type O.sf O.at_ O.fn ?_
    exact wpAny_mono (run_fn (us := [.ref a, .ref b]) (vs := [.ref a, .ref b]) (dvs := []) (ds := []) F hr hb .nil hx I (.cons rfl (.cons rfl .nil)) q) fin fun _ _ e => e
/-- -x -/
def rOwnU (C : Addr) (sp : Sp) (E : XK) : V → Hp → VK → Prop := fun x H Q => ∃ a dx fs, x = .ref a ∧ H a = some (.ins C dx fs) ∧ sp [x] H Q E
theorem un_own (hs : PySem.W.findIn X.K (.ref C) "__neg__" = some (some (.ref g))) (hf : PySem.W.isFn X.K (.ref g) = true) (F : FnOk X.prog X.w X.K X.mg X.base CX k g fd ps sp) (hr : Room k X.A) (hb : Binds X.K fd ps []) (hx : Passes CX X E) :
    UnR X (unaryOp .USub) (rOwnU C sp E) := by
  intro pins s σ H x v Q I rx h
  obtain ⟨a, dx, fs, rfl, ha, q⟩ := h
  cases (show v = Value.ref a from rx)
  obtain ⟨od, J⟩ := inst_of I ha
  obtain ⟨m, hF⟩ := I.fr
  refine PySem.W.ksp_neg hF I.ok.mod.kin J hs hf ?_
  exact run_fn (us := [.ref a]) (vs := [.ref a]) (dvs := []) (ds := []) F hr hb .nil hx I (.cons rfl .nil) q
/-- abs(x) -/
def cOwnAbs (C : Addr) (sp : Sp) (E : XK) : List V → Hp → VK → Prop := fun xs H Q => ∃ a dx fs, xs = [.ref a] ∧ H a = some (.ins C dx fs) ∧ sp [.ref a] H Q E
theorem call_absOwn (hs : PySem.W.findIn X.K (.ref C) "__abs__" = some (some (.ref g))) (hf : PySem.W.isFn X.K (.ref g) = true) (F : FnOk X.prog X.w X.K X.mg X.base CX k g fd ps sp) (hr : Room (k + 1) X.A) (hb : Binds X.K fd ps []) (hx : Passes CX X E) :
    CallR X (.builtin "abs") (cOwnAbs C sp E) := by
  intro pins s σ H xs us Q I r h
  obtain ⟨a, dx, fs, rfl, ha, q⟩ := h
  obtain ⟨u, rfl, ru⟩ := vals1 r
  cases (show u = Value.ref a from ru)
  obtain ⟨od, J⟩ := inst_of I ha
  refine Calls.call_function_entry kind_abs plain_abs entry_abs (args_abs _) ?_
  unfold Builtin.«abs»
  refine wpAny_bind (m := oneArg "abs" _) (wpAny_pure ?_)
  refine wpAny_bind (m := callSpecial? (.ref a) (Str.ofString "__abs__")) (PySem.W.special_fn I.kIn J hs (beq_iff_eq.mp hf) ?_)
  have hE : Env0 X.prog X.w X.K X.mg X.base X.A.in1 X.stack s H := I.env0.in1
  have r2 : Vals [V.ref a] [Value.ref a] := .cons rfl .nil
  refine wpAny_call (codeAny_mono (F.run X.A.in1 X.stack s H ⟨[.ref a], []⟩ [.ref a] [.ref a] Q E (Room.in1 hr) hE (by
    have hl : ([Value.ref a] ++ ([] : List Value)).length = ps.length := by rw [List.append_nil, ← r2.length]; exact F.len _ _ _ _ q
    have z := hb s [.ref a] I.kIn hl
    rw [List.append_nil] at z
    exact z) r2 q) fun r s' hq => ?_)
  cases r with
  | error e => exact hx pins σ H s e s' I hq
  | ok fl =>
    cases fl with
    | ret u => exact wpAny_pure ⟨_, rfl, I.after hq⟩
    | next => exact False.elim hq
    | brk => exact False.elim hq
    | cont => exact False.elim hq
end
end PW
/-! ### an int to the left: the reflected def -/
namespace PW
open PySem PySem.Spec PyProof.Rows L2
theorem gives_no {P : Int → Int → Sem Fin} {nm : String} {i : Int} {t : Tok} {a : Addr} :
    PySem.GivesAt (fun s => ∃ o, s.heap.get? a = some o ∧ ∀ j u, o.data ≠ .prim (.int j u)) (Builtin.Int.intBinary nm P false ⟨[.int i t, .ref a], []⟩) (.val .notImplemented) := by
  intro prog w A R s ⟨o, ho, hd⟩ q
  unfold Builtin.Int.intBinary
  refine wpAny_bind (m := slotArgs nm 1 _) (wpAny_pure ?_)
  refine wpAny_bind (m := Builtin.Int.intOfSelf (.int i t)) (wpAny_pure ?_)
  refine wpAny_bind (m := asInt? (.ref a)) ?_
  show wpAny _ _ (load a >>= _) _ _ s
  refine wpAny_bind (wpAny_load ho ?_)
  obtain ⟨oc, od, dt, sl⟩ := o
  cases dt with
  | prim v =>
    cases v with
    | int j u => exact absurd rfl (hd j u)
    | _ => exact wpAny_pure (wpAny_bind (wpAny_rule (wpAny_pure q)))
  | _ => exact wpAny_pure (wpAny_bind (wpAny_rule (wpAny_pure q)))

section
variable {prog : Program} {w : World} {A : Around} {E : Value → Shared → Prop} {s : Shared} {K : PySem.W.Frag} {x C f : Addr} {ox : Obj} {od : Option Obj} {i : Int} {t : Tok}
def NotPrim (o : Obj) : Prop := ∀ j u, o.data ≠ .prim (.int j u)
/-- what int op instance asks -/
structure OwnR (K : PySem.W.Frag) (C : Addr) (op : Operator) (g : Addr) : Prop where
  sf : PySem.W.selfFirst K C = true
  l : ∃ h : Addr, PySem.W.findIn K (.ref C) (PySem.dunder op.info.2) = some (some (.ref h))
  at_ : PySem.W.findIn K (.ref C) (dunderR op.info.2) = some (some (.ref g))
  fn : PySem.W.isFn K (.ref g) = true
  sub : PySem.W.subIn K (.ref C) (.type "int") = some false
  i1 : ∃ fo, PySem.W.findIn K (.type "int") (PySem.dunder op.info.2) = some fo ∧ fo.isSome = true ∧ isSeqSlot fo = false
  i2 : ∃ ro, PySem.W.findIn K (.type "int") (dunderR op.info.2) = some ro
theorem own_refl {op : Operator} {Q : Value → Shared → Prop} (O : OwnR K C op f) (X : K.In s.heap) (I : PySem.W.InstAt s.heap x ox C od)
    (decl : ∀ Q : Value → Shared → Prop, Q .notImplemented s → wpAny (model prog w) A (tryMethod (.int i t) (PySem.dunder op.info.2) (.ref x)) (fun r s' => r = none ∧ Q .notImplemented s') E s)
    (h : wpAny (model prog w) A (call (.ref f) [.ref x, .int i t]) (PySem.W.CmpBack Q) E s) : wpAny (model prog w) A (binaryOp op (.int i t) (.ref x)) Q E s := by
  obtain ⟨cd, rest, hcd, hm⟩ := PySem.W.ksp_first O.sf
  obtain ⟨g0, hl⟩ := O.l
  obtain ⟨fo, h1, hso, hsq⟩ := O.i1
  obtain ⟨ro, h2⟩ := O.i2
  have hr := O.at_
  rcases hi : op.info with ⟨sym, nm'⟩
  rw [hi] at hl hr h1 h2 decl
  dsimp only at hl hr h1 h2 decl
  have one := PySem.W.ksp_try (b := .int i t) X I hr O.fn h
  have L1 : PySem.W.Looks (model prog w) s.heap (typeOf (.int i t)) (.type "int") := PySem.W.Looks.of_pure rfl
  have L2 : PySem.W.Looks (model prog w) s.heap (typeOf (.ref x)) (.ref C) := I.type
  have L3 : PySem.W.Looks (model prog w) s.heap (fillsNumberSlot (.ref C) nm') true := PySem.W.fills_K X hcd hm hl
  have L4 : PySem.W.Looks (model prog w) s.heap (fillsNumberSlot (.type "int") nm') true := by
    have z := PySem.W.ksp_fillsT (M := model prog w) (T := "int") (nm := nm') X h1 h2
    rw [hso, hsq] at z
    exact z
  have L5 : PySem.W.Looks (model prog w) s.heap (isSubtype (.ref C) (.type "int")) false := PySem.W.looks_subIn X O.sub
  have hne : (Value.type "int" == Value.ref C) = false := Bool.eq_false_iff.mpr fun q => by cases beq_iff_eq.mp q
  have hpy : numberSlotInPython (.type "int") nm' = pure false := rfl
  simp only [binaryOp, hi]
  refine wpAny_holding (wpAny_bind ?_)
  unfold binaryOp1
  refine wpAny_bind (L1.here (wpAny_bind (L2.here (wpAny_bind (L4.here ?_)))))
  simp only [hne, Bool.false_eq_true, if_false]
  refine wpAny_bind (L3.here ?_)
  simp only [Bool.and_self, if_true]
  refine wpAny_bind (L5.here ?_)
  simp only [Bool.false_eq_true, if_false, pure_bind, Bool.not_false, Bool.and_self, if_true, hpy]
  refine wpAny_bind (wpAny_mono (decl (fun v s' => v = .notImplemented ∧ s' = s) ⟨rfl, rfl⟩) (fun r s' z => ?_) fun _ _ e => e)
  obtain ⟨rfl, _, rfl⟩ := z
  refine wpAny_bind (wpAny_mono one (fun r s' z => ?_) fun _ _ e => e)
  obtain ⟨v, rfl, q⟩ := z
  exact wpAny_bind (wpAny_rule (wpAny_pure (wpAny_pure q)))
end
end PW
namespace PW
open PySem PySem.Spec PyProof.Rows L2
section
variable {X : Cx} {CX : CXT} {k : Nat} {C g : Addr} {fd : FuncData} {ps : List Str} {sp : Sp} {E : XK} {pins : List (Addr × Obj)} {σ : L2.St} {H : Hp} {s : Shared} {a dx : Addr} {fs : List (Str × V)}
def rOwnR (C : Addr) (sp : Sp) (E : XK) : R2 := fun x y H Q => ∃ i b dy gs, x = .int i ∧ y = .ref b ∧ H b = some (.ins C dy gs) ∧ sp [.ref b, .int i] H Q E
theorem backs {X : Cx} {pins : List (Addr × Obj)} {σ : L2.St} {Q : VK} : ∀ w s', EP X pins σ Q w s' → PySem.W.CmpBack (EP X pins σ Q) w s' := fun w s' z => by
  have z' := z
  obtain ⟨z1, H', I', rz, qz⟩ := z'
  exact SlX.cmpback rz z
theorem op_ownR {op : Operator} (O : OwnR X.K C op g) (decl : ∀ (A : Around) (E : Value → Shared → Prop) (s : Shared) (i : Int) (t : Tok) (a : Addr) (o : Obj), s.heap.get? a = some o → (∀ j u, o.data ≠ .prim (.int j u)) → ∀ Q : Value → Shared → Prop, Q .notImplemented s → wpAny (model X.prog X.w) A (tryMethod (.int i t) (PySem.dunder op.info.2) (.ref a)) (fun r s' => r = none ∧ Q .notImplemented s') E s)
    (F : FnOk X.prog X.w X.K X.mg X.base CX k g fd ps sp) (hr : Room k X.A) (hb : Binds X.K fd ps []) (hx : Passes CX X E) : OpR X (binaryOp op) (rOwnR C sp E) := by
  intro pins s σ H x y v u Q I rx ry h
  obtain ⟨i, b, dy, gs, rfl, rfl, hb2, q⟩ := h
  obtain ⟨t, e⟩ := (show ∃ t, v = Value.int i t from rx)
  cases e
  cases (show u = Value.ref b from ry)
  obtain ⟨od, J⟩ := inst_of I hb2
  refine own_refl O I.kIn J (decl _ _ _ _ _ _ _ J.1 fun j u z => nomatch z) ?_
  exact wpAny_mono (run_fn (us := [.ref b, .int i t]) (vs := [.ref b, .int i]) (dvs := []) (ds := []) F hr hb .nil hx I (.cons rfl (.cons ⟨t, rfl⟩ .nil)) q) backs fun _ _ e => e
theorem decl_add {prog : Program} {w : World} (A : Around) (E : Value → Shared → Prop) (s : Shared) (i : Int) (t : Tok) (a : Addr) (o : Obj) (ho : s.heap.get? a = some o) (hd : ∀ j u, o.data ≠ .prim (.int j u)) (Q : Value → Shared → Prop) (q : Q .notImplemented s) :
    wpAny (model prog w) A (tryMethod (.int i t) (PySem.dunder Operator.Add.info.2) (.ref a)) (fun r s' => r = none ∧ Q .notImplemented s') E s := by
  have g : GivesAt (fun s => ∃ o, s.heap.get? a = some o ∧ ∀ j u, o.data ≠ .prim (.int j u)) (Builtin.«int.__add__» ⟨[.int i t, .ref a], []⟩) (.val .notImplemented) := gives_no
  have hT : s.TypeIs (.int i t) "int" := typeIs_int _ _ _
  have c : wpAny (model prog w) A (call (.builtin "int.__add__") [.int i t, .ref a]) (fun v s' => v = .notImplemented ∧ ((none : Option Value) = none ∧ Q .notImplemented s')) E s :=
    call_givesAt F.slot_int_add hT F.entry_int_add (F.args_int_add_2 _ _) g ⟨o, ho, hd⟩ (show Value.notImplemented = .notImplemented ∧ _ from ⟨rfl, rfl, q⟩)
  have e : PySem.dunder Operator.Add.info.2 = PySem.dunder "add" := congrArg PySem.dunder (show Operator.Add.info.2 = "add" from rfl)
  rw [e]
  refine wpAny_tryMethod_declines (T := "int") (id := "int.__add__") (Q := fun r s' => r = none ∧ Q .notImplemented s') ?h1 ?h2 ?h3
  case h1 => exact hT
  case h2 => exact F.slot_int_add
  case h3 => exact c
theorem decl_sub {prog : Program} {w : World} (A : Around) (E : Value → Shared → Prop) (s : Shared) (i : Int) (t : Tok) (a : Addr) (o : Obj) (ho : s.heap.get? a = some o) (hd : ∀ j u, o.data ≠ .prim (.int j u)) (Q : Value → Shared → Prop) (q : Q .notImplemented s) :
    wpAny (model prog w) A (tryMethod (.int i t) (PySem.dunder Operator.Sub.info.2) (.ref a)) (fun r s' => r = none ∧ Q .notImplemented s') E s := by
  have g : GivesAt (fun s => ∃ o, s.heap.get? a = some o ∧ ∀ j u, o.data ≠ .prim (.int j u)) (Builtin.«int.__sub__» ⟨[.int i t, .ref a], []⟩) (.val .notImplemented) := gives_no
  have hT : s.TypeIs (.int i t) "int" := typeIs_int _ _ _
  have c : wpAny (model prog w) A (call (.builtin "int.__sub__") [.int i t, .ref a]) (fun v s' => v = .notImplemented ∧ ((none : Option Value) = none ∧ Q .notImplemented s')) E s :=
    call_givesAt F.slot_int_sub hT F.entry_int_sub (F.args_int_sub_2 _ _) g ⟨o, ho, hd⟩ (show Value.notImplemented = .notImplemented ∧ _ from ⟨rfl, rfl, q⟩)
  have e : PySem.dunder Operator.Sub.info.2 = PySem.dunder "sub" := congrArg PySem.dunder (show Operator.Sub.info.2 = "sub" from rfl)
  rw [e]
  refine wpAny_tryMethod_declines (T := "int") (id := "int.__sub__") (Q := fun r s' => r = none ∧ Q .notImplemented s') ?h1 ?h2 ?h3
  case h1 => exact hT
  case h2 => exact F.slot_int_sub
  case h3 => exact c
theorem decl_mul {prog : Program} {w : World} (A : Around) (E : Value → Shared → Prop) (s : Shared) (i : Int) (t : Tok) (a : Addr) (o : Obj) (ho : s.heap.get? a = some o) (hd : ∀ j u, o.data ≠ .prim (.int j u)) (Q : Value → Shared → Prop) (q : Q .notImplemented s) :
    wpAny (model prog w) A (tryMethod (.int i t) (PySem.dunder Operator.Mult.info.2) (.ref a)) (fun r s' => r = none ∧ Q .notImplemented s') E s := by
  have g : GivesAt (fun s => ∃ o, s.heap.get? a = some o ∧ ∀ j u, o.data ≠ .prim (.int j u)) (Builtin.«int.__mul__» ⟨[.int i t, .ref a], []⟩) (.val .notImplemented) := gives_no
  have hT : s.TypeIs (.int i t) "int" := typeIs_int _ _ _
  have c : wpAny (model prog w) A (call (.builtin "int.__mul__") [.int i t, .ref a]) (fun v s' => v = .notImplemented ∧ ((none : Option Value) = none ∧ Q .notImplemented s')) E s :=
    call_givesAt F.slot_int_mul hT F.entry_int_mul (F.args_int_mul_2 _ _) g ⟨o, ho, hd⟩ (show Value.notImplemented = .notImplemented ∧ _ from ⟨rfl, rfl, q⟩)
  have e : PySem.dunder Operator.Mult.info.2 = PySem.dunder "mul" := congrArg PySem.dunder (show Operator.Mult.info.2 = "mul" from rfl)
  rw [e]
  refine wpAny_tryMethod_declines (T := "int") (id := "int.__mul__") (Q := fun r s' => r = none ∧ Q .notImplemented s') ?h1 ?h2 ?h3
  case h1 => exact hT
  case h2 => exact F.slot_int_mul
  case h3 => exact c
/-- x == y, x of C with an own __eq__ at g -/
theorem cmp_ownB {op : CmpOp} (hop : ∀ a b, compareOp op a b = richCompare op a b) (hs : PySem.W.findIn X.K (.ref C) (cmpInfo op).2.1 = some (some (.ref g))) (hf : PySem.W.isFn X.K (.ref g) = true)
    (F : FnOk X.prog X.w X.K X.mg X.base CX k g fd ps sp) (hr : Room k X.A) (hb : Binds X.K fd ps []) (hx : Passes CX X E) : OpR X (compareOp op) (rOwnB C sp E) := by
  intro pins s σ H x y v u Q I rx ry h
  obtain ⟨a, dx, fs, rfl, ha, hy, q⟩ := h
  cases (show v = Value.ref a from rx)
  obtain ⟨od, J⟩ := inst_of I ha
  obtain ⟨m, hF⟩ := I.fr
  rw [hop]
  rcases hy with ⟨i, rfl⟩ | ⟨b, dy, gs, rfl, hb2⟩
  · obtain ⟨t, e⟩ := (show ∃ t, u = Value.int i t from ry)
    cases e
    refine PySem.W.cmp_K (op := op) (tb := .type "int") hr.units0 hF I.ok.mod.kin J (PySem.W.Looks.of_pure rfl) (by unfold PySem.W.notFirst; rw [sub_int]; rfl) hs hf ?_
    exact wpAny_mono (run_fn (us := [.ref a, .int i t]) (vs := [.ref a, .int i]) (dvs := []) (ds := []) F hr hb .nil hx I (.cons rfl (.cons ⟨t, rfl⟩ .nil)) q) backs fun _ _ e => e
  · cases (show u = Value.ref b from ry)
    obtain ⟨od', J'⟩ := inst_of I hb2
    refine PySem.W.cmp_K (op := op) (tb := .ref C) hr.units0 hF I.ok.mod.kin J J'.type (by unfold PySem.W.notFirst; rw [beq_self_eq_true]; rfl) hs hf ?_
    exact wpAny_mono (run_fn (us := [.ref a, .ref b]) (vs := [.ref a, .ref b]) (dvs := []) (ds := []) F hr hb .nil hx I (.cons rfl (.cons rfl .nil)) q) backs fun _ _ e => e
/-! ### a staticmethod called through its class -/
structure SMet (K : PySem.W.Frag) (C : Addr) (m : Str) (p g : Addr) : Prop where
  rd : PySem.W.readsIn K C (.type "type") = true
  ga : PySem.W.specialIn K (.ref C) "__getattribute__" = some (some (.builtin "type.__getattribute__"))
  at_ : PySem.W.findCls K (.ref C) (.type "type") m = some (.get (.builtin "staticmethod.__get__") (.ref p) .none (.ref C))
  rc : ∃ rest, PySem.W.recIn K p "staticmethod" = some (.ref g :: rest)
  kp : PySem.W.keepIn K (.ref g) = true
theorem getmethsm_ok {m : Str} {p : Addr} {pl : Sem Bool} {A : Around} {E : Value → Shared → Prop} {Q : Value × List Value → Shared → Prop} (I : Inv X pins σ H s) (k : SMet X.K C m p g)
    (h : ∀ s', Inv X pins σ H s' → Q (.ref g, []) s') : wpAny (model X.prog X.w) A (getMethod (.ref C) m pl) Q E s := by
  obtain ⟨rest, hp⟩ := k.rc
  refine PySem.W.method_cls I.kIn k.ga (PySem.W.cls_bind I.kIn k.rd k.at_ ?_)
  exact wpAny_call (PySem.W.sm_get (s := { s with toks := s.toks + 1 }) I.kIn hp (PySem.W.handed_on rfl (h _ (I.tok _))))
/-- C.m(e, ..) -/
def tSMeth (C : Addr) (sp : Sp) (E : XK) (ta : TE) (t : TA) : TE := fun σ H Q => ta σ H fun x H1 => x = .ref C ∧ t σ H1 fun vs H2 => sp vs H2 Q E
theorem pe_smeth {m : Str} {p : Addr} {o e : Expr} {es : List Expr} {pos apos : Pos} {ta : TE} {t : TA} {pl : Sem Bool} (he : PE X o ta) (c : SMet X.K C m p g) (F : FnOk X.prog X.w X.K X.mg X.base CX k g fd ps sp) (hr : Room k X.A) (hb : Binds X.K fd ps []) (hx : Passes CX X E) (ha : PA X (e :: es) t)
    (hst : starEach (e :: es) X.env = (false, eval e X.env) :: starEach es X.env := by rfl) (hpl : (backTo pos (starEach es X.env)).any (·.1) = false := by rfl)
    (ht : eval (.Call (.Attribute o m apos) (e :: es) [] pos) X.env = (do
      let ov ← eval o X.env
      standAt apos.atName
      let (f, first) ← holding [ov] (getMethod ov m pl)
      callWith pos f first (backTo pos (starEach (e :: es) X.env)) (backToKw pos (keywordEach [] X.env))) := by rfl) :
    PE X (.Call (.Attribute o m apos) (e :: es) [] pos) (tSMeth C sp E ta t) := by
  refine ⟨fun pins s σ H Q I h => ?_⟩
  refine PySem.W.methodCall_KW (pl := pl) (thn (he.run pins s σ H _ I h) fun u s1 ⟨x, H1, I1, rx, ex, q⟩ => ?_) ht
  subst ex
  obtain rfl : u = Value.ref C := rx
  refine getmethsm_ok I1 c fun s2 I2 => ?_
  refine PySem.W.callWith_K (first := []) (h₀ := X.base) I.ok.mod.kin c.kp (thn (ha.run pos pins s2 σ H1 _ I2 q) fun us s3 ⟨vs, H2, I3, r, q2⟩ => ⟨I3.kIn, ?_⟩) hst hpl
  refine run_fn (us := us) (vs := vs) (dvs := []) (ds := []) F hr hb .nil hx I3 r ?_
  rw [List.append_nil]
  exact q2
end
end PW
/-! ### == and != with an empty list or tuple -/
namespace PW
open PySem PySem.Spec PyProof.Rows L2 PySem.SeqAt
section
variable {prog : Program} {w : World}
theorem list_ne_size (l b : Addr) (items items2 : Array Value) (n n2 : Nat) (dd dd2 : Option Addr) (sl sl2 : Array (Option Value)) (hsz : items.size ≠ items2.size) :
    MeetsIn prog w (Builtin.«list.__eq__» ⟨[.ref l, .ref b], []⟩)
      (fun A R s => s.heap.get? l = some { cls := .type "list", dict := dd, data := .seq items n, slots := sl } ∧ s.heap.get? b = some { cls := .type "list", dict := dd2, data := .seq items2 n2, slots := sl2 } ∧
        R (.ok (.ret (.bool false))) s) := by
  intro A R s h
  obtain ⟨hp, g, d, tk, os⟩ := s; obtain ⟨hl, hb, h⟩ := h
  have f3 := AutoSeq1.sub_list_list
  have hne : (items.size != items2.size) = true := by simpa using hsz
  wp_walk using PySem.AutoSeq1.wpAny_loadPart' hl, PySem.AutoSeq1.wpAny_loadPart' hb
  exact h
theorem rcP_list_size {A : Around} {s : Shared} {l b : Addr} {items items2 : Array Value} (hl : s.heap.IsList l items) (hb : s.heap.IsList b items2) (hsz : items.size ≠ items2.size) (hu : A.units < cLine)
    (E Q : Value → Shared → Prop) (h : Q (.bool false) s) : wpAny (model prog w) A (richCompare .Eq (.ref l) (.ref b)) Q E s := by
  obtain ⟨⟨cls, dd, data, sl⟩, ho, hc, n, hd⟩ := id hl
  obtain ⟨⟨cls2, dd2, data2, sl2⟩, ho2, hc2, n2, hd2⟩ := id hb
  simp only at hc hd hc2 hd2
  subst hc hd hc2 hd2
  have ta : s.TypeIs (.ref l) "list" := ⟨_, ho, rfl⟩
  have tb : s.TypeIs (.ref b) "list" := ⟨_, ho2, rfl⟩
  exact wpAny_richCompare_same_room (op := .Eq) ta tb F.slot_list_eq (call_meetsIn F.slot_list_eq ta F.entry_list_eq (F.args_list_eq_2 _ _) (list_ne_size l b items items2 n n2 dd dd2 sl sl2 hsz)
    ⟨ho, ho2, show Value.bool false ≠ Value.notImplemented ∧ Q (.bool false) s from ⟨(fun x => nomatch x), h⟩⟩) hu
theorem tup_empty (ne : Bool) (l b : Addr) (items : Array Value) (n n2 : Nat) (dd dd2 : Option Addr) (sl sl2 : Array (Option Value)) :
    MeetsIn prog w ((if ne then Builtin.«tuple.__ne__» else Builtin.«tuple.__eq__») ⟨[.ref l, .ref b], []⟩)
      (fun A R s => s.heap.get? l = some { cls := .type "tuple", dict := dd, data := .seq items n, slots := sl } ∧ s.heap.get? b = some { cls := .type "tuple", dict := dd2, data := .seq #[] n2, slots := sl2 } ∧
        R (.ok (.ret (.bool (if ne then items.size != 0 else items.size == 0)))) s) := by
  intro A R s h
  obtain ⟨hp, g, d, tk, os⟩ := s; obtain ⟨hl, hb, h⟩ := h
  have f2 := AutoSeq1.sub_tuple_tuple
  cases ne with
  | true =>
    show wpAny _ _ (Builtin.«tuple.__ne__» ⟨[.ref l, .ref b], []⟩) _ _ _
    wp_walk using PySem.AutoSeq1.wpAny_loadPart' hl, PySem.AutoSeq1.wpAny_loadPart' hb
    have hz : items.toList.zip (#[] : Array Value).toList = [] := by simp
    generalize items.toList.zip (#[] : Array Value).toList = L at hz
    subst hz
    wp_walk
    simpa [Builtin.Tuple.tupleCompareSizes] using h
  | false =>
    show wpAny _ _ (Builtin.«tuple.__eq__» ⟨[.ref l, .ref b], []⟩) _ _ _
    wp_walk using PySem.AutoSeq1.wpAny_loadPart' hl, PySem.AutoSeq1.wpAny_loadPart' hb
    have hz : items.toList.zip (#[] : Array Value).toList = [] := by simp
    generalize items.toList.zip (#[] : Array Value).toList = L at hz
    subst hz
    wp_walk
    simpa [Builtin.Tuple.tupleCompareSizes] using h
end
end PW
namespace PW
open PySem PySem.Spec PyProof.Rows L2 PySem.SeqAt
section
variable {prog : Program} {w : World}
theorem rcP_tup_eq {A : Around} {s : Shared} {l b : Addr} {items : Array Value} (hl : IsTup s.heap l items) (hb : IsTup s.heap b #[]) (hu : A.units < cLine)
    (E Q : Value → Shared → Prop) (h : Q (.bool (items.size == 0)) s) : wpAny (model prog w) A (richCompare .Eq (.ref l) (.ref b)) Q E s := by
  obtain ⟨⟨cls, dd, data, sl⟩, ho, hc, n, hd⟩ := id hl
  obtain ⟨⟨cls2, dd2, data2, sl2⟩, ho2, hc2, n2, hd2⟩ := id hb
  simp only at hc hd hc2 hd2
  subst hc hd hc2 hd2
  have ta : s.TypeIs (.ref l) "tuple" := ⟨_, ho, rfl⟩
  have tb : s.TypeIs (.ref b) "tuple" := ⟨_, ho2, rfl⟩
  exact wpAny_richCompare_same_room (op := .Eq) ta tb F.slot_tuple_eq (call_meetsIn F.slot_tuple_eq ta F.entry_tuple_eq (F.args_tuple_eq_2 _ _) (tup_empty false l b items n n2 dd dd2 sl sl2)
    ⟨ho, ho2, show Value.bool (items.size == 0) ≠ Value.notImplemented ∧ Q (.bool (items.size == 0)) s from ⟨(fun x => nomatch x), h⟩⟩) hu
theorem rcP_tup_ne {A : Around} {s : Shared} {l b : Addr} {items : Array Value} (hl : IsTup s.heap l items) (hb : IsTup s.heap b #[]) (hu : A.units < cLine)
    (E Q : Value → Shared → Prop) (h : Q (.bool (items.size != 0)) s) : wpAny (model prog w) A (richCompare .NotEq (.ref l) (.ref b)) Q E s := by
  obtain ⟨⟨cls, dd, data, sl⟩, ho, hc, n, hd⟩ := id hl
  obtain ⟨⟨cls2, dd2, data2, sl2⟩, ho2, hc2, n2, hd2⟩ := id hb
  simp only at hc hd hc2 hd2
  subst hc hd hc2 hd2
  have ta : s.TypeIs (.ref l) "tuple" := ⟨_, ho, rfl⟩
  have tb : s.TypeIs (.ref b) "tuple" := ⟨_, ho2, rfl⟩
  exact wpAny_richCompare_same_room (op := .NotEq) ta tb F.slot_tuple_ne (call_meetsIn F.slot_tuple_ne ta F.entry_tuple_ne (F.args_tuple_ne_2 _ _) (tup_empty true l b items n n2 dd dd2 sl sl2)
    ⟨ho, ho2, show Value.bool (items.size != 0) ≠ Value.notImplemented ∧ Q (.bool (items.size != 0)) s from ⟨(fun x => nomatch x), h⟩⟩) hu
end
def rEqE (K : PySem.W.Frag) : R2 := fun x y H Q => ∃ a b xs, x = .ref a ∧ y = .ref b ∧ ((SqL K H a xs ∧ SqL K H b []) ∨ (SqT K H a xs ∧ SqT K H b [])) ∧ Q (.bl xs.isEmpty) H
def rNeE (K : PySem.W.Frag) : R2 := fun x y H Q => ∃ a b xs, x = .ref a ∧ y = .ref b ∧ SqT K H a xs ∧ SqT K H b [] ∧ Q (.bl (!xs.isEmpty)) H
section
variable {X : Cx}
theorem size_empty {xs : List V} {us : List Value} (r : Vals xs us) : (us.toArray.size == 0) = xs.isEmpty := by
  cases r with
  | nil => rfl
  | cons a b => rfl
theorem op_eqE (hu : X.A.units < cLine) : OpR X (compareOp .Eq) (rEqE X.K) := by
  intro pins s σ H x y v u Q I rx ry h
  obtain ⟨a, b, xs, rfl, rfl, h, q⟩ := h
  cases (show v = Value.ref a from rx)
  cases (show u = Value.ref b from ry)
  rcases h with ⟨ha, hb⟩ | ⟨ha, hb⟩
  · obtain ⟨us, r1, p1, _⟩ := I.list ha
    obtain ⟨ws, r2, p2, _⟩ := I.list hb
    cases r2
    cases r1 with
    | nil => exact rcP_lists (e := fun _ => true) p1.isList p2.isList rfl hu (fun j h1 _ => absurd h1 (Nat.not_lt_zero _)) _ _ ⟨.bl true, H, I, rfl, q⟩
    | cons r t => exact rcP_list_size p1.isList p2.isList (by simp) hu _ _ ⟨.bl false, H, I, rfl, q⟩
  · obtain ⟨us, r1, p1, _⟩ := I.tuple ha
    obtain ⟨ws, r2, p2, _⟩ := I.tuple hb
    cases r2
    refine rcP_tup_eq p1 p2 hu _ _ ⟨.bl xs.isEmpty, H, I, ?_, q⟩
    rw [size_empty r1]
    exact rfl
theorem op_neE (hu : X.A.units < cLine) : OpR X (compareOp .NotEq) (rNeE X.K) := by
  intro pins s σ H x y v u Q I rx ry h
  obtain ⟨a, b, xs, rfl, rfl, ha, hb, q⟩ := h
  cases (show v = Value.ref a from rx)
  cases (show u = Value.ref b from ry)
  obtain ⟨us, r1, p1, _⟩ := I.tuple ha
  obtain ⟨ws, r2, p2, _⟩ := I.tuple hb
  cases r2
  refine rcP_tup_ne p1 p2 hu _ _ ⟨.bl (!xs.isEmpty), H, I, ?_, q⟩
  show Value.bool (!(us.toArray.size == 0)) = _
  rw [size_empty r1]
end
/-! ### steps -/
def MkN (C : Addr) (sp : Sp) (vs : List V) (E : XK) (Q : VK) (H : Hp) : Prop := ∀ x dx, H x = none → H dx = none → dx ≠ x → sp (.ref x :: vs) (upd (upd H dx (.own x)) x (.ins C dx [])) (fun v H2 => v = .non ∧ Q (.ref x) H2) E
def MkKN (C : Addr) (sp : Sp) (gV : List V → List V → List V) (vs zs : List V) (E : XK) (Q : VK) (H : Hp) : Prop := ∀ x dx, H x = none → H dx = none → dx ≠ x → sp (gV (.ref x :: vs) zs) (upd (upd H dx (.own x)) x (.ins C dx [])) (fun v H2 => v = .non ∧ Q (.ref x) H2) E
section
variable {K : PySem.W.Frag} {σ : L2.St} {H : Hp} {Q : VK} {ta : TE} {t : TA} {tk : TA} {C a b : Addr} {sp : Sp} {E : XK} {xs : List V} {n m : Nat} {gV : List V → List V → List V} {f : Str} {i : Int}
theorem r_eqEL (h : SqL K H a xs) (h2 : SqL K H b []) (q : Q (.bl xs.isEmpty) H) : rEqE K (.ref a) (.ref b) H Q := ⟨a, b, xs, rfl, rfl, .inl ⟨h, h2⟩, q⟩
theorem r_eqET (h : SqT K H a xs) (h2 : SqT K H b []) (q : Q (.bl xs.isEmpty) H) : rEqE K (.ref a) (.ref b) H Q := ⟨a, b, xs, rfl, rfl, .inr ⟨h, h2⟩, q⟩
theorem r_neET (h : SqT K H a xs) (h2 : SqT K H b []) (q : Q (.bl (!xs.isEmpty)) H) : rNeE K (.ref a) (.ref b) H Q := ⟨a, b, xs, rfl, rfl, h, h2, q⟩
instance : Step (tSMeth C sp E (tC (.ref C)) t σ H Q) (t σ H fun vs H2 => sp vs H2 Q E) := ⟨fun q => ⟨rfl, q⟩⟩
instance : Step (tMakeK C n m sp gV E t tk σ H Q) (t σ H fun vs H1 => tk σ H1 fun zs H2 => vs.length = n ∧ zs.length = m ∧ MkKN C sp gV vs zs E Q H2) := ⟨id⟩
instance {dvs : List V} : Step (tMake C sp dvs E t σ H Q) (t σ H fun vs H1 => MkN C sp (vs ++ dvs) E Q H1) := ⟨id⟩
end
end PW
/-! ### facts of an own class, as Bools -/
namespace PW
open PySem PySem.Spec PyProof.Rows L2
def insB (K : PySem.W.Frag) (C : Addr) : Bool := He.eqO (PySem.W.findIn K (.ref C) "__class__") (some (some (.builtin "object.__class__"))) && (He.eqO (PySem.W.specialIn K (.builtin "object.__class__") "__get__") (some (some (.builtin "getset_descriptor.__get__"))) &&
  (decide (PySem.W.takesIn K (.builtin "object.__class__") = some true) && (decide (PySem.W.mroIn K C (.type "object") = some true) && decide (PySem.W.kitOne K (.ref C) (.ref C) = some true))))
theorem insB_ok {K : PySem.W.Frag} {C : Addr} (k : Cls K C) (h : insB K C = true) : C8.InsC K C := by
  obtain ⟨h1, h⟩ := He.ba h
  obtain ⟨h2, h⟩ := He.ba h
  obtain ⟨h3, h⟩ := He.ba h
  obtain ⟨h4, h5⟩ := He.ba h
  exact ⟨k, He.eqO_ok h1, He.eqO_ok h2, of_decide_eq_true h3, of_decide_eq_true h4, of_decide_eq_true h5⟩
/-- isinstance between the class and built-in types: no -/
structure IsTys (K : PySem.W.Frag) (C : Addr) : Prop where
  l : ∀ n ∈ ["int", "bool", "str", "NoneType", "float", "list", "tuple", "dict"], PySem.W.kitOne K (.type n) (.ref C) = some false
  r : ∀ n ∈ ["int", "bool", "str", "list", "tuple", "dict"], PySem.W.kitOne K (.ref C) (.type n) = some false
def isTysB (K : PySem.W.Frag) (C : Addr) : Bool := (["int", "bool", "str", "NoneType", "float", "list", "tuple", "dict"].all fun n => decide (PySem.W.kitOne K (.type n) (.ref C) = some false)) && (["int", "bool", "str", "list", "tuple", "dict"].all fun n => decide (PySem.W.kitOne K (.ref C) (.type n) = some false))
theorem isTysB_ok {K : PySem.W.Frag} {C : Addr} (h : isTysB K C = true) : IsTys K C := by
  obtain ⟨h1, h2⟩ := He.ba h
  exact ⟨fun n hn => of_decide_eq_true (List.all_eq_true.mp h1 n hn), fun n hn => of_decide_eq_true (List.all_eq_true.mp h2 n hn)⟩
def smetB (K : PySem.W.Frag) (C : Addr) (m : Str) (p g : Addr) : Bool := PySem.W.readsIn K C (.type "type") && (He.eqO (PySem.W.specialIn K (.ref C) "__getattribute__") (some (some (.builtin "type.__getattribute__"))) &&
  ((match PySem.W.findCls K (.ref C) (.type "type") m with
    | some (.get (.builtin n) (.ref q) .none (.ref D)) => decide (n = "staticmethod.__get__") && (decide (q = p) && decide (D = C))
    | _ => false) && ((match PySem.W.recIn K p "staticmethod" with
    | some (.ref f :: _) => decide (f = g)
    | _ => false) && PySem.W.keepIn K (.ref g))))
theorem smetB_ok {K : PySem.W.Frag} {C : Addr} {m : Str} {p g : Addr} (h : smetB K C m p g = true) : SMet K C m p g := by
  obtain ⟨h1, h⟩ := He.ba h
  obtain ⟨h2, h⟩ := He.ba h
  obtain ⟨h3, h⟩ := He.ba h
  obtain ⟨h4, h5⟩ := He.ba h
  refine ⟨h1, He.eqO_ok h2, ?_, ?_, h5⟩
  · split at h3
    · rename_i n q D e
      obtain ⟨k1, k⟩ := He.ba h3
      obtain ⟨k2, k3⟩ := He.ba k
      rw [e, of_decide_eq_true k1, of_decide_eq_true k2, of_decide_eq_true k3]
    · cases h3
  · split at h4
    · rename_i f rest e
      rw [of_decide_eq_true h4] at e
      exact ⟨rest, e⟩
    · cases h4
def ownB (K : PySem.W.Frag) (C : Addr) (op : Operator) (g : Addr) : Bool := PySem.W.selfFirst K C && (He.eqO (PySem.W.findIn K (.ref C) (PySem.dunder op.info.2)) (some (some (.ref g))) && (PySem.W.isFn K (.ref g) &&
  ((match PySem.W.findIn K (.ref C) (dunderR op.info.2) with
    | some none => true
    | some (some (.ref _)) => true
    | _ => false) && ((PySem.W.findIn K (.type "int") (PySem.dunder op.info.2)).isSome && (PySem.W.findIn K (.type "int") (dunderR op.info.2)).isSome))))
theorem ownB_ok {K : PySem.W.Frag} {C : Addr} {op : Operator} {g : Addr} (h : ownB K C op g = true) : OwnB K C op g := by
  obtain ⟨h1, h⟩ := He.ba h
  obtain ⟨h2, h⟩ := He.ba h
  obtain ⟨h3, h⟩ := He.ba h
  obtain ⟨h4, h⟩ := He.ba h
  obtain ⟨h5, h6⟩ := He.ba h
  refine ⟨h1, He.eqO_ok h2, h3, ?_, Option.isSome_iff_exists.mp h5, Option.isSome_iff_exists.mp h6⟩
  split at h4
  · rename_i e
    exact ⟨none, e, .inl rfl⟩
  · rename_i a e
    exact ⟨_, e, .inr ⟨a, rfl⟩⟩
  · cases h4
def ownR (K : PySem.W.Frag) (C : Addr) (op : Operator) (g : Addr) : Bool := PySem.W.selfFirst K C && ((match PySem.W.findIn K (.ref C) (PySem.dunder op.info.2) with
    | some (some (.ref _)) => true
    | _ => false) && (He.eqO (PySem.W.findIn K (.ref C) (dunderR op.info.2)) (some (some (.ref g))) && (PySem.W.isFn K (.ref g) && (decide (PySem.W.subIn K (.ref C) (.type "int") = some false) &&
  ((match PySem.W.findIn K (.type "int") (PySem.dunder op.info.2) with
    | some fo => fo.isSome && !isSeqSlot fo
    | _ => false) && (PySem.W.findIn K (.type "int") (dunderR op.info.2)).isSome)))))
theorem ownR_ok {K : PySem.W.Frag} {C : Addr} {op : Operator} {g : Addr} (h : ownR K C op g = true) : OwnR K C op g := by
  obtain ⟨h1, h⟩ := He.ba h
  obtain ⟨h2, h⟩ := He.ba h
  obtain ⟨h3, h⟩ := He.ba h
  obtain ⟨h4, h⟩ := He.ba h
  obtain ⟨h5, h⟩ := He.ba h
  obtain ⟨h6, h7⟩ := He.ba h
  refine ⟨h1, ?_, He.eqO_ok h3, h4, of_decide_eq_true h5, ?_, Option.isSome_iff_exists.mp h7⟩
  · split at h2
    · rename_i a e
      exact ⟨a, e⟩
    · cases h2
  · split at h6
    · rename_i fo e
      obtain ⟨k1, k2⟩ := He.ba h6
      exact ⟨fo, e, k1, by simpa using k2⟩
    · cases h6
end PW
/-! ### readings of instances, of two and three names, of while -/
namespace PW
open PySem PySem.Spec PyProof.Rows L2
def ParN (i j : Nat) (nx : L2.St → Hp → Prop) (σ : L2.St) (vs : List V) (H : Hp) : Prop := ∃ v w, vs = [v, w] ∧ nx ((σ.set i (some v)).set j (some w)) H
def ParN3 (i j l : Nat) (nx : L2.St → Hp → Prop) (σ : L2.St) (vs : List V) (H : Hp) : Prop := ∃ u v w, vs = [u, v, w] ∧ nx (((σ.set i (some u)).set j (some v)).set l (some w)) H
section
variable {σ τ τ2 τ3 : L2.St} {H : Hp} {Q : VK} {D : Ends} {i j l : Nat} {ta : TA} {a b c : V} {nx : L2.St → Hp → Prop} {K : PySem.W.Frag} {te tv : TE}
instance : Step (tPar i j ta D σ H) (ta σ H fun vs H1 => ParN i j D.nx σ vs H1) := ⟨id⟩
instance [h1 : Put σ i a τ] [h2 : Put τ j b τ2] : Step (ParN i j nx σ [a, b] H) (nx τ2 H) := ⟨fun q => ⟨a, b, rfl, by rw [h1.eq, h2.eq]; exact q⟩⟩
instance : Step (tPar3 i j l ta D σ H) (ta σ H fun vs H1 => ParN3 i j l D.nx σ vs H1) := ⟨id⟩
instance [h1 : Put σ i a τ] [h2 : Put τ j b τ2] [h3 : Put τ2 l c τ3] : Step (ParN3 i j l nx σ [a, b, c] H) (nx τ3 H) := ⟨fun q => ⟨a, b, c, rfl, by rw [h1.eq, h2.eq, h3.eq]; exact q⟩⟩
instance {to : TE} : Step (tBits to σ H Q) (to σ H fun x H1 => ∃ i, x = .int i ∧ Q (.int (Builtin.Int.intBits i : Nat)) H1) := ⟨id⟩
def RevN (K : PySem.W.Frag) (Q : VK) (x : V) (H : Hp) : Prop := ∃ a xs, x = .ref a ∧ SqL K H a xs ∧ ∀ p, H p = none → Q (.ref p) (upd H p (.lst xs.reverse))
instance : Step (tRevL K te σ H Q) (te σ H fun x H1 => RevN K Q x H1) := ⟨id⟩
theorem r_rev {p : Addr} {xs : List V} (h : SqL K H p xs) (q : ∀ r, H r = none → Q (.ref r) (upd H r (.lst xs.reverse))) : RevN K Q (.ref p) H := ⟨p, xs, rfl, h, q⟩
def FldN (K : PySem.W.Frag) (f : Str) (Q : VK) (x : V) (H : Hp) : Prop := ∃ a C dx fs v, x = .ref a ∧ H a = some (.ins C dx fs) ∧ Cls K C ∧ NoAttr K C f ∧ fs.lookup f = some v ∧ Q v H
instance {f : Str} : Step (tFld K te f σ H Q) (te σ H fun x H1 => FldN K f Q x H1) := ⟨id⟩
theorem r_fld {p C dx : Addr} {fs : List (Str × V)} {f : Str} {v : V} (h : H p = some (.ins C dx fs)) (c : Cls K C) (n : NoAttr K C f) (l : fs.lookup f = some v) (q : Q v H) : FldN K f Q (.ref p) H := ⟨p, C, dx, fs, v, rfl, h, c, n, l, q⟩
def SFldN (K : PySem.W.Frag) (f : Str) (nx : L2.St → Hp → Prop) (σ : L2.St) (y x : V) (H : Hp) : Prop := ∃ a C dx fs, x = .ref a ∧ H a = some (.ins C dx fs) ∧ Cls K C ∧ NoAttr K C f ∧ fs.length < 1000 ∧ nx σ (upd H a (.ins C dx (putF f y fs)))
instance {f : Str} : Step (sFld K te tv f D σ H) (tv σ H fun y H1 => te σ H1 fun x H2 => SFldN K f D.nx σ y x H2) := ⟨id⟩
theorem r_sfld {p C dx : Addr} {fs : List (Str × V)} {f : Str} {y : V} (h : H p = some (.ins C dx fs)) (c : Cls K C) (n : NoAttr K C f) (l : fs.length < 1000) (q : nx σ (upd H p (.ins C dx (putF f y fs)))) : SFldN K f nx σ y (.ref p) H := ⟨p, C, dx, fs, rfl, h, c, n, l, q⟩
def MethN (C : Addr) (m : Str) (sp : Sp) (dvs : List V) (E : XK) (t : TA) (σ : L2.St) (Q : VK) (x : V) (H : Hp) : Prop := ∃ a dx fs, x = .ref a ∧ H a = some (.ins C dx fs) ∧ fs.lookup m = none ∧ t σ H fun vs H2 => sp (x :: (vs ++ dvs)) H2 Q E
instance {C : Addr} {m : Str} {sp : Sp} {dvs : List V} {E : XK} {t : TA} : Step (tMeth C m sp dvs E te t σ H Q) (te σ H fun x H1 => MethN C m sp dvs E t σ Q x H1) := ⟨id⟩
theorem r_methC {p C dx : Addr} {m : Str} {fs : List (Str × V)} {sp : Sp} {dvs : List V} {E : XK} {t : TA} (h : H p = some (.ins C dx fs)) (l : fs.lookup m = none) (q : t σ H fun vs H2 => sp (.ref p :: (vs ++ dvs)) H2 Q E) : MethN C m sp dvs E t σ Q (.ref p) H := ⟨p, dx, fs, rfl, h, l, q⟩
instance {T : String} {r : V → List V → Hp → VK → Prop} : Step (tBM0 K T r te σ H Q) (te σ H fun x H1 => tyV K T x H1 ∧ r x [] H1 Q) := ⟨id⟩
instance {T : String} {r : V → List V → Hp → VK → Prop} {t : TA} : Step (tBM K T r te t σ H Q) (te σ H fun x H1 => tyV K T x H1 ∧ t σ H1 fun xs H2 => r x xs H2 Q) := ⟨id⟩
theorem r_isiO {x : V} {C : Addr} {t : Value} {k : Bool} (h : TyX K H x t) (e : PySem.W.kitOne K t (.ref C) = some k) (q : Q (.bl k) H) : rIsi K [x, .ref C] H Q := ⟨x, .ref C, t, .ref C, k, rfl, .own C, h, e, q⟩
theorem r_isiC {x : V} {C : Addr} {n : String} {k : Bool} (h : TyX K H x (.ref C)) (e : PySem.W.kitOne K (.ref C) (.type n) = some k) (q : Q (.bl k) H) : rIsi K [x, .ty n] H Q := ⟨x, .ty n, .ref C, .type n, k, rfl, .ty n, h, e, q⟩
theorem ty_ins {p C dx : Addr} {fs : List (Str × V)} (i : C8.InsC K C) (h : H p = some (.ins C dx fs)) : TyX K H (.ref p) (.ref C) := .base (.ins h i.cl i.ha i.hn i.htk i.hm)
end
/-- while, by a word of a measure and the state -/
theorem while_it {c : TT} {tb : TS} {D : Ends} {σ : L2.St} {H : Hp} (Pv : Nat → L2.St → Hp → Prop) {m0 : Nat} (h0 : Pv m0 σ H)
    (hs : ∀ m σ H, Pv m σ H → c σ H fun b H1 => if b = true then ∃ N : L2.St → Hp → Prop, (∀ σ' H', N σ' H' → ∃ m', m' < m ∧ Pv m' σ' H') ∧ tb { D with nx := N, ct := N, bk := D.nx } σ H1 else D.nx σ H1) : tWhile c tb D σ H := ⟨Pv, ⟨m0, h0⟩, hs⟩
/-- .. a turn is taken -/
theorem r_turn {Pv : Nat → L2.St → Hp → Prop} {tb : TS} {D : Ends} {σ : L2.St} {H : Hp} {m : Nat} (h : tb { D with nx := fun σ' H' => ∃ m', m' < m ∧ Pv m' σ' H', ct := fun σ' H' => ∃ m', m' < m ∧ Pv m' σ' H', bk := D.nx } σ H) :
    ∃ N : L2.St → Hp → Prop, (∀ σ' H', N σ' H' → ∃ m', m' < m ∧ Pv m' σ' H') ∧ tb { D with nx := N, ct := N, bk := D.nx } σ H := ⟨fun σ' H' => ∃ m', m' < m ∧ Pv m' σ' H', fun _ _ h => h, h⟩
end PW
namespace PW
open PySem PySem.Spec PyProof.Rows L2
section
variable {H : Hp} {Q : VK} {K : PySem.W.Frag} {p b : Addr} {xs zs : List V} {y : V} {i : Int} {R : Prop}
theorem r_tyL (h : SqL K H p xs) (q : R) : tyV K "list" (.ref p) H ∧ R := ⟨Or.inl ⟨rfl, xs, h⟩, q⟩
theorem r_append (h : H p = some (.lst xs)) (l : xs.length < sizeLine) (q : Q .non (upd H p (.lst (xs ++ [y])))) : rAppend (.ref p) [y] H Q := ⟨p, xs, y, rfl, rfl, h, l, q⟩
theorem r_pop (h : H p = some (.lst xs)) (e : xs[xs.length - 1]? = some y) (q : Q y (upd H p (.lst xs.dropLast))) : rPop (.ref p) [] H Q := ⟨p, xs, y, rfl, rfl, h, e, q⟩
theorem r_insert (h : H p = some (.lst xs)) (l : xs.length < sizeLine) (h0 : 0 ≤ i) (h1 : i < 2 ^ 63) (q : Q .non (upd H p (.lst (xs.take i.toNat ++ [y] ++ xs.drop i.toNat)))) :
    ∃ (l : Addr) (ys : List V) (j : Int) (z : V), V.ref p = .ref l ∧ [V.int i, y] = [.int j, z] ∧ H l = some (.lst ys) ∧ ys.length < sizeLine ∧ 0 ≤ j ∧ j < 2 ^ 63 ∧ Q .non (upd H l (.lst (ys.take j.toNat ++ [z] ++ ys.drop j.toNat))) := ⟨p, xs, i, y, rfl, rfl, h, l, h0, h1, q⟩
theorem r_cat (h : H p = some (.lst xs)) (h2 : H b = some (.lst zs)) (l : xs.length + zs.length ≤ sizeLine) (q : ∀ r, H r = none → Q (.ref r) (upd H r (.lst (xs ++ zs)))) : rCat (.ref p) (.ref b) H Q := ⟨p, b, xs, zs, rfl, rfl, h, h2, l, q⟩
theorem r_sum {ns : List Int} (h : SqL K H p (ns.map V.int)) (q : Q (.int ns.sum) H) : rSum K [.ref p] H Q := ⟨p, ns, rfl, h, q⟩
end
end PW
namespace PW
open PySem PySem.Spec PyProof.Rows L2
theorem Ex.tupN {K : PySem.W.Frag} {p r : Addr} {o : HO} {H : Hp} {xs : List V} (h : H r = none) (q : SqT K H p xs) : SqT K (L2.upd H r o) p xs := (Ex.new h).tup q
theorem Ex.lstN {K : PySem.W.Frag} {p r : Addr} {o : HO} {H : Hp} {xs : List V} (h : H r = none) (q : SqL K H p xs) : SqL K (L2.upd H r o) p xs := (Ex.new h).lst q
end PW
namespace PW
open PySem PySem.Spec PyProof.Rows L2
theorem cx_K {CX : CXT} {P : Program} {w : World} {K : PySem.W.Frag} {mg : Str → Option Value} {base : Heap} {N : List Str} {qual : Str} {scope : Scope} {f : Addr} {cdv : Value} {A : Around} {outer : List Env} {s : Shared} {H : Hp} {E : XK} : (cxOf CX P w K mg base N qual scope f cdv A outer s H E).K = K := rfl
theorem nox_K {CX : CXT} {P : Program} {w : World} {K : PySem.W.Frag} {mg : Str → Option Value} {base : Heap} {N : List Str} {qual : Str} {scope : Scope} {f : Addr} {cdv : Value} {A : Around} {outer : List Env} {s : Shared} {H : Hp} {E : XK} : (cxOf CX P w K mg base N qual scope f cdv A outer s H E).nox.K = K := rfl
end PW
namespace PW
open PySem PySem.Spec PyProof.Rows L2
section
variable {X : Cx} {K : PySem.W.Frag}
theorem ix_seqK (h : X.K = K) : IxR X (rIx K) := by
  subst h
  exact ix_seq
theorem ix_listK (h : X.K = K) : IxR X (rIxL K) := by
  subst h
  exact ix_list
theorem ix_tupK (h : X.K = K) : IxR X (rIxT K) := by
  subst h
  exact ix_tup
end
end PW
namespace PW
open PySem PySem.Spec PyProof.Rows L2
theorem r_forP {J : It} {g : TG} {tb : TS} {D : Ends} {σ : L2.St} {H : Hp} (P : L2.St → Hp → Prop) (hq : ∀ σ' H', P σ' H' → D.nx σ' H') (h : ∀ N : L2.St → Hp → Prop, (∀ σ' H', P σ' H' → N σ' H') → ForW J g tb { D with nx := N } σ H) : ForW J g tb D σ H := h D.nx hq
theorem r_ifSP {t : TT} {s1 s2 : TS} {D : Ends} {σ : L2.St} {H : Hp} (P : L2.St → Hp → Prop) (hq : ∀ σ' H', P σ' H' → D.nx σ' H') (h : ∀ N : L2.St → Hp → Prop, (∀ σ' H', P σ' H' → N σ' H') → tIfS t s1 s2 { D with nx := N } σ H) : tIfS t s1 s2 D σ H := h D.nx hq
end PW
/-! ### own errors whose __init__ says super().__init__(), made -/
namespace PySem.W
open PySem PySem.Calls PyProof.Rows PySem.HandSPX
section
variable {prog : Program} {w : World} {A : Around} {E : Value → Shared → Prop} {h : Heap} {g : Array GenState} {d : Drawn} {t : Nat} {os : OsState}
variable {nm q : Str} {C N : Addr} {bs bm : List Value} {hdct : Bool} {sn : List Str} {sub : List Value} {ab : Bool} {col : Option Bool} {dd : Option Addr} {k0 k1 k2 k3 k5 : Option Value}
/-- the bound ValueError.__init__ called with nothing -/
theorem call_mwV {u e t0 : Addr} {Q : Value → Shared → Prop} (hC : h.get? C = some (excClassObj nm q C N bs bm hdct sn sub ab col dd k0 k1 k2 k3 k5 "ValueError.__new__")) (he : h.get? e = some (excO C t0)) (hu : h.get? u = some (kxs_mw "ValueError.__init__" e))
    (hq : ∀ h' t1, (∀ b o, b ≠ e → h.get? b = some o → h'.get? b = some o) → h'.get? e = some (excO C t1) → Q .none ⟨h', g, d, t, os⟩) : wpAny (model prog w) A (call (.ref u) []) Q E ⟨h, g, d, t, os⟩ := by
  have hmw : (Value.type "method-wrapper" == Value.type "method" || Value.type "method-wrapper" == Value.type "builtin_function_or_method" || Value.type "method-wrapper" == Value.type "method-wrapper") = true := by decide
  refine wpAny_call (codeAny_of_tree (show wpAny (model prog w) A.in1 (callAny (.ref u) ⟨[], []⟩) _ _ _ from ?_))
  simp only [callAny]
  refine wpAny_bind (wpAny_load hu ?_)
  simp only [kxs_mw, hmw, if_true]
  refine KFB.if_so (by decide) (wpAny_bind (ESX.check_bound F.excBase_ValueError hC he rfl (wpAny_bind (wpAny_pure (wpAny_pure ?_)))))
  refine ⟨plainId_quiet F.excBase_ValueError.init.plain _, codeAny_builtin F.excBase_ValueError.initEntry ?_⟩
  rw [Around.under_plainId F.excBase_ValueError.init.plain _]
  wp_walk
  exact hq _ h.objs.size (fun b o nb ob => (Heap.get?_update_other _ _ (Ne.symm nb)).trans (Heap.get?_push_of_some _ ob)) ((Heap.get?_update_self _ (Heap.get?_push_of_some _ he) rfl).trans rfl)
end
/-- what the written part says of the __init__ at fI of the class at C: super().__init__(); self.tag = ..; (self.x = x) -/
structure InitFn (K : Frag) (prog : Program) (C fI : Addr) (qual : Str) (params : Arguments) (body : List Stmt) (scope : Scope) : Prop where
  ex : ∃ (oc kV doc pm ct : Value) (od an : Option Addr) (osl : Array (Option Value)) (cc cda : Addr) (ccl cl : Value) (cdd cld : Option Addr) (vs : Array Value) (ccs csl : Array (Option Value)) (file : Str) (tf : Tok),
    K.lookup fI = some ⟨oc, od, .func (ksFn "__init__" qual params body scope .none kV doc pm an (.ref cda) ct cc), osl⟩ ∧ codeIn K (.ref cda) qual = true ∧ K.lookup cda = some ⟨ccl, cdd, .fields vs, ccs⟩ ∧ vs[2]? = some (.str file tf) ∧
      ((prog.main.file : Str) == file) = true ∧ K.lookup cc = some ⟨cl, cld, .cell (some (.ref C)), csl⟩
  sup : nsIn K mainGlobals "super" = some none
  top : (prog.main.scope.names.lookup ("super" : Str)).isSome = false
  any : nsIn K cStatics "thirdparty.any" = some none
  mro : ks_superIn K C C "__init__" = some (some (.builtin "ValueError.__init__"))
  sub : mroIn K C (.ref C) = some true
  ve : subIn K (.ref C) (.type "ValueError") = some true
section
variable {prog : Program} {w : World} {A : Around} {s : Shared} {K : Frag} {C fI : Addr} {qual : Str} {params : Arguments} {body : List Stmt} {scope : Scope} {mg mb : Str → Option Value}
/-- the end of an __init__: x has its dict -/
structure InitEnd (h h' : Heap) (x C dx t1 : Addr) (m : Str → Option Value) : Prop where
  keep : ∀ b o, b ≠ x → h.get? b = some o → h'.get? b = some o
  obj : h'.get? x = some { cls := .ref C, dict := some dx, data := .fields #[.ref t1, .none, .none, .none, .bool false, .none] }
  dbig : h.objs.size ≤ dx
  dne : dx ≠ x
  ns : h'.Ns1 dx m
theorem init_run (T : L2.OexC K C) (F : InitFn K prog C fI qual params body scope) {R : Result → Shared → Prop} {x t0 : Addr} {args : List Value} {binds : List (Str × Value)} (X : K.In s.heap) (hg : s.heap.Ns mainGlobals mg) (hb : s.heap.Ns builtinsNs mb) (hbs : mb "super" = some (.type "super"))
    (hlim : s.heap.NoLimit) (hx : s.heap.get? x = some (excO C t0)) (hroom : A.depth < recursionLimit)
    (hbind : ∀ (oc kV doc pm ct : Value) (an : Option Addr) (cc cda : Addr), BindsTo s (ksFn "__init__" qual params body scope .none kV doc pm an (.ref cda) ct cc) ⟨.ref x :: args, []⟩ binds)
    (hcell : ∀ y ∈ scope.names, y.2 ≠ .cell) (hloc : ∀ y ∈ binds, scope.names.lookup y.1 = some .local)
    (hco : scope.isCoroutine = false) (hgen : scope.isGenerator = false) (hk : scope.kind = .function)
    {p0 p1 p2 p3 p4 : Pos} {rest : List Stmt} {ar : Arg} {pl : Env → Sem Bool} (hmg : mg "super" = none) (hi : ∀ L cda cc, interactive (ksEnv qual scope L fI (.ref cda) cc) = false)
    (he : ∀ env : Env, eval (.Call (.Attribute (.Call (.Name "super" p0) [] [] p1) "__init__" p2) [] [] p3) env = (do
      let ov ← attributeBase (.Call (.Name "super" p0) [] [] p1) "__init__" env (eval (.Call (.Name "super" p0) [] [] p1) env)
      standAt p2.atName
      let (f, first) ← holding [ov] (getMethod ov "__init__" (pl env))
      callWith p3 f first (backTo p3 (starEach [] env)) [])) (hsw : ∀ env : Env, swapsWith (.Call (.Attribute (.Call (.Name "super" p0) [] [] p1) "__init__" p2) [] [] p3) none p4.line env = pure false)
    (hbody : body = .Expr (.Call (.Attribute (.Call (.Name "super" p0) [] [] p1) "__init__" p2) [] [] p3) p4 :: rest)
    (hp : (params.posonlyargs ++ params.args).head? = some ar) (hself : binds.reverse.lookup ar.arg = some (.ref x)) (hks : scope.names.lookup ("super" : Str) = some .globalImplicit) (hkc : scope.names.lookup ("__class__" : Str) = some .free) (hka : scope.names.lookup ar.arg = some .local)
    (h : ∀ (L cda cc : Addr) (s1 : Shared) (t1 : Addr), s1.os = s.os → s1.gens = s.gens → s1.drawn = s.drawn → s1.heap.Ns L (fun y => binds.reverse.lookup y) → s.heap.objs.size ≤ L → (∀ b o, b ≠ x → s.heap.get? b = some o → s1.heap.get? b = some o) → s1.heap.get? x = some (excO C t1) →
      wpAny (model prog w) (A.deeper (ksEnv qual scope L fI (.ref cda) cc)) (execs rest (ksEnv qual scope L fI (.ref cda) cc)) (fun f s' => R (.ok (.ret (match f with | .ret v => v | _ => .none))) s')
        (fun e s' => wpAny (model prog w) (A.deeper (ksEnv qual scope L fI (.ref cda) cc)) (leaving (ksEnv qual scope L fI (.ref cda) cc) e) (fun _ s'' => R (.error e) s'') (fun e' s'' => R (.error e') s'') s') s1) :
    codeAny (model prog w) A (.call (.ref fI) ⟨.ref x :: args, []⟩) R s := by
  obtain ⟨oc, kV, doc, pm, ct, od, an, osl, cc, cda, ccl, cl, cdd, cld, vs, ccs, csl, file, tf, lk, hcd, lc, hvs, hfile, lcc⟩ := F.ex
  obtain ⟨nm, q, N, bs, bm, sn, sub, ab, col, dd, k0, k1, k2, k3, k5, hC, hbm⟩ := T.cls
  have hcl : clsIn K C = some { name := nm, bases := bs, mro := .ref C :: bm, ns := N, qualname := q, hasDict := true, slotNames := sn, subclasses := sub, abstract := ab, collection := col, hasDel := false } := by unfold clsIn; rw [hC] <;> rfl
  refine ks_codeAny_call_defAt (fd := ksFn "__init__" qual params body scope .none kV doc pm an (.ref cda) ct cc) (body := body) (binds := binds) hroom (X _ _ lk) rfl hlim (codeRec_of X hcd) rfl (hbind oc kV doc pm ct an cc cda) hcell hloc (fun h₁ hns kp => ?_) hco hgen hk
  subst hbody
  have X1 : K.In h₁ := X.keeps kp
  have hx1 := kp _ _ hx
  have xL : s.heap.objs.size ≠ x := Nat.ne_of_gt (Heap.lt_size hx)
  have xC : x ≠ C := fun z => by
    have z1 := X _ _ hC
    rw [← z, hx] at z1
    cases z1
  obtain ⟨hh, g, d, t, os⟩ := s
  refine ks_wpAt_execs_cons (ks_wpAt_Expr_any (ks_wpAt_MethodCall (pl := pl (ksEnv qual scope hh.objs.size fI (.ref cda) cc)) ?_ (he _)) (hi _ _ _) (hsw _))
  refine ks_wpAt_super_base (env := ksEnv qual scope hh.objs.size fI (.ref cda) cc) hks hkc rfl rfl (X1 _ _ lk) rfl hp rfl (X1 _ _ lc) rfl hvs hfile F.top ?_
  refine ks_loadName_global hk hks (loadGlobal_builtin (env := ksEnv qual scope hh.objs.size fI (.ref cda) cc) (hg.keeps kp) hmg (hb.keeps kp) hbs ⟨rfl, ?_⟩)
  refine wpAny_loadName_free hk hkc rfl ⟨_, X1 _ _ lcc, rfl⟩ (wpAny_loadName_local hk hka hns hself ?_)
  refine ks_wpAny_isType_cls (X1 _ _ hC) rfl ⟨rfl, ?_⟩
  refine ks_wpAny_call_super (X1 _ _ hC) rfl hx1 rfl (fun c e => by cases e) (looks_mroIn X1 F.sub) (fun h2 e2 k2 => ?_)
  have X2 : K.In h2 := X1.keeps k2
  have I2 : InstAt h2 x (excO C t0) C none := ⟨k2 _ _ hx1, rfl, rfl, trivial⟩
  have hmro := F.mro
  unfold ks_superIn at hmro
  rw [hcl] at hmro
  refine kxs_getMethod kxs_ValueError e2 (looks_opaque X2 F.any) (l₀ := .ref C :: bm) (fun A Q E s k q => wpAny_bind ((looks_clsIn X2 hcl) A _ E s k (wpAny_pure q))) rfl X2 hmro (I2.type.andThen (looks_subIn X2 F.ve)) xC rfl ?_
  have k3 : ∀ b o, h2.get? b = some o → (h2.push (kxs_mw "ValueError.__init__" x)).get? b = some o := fun b o e => Heap.get?_push_of_some _ e
  refine kxs_callWith (i := "ValueError.__init__") (x := x) rfl (evalArgs_empty ⟨Heap.get?_push_at rfl rfl, ?_⟩)
  refine call_mwV (k3 _ _ (X2 _ _ hC)) (k3 _ _ (k2 _ _ hx1)) (Heap.get?_push_at rfl rfl) fun h4 t1 k4 hx4 => ?_
  have kk : ∀ b o, b ≠ x → h₁.get? b = some o → h4.get? b = some o := fun b o nb e => k4 b o nb (k3 b o (k2 b o e))
  refine wpAt_of_wpAny (h hh.objs.size cda cc ⟨h4, g, d, _, os⟩ t1 rfl rfl rfl ?_ (Nat.le_refl _) (fun b o nb e => kk b o nb (kp b o e)) hx4)
  exact hns.at fun o e => kk _ o xL e
theorem in_but {K : Frag} {h h' : Heap} {x : Addr} (X : K.In h) (hx : K.lookup x = none) (k : ∀ b o, b ≠ x → h.get? b = some o → h'.get? b = some o) : K.In h' := fun a o e => k a o (fun z => by
  rw [z, hx] at e
  cases e) (X a o e)
/-- self.tag = t; self.f = f -/
theorem init1_run (T : L2.OexC K C) {R : Result → Shared → Prop} {A' : Around} {L cda cc x t1 : Addr} {m : Str → Option Value} {tag fld : Str} {v : Value} {q1 q2 q3 q4 r1 r2 r3 r4 : Pos} {j : Nat} {EE : Value → Shared → Prop} (X : K.In s.heap) (hn : s.heap.Ns L m) (hms : m "self" = some (.ref x)) (hmv : m fld = some v)
    (hx : s.heap.get? x = some (excO C t1)) (xK : K.lookup x = none) (hxL : L ≠ x) (hk : scope.kind = .function) (hl1 : scope.names.lookup ("self" : Str) = some .local) (hl2 : scope.names.lookup fld = some .local) (hd2 : (fld == ("__debug__" : Str)) = false) (n1 : findIn K (.ref C) "tag" = some none) (n2 : findIn K (.ref C) fld = some none)
    (h : ∀ (h' : Heap) (tk dx : Nat) (tu : Tok), InitEnd s.heap h' x C dx t1 (fun y => if y = fld then some v else if y = "tag" then some (.str tag tu) else none) → R (.ok (.ret .none)) { s with heap := h', toks := tk }) :
    wpAny (model prog w) A' (execs [.Assign [.Attribute (.Name "self" q1) "tag" q2] (.Constant (.str tag) j q3) q4, .Assign [.Attribute (.Name "self" r1) fld r2] (.Name fld r3) r4] (ksEnv qual scope L fI (.ref cda) cc)) (fun f s' => R (.ok (.ret (match f with | .ret v => v | _ => .none))) s') EE s := by
  obtain ⟨nm, q, N, bs, bm, sn, sub, ab, col, dd, k0, k1, k2, k3, k5, hC, hbm⟩ := T.cls
  have hcl : clsIn K C = some { name := nm, bases := bs, mro := .ref C :: bm, ns := N, qualname := q, hasDict := true, slotNames := sn, subclasses := sub, abstract := ab, collection := col, hasDel := false } := by unfold clsIn; rw [hC] <;> rfl
  refine wpAny_execs_cons (plainObj_wpAny_Assign_Attribute (wpAny_Constant_str (wpAny_Name (wpAny_loadName_local hk hl1 hn hms ?_) (by decide))))
  obtain ⟨hp, g, d, t, os⟩ := s
  refine set_plain (s := ⟨hp, g, d, t + 1, os⟩) X (ox := excO C t1) (od := none) ⟨hx, rfl, rfl, trivial⟩ T.sa ?_
  refine exc_osa X hx hcl (show refsVE (.ref C :: bm) = true from hbm) rfl n1 (fun h3 tk3 dx kp dn dne hx3 hn3 => ?_)
  have X3 : K.In h3 := in_but X xK kp
  have hn4 : h3.Ns L m := hn.at fun o e => kp _ o hxL e
  show wpAny _ _ (execs _ _) _ _ ⟨h3, g, d, tk3, os⟩
  refine wpAny_execs_cons (plainObj_wpAny_Assign_Attribute (wpAny_Name (wpAny_loadName_local hk hl2 hn4 hmv (wpAny_Name (wpAny_loadName_local hk hl1 hn4 hms ?_) (by decide))) hd2))
  obtain ⟨oD, esD, epD, hoD, hdD, hcD⟩ := id hn3
  refine set_plain (s := ⟨h3, g, d, tk3, os⟩) X3 (ox := { cls := .ref C, dict := some dx, data := .fields #[.ref t1, .none, .none, .none, .bool false, .none] }) (od := some oD) ⟨hx3, rfl, rfl, hoD⟩ T.sa ?_
  refine OEX.osa_old (nl := ["tag"]) X3 hx3 hn3 (Within.cons "tag" _ Within.nil) (by decide) hcl (show refsVE (.ref C :: bm) = true from hbm) rfl n2 (fun h5 tk5 kp5 hn5 => ?_)
  show wpAny _ _ (execs _ _) _ _ ⟨h5, g, d, tk5, os⟩
  refine wpAny_execs_nil (h h5 tk5 dx _ ⟨fun b o nb e => kp5 b o (Nat.ne_of_lt (Nat.lt_of_lt_of_le (Heap.lt_size e) dn)) (kp b o nb e), kp5 _ _ dne.symm hx3, dn, dne, hn5⟩)
/-- self.tag = t -/
theorem init0_run (T : L2.OexC K C) {R : Result → Shared → Prop} {A' : Around} {L cda cc x t1 : Addr} {m : Str → Option Value} {tag : Str} {q1 q2 q3 q4 : Pos} {j : Nat} {EE : Value → Shared → Prop} (X : K.In s.heap) (hn : s.heap.Ns L m) (hms : m "self" = some (.ref x))
    (hx : s.heap.get? x = some (excO C t1)) (hk : scope.kind = .function) (hl1 : scope.names.lookup ("self" : Str) = some .local) (n1 : findIn K (.ref C) "tag" = some none)
    (h : ∀ (h' : Heap) (tk dx : Nat) (tu : Tok), InitEnd s.heap h' x C dx t1 (fun y => if y = "tag" then some (.str tag tu) else none) → R (.ok (.ret .none)) { s with heap := h', toks := tk }) :
    wpAny (model prog w) A' (execs [.Assign [.Attribute (.Name "self" q1) "tag" q2] (.Constant (.str tag) j q3) q4] (ksEnv qual scope L fI (.ref cda) cc)) (fun f s' => R (.ok (.ret (match f with | .ret v => v | _ => .none))) s') EE s := by
  obtain ⟨nm, q, N, bs, bm, sn, sub, ab, col, dd, k0, k1, k2, k3, k5, hC, hbm⟩ := T.cls
  have hcl : clsIn K C = some { name := nm, bases := bs, mro := .ref C :: bm, ns := N, qualname := q, hasDict := true, slotNames := sn, subclasses := sub, abstract := ab, collection := col, hasDel := false } := by unfold clsIn; rw [hC] <;> rfl
  refine wpAny_execs_cons (plainObj_wpAny_Assign_Attribute (wpAny_Constant_str (wpAny_Name (wpAny_loadName_local hk hl1 hn hms ?_) (by decide))))
  obtain ⟨hp, g, d, t, os⟩ := s
  refine set_plain (s := ⟨hp, g, d, t + 1, os⟩) X (ox := excO C t1) (od := none) ⟨hx, rfl, rfl, trivial⟩ T.sa ?_
  refine exc_osa X hx hcl (show refsVE (.ref C :: bm) = true from hbm) rfl n1 (fun h3 tk3 dx kp dn dne hx3 hn3 => ?_)
  show wpAny _ _ (execs _ _) _ _ ⟨h3, g, d, tk3, os⟩
  exact wpAny_execs_nil (h h3 tk3 dx _ ⟨kp, hx3, dn, dne, hn3⟩)
/-- a made error -/
structure ExcMade (h h' : Heap) (e C d : Addr) (m : Str → Option Value) : Prop where
  keep : ∀ b o, h.get? b = some o → h'.get? b = some o
  new : h.objs.size ≤ e
  obj : ∃ oe vs, h'.get? e = some oe ∧ oe.cls = .ref C ∧ oe.dict = some d ∧ oe.data = .fields vs ∧ vs[1]? = some .none
  dbig : h.objs.size ≤ d
  dne : d ≠ e
  ns : h'.Ns1 d m
/-- C(..): given what its __init__ does -/
theorem exc_made (T : L2.OexC K C) (iC : findIn K (.ref C) "__init__" = some (some (.ref fI))) (tC : typeIn K (.ref fI) = some (.type "function")) {R : Result → Shared → Prop} {args : List Value} (X : K.In s.heap) (hz : args.length ≤ sizeLine)
    {M : (Str → Option Value) → Prop}
    (hinit : ∀ (A' : Around) (h2 : Heap) (x t0 : Addr) (R' : Result → Shared → Prop), A'.depth = A.depth + 1 → (∀ b o, s.heap.get? b = some o → h2.get? b = some o) → K.lookup x = none → h2.get? x = some (excO C t0) →
      (∀ (h' : Heap) (tk dx t1 : Nat) (m : Str → Option Value), M m → InitEnd h2 h' x C dx t1 m → R' (.ok (.ret .none)) ⟨h', s.gens, s.drawn, tk, s.os⟩) → codeAny (model prog w) A' (.call (.ref fI) ⟨.ref x :: args, []⟩) R' ⟨h2, s.gens, s.drawn, s.toks, s.os⟩)
    (hq : ∀ h' tk e d m, M m → ExcMade s.heap h' e C d m → R (.ok (.ret (.ref e))) { s with heap := h', toks := tk }) : codeAny (model prog w) A (.call (.ref C) ⟨args, []⟩) R s := by
  obtain ⟨nm, q, N, bs, bm, sn, sub, ab, col, dd, k0, k1, k2, k3, k5, hC, hbm⟩ := T.cls
  obtain ⟨hp, g, dr, tk, os⟩ := s
  have kp : ∀ b o, hp.get? b = some o → ((hp.push (kdv_tup args)).push (excO C hp.objs.size)).get? b = some o := fun b o e => Heap.get?_push_of_some _ (Heap.get?_push_of_some _ e)
  have hget : ((hp.push (kdv_tup args)).push (excO C hp.objs.size)).get? (hp.objs.size + 1) = some (excO C hp.objs.size) := by heap_get
  have xK : K.lookup (hp.objs.size + 1) = none := by
    cases e : K.lookup (hp.objs.size + 1) with
    | none => rfl
    | some o => exact absurd (Nat.lt_of_succ_lt (Heap.lt_size (show hp.get? (hp.objs.size + 1) = some o from X _ _ e))) (Nat.lt_irrefl _)
  refine call_own F.excBase_ValueError (fun Y => refsVE_contains Y bm hbm) (X _ _ hC) (looks_findIn X iC) (fun self => bind_fn X self tC) hz ?_
  refine hinit _ _ _ hp.objs.size _ rfl kp xK hget fun h' tk' dx t1 m hm ⟨k', hx, dn, dne, hns⟩ => ?_
  have old : ∀ b o, hp.get? b = some o → h'.get? b = some o := fun b o e => k' b o (Nat.ne_of_lt (Nat.lt_succ_of_lt (Heap.lt_size e))) (kp b o e)
  have zz : hp.objs.size + 1 + 1 ≤ dx := by
    have z := dn
    rw [Heap.size_push, Heap.size_push] at z
    exact z
  exact ⟨rfl, hq h' tk' (hp.objs.size + 1) dx m hm ⟨old, Nat.le_succ _, ⟨_, _, hx, rfl, rfl, rfl, rfl⟩, Nat.le_trans (Nat.le_trans (Nat.le_succ _) (Nat.le_succ _)) zz, dne, hns⟩⟩
end
end PySem.W
/-! ### own errors in the hand layer -/
namespace PW
open PySem PySem.Spec PyProof.Rows L2
/-- C(v) makes an error of C with tag and field -/
def Makes1 (P : Program) (w : World) (K : PySem.W.Frag) (mg : Str → Option Value) (C : Addr) (tag fld : Str) : Prop :=
  ∀ (A : Around) (s : Shared) (v : Value) (R : Result → Shared → Prop), K.In s.heap → s.heap.Ns mainGlobals mg → (∃ mb, s.heap.Ns builtinsNs mb ∧ ∀ x : Str, x ≠ "__name__" → mb x = bootBuiltins x) → s.heap.NoLimit → A.depth + 1 < recursionLimit →
    (∀ (h' : Heap) (tk e d : Nat) (tu : Tok), PySem.W.ExcMade s.heap h' e C d (fun y => if y = fld then some v else if y = "tag" then some (.str tag tu) else none) → R (.ok (.ret (.ref e))) { s with heap := h', toks := tk }) →
      codeAny (model P w) A (.call (.ref C) ⟨[v], []⟩) R s
/-- C() makes an error of C with its tag -/
def Makes0 (P : Program) (w : World) (K : PySem.W.Frag) (mg : Str → Option Value) (C : Addr) (tag : Str) : Prop :=
  ∀ (A : Around) (s : Shared) (R : Result → Shared → Prop), K.In s.heap → s.heap.Ns mainGlobals mg → (∃ mb, s.heap.Ns builtinsNs mb ∧ ∀ x : Str, x ≠ "__name__" → mb x = bootBuiltins x) → s.heap.NoLimit → A.depth + 1 < recursionLimit →
    (∀ (h' : Heap) (tk e d : Nat) (tu : Tok), PySem.W.ExcMade s.heap h' e C d (fun y => if y = "tag" then some (.str tag tu) else none) → R (.ok (.ret (.ref e))) { s with heap := h', toks := tk }) →
      codeAny (model P w) A (.call (.ref C) ⟨[], []⟩) R s
def tMk1 (C : Addr) (tag fld : Str) (ta : TA) : L2.St → Hp → XK → Prop := fun σ H Q => ta σ H fun vs H1 => ∃ v, vs = [v] ∧ ∀ d, H1 d = none → Q (.ref C) (some d) (upd H1 d (.xd [(fld, v), ("tag", .str tag)]))
def tMk0 (C : Addr) (tag : Str) : L2.St → Hp → XK → Prop := fun σ H Q => ∀ d, H d = none → Q (.ref C) (some d) (upd H d (.xd [("tag", .str tag)]))
section
variable {X : Cx} {C : Addr} {pins : List (Addr × Obj)} {σ : L2.St} {H : Hp} {Q : XK}
/-- what a made error leaves -/
theorem mkP_of {h h' : Heap} {g : Array GenState} {dr : Drawn} {t t' : Nat} {os : OsState} {e d : Addr} {m : Str → Option Value} {fs : List (Str × V)} (I : Inv X pins σ H ⟨h, g, dr, t, os⟩) (M : PySem.W.ExcMade h h' e C d m) (r : ∀ f, RelO (fs.lookup f) (m f)) (hr : Raises X (.ref C)) (q : Q (.ref C) (some d) (upd H d (.xd fs))) :
    MkP X pins σ Q (.ref e) ⟨h', g, dr, t', os⟩ := by
  obtain ⟨oe, fv, hoe, hc, hd, hdat, h1⟩ := M.obj
  obtain ⟨G, g1, g2⟩ := restrict h' fun b => decide (b ≠ e)
  have gk : ∀ b, b ≠ e → G.get? b = h'.get? b := fun b hb => g1 b (decide_eq_true hb)
  have ge : G.get? e = none := g2 e (by simp)
  have old : ∀ b o, h.get? b = some o → G.get? b = some o := fun b o z => (gk b (Nat.ne_of_lt (Nat.lt_of_lt_of_le (Heap.lt_size z) M.new))).trans (M.keep b o z)
  have ob : ObjOk X.prog X.w (upd H d (.xd fs)) G d (.xd fs) := ⟨_, M.ns.at (fun o z => (gk d M.dne).trans z), r⟩
  have J : Inv X pins σ (upd H d (.xd fs)) ⟨G, g, dr, t', os⟩ := I.laid (t' := t') old M.dbig ob
  refine ⟨e, oe, fv, ⟨G, g, dr, t', os⟩, _, .ref C, some d, rfl, J, fun b o z => ?_, ge, hoe, ⟨hc, hd⟩, hdat, h1, (upd_ne (Ne.symm M.dne)).trans (I.hok.fresh M.new), rfl, I.bare, hr, q⟩
  have hb : b ≠ e := fun hb => by
    rw [hb] at z
    rw [show G.get? e = some o from z] at ge
    cases ge
  exact (gk b hb).symm.trans z
section
variable {a : Expr} {ta : TA} {p pos : Pos} {x tag fld : Str} {k : Nat}
theorem pmk1 (M : Makes1 X.prog X.w X.K X.mg C tag fld) (hnf : fld ≠ "tag") (rs : Raises X (.ref C)) (kC : PySem.W.keepIn X.K (.ref C) = true) (gC : X.mg x = some (.ref C)) (hr : Room k X.A) (ha : PA X [a] ta) (hg : Gl X x) (hdb : (x == ("__debug__" : Str)) = false := by decide)
    (he : starEach (a :: []) X.env = (false, eval a X.env) :: starEach [] X.env := by rfl) (hpl : (backTo pos (starEach [] X.env)).any (·.1) = false := by rfl) : PMk X (.Call (.Name x p) [a] [] pos) (tMk1 C tag fld ta) := by
  intro pins s σ H Q I h
  refine wpAny_Call_Name_kw (ld_glob I hg gC ?_ hdb)
  refine PySem.W.callWith_K (h₀ := X.base) I.ok.mod.kin kC (thn (ha.run pos pins s σ H _ I h) fun us s1 hh => ?_) he hpl
  obtain ⟨vs, H1, I1, r1, v, rfl, q1⟩ := hh
  refine ⟨I1.kIn, ?_⟩
  cases r1 with
  | cons rv rn =>
    rename_i v' us'
    cases rn
    obtain ⟨hp, g, dr, tk, os⟩ := s1
    obtain ⟨mb, b1, b2⟩ := I1.mod.blt
    refine wpAny_call (M X.A _ v' _ I1.kIn (I1.mod.glob.keeps I1.bk) ⟨mb, b1.keeps I1.bk, b2⟩ I1.nolimit (by have := hr.dp; omega) fun h' tk' e d tu ME => ?_)
    exact mkP_of I1 ME (relO_put rv (relO_put (y := .str tag) (fs := []) ⟨tu, rfl⟩ fun g => True.intro)) rs (q1 d (I1.hok.fresh ME.dbig))
theorem pmk0 (M : Makes0 X.prog X.w X.K X.mg C tag) (rs : Raises X (.ref C)) (kC : PySem.W.keepIn X.K (.ref C) = true) (gC : X.mg x = some (.ref C)) (hr : Room k X.A) (hg : Gl X x) (hdb : (x == ("__debug__" : Str)) = false := by decide) : PMk X (.Call (.Name x p) [] [] pos) (tMk0 C tag) := by
  intro pins s σ H Q I h
  refine wpAny_Call_Name_kw (ld_glob I hg gC ?_ hdb)
  obtain ⟨hp, g, dr, tk, os⟩ := s
  obtain ⟨mb, b1, b2⟩ := I.mod.blt
  refine PySem.W.callWith_K0 I.kIn kC (wpAny_call (M X.A _ _ I.kIn (I.mod.glob.keeps I.bk) ⟨mb, b1.keeps I.bk, b2⟩ I.nolimit (by have := hr.dp; omega) fun h' tk' e d tu ME => ?_))
  exact mkP_of I ME (relO_put (y := .str tag) (fs := []) ⟨tu, rfl⟩ fun g => True.intro) rs (h d (I.hok.fresh ME.dbig))
end
end
end PW
/-! ### an error caught: from then on it is known by its class and its dict -/
namespace PW
open PySem PySem.Spec PyProof.Rows L2
/-- an error that stands -/
def excE (a : Addr) (cls : Value) (d : Option Addr) : HO := .ext fun h => ∃ oe vs, h.get? a = some oe ∧ Zc cls d oe ∧ oe.data = .fields vs
theorem excE_ok {P : Program} {w : World} {H : Hp} {h : Heap} {a : Addr} {cls : Value} {d : Option Addr} {oe : Obj} {vs : Array Value} (he : h.get? a = some oe) (hz : Zc cls d oe) (hd : oe.data = .fields vs) : ObjOk P w H h a (excE a cls d) :=
  ⟨⟨oe, vs, he, hz, hd⟩, ⟨oe, he⟩, fun _ _ ⟨oe, vs, e1, e2, e3⟩ st => ⟨oe, vs, st _ e1, e2, e3⟩⟩
section
variable {X : Cx} {pins pn' : List (Addr × Obj)} {σ : L2.St} {H : Hp} {s : Shared} {a : Addr}
theorem adopt {cls : Value} {d : Option Addr} {oe : Obj} {vs : Array Value} (I : Inv X pins σ H s) (na : H a = none) (n0 : X.s_0.heap.get? a = none) (he : s.heap.get? a = some oe) (hz : Zc cls d oe) (hd : oe.data = .fields vs) (nL : a ≠ X.env.locals) (np : ∀ p ∈ X.pn ++ pins, p.1 ≠ a) :
    Inv X pins σ (upd H a (excE a cls d)) s := by
  have sm : ∀ {b : Addr} {o : HO}, H b = some o → upd H a (excE a cls d) b = some o := fun {b o} e => (upd_ne (ne_of_none e na)).trans e
  have nn : ∀ {b : Addr}, b ≠ a → H b = none → upd H a (excE a cls d) b = none := fun {b} hb e => (upd_ne hb).trans e
  refine ⟨I.ok, I.os, I.bare, ⟨I.base.keep, I.base.slot, fun b o e n hx => nn (fun z => ?_) (I.base.free b o e n hx), I.base.there, fun b xs e => sm (I.base.tups b xs e), fun b o u e => sm (I.base.frzs b o u e), fun b ps e => ?_⟩, I.loc, I.cell, nn nL.symm I.free, fun x c e => nn (fun z => ?_) (I.freeC x c e), fun p hp => ?_, fun b o e => ?_, I.len⟩
  · rw [z, n0] at e
    cases e
  · obtain ⟨more, z⟩ := I.base.tbls b ps e
    exact ⟨more, sm z⟩
  · obtain ⟨v, o, ho, hc⟩ := I.cell x c e
    rw [z, he] at ho
    cases ho
    rw [hd] at hc
    cases hc
  · obtain ⟨a1, a2, a3⟩ := I.pin p hp
    exact ⟨a1, nn (np p hp) a2, a3⟩
  · by_cases hb : b = a
    · subst hb
      rw [upd_same] at e
      cases e
      exact excE_ok he hz hd
    · rw [upd_ne hb] at e
      exact (I.hok b o e).stay (fun _ _ _ q => q) (fun c q => sm q) fun c xs q => sm q
theorem inE (I : Inv X pins σ H s) : Inv (X.suite a (X.pn ++ pins)) [] σ H s := ⟨I.ok.suite _ _, I.os, I.bare, I.base, I.loc, I.cell, I.free, I.freeC, fun p hp => I.pin p (by rw [List.append_nil] at hp; exact hp), I.hok, I.len⟩
theorem outE (I : Inv (X.suite a (X.pn ++ pins)) pn' σ H s) (ok : X.Ok) : Inv X pins σ H s := ⟨ok, I.os, I.bare, I.base, I.loc, I.cell, I.free, I.freeC, fun p hp => I.pin p (List.mem_append_left _ hp), I.hok, I.len⟩
end
theorem flyZ_keeps {B h h' : Heap} {l : List Env} {e : Addr} {Z : Obj → Prop} (f : PySem.HandSPX.FlyingZ B l e Z h) (k : ∀ b o, h.get? b = some o → h'.get? b = some o) : PySem.HandSPX.FlyingZ B l e Z h' := by
  obtain ⟨f1, f2, f3, oe, vs, T, oT, ts, he, hz, hd, h1, hn, hne, hT, hdT, h3⟩ := f
  exact ⟨fun b o q => k b o (f1 b o q), f2, f3.of_keeps fun b o q _ => ⟨o, k b o q, rfl⟩, oe, vs, T, oT, ts, k _ _ he, hz, hd, h1, hn, hne, k _ _ hT, hdT, h3⟩
/-- what 'except (c1, c2, ..) as n' wishes: the error is one of these -/
def wAsE (K : PySem.W.Frag) (N : List Str) (cs : List Value) (i : Nat) (ts : Addr → Value → Option Addr → TS) (D : Ends) : WX := fun cls d σ H => PySem.W.exmAny K cls cs = some true ∧
  ∀ a, H a = none → σ.length = N.length → ts a cls d { nx := fun σ' H' => D.nx (σ'.set i none) H', rt := D.rt, bk := fun σ' H' => D.bk (σ'.set i none) H', ct := fun σ' H' => D.ct (σ'.set i none) H' } (σ.set i (some (.ref a))) (upd H a (excE a cls d))
section
variable {X : Cx} {x1 x2 x3 n : Str} {c1 c2 c3 : Value} {i kk : Nat} {body suite : List Stmt} {b₀ : Stmt} {p1 p2 p3 pt pos pos' : Pos} {tb : WX → TS} {ts : Addr → Value → Option Addr → TS}
theorem ps_try_e3 (hex : X.ex = []) (hs : X.stack = X.env :: X.outer) (hf : X.env.frame = some X.env.locals) (hN : X.N.Nodup) (hi : X.N[i]? = some n) (hln : X.env.kindOf n = some .local) (hc1 : Names X x1 c1) (hc2 : Names X x2 c2) (hc3 : Names X x3 c3)
    (hb : ∀ (W : WX) (pn : List (Addr × Obj)) (xe : Value → Shared → Prop), Takes (X.tr pn xe) W → PassesOwn (model X.prog X.w) X.A X.env xe → PSs (X.tr pn xe) body (tb W))
    (hsu : ∀ (a : Addr) (cls : Value) (d : Option Addr) (pn : List (Addr × Obj)), PSs (X.suite a pn) (b₀ :: suite) (ts a cls d)) :
    PS X (.Try body [.ExceptHandler (some (.Tuple [.Name x1 p1, .Name x2 p2, .Name x3 p3] kk pt)) (some n) (b₀ :: suite) pos'] [] [] pos) (fun D σ H => tb (wAsE X.K X.N [c1, c2, c3] i ts D) D σ H) := by
  refine ⟨fun pins s σ H D I h => wpAny_Try_except ?_⟩
  have okX := I.ok
  have frm : X.A.frames = some (X.env :: X.outer) := okX.frames.trans (congrArg some hs)
  refine wpAny_mono ((hb (wAsE X.K X.N [c1, c2, c3] i ts D) (X.pn ++ pins) _ (fun u s' xx => ?_) PassesOwn.looking).run [] s σ H D (I.toTry _) h) (fun f s1 hsp => ?_) (fun e s1 he => he)
  · obtain ⟨a, B, sI, pins', σ', H', cls, d, rfl, JT, nb, up, sky, na, os, ag, hm, hyes⟩ := xx
    have JX : Inv X pins σ' H' sI := JT.ofTry okX
    rw [hs] at sky
    refine (show wpAny (model X.prog X.w) X.A (noteFrame (.ref a) X.env) _ _ _ from Sky.land Zc.steady frm hf sky fun g3 f3 u3 => ?_)
    have J3 : Inv X pins σ' H' { s' with heap := g3 } := JX.landed nb f3.1 (up.trans u3) os ag
    obtain ⟨oe3, vs3, he3, hz3, hd3⟩ := f3.there
    have nfr : a ∉ frs (X.env :: X.outer) := fun hm => by
      obtain ⟨_, o', e', hnf⟩ := f3.2.2.1.mem hm
      rw [he3] at e'
      cases e'
      exact hnf _ hd3
    have nI : sI.heap.get? a = none := by
      cases e : sI.heap.get? a with
      | none => rfl
      | some o =>
        have z := nb a o e (by rw [hs]; exact nfr)
        rw [f3.2.1] at z
        cases z
    have n0 : X.s_0.heap.get? a = none := by
      cases e : X.s_0.heap.get? a with
      | none => rfl
      | some o =>
        obtain ⟨o', z⟩ := JX.base.there a o e (by rw [hex]; exact List.not_mem_nil)
        rw [nI] at z
        cases z
    have nL : a ≠ X.env.locals := fun z => nfr (List.mem_filterMap.mpr ⟨X.env, List.mem_cons_self, by rw [hf, z]⟩)
    have np : ∀ p ∈ X.pn ++ pins, p.1 ≠ a := fun p hp z => by
      have z1 := (JX.pin p hp).1
      rw [z, nI] at z1
      cases z1
    have S3 : Inv (X.suite a (X.pn ++ pins)) [] σ' H' { s' with heap := g3 } := inE J3
    have name : ∀ {x : Str} {c : Value} {p : Pos} {Q : Value → Shared → Prop} {E : Value → Shared → Prop}, Names X x c → Q c { s' with heap := g3 } → wpAny (model X.prog X.w) (X.A.mark (some (.ref a))) (eval (.Name x p) X.env) Q E { s' with heap := g3 } := fun {x c p Q E} hc q => by
      obtain ⟨hg, hdbg, hm | ⟨hm, hv, hnn⟩⟩ := hc
      · exact ld_glob (X := X.suite a (X.pn ++ pins)) S3 hg hm q hdbg
      · exact ld_blt (X := X.suite a (X.pn ++ pins)) S3 hg hm hv q hnn hdbg
    refine wpAny_handleBy_cons (codeAny_handlers_test (wpAny_Tuple (wpAny_items_cons (name hc1 (wpAny_items_cons (name hc2 (wpAny_items_cons (name hc3 (wpAny_items_nil ⟨show 3 ≤ sizeLine by decide, ?_⟩)))))))) ) (by intro q; cases q)
    have kp : ∀ b o, g3.get? b = some o → (g3.push { cls := .type "tuple", data := .seq [c1, c2, c3].toArray }).get? b = some o := fun _ _ z => Heap.get?_push_of_some _ z
    have LT : PySem.W.Looks (model X.prog X.w) g3 (typeOf (.ref a)) cls := fun A Q E s k q => wpAny_typeOf_ref (k _ _ he3) (by rw [hz3.1]; exact q)
    refine (PySem.W.exm_tup3 (J3.kIn.keeps kp) (LT.keeps kp) (Heap.get?_push_size g3 rfl) hm).here ?_
    refine codeAny_handlers_suite_as (PySem.HandSPX.lands_againZ (flyZ_keeps f3 kp) fun g4 f4 u4 => ?_)
    have J4 : Inv X pins σ' H' { s' with heap := g4 } := JX.landed nb f4.1 (((up.trans u3).trans (Heap.UpToSlots.of_keeps kp)).trans u4) os ag
    obtain ⟨oe4, vs4, he4, hz4, hd4⟩ := f4.there
    have S4 := inE (a := a) (adopt J4 na n0 he4 hz4 hd4 nL np)
    refine store_ok (X := X.suite a (X.pn ++ pins)) (v := .ref a) S4 hN hi (.inl hln) rfl (fun s5 S5 => ?_) (.inr hln)
    refine wpAny_mono ((hsu a cls d (X.pn ++ pins)).run [] s5 _ _ _ S5 (hyes a na JX.len)) (fun f s6 hsp => ?_) (fun _ _ z => False.elim z)
    have end_ : ∀ {σ6 : L2.St} {H6 : Hp} {Q : Shared → Prop}, Inv (X.suite a (X.pn ++ pins)) [] σ6 H6 s6 → (∀ s7, Inv X pins (σ6.set i none) H6 s7 → Q s7) → wpAny (model X.prog X.w) X.A (do bindName X.env n .none; unbindBehindTheSuite X.env n pos') (fun _ s7 => Q s7) X.xe s6 :=
      fun {σ6 H6 Q} S6 hq => gone_ok (outE S6 okX) hN hi hln hq
    cases f with
    | next =>
      obtain ⟨σ6, H6, S6, q6⟩ := hsp
      exact end_ S6 fun s7 J7 => ⟨_, _, J7, q6⟩
    | brk =>
      obtain ⟨σ6, H6, S6, q6⟩ := hsp
      exact end_ S6 fun s7 J7 => ⟨_, _, J7, q6⟩
    | cont =>
      obtain ⟨σ6, H6, S6, q6⟩ := hsp
      exact end_ S6 fun s7 J7 => ⟨_, _, J7, q6⟩
    | ret u =>
      obtain ⟨v6, σ6, H6, S6, r6, q6⟩ := hsp
      exact end_ S6 fun s7 J7 => ⟨_, _, _, J7, r6, q6⟩
  · cases f with
    | next =>
      obtain ⟨σ', H', J', q⟩ := hsp
      exact wpAny_execs_nil ⟨σ', H', J'.ofTry okX, q⟩
    | brk =>
      obtain ⟨σ', H', J', q⟩ := hsp
      exact ⟨σ', H', J'.ofTry okX, q⟩
    | cont =>
      obtain ⟨σ', H', J', q⟩ := hsp
      exact ⟨σ', H', J'.ofTry okX, q⟩
    | ret u =>
      obtain ⟨v, σ', H', J', r, q⟩ := hsp
      exact ⟨v, σ', H', J'.ofTry okX, r, q⟩
end
end PW
/-! ### defs called within an except suite (nothing is raised there), a caught error's fields -/
namespace PW
open PySem PySem.Spec PyProof.Rows L2
/-- what a def promises whatever is handled -/
structure FnW (P : Program) (w : World) (K : PySem.W.Frag) (mg : Str → Option Value) (base : Heap) (k : Nat) (f : Addr) (fd : FuncData) (ps : List Str) (sp : Sp) : Prop where
  len : ∀ vs H Q E, sp vs H Q E → vs.length = ps.length
  run : ∀ (A : Around) (outer : List Env) (s : Shared) (H : Hp) (args : Args) (us : List Value) (vs : List V) (Q : VK) (E : XK), L2H.RoomH k A → Env0 P w K mg base A outer s H → BindsTo s fd args (ps.zip us) → Vals vs us → sp vs H Q E →
    codeAny (model P w) A (.call (.ref f) args) (CR CX0 outer P w H s Q E) s
/-- the context of such a def's body -/
def cxW (P : Program) (w : World) (K : PySem.W.Frag) (mg : Str → Option Value) (base : Heap) (N : List Str) (qual : Str) (scope : Scope) (f : Addr) (cd : Value) (A : Around) (outer : List Env) (s : Shared) (H : Hp) (E : XK) : Cx :=
  { cxOf CX0 P w K mg base N qual scope f cd A outer s H E with calm := false }
section
variable {P : Program} {w : World} {K : PySem.W.Frag} {mg : Str → Option Value} {base : Heap} {N ps : List Str} {qual : Str} {scope : Scope} {f : Addr} {cd : Value} {A : Around} {outer : List Env} {s s1 : Shared} {H : Hp} {E : XK} {us : List Value} {vs : List V}
theorem inv_startW (S : FnScope N ps scope) (e0 : Env0 P w K mg base A outer s H) (hl : vs.length = ps.length) (r : Vals vs us)
    (x : InCallC s s.heap.objs.size (bindL (envOfC qual scope s.heap.objs.size f cd).kindOf (ps.zip us) fun _ => none) (cellsFrom (s.heap.objs.size + 1) scope.names []) (bindC (envOfC qual scope s.heap.objs.size f cd).kindOf (ps.zip us) fun _ => none) s1) :
    Inv (cxW P w K mg base N qual scope f cd A outer s H E) [] (L2.start N vs) H s1 := by
  have I : Inv (cxOf CX0 P w K mg base N qual scope f cd { A with handled := none } outer s H E) [] (L2.start N vs) H s1 := inv_start S rfl ⟨e0.frames, e0.mod, e0.bs, e0.bsz, e0.funs, e0.frf, e0.hok, e0.bare⟩ hl r x
  exact ⟨⟨I.ok.mod, I.ok.kind, I.ok.glob, I.ok.blt, I.ok.above, I.ok.inj, I.ok.has, I.ok.cab, (fun z => Bool.noConfusion (show false = true from z)), Around.frames_deeper e0.frames, I.ok.stk, I.ok.exf, I.ok.bs, I.ok.bsz, I.ok.noex, I.ok.exfs, I.ok.funs, I.ok.frf⟩,
    I.os, I.bare, I.base, I.loc, I.cell, I.free, I.freeC, I.pin, I.hok, I.len⟩
theorem fnW_of {x : Str} {params : Arguments} {body : List Stmt} {fd : FuncData} {dvs : List V} {kws : List (Str × V)} {k : Nat} {sp : Sp} (F : FunD K x qual params body scope dvs kws f fd) (S : FnScope N ps scope) (len : ∀ vs H Q E, sp vs H Q E → vs.length = ps.length)
    (hbody : ∀ (cdv : Value) (A : Around) (outer : List Env) (s : Shared) (H : Hp) (vs : List V) (Q : VK) (E : XK), L2H.RoomH k (A.deeper (envOfC qual scope s.heap.objs.size f cdv)) → sp vs H Q E →
      ∃ t, PSs (cxW P w K mg base N qual scope f cdv A outer s H E) body t ∧ t { nx := fun _ H' => Q .non H', rt := Q } (L2.start N vs) H) : FnW P w K mg base (k + 1) f fd ps sp := by
  obtain ⟨oc, od, dV, kV, doc, pm, an, cdv, ct, osl, rfl, lk, hcd, _, _⟩ := F.ex
  refine ⟨len, fun A outer s H args us vs Q E hr e0 hb r hsp => ?_⟩
  have hl := len _ _ _ _ hsp
  have KX : K.In s.heap := e0.mod.kin.keeps fun b o e => (e0.bs b o e).1
  have lim : s.heap.NoLimit := e0.mod.nolimit.keeps fun b o e => (e0.bs b o e).1
  refine codeAny_call_function hr.depth (KX _ _ lk) rfl S.co S.gen rfl (PySem.W.codeRec_of KX hcd) (hb _ _ _ _ (wpAny_newFunctionEnv_cells S.kind (fun ⟨n, v⟩ hy => ?_) fun env he s1 x => ?_))
  · rcases S.par n (List.of_mem_zip hy).1 with q | q
    · exact .inl q
    · exact .inr ⟨q, PySem.W.cellsFrom_some _ _ _ (.inl q)⟩
  subst he
  refine ⟨lim.keeps x.toInCall.keep, codeAny_func ?_⟩
  obtain ⟨t, ht, hq⟩ := hbody cdv A outer s H vs Q E (hr.deeper _) hsp
  refine wpAny_mono (ht.run [] s1 (L2.start N vs) H _ (inv_startW S e0 hl r x) hq) (fun fl s' hs => ?_) fun e s' hs => hs
  have fin : ∀ {σ' : L2.St} {H' : Hp} {v : V} {u : Value}, Inv (cxW P w K mg base N qual scope f cdv A outer s H E) [] σ' H' s' → RelV v u → Q v H' → CE outer P w H s Q u s' := fun {σ' H' v u} J rv q => ⟨v, H', J.os, J.bare, J.base, J.hok, rv, q⟩
  cases fl with
  | ret u =>
    obtain ⟨v, σ', H', J, rv, q⟩ := hs
    exact fin J rv q
  | next =>
    obtain ⟨σ', H', J, q⟩ := hs
    exact fin (v := V.non) (u := Value.none) J rfl q
  | brk =>
    obtain ⟨_, _, _, q⟩ := hs
    exact False.elim q
  | cont =>
    obtain ⟨_, _, _, q⟩ := hs
    exact False.elim q
end
section
variable {X : Cx} {k : Nat} {f : Addr} {fd : FuncData} {ps : List Str} {sp : Sp} {x n : Str} {q pos : Pos} {e : Expr} {es : List Expr} {te : TE} {t : TA}
theorem pe_callW (F : FnW X.prog X.w X.K X.mg X.base k f fd ps sp) (hr : L2H.RoomH k X.A) (hg : Gl X x) (hm : X.mg x = some (.ref f)) (hk : PySem.W.keepIn X.K (.ref f) = true) (hb : Binds X.K fd ps []) (ha : PA X (e :: es) t) (hdb : (x == ("__debug__" : Str)) = false := by decide)
    (he : starEach (e :: es) X.env = (false, eval e X.env) :: starEach es X.env := by rfl) (hpl : (backTo pos (starEach es X.env)).any (·.1) = false := by rfl) : PE X (.Call (.Name x q) (e :: es) [] pos) (tCall sp [] E0 t) := by
  refine ⟨fun pins s σ H Q I h => wpAny_Call_Name_kw (ld_glob I hg hm (PySem.W.callWith_K (h₀ := X.base) I.ok.mod.kin hk (thn (ha.run pos pins s σ H _ I h) fun us s1 ⟨vs, H1, I1, r, q⟩ => ⟨I1.kIn, ?_⟩) he hpl) hdb)⟩
  have q' : sp vs H1 Q E0 := by
    have z : sp (vs ++ []) H1 Q E0 := q
    rw [List.append_nil] at z
    exact z
  have b := hb s1 us I1.kIn (by rw [List.append_nil, ← r.length]; exact F.len _ _ _ _ q')
  rw [List.append_nil] at b
  refine wpAny_call (codeAny_mono (F.run X.A X.stack s1 H1 ⟨us, []⟩ us vs Q E0 hr I1.env0 b r q') fun r s' hq => ?_)
  cases r with
  | error e => exact (show False from hq).elim
  | ok fl =>
    cases fl with
    | ret u => exact I1.after hq
    | next => exact False.elim hq
    | brk => exact False.elim hq
    | cont => exact False.elim hq
/-- a field of a caught error -/
def tXe (K : PySem.W.Frag) (n : Str) (te : TE) : TE := fun σ H Q => te σ H fun x H1 => ∃ (a C dd : Addr) (fs : List (Str × V)) (v : V), x = .ref a ∧ XfC K C ∧ PySem.W.findIn K (.ref C) n = some none ∧ H1 a = some (excE a (.ref C) (some dd)) ∧ H1 dd = some (.xd fs) ∧ fs.lookup n = some v ∧ Q v H1
theorem pe_xe (he : PE X e te) (hb : attributeBase e n X.env (eval e X.env) = eval e X.env := by rfl) : PE X (.Attribute e n pos) (tXe X.K n te) := by
  refine ⟨fun pins s σ H Q I h => attr_of hb (thn (he.run pins s σ H _ I h) fun u s1 ⟨x, H1, I1, rx, a, C, dd, fs, v, ex, T, hno, ea, ed, l, q⟩ => ?_)⟩
  subst ex
  obtain rfl : u = Value.ref a := rx
  obtain ⟨⟨oe, vs, ha, hz, hd⟩, _, _⟩ := I1.hok a _ ea
  obtain ⟨mA, hns, hr⟩ := (show ObjOk X.prog X.w H1 s1.heap dd (.xd fs) from I1.hok dd _ ed)
  obtain ⟨od, ho, hl⟩ := lookIn_ns hns
  obtain ⟨u, hu, ru⟩ := RelO.some_of (v := v) (o := mA n) (by rw [← l]; exact hr n)
  have J : PySem.W.InstAt s1.heap a oe C (some od) := ⟨ha, hz.1, by unfold PySem.W.notCls; rw [hd] <;> rfl, by rw [hz.2]; exact ho⟩
  exact PySem.HandSPX.exc_get I1.kIn J T.ga T.gg T.exC (PySem.W.findObj_own T.hdC hno rfl (by rw [hl, hu])) (handed_of ru) ⟨v, H1, I1.tok _, ru, q⟩
end
end PW
/-! ### own errors and tables of code objects: the hook -/
namespace PW
open PySem PySem.Spec PyProof.Rows L2
/-- what the text's file and scope are -/
structure IsPG (P : Program) : Prop where
  file : ((P.main.file : Str) == ("/claim/cut.py" : Str)) = true
  sup : (P.main.scope.names.lookup ("super" : Str)).isSome = false
def fileB (K : PySem.W.Frag) (cd : Value) : Bool := match cd with
  | .ref a => (match K.lookup a with
    | some ⟨_, _, .fields vs, _⟩ => (match (vs[2]? : Option Value) with
      | some (Value.str f _) => decide (f = ("/claim/cut.py" : Str))
      | _ => false)
    | _ => false)
  | _ => false
theorem fileB_ok {K : PySem.W.Frag} {cd : Value} (h : fileB K cd = true) : ∃ (a : Addr) (cl : Value) (dd : Option Addr) (vs : Array Value) (sl : Array (Option Value)) (t : Tok), cd = .ref a ∧ K.lookup a = some ⟨cl, dd, .fields vs, sl⟩ ∧ vs[2]? = some (.str ("/claim/cut.py" : Str) t) := by
  cases cd with
  | ref a =>
    unfold fileB at h
    cases q : K.lookup a with
    | none =>
      simp only [q] at h
      cases h
    | some o =>
      obtain ⟨cl, dd, dt, sl⟩ := o
      simp only [q] at h
      cases dt with
      | fields vs =>
        cases q2 : vs[2]? with
        | none =>
          simp only [q2] at h
          cases h
        | some v =>
          simp only [q2] at h
          cases v with
          | str f t =>
            have e : f = ("/claim/cut.py" : Str) := of_decide_eq_true h
            subst e
            exact ⟨a, cl, dd, vs, sl, t, rfl, q, q2⟩
          | _ => cases h
      | _ => cases h
  | _ => cases h
def cellB (K : PySem.W.Frag) (C c : Addr) : Bool := match K.lookup c with
  | some ⟨_, _, .cell (some (.ref D)), _⟩ => decide (D = C)
  | _ => false
theorem cellB_ok {K : PySem.W.Frag} {C c : Addr} (h : cellB K C c = true) : ∃ (cl : Value) (dd : Option Addr) (sl : Array (Option Value)), K.lookup c = some ⟨cl, dd, .cell (some (.ref C)), sl⟩ := by
  unfold cellB at h
  cases q : K.lookup c with
  | none =>
    simp only [q] at h
    cases h
  | some o =>
    obtain ⟨cl, dd, dt, sl⟩ := o
    simp only [q] at h
    cases dt with
    | cell v =>
      cases v with
      | none => cases h
      | some v =>
        cases v with
        | ref D =>
          have e : D = C := of_decide_eq_true h
          subst e
          exact ⟨cl, dd, sl, rfl⟩
        | _ => cases h
    | _ => cases h
def oexB (K : PySem.W.Frag) (C : Addr) : Bool := (match K.lookup C with
  | some ⟨.type t, _, .cls cd, sl⟩ => decide (t = "type") && ((match cd.mro, sl.toList with
    | .ref C' :: bm, [_, _, _, _, some (.builtin n), _] => decide (C' = C) && (PySem.HandSPX.refsVE bm && decide (n = "ValueError.__new__"))
    | _, _ => false) && (cd.hasDict && !cd.hasDel))
  | _ => false) && (decide (PySem.W.findIn K (.ref C) "__setattr__" = some (some (.builtin "object.__setattr__"))) && (decide (PySem.W.subIn K (.ref C) (.type "BaseException") = some true) && (decide (PySem.W.typeIn K (.ref C) = some (.type "type")) && PySem.W.keepIn K (.ref C))))
theorem oexB_ok {K : PySem.W.Frag} {C : Addr} (h : oexB K C = true) : OexC K C := by
  obtain ⟨h1, h2⟩ := He.ba h
  obtain ⟨h3, h4⟩ := He.ba h2
  obtain ⟨h5, h6⟩ := He.ba h4
  obtain ⟨h7, h8⟩ := He.ba h6
  refine ⟨?_, of_decide_eq_true h3, of_decide_eq_true h5, of_decide_eq_true h7, h8⟩
  cases q : K.lookup C with
  | none =>
    simp only [q] at h1
    cases h1
  | some o =>
    obtain ⟨oc, od, dt, sl⟩ := o
    simp only [q] at h1
    cases oc with
    | type t =>
      cases dt with
      | cls cd =>
        obtain ⟨e1, h9⟩ := He.ba h1
        obtain ⟨h10, h11⟩ := He.ba h9
        obtain ⟨h12, h13⟩ := He.ba h11
        obtain ⟨nm, bs, mro, ns, qn, hd, sn, sub, ab, col, del⟩ := cd
        obtain ⟨sl⟩ := sl
        dsimp only at h10 h12 h13
        have e1' : t = "type" := of_decide_eq_true e1
        subst e1'
        cases hd with
        | false => cases h12
        | true =>
          cases del with
          | true => cases h13
          | false =>
            split at h10
            · rename_i C' bm k0 k1 k2 k3 n k5
              obtain ⟨z1, z2⟩ := He.ba h10
              obtain ⟨z3, z4⟩ := He.ba z2
              have z5 : C' = C := of_decide_eq_true z1
              have z6 : n = "ValueError.__new__" := of_decide_eq_true z4
              subst z5 z6
              exact ⟨nm, qn, ns, bs, bm, sn, sub, ab, col, od, k0, k1, k2, k3, k5, rfl, z3⟩
            · cases h10
      | _ => cases h1
    | _ => cases dt <;> cases h1
/-- what is asked of an own error that is made -/
def mkB (K : PySem.W.Frag) (C : Addr) (ns : List Str) : Bool := oexB K C && (xfB K C && (decide (PySem.W.findIn K (.ref C) "__init__" = some (some (.ref (He.ma K C "__init__")))) && (decide (PySem.W.typeIn K (.ref (He.ma K C "__init__")) = some (.type "function")) && (decide (PySem.W.nsIn K mainGlobals "super" = some none) &&
  (decide (PySem.W.nsIn K cStatics "thirdparty.any" = some none) && (decide (PySem.W.ks_superIn K C C "__init__" = some (some (.builtin "ValueError.__init__"))) && (decide (PySem.W.mroIn K C (.ref C) = some true) && (decide (PySem.W.subIn K (.ref C) (.type "ValueError") = some true) && ns.all fun n => decide (PySem.W.findIn K (.ref C) n = some none)))))))))
structure MkC (K : PySem.W.Frag) (C : Addr) (ns : List Str) : Prop where
  oex : OexC K C
  xf : XfC K C
  iC : PySem.W.findIn K (.ref C) "__init__" = some (some (.ref (He.ma K C "__init__")))
  tC : PySem.W.typeIn K (.ref (He.ma K C "__init__")) = some (.type "function")
  sup : PySem.W.nsIn K mainGlobals "super" = some none
  any : PySem.W.nsIn K cStatics "thirdparty.any" = some none
  mro : PySem.W.ks_superIn K C C "__init__" = some (some (.builtin "ValueError.__init__"))
  sub : PySem.W.mroIn K C (.ref C) = some true
  ve : PySem.W.subIn K (.ref C) (.type "ValueError") = some true
  no : ∀ n ∈ ns, PySem.W.findIn K (.ref C) n = some none
theorem mkB_ok {K : PySem.W.Frag} {C : Addr} {ns : List Str} (h : mkB K C ns = true) : MkC K C ns := by
  obtain ⟨h1, h⟩ := He.ba h
  obtain ⟨h2, h⟩ := He.ba h
  obtain ⟨h3, h⟩ := He.ba h
  obtain ⟨h4, h⟩ := He.ba h
  obtain ⟨h5, h⟩ := He.ba h
  obtain ⟨h6, h⟩ := He.ba h
  obtain ⟨h7, h⟩ := He.ba h
  obtain ⟨h8, h⟩ := He.ba h
  obtain ⟨h9, h⟩ := He.ba h
  exact ⟨oexB_ok h1, xfB_ok h2, of_decide_eq_true h3, of_decide_eq_true h4, of_decide_eq_true h5, of_decide_eq_true h6, of_decide_eq_true h7, of_decide_eq_true h8, of_decide_eq_true h9, fun n hn => of_decide_eq_true (List.all_eq_true.mp h n hn)⟩
/-- an own error's __init__, with the cell of its class -/
structure DefX where
  cls : Str
  qual : Str
  params : Arguments
  body : List Stmt
  scope : Scope
def DefX.f (d : DefX) (K : PySem.W.Frag) : Addr := He.ma K (He.ga K d.cls) "__init__"
def fnWX (K : PySem.W.Frag) (d : DefX) : He.FnW := match K.lookup (d.f K) with
  | some ⟨_, _, .func fd, _⟩ => some (fd.name, fd.qualname, fd.params, fd.body, fd.scope, fd.globals, fd.closure.map (fun p => (p.1, 0)), fd.builtins)
  | _ => none
def DefX.val (d : DefX) : He.FnW := some (("__init__" : Str), d.qual, d.params, FuncBody.stmts d.body, d.scope, mainGlobals, [(("__class__" : Str), (0 : Addr))], builtinsNs)
def DefX.ok (K : PySem.W.Frag) (d : DefX) : Bool := match K.lookup (d.f K) with
  | some ⟨_, _, .func fd, _⟩ => PySem.W.codeIn K fd.code d.qual && (fileB K fd.code && (He.dflB K fd.defaults [] && fd.closure.all fun p => cellB K (He.ga K d.cls) p.2))
  | _ => false
theorem DefX.init {K : PySem.W.Frag} {d : DefX} {ns : List Str} (e : fnWX K d = d.val) (c : d.ok K = true) (m : MkC K (He.ga K d.cls) ns) {P : Program} (hP : IsPG P) : PySem.W.InitFn K P (He.ga K d.cls) (d.f K) d.qual d.params d.body d.scope := by
  refine ⟨?_, m.sup, hP.sup, m.any, m.mro, m.sub, m.ve⟩
  unfold fnWX at e
  unfold DefX.ok at c
  cases q : K.lookup (d.f K) with
  | none =>
    rw [q] at c
    cases c
  | some o =>
    obtain ⟨oc, od, dt, osl⟩ := o
    rw [q] at c e
    cases dt with
    | func fd =>
      obtain ⟨n1, n2, n3, n4, n5, n6, n7, n8, n9, n10, n11, n12, n13, n14, n15⟩ := fd
      have e2 : (some (n1, n2, n3, n4, n5, n6, n7.map (fun p => (p.1, 0)), n15) : He.FnW) = some (("__init__" : Str), d.qual, d.params, FuncBody.stmts d.body, d.scope, mainGlobals, [(("__class__" : Str), (0 : Addr))], builtinsNs) := e
      simp only [Option.some.injEq, Prod.mk.injEq] at e2
      obtain ⟨h1, h2, h3, h4, h5, h6, h7, h8⟩ := e2
      subst h1 h2 h3 h4 h5 h6 h8
      have c3 : (PySem.W.codeIn K n13 d.qual && (fileB K n13 && (He.dflB K n8 [] && n7.all fun p => cellB K (He.ga K d.cls) p.2))) = true := c
      obtain ⟨k1, k2⟩ := He.ba c3
      obtain ⟨k3, k4⟩ := He.ba k2
      obtain ⟨k5, k6⟩ := He.ba k4
      cases n7 with
      | nil => simp only [List.map_nil, reduceCtorEq] at h7
      | cons p r =>
        cases r with
        | cons p2 r2 => simp only [List.map_cons, List.cons.injEq, reduceCtorEq, and_false] at h7
        | nil =>
          obtain ⟨p1, cc⟩ := p
          have e7 : p1 = ("__class__" : Str) := by
            simp only [List.map_cons, List.map_nil, List.cons.injEq, Prod.mk.injEq, and_true] at h7
            exact h7
          subst e7
          obtain ⟨cl, cld, csl, lcc⟩ := cellB_ok (List.all_eq_true.mp k6 ("__class__", cc) List.mem_cons_self)
          obtain ⟨cda, ccl, cdd, vs, ccs, tf, ec, lcd, hvs⟩ := fileB_ok k3
          subst ec
          rcases He.dflB_ok k5 with ⟨_, z⟩ | ⟨z, _⟩
          · subst z
            exact ⟨oc, n9, n10, n11, n14, od, n12, osl, cc, cda, ccl, cl, cdd, cld, vs, ccs, csl, _, tf, rfl, k1, lcd, hvs, hP.file, lcc⟩
          · exact absurd rfl z
    | _ => cases c
abbrev AlN : Type := AlM × (List He.FnW × Bool)
abbrev frN (n : Nat) (g : Addr → Option Obj) : PySem.W.Frag := He.frT g (He.asD g n ++ [cStatics])
def obsN (n : Nat) (fa : List He.Fa) (fn : List He.DefD) (fs : List DefA) (fx : List DefX) (tf : List He.Defn) (ex : PySem.W.Frag → List Bool) (g : Addr → Option Obj) : AlN :=
  (obsM fa fn fs ex (frN n g), (fx.map (fnWX (frN n g)), (fx.all fun d => d.ok (frN n g)) && He.tabsB g tf (frN n g)))
def valN (fn : List He.DefD) (fs : List DefA) (fx : List DefX) : AlN := (valM fn fs, (fx.map DefX.val, true))
structure SaysN (fa : List He.Fa) (fn : List He.DefD) (fs : List DefA) (fx : List DefX) (tf : List He.Defn) (ex : PySem.W.Frag → List Bool) (h : Heap) (K : PySem.W.Frag) : Prop where
  m : SaysM fa fn fs ex K
  x : ∀ d ∈ fx, fnWX K d = d.val ∧ d.ok K = true
  hd : ∀ p ∈ tf, PySem.W.codeHdIn K (He.cT K p).1 (He.cT K p).2 = true
  out : ∀ p ∈ tf, K.lookup (He.cT K p).2 = none
  empty : ∀ p ∈ tf, h.get? (He.cT K p).2 = some { cls := .none, data := .fields #[] }
theorem saysN_of {n : Nat} {fa : List He.Fa} {fn : List He.DefD} {fs : List DefA} {fx : List DefX} {tf : List He.Defn} {ex : PySem.W.Frag → List Bool} {h : Heap} (e : obsN n fa fn fs fx tf ex h.get? = valN fn fs fx) : SaysN fa fn fs fx tf ex h (frN n h.get?) := by
  have e1 : obsM fa fn fs ex (frN n h.get?) = valM fn fs := congrArg (fun z : AlN => z.1) e
  have e2 : fx.map (fnWX (frN n h.get?)) = fx.map DefX.val := congrArg (fun z : AlN => z.2.1) e
  have e3 : ((fx.all fun d => d.ok (frN n h.get?)) && He.tabsB h.get? tf (frN n h.get?)) = true := congrArg (fun z : AlN => z.2.2) e
  obtain ⟨h1, h2⟩ := He.ba e3
  have key : ∀ p ∈ tf, PySem.W.codeHdIn (frN n h.get?) (He.cT (frN n h.get?) p).1 (He.cT (frN n h.get?) p).2 = true ∧ ∃ o, h.get? (He.cT (frN n h.get?) p).2 = some o ∧ He.emptyTab o = true := fun p hp => by
    obtain ⟨z1, z2⟩ := He.ba (List.all_eq_true.mp h2 p hp)
    refine ⟨z1, ?_⟩
    cases q : h.get? (He.cT (frN n h.get?) p).2 with
    | none =>
      rw [q] at z2
      cases z2
    | some o =>
      rw [q] at z2
      exact ⟨o, rfl, z2⟩
  refine ⟨saysM_of e1, fun d hd => ⟨map_mem e2 d hd, List.all_eq_true.mp h1 d hd⟩, fun p hp => (key p hp).1, fun p hp => ?_, fun p hp => ?_⟩
  · obtain ⟨_, o, q, z⟩ := key p hp
    exact He.frT_none q z
  · obtain ⟨_, o, q, z⟩ := key p hp
    rw [q, He.emptyTab_eq z]
def hookN (n : Nat) (fa : List He.Fa) (fn : List He.DefD) (fs : List DefA) (fx : List DefX) (tf : List He.Defn) (ex : PySem.W.Frag → List Bool) : PySem.W.Hook where
  α := AlN
  obs := fun s => obsN n fa fn fs fx tf ex s.heap.get?
  val := fun _ => valN fn fs fx
  says := fun _ h => ∃ K : PySem.W.Frag, K.In h ∧ SaysN fa fn fs fx tf ex h K
  of := fun _ _ e => ⟨_, He.frT_in, saysN_of e⟩
  keeps := fun _ _ _ ⟨K, hK, c⟩ k => ⟨K, PySem.W.Frag.In.keeps hK k, ⟨c.m, c.x, c.hd, c.out, fun p hp => k _ _ (c.empty p hp)⟩⟩
theorem obsN_eq {n : Nat} {fa : List He.Fa} {fn : List He.DefD} {fs : List DefA} {fx : List DefX} {tf : List He.Defn} {ex : PySem.W.Frag → List Bool} {g : Addr → Option Obj} {s : Shared} (h : ∀ a, g a = s.heap.get? a) : obsN n fa fn fs fx tf ex g = (hookN n fa fn fs fx tf ex).obs s := by
  have e : g = s.heap.get? := funext h
  rw [e] <;> rfl
/-- THE RULE for a def that makes lambdas: its code object is the one that is told -/
theorem FunD.okC {P : Program} {w : World} {K : PySem.W.Frag} {mg : Str → Option Value} {base : Heap} {x qual : Str} {params : Arguments} {body : List Stmt} {scope : Scope} {dvs : List V} {kws : List (Str × V)} {p : He.Defn} {fd : FuncData} {CX : CXT} {N ps : List Str} {k : Nat} {sp : Sp}
    (F : FunD K x qual params body scope dvs kws (He.fAd K p) fd) (S : FnScope N ps scope) (len : ∀ vs H Q E, sp vs H Q E → vs.length = ps.length)
    (hbody : ∀ (A : Around) (outer : List Env) (s : Shared) (H : Hp) (vs : List V) (Q : VK) (E : XK), Room k (A.deeper (envOfC qual scope s.heap.objs.size (He.fAd K p) (.ref (He.codeOf K p)))) → sp vs H Q E →
      ∃ t, PSs (cxOf CX P w K mg base N qual scope (He.fAd K p) (.ref (He.codeOf K p)) A outer s H E) body t ∧ t { nx := fun _ H' => Q .non H', rt := Q } (start N vs) H) : FnOk P w K mg base CX (k + 1) (He.fAd K p) fd ps sp := by
  obtain ⟨oc, od, dV, kV, doc, pm, an, cdv, ct, osl, rfl, lk, hcd, _, _⟩ := F.ex
  obtain ⟨c, rfl⟩ := He.codeIn_ref hcd
  have e := He.codeOf_eq lk rfl
  subst e
  exact fn_of lk hcd S len fun A outer s H vs Q E hr hsp => hbody A outer s H vs Q E hr hsp
end PW
local macro_rules | `(tactic| walk_at "lst") => `(tactic| first | with_reducible assumption | (with_reducible exact L2.SqT.of L2.upd_same) | (with_reducible exact L2.SqL.of L2.upd_same) | ((with_reducible refine' PW.Ex.tupN ?h ?q); (case h => with_reducible assumption); (case q => walk_at "lst")) | ((with_reducible refine' PW.Ex.lstN ?h ?q); (case h => with_reducible assumption); (case q => walk_at "lst")) | ((with_reducible refine' L2.SqL.of ?h); (case h => walk_at "hp")) | ((with_reducible refine' L2.SqT.of ?h); (case h => walk_at "hp")))
local macro_rules | `(tactic| walk_at "K") => `(tactic| try simp only [PW.nox_K, PW.cx_K])
local macro_rules | `(tactic| walk_at "hp") => `(tactic| first | with_reducible assumption | (with_reducible exact L2.upd_same) | ((with_reducible refine' (L2.upd_ne ?n).trans ?h); (case' n => walk_at "ne"); (case' h => walk_at "hp")))
local macro_rules | `(tactic| walk_at "ne") => `(tactic| first | with_reducible assumption | (with_reducible exact Ne.symm (by with_reducible assumption)) | (with_reducible exact L2.ne_of_none (by with_reducible assumption) (by with_reducible assumption)) | (with_reducible exact Ne.symm (L2.ne_of_none (by with_reducible assumption) (by with_reducible assumption))) | exact PW.ne_ofK (by with_reducible assumption) (by with_reducible assumption) (by rfl))
local macro_rules | `(tactic| walk_at "g1") => `(tactic| first
  | refine PW.Step.imp ?_
  | ((with_reducible refine' PW.r_I ?h ?_); (case h => walk_at "cond"))
  | ((with_reducible refine' PW.r_ixL ?h ?a ?_); (case h => walk_at "lst"); (case a => first | rfl | exact PW.atI0))
  | ((with_reducible refine' PW.r_ixT ?h ?a ?_); (case h => walk_at "lst"); (case a => first | rfl | exact PW.atI0))
  | ((with_reducible refine' PW.r_setL ?h ?a ?_); (case h => walk_at "hp"); (case a => rfl))
  | ((with_reducible refine' PW.r_lst1 ?h ?_); (case h => first | decide | (simp only [List.length_cons, List.length_nil]; omega)))
  | ((with_reducible refine' PW.r_ifT' ?e ?_); (case e => with_reducible exact PW.dec_self))
  | ((with_reducible refine' PW.r_ifF' ?e ?_); (case e => exact PW.dec_kind rfl))
  | ((with_reducible refine' PW.r_ifF' ?e ?_); (case e => with_reducible exact PW.ndec_self))
  | ((with_reducible refine' PW.r_ifT' ?e ?_); (case e => exact PW.ndec_kind rfl))
  | ((with_reducible refine' PW.r_ifT' ?e ?_); (case e => decide))
  | ((with_reducible refine' PW.r_ifF' ?e ?_); (case e => decide))
  | ((with_reducible refine' PW.r_cLenL ?h ?_); (case h => walk_at "lst"))
  | ((with_reducible refine' PW.r_cLenT ?h ?_); (case h => walk_at "lst"))
  | ((with_reducible refine' PW.r_cLenS ?h ?_); (case h => walk_at "size"))
  | ((with_reducible refine' PW.r_addS ?h ?_); (case h => walk_at "size"))
  | ((with_reducible refine' PW.r_slL ?h ?_); (case h => walk_at "lst"))
  | ((with_reducible refine' PW.r_slS ?h ?_); (case h => walk_at "size"))
  | ((with_reducible refine' PW.r_gtup ?h ?l ?_); (case h => walk_at "lst"); (case l => rfl))
  | ((with_reducible refine' PW.r_isi ?h ?e ?_); (case h => walk_at "ty"); (case e => walk_at "kit"))
  | ((with_reducible refine' PW.r_isiT2 ?ht ?h ?e1 ?e2 ?_); (case ht => walk_at "hp"); (case h => walk_at "ty"); (case e1 => walk_at "kit"); (case e2 => walk_at "kit"))
  | ((with_reducible refine' PW.r_ixqL ?h ?a ?_); (case h => walk_at "lst"); (case a => first | rfl | exact PW.atI0))
  | ((with_reducible refine' PW.r_ixqT ?h ?a ?_); (case h => walk_at "lst"); (case a => first | rfl | exact PW.atI0))
  | ((with_reducible refine' PW.r_inT ?h ?a ?b ?_); (case h => walk_at "lst"); (case a => rfl); (case b => rfl))
  | ((with_reducible refine' PW.r_inL ?h ?a ?b ?_); (case h => walk_at "lst"); (case a => rfl); (case b => rfl))
  | ((with_reducible refine' PW.r_ninT ?h ?a ?b ?_); (case h => walk_at "lst"); (case a => rfl); (case b => rfl))
  | ((with_reducible refine' PW.r_ninL ?h ?a ?b ?_); (case h => walk_at "lst"); (case a => rfl); (case b => rfl))
  | ((with_reducible refine' PW.rng1 ?h1 ?h2 ?_); (case h1 => omega); (case h2 => omega))
  | ((with_reducible refine' PW.rng2 ?h1 ?h2 ?h3 ?h4 ?_); (case h1 => omega); (case h2 => omega); (case h3 => omega); (case h4 => omega))
  | ((with_reducible refine' PW.r_rep ?h ?a ?b ?c ?_); (case h => walk_at "hp"); (case a => omega); (case b => omega); (case c => walk_at "len"))
  | (with_reducible refine' PW.r_and3 rfl rfl ?_)
  | ((with_reducible refine' PW.wkL ?h ?_); (case h => walk_at "lst"))
  | ((with_reducible refine' PW.wkT ?h ?_); (case h => walk_at "lst"))
  | ((with_reducible refine' PW.wkE ?h ?_); (case h => walk_at "lst"))
  | ((with_reducible refine' PW.r_cListL ?h ?_); (case h => walk_at "lst"))
  | ((with_reducible refine' PW.r_cListT ?h ?_); (case h => walk_at "lst"))
  | ((with_reducible refine' PW.r_cTupleL ?h ?_); (case h => walk_at "lst"))
  | ((with_reducible refine' PW.r_fld ?h ?c ?n ?l ?_); (case h => walk_at "hp"); (case c => first | with_reducible assumption | assumption); (case n => first | with_reducible assumption | assumption); (case l => rfl))
  | ((with_reducible refine' PW.r_methC ?h ?l ?_); (case h => walk_at "hp"); (case l => rfl))
  | ((with_reducible refine' PW.r_rev ?h ?_); (case h => walk_at "lst"))
  | ((with_reducible refine' PW.r_eqEL ?h ?a ?_); (case h => walk_at "lst"); (case a => walk_at "lst"))
  | ((with_reducible refine' PW.r_eqET ?h ?a ?_); (case h => walk_at "lst"); (case a => walk_at "lst"))
  | ((with_reducible refine' PW.r_neET ?h ?a ?_); (case h => walk_at "lst"); (case a => walk_at "lst"))
  | ((with_reducible refine' PW.r_tyL ?h ?_); (case h => walk_at "lst"))
  | ((with_reducible refine' PW.r_sfld ?h ?c ?n ?l ?_); (case h => walk_at "hp"); (case c => first | with_reducible assumption | assumption); (case n => first | with_reducible assumption | assumption); (case l => exact Nat.le_of_ble_eq_true rfl))
  | ((with_reducible refine' PW.r_append ?h ?l ?_); (case h => walk_at "hp"); (case l => walk_at "len"))
  | ((with_reducible refine' PW.r_isiO ?h ?e ?_); (case h => walk_at "ty"); (case e => first | with_reducible assumption | assumption))
  | ((with_reducible refine' PW.r_isiC ?h ?e ?_); (case h => walk_at "ty"); (case e => first | with_reducible assumption | assumption)))
local macro_rules | `(tactic| walk_at "go") => `(tactic| repeat (walk_at "g1"))
local macro_rules | `(tactic| walk_at "cond") => `(tactic| first | with_reducible assumption | omega | ((with_reducible refine PW.cmx ?_ ?_ ?_ ?_) <;> omega) | ((with_reducible refine PW.cdw ?_ ?_) <;> omega) | ((with_reducible refine PW.cdw2 ?_ ?_) <;> with_reducible assumption) | ((with_reducible refine PW.cpow ?_ ?_ ?_ ?_) <;> omega))
local macro_rules | `(tactic| walk_at "size") => `(tactic| first | with_reducible assumption | exact Nat.le_trans (by with_reducible assumption) (by decide))
local macro_rules | `(tactic| walk_at "ty") => `(tactic| first | with_reducible assumption | exact .base (.int _) | exact .base (.str _) | exact .base (.bl _) | exact .base .non | exact .base (.lst (by walk_at "hp")) | exact .base (.tup (by walk_at "hp")) | assumption)
local macro_rules | `(tactic| walk_at "kit") => `(tactic| first | exact PW.kb_NoneType_bool | exact PW.kb_NoneType_int | exact PW.kb_NoneType_str | exact PW.kb_NoneType_list | exact PW.kb_NoneType_tuple | exact PW.kb_NoneType_dict | exact PW.kb_bool_bool | exact PW.kb_bool_int | exact PW.kb_bool_str | exact PW.kb_bool_list | exact PW.kb_bool_tuple | exact PW.kb_bool_dict | exact PW.kb_int_bool | exact PW.kb_int_int | exact PW.kb_int_str | exact PW.kb_int_list | exact PW.kb_int_tuple | exact PW.kb_int_dict | exact PW.kb_str_bool | exact PW.kb_str_int | exact PW.kb_str_str | exact PW.kb_str_list | exact PW.kb_str_tuple | exact PW.kb_str_dict | exact PW.kb_list_bool | exact PW.kb_list_int | exact PW.kb_list_str | exact PW.kb_list_list | exact PW.kb_list_tuple | exact PW.kb_list_dict | exact PW.kb_tuple_bool | exact PW.kb_tuple_int | exact PW.kb_tuple_str | exact PW.kb_tuple_list | exact PW.kb_tuple_tuple | exact PW.kb_tuple_dict)
local macro_rules | `(tactic| walk_at "len") => `(tactic| first | decide | (refine PW.len_ok ?_; simp only [List.length_cons, List.length_nil]; omega) | (simp only [List.length_cons, List.length_nil]; omega))
namespace PW
open PySem PySem.Spec PyProof.Rows L2
/-! ### the text by places -/
def top (i : Nat) : Stmt := PySem.Challenge.pw_powerwish_k20_texts_that_are_no_conditio.main.body.getD i (.Pass ⟨0, 0, 0, 0⟩)
abbrev s_is_name : Stmt := top 14
abbrev n_is_name : List Str := ["value", "sign"]
abbrev p_is_name : List Str := ["value"]
theorem sc_is_name : FnScope n_is_name p_is_name (defScope s_is_name) := ⟨rfl, rfl, rfl, by decide +kernel, rfl, by decide +kernel, by decide +kernel⟩
abbrev s_read_number : Stmt := top 16
abbrev n_read_number : List Str := ["reader", "minus", "digits"]
abbrev p_read_number : List Str := ["reader"]
theorem sc_read_number : FnScope n_read_number p_read_number (defScope s_read_number) := ⟨rfl, rfl, rfl, by decide +kernel, rfl, by decide +kernel, by decide +kernel⟩
abbrev s_read_arguments : Stmt := top 17
abbrev n_read_arguments : List Str := ["reader", "found"]
abbrev p_read_arguments : List Str := ["reader"]
theorem sc_read_arguments : FnScope n_read_arguments p_read_arguments (defScope s_read_arguments) := ⟨rfl, rfl, rfl, by decide +kernel, rfl, by decide +kernel, by decide +kernel⟩
abbrev s_read_pair : Stmt := top 18
abbrev n_read_pair : List Str := ["reader", "first", "divisor", "word", "second"]
abbrev p_read_pair : List Str := ["reader"]
theorem sc_read_pair : FnScope n_read_pair p_read_pair (defScope s_read_pair) := ⟨rfl, rfl, rfl, by decide +kernel, rfl, by decide +kernel, by decide +kernel⟩
abbrev s_read_word : Stmt := top 19
abbrev n_read_word : List Str := ["reader", "word", "inner"]
abbrev p_read_word : List Str := ["reader"]
theorem sc_read_word : FnScope n_read_word p_read_word (defScope s_read_word) := ⟨rfl, rfl, rfl, by decide +kernel, rfl, by decide +kernel, by decide +kernel⟩
abbrev s_read_term : Stmt := top 20
abbrev n_read_term : List Str := ["reader", "found", "number"]
abbrev p_read_term : List Str := ["reader"]
theorem sc_read_term : FnScope n_read_term p_read_term (defScope s_read_term) := ⟨rfl, rfl, rfl, by decide +kernel, rfl, by decide +kernel, by decide +kernel⟩
abbrev s_read_comparison : Stmt := top 23
abbrev n_read_comparison : List Str := ["reader", "first", "modulus", "rest"]
abbrev p_read_comparison : List Str := ["reader"]
theorem sc_read_comparison : FnScope n_read_comparison p_read_comparison (defScope s_read_comparison) := ⟨rfl, rfl, rfl, by decide +kernel, rfl, by decide +kernel, by decide +kernel⟩
abbrev s_read_condition : Stmt := top 24
abbrev n_read_condition : List Str := ["reader", "first", "word", "found"]
abbrev p_read_condition : List Str := ["reader"]
theorem sc_read_condition : FnScope n_read_condition p_read_condition (defScope s_read_condition) := ⟨rfl, rfl, rfl, by decide +kernel, rfl, by decide +kernel, by decide +kernel⟩
abbrev s_parse_condition : Stmt := top 25
abbrev n_parse_condition : List Str := ["text", "reader", "found"]
abbrev p_parse_condition : List Str := ["text"]
theorem sc_parse_condition : FnScope n_parse_condition p_parse_condition (defScope s_parse_condition) := ⟨rfl, rfl, rfl, by decide +kernel, rfl, by decide +kernel, by decide +kernel⟩
abbrev s__law_pull : Stmt := top 27
abbrev n__law_pull : List Str := ["_law_bag_here", "_law_many_z", "_law_cell", "_law_got", "_law_seed"]
abbrev p__law_pull : List Str := ["_law_bag_here", "_law_many_z"]
theorem sc__law_pull : FnScope n__law_pull p__law_pull (defScope s__law_pull) := ⟨rfl, rfl, rfl, by decide +kernel, rfl, by decide +kernel, by decide +kernel⟩
abbrev s__law_of : Stmt := top 28
abbrev n__law_of : List Str := ["_law_bag_here", "_law_some"]
abbrev p__law_of : List Str := ["_law_bag_here", "_law_some"]
theorem sc__law_of : FnScope n__law_of p__law_of (defScope s__law_of) := ⟨rfl, rfl, rfl, by decide +kernel, rfl, by decide +kernel, by decide +kernel⟩
abbrev s__law_same : Stmt := top 29
abbrev n__law_same : List Str := ["_law_found", "_law_due", "_law_one_z", "_law_other_z"]
abbrev p__law_same : List Str := ["_law_found", "_law_due"]
theorem sc__law_same : FnScope n__law_same p__law_same (defScope s__law_same) := ⟨rfl, rfl, rfl, by decide +kernel, rfl, by decide +kernel, by decide +kernel⟩
abbrev s__law_bag : Stmt := top 30
abbrev n__law_bag : List Str := ["_law_script"]
abbrev p__law_bag : List Str := ["_law_script"]
theorem sc__law_bag : FnScope n__law_bag p__law_bag (defScope s__law_bag) := ⟨rfl, rfl, rfl, by decide +kernel, rfl, by decide +kernel, by decide +kernel⟩
abbrev s__law_field : Stmt := top 31
abbrev n__law_field : List Str := ["_law_e"]
abbrev p__law_field : List Str := ["_law_e"]
theorem sc__law_field : FnScope n__law_field p__law_field (defScope s__law_field) := ⟨rfl, rfl, rfl, by decide +kernel, rfl, by decide +kernel, by decide +kernel⟩
abbrev s__law_why : Stmt := top 32
abbrev n__law_why : List Str := ["_law_ask_z", "_law_e"]
abbrev p__law_why : List Str := ["_law_ask_z"]
theorem sc__law_why : FnScope n__law_why p__law_why (defScope s__law_why) := ⟨rfl, rfl, rfl, by decide +kernel, rfl, by decide +kernel, by decide +kernel⟩
abbrev s__law_letters : Stmt := top 33
abbrev n__law_letters : List Str := []
abbrev p__law_letters : List Str := []
theorem sc__law_letters : FnScope n__law_letters p__law_letters (defScope s__law_letters) := ⟨rfl, rfl, rfl, by decide +kernel, rfl, by decide +kernel, by decide +kernel⟩
abbrev s__law_is_name : Stmt := top 34
abbrev n__law_is_name : List Str := ["_law_text_z", "_law_good", "_law_sign_z"]
abbrev p__law_is_name : List Str := ["_law_text_z"]
theorem sc__law_is_name : FnScope n__law_is_name p__law_is_name (defScope s__law_is_name) := ⟨rfl, rfl, rfl, by decide +kernel, rfl, by decide +kernel, by decide +kernel⟩
abbrev s__law_names : Stmt := top 35
abbrev n__law_names : List Str := ["_law_bag_here", "_law_many_z", "_law_size", "_law_letters_here", "_law_at_z", "_law_first", "_law_step", "_law_stem", "_law_found", "_law_k", "_law_one_z"]
abbrev p__law_names : List Str := ["_law_bag_here", "_law_many_z"]
theorem sc__law_names : FnScope n__law_names p__law_names (defScope s__law_names) := ⟨rfl, rfl, rfl, by decide +kernel, rfl, by decide +kernel, by decide +kernel⟩
abbrev s__law_leaf : Stmt := top 36
abbrev n__law_leaf : List Str := ["_law_bag_here", "_law_names_z", "_law_number_z"]
abbrev p__law_leaf : List Str := ["_law_bag_here", "_law_names_z"]
theorem sc__law_leaf : FnScope n__law_leaf p__law_leaf (defScope s__law_leaf) := ⟨rfl, rfl, rfl, by decide +kernel, rfl, by decide +kernel, by decide +kernel⟩
abbrev s__law_term : Stmt := top 37
abbrev n__law_term : List Str := ["_law_bag_here", "_law_names_z", "_law_calls_z", "_law_depth", "_law_way", "_law_one_z"]
abbrev p__law_term : List Str := ["_law_bag_here", "_law_names_z", "_law_calls_z", "_law_depth"]
theorem sc__law_term : FnScope n__law_term p__law_term (defScope s__law_term) := ⟨rfl, rfl, rfl, by decide +kernel, rfl, by decide +kernel, by decide +kernel⟩
abbrev s__law_text : Stmt := top 38
abbrev n__law_text : List Str := ["_law_term_z", "_law_word_z", "_law_one_z"]
abbrev p__law_text : List Str := ["_law_term_z"]
theorem sc__law_text : FnScope n__law_text p__law_text (defScope s__law_text) := ⟨rfl, rfl, rfl, by decide +kernel, rfl, by decide +kernel, by decide +kernel⟩
abbrev s__law_run : Stmt := top 39
abbrev n__law_run : List Str := ["_law_text_z", "_law_at_z", "_law_signs_z", "_law_end"]
abbrev p__law_run : List Str := ["_law_text_z", "_law_at_z", "_law_signs_z"]
theorem sc__law_run : FnScope n__law_run p__law_run (defScope s__law_run) := ⟨rfl, rfl, rfl, by decide +kernel, rfl, by decide +kernel, by decide +kernel⟩
abbrev s__law_scan_number : Stmt := top 40
abbrev n__law_scan_number : List Str := ["_law_text_z", "_law_at_z", "_law_start", "_law_end", "_law_digits"]
abbrev p__law_scan_number : List Str := ["_law_text_z", "_law_at_z"]
theorem sc__law_scan_number : FnScope n__law_scan_number p__law_scan_number (defScope s__law_scan_number) := ⟨rfl, rfl, rfl, by decide +kernel, rfl, by decide +kernel, by decide +kernel⟩
abbrev s__law_scan_pair : Stmt := top 41
abbrev n__law_scan_pair : List Str := ["_law_text_z", "_law_at_z", "_law_one_z", "_law_level", "_law_end", "_law_share_z", "_law_good", "_law_word_z", "_law_other_z"]
abbrev p__law_scan_pair : List Str := ["_law_text_z", "_law_at_z", "_law_one_z", "_law_level"]
theorem sc__law_scan_pair : FnScope n__law_scan_pair p__law_scan_pair (defScope s__law_scan_pair) := ⟨rfl, rfl, rfl, by decide +kernel, rfl, by decide +kernel, by decide +kernel⟩
abbrev s__law_scan_word : Stmt := top 42
abbrev n__law_scan_word : List Str := ["_law_text_z", "_law_at_z", "_law_level", "_law_end", "_law_word_z", "_law_last", "_law_one_z", "_law_found", "_law_good"]
abbrev p__law_scan_word : List Str := ["_law_text_z", "_law_at_z", "_law_level"]
theorem sc__law_scan_word : FnScope n__law_scan_word p__law_scan_word (defScope s__law_scan_word) := ⟨rfl, rfl, rfl, by decide +kernel, rfl, by decide +kernel, by decide +kernel⟩
abbrev s__law_scan : Stmt := top 43
abbrev n__law_scan : List Str := ["_law_text_z", "_law_at_z", "_law_level", "_law_sign_z", "_law_end", "_law_one_z", "_law_number_z"]
abbrev p__law_scan : List Str := ["_law_text_z", "_law_at_z", "_law_level"]
theorem sc__law_scan : FnScope n__law_scan p__law_scan (defScope s__law_scan) := ⟨rfl, rfl, rfl, by decide +kernel, rfl, by decide +kernel, by decide +kernel⟩
abbrev s__law_bent : Stmt := top 44
abbrev n__law_bent : List Str := ["_law_bag_here", "_law_text_z", "_law_signs_z", "_law_at_z", "_law_way", "_law_sign_z"]
abbrev p__law_bent : List Str := ["_law_bag_here", "_law_text_z", "_law_signs_z"]
theorem sc__law_bent : FnScope n__law_bent p__law_bent (defScope s__law_bent) := ⟨rfl, rfl, rfl, by decide +kernel, rfl, by decide +kernel, by decide +kernel⟩
abbrev s__law_compare : Stmt := top 45
abbrev n__law_compare : List Str := ["_law_bag_here", "_law_names_z", "_law_calls_z", "_law_depth", "_law_one_z", "_law_other_z", "_law_modulus"]
abbrev p__law_compare : List Str := ["_law_bag_here", "_law_names_z", "_law_calls_z", "_law_depth"]
theorem sc__law_compare : FnScope n__law_compare p__law_compare (defScope s__law_compare) := ⟨rfl, rfl, rfl, by decide +kernel, rfl, by decide +kernel, by decide +kernel⟩
abbrev s__law_tree : Stmt := top 46
abbrev n__law_tree : List Str := ["_law_bag_here", "_law_atoms", "_law_depth", "_law_way", "_law_one_z"]
abbrev p__law_tree : List Str := ["_law_bag_here", "_law_atoms", "_law_depth"]
theorem sc__law_tree : FnScope n__law_tree p__law_tree (defScope s__law_tree) := ⟨rfl, rfl, rfl, by decide +kernel, rfl, by decide +kernel, by decide +kernel⟩
abbrev s__law_condition_text : Stmt := top 47
abbrev n__law_condition_text : List Str := ["_law_condition_z", "_law_word_z", "_law_one_z"]
abbrev p__law_condition_text : List Str := ["_law_condition_z"]
theorem sc__law_condition_text : FnScope n__law_condition_text p__law_condition_text (defScope s__law_condition_text) := ⟨rfl, rfl, rfl, by decide +kernel, rfl, by decide +kernel, by decide +kernel⟩
abbrev s__law_scan_compare : Stmt := top 48
abbrev n__law_scan_compare : List Str := ["_law_text_z", "_law_at_z", "_law_level", "_law_end", "_law_one_z", "_law_last", "_law_modulus", "_law_rest_z", "_law_good", "_law_word_z", "_law_other_z"]
abbrev p__law_scan_compare : List Str := ["_law_text_z", "_law_at_z", "_law_level"]
theorem sc__law_scan_compare : FnScope n__law_scan_compare p__law_scan_compare (defScope s__law_scan_compare) := ⟨rfl, rfl, rfl, by decide +kernel, rfl, by decide +kernel, by decide +kernel⟩
abbrev s__law_scan_condition : Stmt := top 49
abbrev n__law_scan_condition : List Str := ["_law_text_z", "_law_at_z", "_law_level", "_law_end", "_law_one_z", "_law_word_z", "_law_last", "_law_other_z"]
abbrev p__law_scan_condition : List Str := ["_law_text_z", "_law_at_z", "_law_level"]
theorem sc__law_scan_condition : FnScope n__law_scan_condition p__law_scan_condition (defScope s__law_scan_condition) := ⟨rfl, rfl, rfl, by decide +kernel, rfl, by decide +kernel, by decide +kernel⟩
abbrev s__law_read_condition : Stmt := top 50
abbrev n__law_read_condition : List Str := ["_law_text_z", "_law_end", "_law_condition_z"]
abbrev p__law_read_condition : List Str := ["_law_text_z"]
theorem sc__law_read_condition : FnScope n__law_read_condition p__law_read_condition (defScope s__law_read_condition) := ⟨rfl, rfl, rfl, by decide +kernel, rfl, by decide +kernel, by decide +kernel⟩
abbrev s_law : Stmt := top 51
abbrev n_law : List Str := ["_law_script", "_law_bag_here", "_law_fixed", "_law_texts", "_law_turn", "_law_atoms", "_law_text_z", "_law_step", "_law_many_z", "_law_due", "_law_told_z", "_law_odd", "_law_k"]
abbrev p_law : List Str := ["_law_script"]
theorem sc_law : FnScope n_law p_law (defScope s_law) := ⟨rfl, rfl, rfl, by decide +kernel, rfl, by decide +kernel, by decide +kernel⟩
abbrev s_Reader___init__ : Stmt := inClass (top 15) 0
abbrev n_Reader___init__ : List Str := ["self", "text"]
abbrev p_Reader___init__ : List Str := ["self", "text"]
theorem sc_Reader___init__ : FnScope n_Reader___init__ p_Reader___init__ (defScope s_Reader___init__) := ⟨rfl, rfl, rfl, by decide +kernel, rfl, by decide +kernel, by decide +kernel⟩
abbrev s_Reader_sees : Stmt := inClass (top 15) 1
abbrev n_Reader_sees : List Str := ["self", "word"]
abbrev p_Reader_sees : List Str := ["self", "word"]
theorem sc_Reader_sees : FnScope n_Reader_sees p_Reader_sees (defScope s_Reader_sees) := ⟨rfl, rfl, rfl, by decide +kernel, rfl, by decide +kernel, by decide +kernel⟩
abbrev s_Reader_accept : Stmt := inClass (top 15) 2
abbrev n_Reader_accept : List Str := ["self", "word"]
abbrev p_Reader_accept : List Str := ["self", "word"]
theorem sc_Reader_accept : FnScope n_Reader_accept p_Reader_accept (defScope s_Reader_accept) := ⟨rfl, rfl, rfl, by decide +kernel, rfl, by decide +kernel, by decide +kernel⟩
abbrev s_Reader_need : Stmt := inClass (top 15) 3
abbrev n_Reader_need : List Str := ["self", "word"]
abbrev p_Reader_need : List Str := ["self", "word"]
theorem sc_Reader_need : FnScope n_Reader_need p_Reader_need (defScope s_Reader_need) := ⟨rfl, rfl, rfl, by decide +kernel, rfl, by decide +kernel, by decide +kernel⟩
abbrev s_Reader_run : Stmt := inClass (top 15) 4
abbrev n_Reader_run : List Str := ["self", "signs", "start"]
abbrev p_Reader_run : List Str := ["self", "signs"]
theorem sc_Reader_run : FnScope n_Reader_run p_Reader_run (defScope s_Reader_run) := ⟨rfl, rfl, rfl, by decide +kernel, rfl, by decide +kernel, by decide +kernel⟩
abbrev s_Reader_word : Stmt := inClass (top 15) 5
abbrev n_Reader_word : List Str := ["self", "start", "found"]
abbrev p_Reader_word : List Str := ["self"]
theorem sc_Reader_word : FnScope n_Reader_word p_Reader_word (defScope s_Reader_word) := ⟨rfl, rfl, rfl, by decide +kernel, rfl, by decide +kernel, by decide +kernel⟩
abbrev s_Reader_enter : Stmt := inClass (top 15) 6
abbrev n_Reader_enter : List Str := ["self"]
abbrev p_Reader_enter : List Str := ["self"]
theorem sc_Reader_enter : FnScope n_Reader_enter p_Reader_enter (defScope s_Reader_enter) := ⟨rfl, rfl, rfl, by decide +kernel, rfl, by decide +kernel, by decide +kernel⟩
abbrev s_Reader_finish : Stmt := inClass (top 15) 7
abbrev n_Reader_finish : List Str := ["self"]
abbrev p_Reader_finish : List Str := ["self"]
theorem sc_Reader_finish : FnScope n_Reader_finish p_Reader_finish (defScope s_Reader_finish) := ⟨rfl, rfl, rfl, by decide +kernel, rfl, by decide +kernel, by decide +kernel⟩
abbrev s_InvalidText___init__ : Stmt := inClass (top 3) 0
abbrev dx_InvalidText : DefX := ⟨"InvalidText", "InvalidText.__init__", defArgs s_InvalidText___init__, defBody s_InvalidText___init__, defScope s_InvalidText___init__⟩
/-! ### what the top has made -/
structure Txt (K : PySem.W.Frag) (mg : Str → Option Value) : Prop where
  g_is_name : mg "is_name" = some (.ref (He.ga K "is_name"))
  g_read_number : mg "read_number" = some (.ref (He.ga K "read_number"))
  g_read_arguments : mg "read_arguments" = some (.ref (He.ga K "read_arguments"))
  g_read_pair : mg "read_pair" = some (.ref (He.ga K "read_pair"))
  g_read_word : mg "read_word" = some (.ref (He.ga K "read_word"))
  g_read_term : mg "read_term" = some (.ref (He.ga K "read_term"))
  g_read_comparison : mg "read_comparison" = some (.ref (He.ga K "read_comparison"))
  g_read_condition : mg "read_condition" = some (.ref (He.ga K "read_condition"))
  g_parse_condition : mg "parse_condition" = some (.ref (He.ga K "parse_condition"))
  g__law_pull : mg "_law_pull" = some (.ref (He.ga K "_law_pull"))
  g__law_of : mg "_law_of" = some (.ref (He.ga K "_law_of"))
  g__law_same : mg "_law_same" = some (.ref (He.ga K "_law_same"))
  g__law_bag : mg "_law_bag" = some (.ref (He.ga K "_law_bag"))
  g__law_field : mg "_law_field" = some (.ref (He.ga K "_law_field"))
  g__law_why : mg "_law_why" = some (.ref (He.ga K "_law_why"))
  g__law_letters : mg "_law_letters" = some (.ref (He.ga K "_law_letters"))
  g__law_is_name : mg "_law_is_name" = some (.ref (He.ga K "_law_is_name"))
  g__law_names : mg "_law_names" = some (.ref (He.ga K "_law_names"))
  g__law_leaf : mg "_law_leaf" = some (.ref (He.ga K "_law_leaf"))
  g__law_term : mg "_law_term" = some (.ref (He.ga K "_law_term"))
  g__law_text : mg "_law_text" = some (.ref (He.ga K "_law_text"))
  g__law_run : mg "_law_run" = some (.ref (He.ga K "_law_run"))
  g__law_scan_number : mg "_law_scan_number" = some (.ref (He.ga K "_law_scan_number"))
  g__law_scan_pair : mg "_law_scan_pair" = some (.ref (He.ga K "_law_scan_pair"))
  g__law_scan_word : mg "_law_scan_word" = some (.ref (He.ga K "_law_scan_word"))
  g__law_scan : mg "_law_scan" = some (.ref (He.ga K "_law_scan"))
  g__law_bent : mg "_law_bent" = some (.ref (He.ga K "_law_bent"))
  g__law_compare : mg "_law_compare" = some (.ref (He.ga K "_law_compare"))
  g__law_tree : mg "_law_tree" = some (.ref (He.ga K "_law_tree"))
  g__law_condition_text : mg "_law_condition_text" = some (.ref (He.ga K "_law_condition_text"))
  g__law_scan_compare : mg "_law_scan_compare" = some (.ref (He.ga K "_law_scan_compare"))
  g__law_scan_condition : mg "_law_scan_condition" = some (.ref (He.ga K "_law_scan_condition"))
  g__law_read_condition : mg "_law_read_condition" = some (.ref (He.ga K "_law_read_condition"))
  g_law : mg "law" = some (.ref (He.ga K "law"))
  g_WishError : mg "WishError" = some (.ref (He.ga K "WishError"))
  g_Missing : mg "Missing" = some (.ref (He.ga K "Missing"))
  g_InvalidText : mg "InvalidText" = some (.ref (He.ga K "InvalidText"))
  g_NothingLeft : mg "NothingLeft" = some (.ref (He.ga K "NothingLeft"))
  g_Reader : mg "Reader" = some (.ref (He.ga K "Reader"))
  c_LETTERS : ∃ t, mg "LETTERS" = some (.str "abcdefghijklmnopqrstuvwxyz" t)
  c_DIGITS : ∃ t, mg "DIGITS" = some (.str "0123456789" t)
  g_RESERVED : mg "RESERVED" = some (.ref (He.ga K "RESERVED"))
  t_RESERVED : ∀ H : Hp, SqT K H (He.ga K "RESERVED") ([(.str "len"), (.str "mod"), (.str "and"), (.str "or"), (.str "not"), (.str "true")] : List V)
  c_MOST_LETTERS : ∃ t, mg "MOST_LETTERS" = some (.int 6 t)
  c_MOST_DIGITS : ∃ t, mg "MOST_DIGITS" = some (.int 9 t)
  c_MOST_FACTOR : ∃ t, mg "MOST_FACTOR" = some (.int 99 t)
  c_MOST_DEPTH : ∃ t, mg "MOST_DEPTH" = some (.int 20 t)
  c_MOST_ARGUMENTS : ∃ t, mg "MOST_ARGUMENTS" = some (.int 3 t)
  c_MOST_MODULUS : ∃ t, mg "MOST_MODULUS" = some (.int 12 t)
  f_all : mg "all" = none
  f_isinstance : mg "isinstance" = none
  f_str : mg "str" = none
  f_len : mg "len" = none
  f_int : mg "int" = none
  f_tuple : mg "tuple" = none
  f_abs : mg "abs" = none
  f_list : mg "list" = none
  f_bool : mg "bool" = none
  f_zip : mg "zip" = none
  f_range : mg "range" = none
  f_super : mg "super" = none
  d_is_name : FunD K "is_name" "is_name" (defArgs s_is_name) (defBody s_is_name) (defScope s_is_name) [] [] (He.fAd K ("is_name", none)) (fdOf K (He.fAd K ("is_name", none)))
  d_read_number : FunD K "read_number" "read_number" (defArgs s_read_number) (defBody s_read_number) (defScope s_read_number) [] [] (He.fAd K ("read_number", none)) (fdOf K (He.fAd K ("read_number", none)))
  d_read_arguments : FunD K "read_arguments" "read_arguments" (defArgs s_read_arguments) (defBody s_read_arguments) (defScope s_read_arguments) [] [] (He.fAd K ("read_arguments", none)) (fdOf K (He.fAd K ("read_arguments", none)))
  d_read_pair : FunD K "read_pair" "read_pair" (defArgs s_read_pair) (defBody s_read_pair) (defScope s_read_pair) [] [] (He.fAd K ("read_pair", none)) (fdOf K (He.fAd K ("read_pair", none)))
  d_read_word : FunD K "read_word" "read_word" (defArgs s_read_word) (defBody s_read_word) (defScope s_read_word) [] [] (He.fAd K ("read_word", none)) (fdOf K (He.fAd K ("read_word", none)))
  d_read_term : FunD K "read_term" "read_term" (defArgs s_read_term) (defBody s_read_term) (defScope s_read_term) [] [] (He.fAd K ("read_term", none)) (fdOf K (He.fAd K ("read_term", none)))
  d_read_comparison : FunD K "read_comparison" "read_comparison" (defArgs s_read_comparison) (defBody s_read_comparison) (defScope s_read_comparison) [] [] (He.fAd K ("read_comparison", none)) (fdOf K (He.fAd K ("read_comparison", none)))
  d_read_condition : FunD K "read_condition" "read_condition" (defArgs s_read_condition) (defBody s_read_condition) (defScope s_read_condition) [] [] (He.fAd K ("read_condition", none)) (fdOf K (He.fAd K ("read_condition", none)))
  d_parse_condition : FunD K "parse_condition" "parse_condition" (defArgs s_parse_condition) (defBody s_parse_condition) (defScope s_parse_condition) [] [] (He.fAd K ("parse_condition", none)) (fdOf K (He.fAd K ("parse_condition", none)))
  d__law_pull : FunD K "_law_pull" "_law_pull" (defArgs s__law_pull) (defBody s__law_pull) (defScope s__law_pull) [] [] (He.fAd K ("_law_pull", none)) (fdOf K (He.fAd K ("_law_pull", none)))
  d__law_of : FunD K "_law_of" "_law_of" (defArgs s__law_of) (defBody s__law_of) (defScope s__law_of) [] [] (He.fAd K ("_law_of", none)) (fdOf K (He.fAd K ("_law_of", none)))
  d__law_same : FunD K "_law_same" "_law_same" (defArgs s__law_same) (defBody s__law_same) (defScope s__law_same) [] [] (He.fAd K ("_law_same", none)) (fdOf K (He.fAd K ("_law_same", none)))
  d__law_bag : FunD K "_law_bag" "_law_bag" (defArgs s__law_bag) (defBody s__law_bag) (defScope s__law_bag) [] [] (He.fAd K ("_law_bag", none)) (fdOf K (He.fAd K ("_law_bag", none)))
  d__law_field : FunD K "_law_field" "_law_field" (defArgs s__law_field) (defBody s__law_field) (defScope s__law_field) [] [] (He.fAd K ("_law_field", none)) (fdOf K (He.fAd K ("_law_field", none)))
  d__law_why : FunD K "_law_why" "_law_why" (defArgs s__law_why) (defBody s__law_why) (defScope s__law_why) [] [] (He.fAd K ("_law_why", none)) (fdOf K (He.fAd K ("_law_why", none)))
  d__law_letters : FunD K "_law_letters" "_law_letters" (defArgs s__law_letters) (defBody s__law_letters) (defScope s__law_letters) [] [] (He.fAd K ("_law_letters", none)) (fdOf K (He.fAd K ("_law_letters", none)))
  d__law_is_name : FunD K "_law_is_name" "_law_is_name" (defArgs s__law_is_name) (defBody s__law_is_name) (defScope s__law_is_name) [] [] (He.fAd K ("_law_is_name", none)) (fdOf K (He.fAd K ("_law_is_name", none)))
  d__law_names : FunD K "_law_names" "_law_names" (defArgs s__law_names) (defBody s__law_names) (defScope s__law_names) [] [] (He.fAd K ("_law_names", none)) (fdOf K (He.fAd K ("_law_names", none)))
  d__law_leaf : FunD K "_law_leaf" "_law_leaf" (defArgs s__law_leaf) (defBody s__law_leaf) (defScope s__law_leaf) [] [] (He.fAd K ("_law_leaf", none)) (fdOf K (He.fAd K ("_law_leaf", none)))
  d__law_term : FunD K "_law_term" "_law_term" (defArgs s__law_term) (defBody s__law_term) (defScope s__law_term) [] [] (He.fAd K ("_law_term", none)) (fdOf K (He.fAd K ("_law_term", none)))
  d__law_text : FunD K "_law_text" "_law_text" (defArgs s__law_text) (defBody s__law_text) (defScope s__law_text) [] [] (He.fAd K ("_law_text", none)) (fdOf K (He.fAd K ("_law_text", none)))
  d__law_run : FunD K "_law_run" "_law_run" (defArgs s__law_run) (defBody s__law_run) (defScope s__law_run) [] [] (He.fAd K ("_law_run", none)) (fdOf K (He.fAd K ("_law_run", none)))
  d__law_scan_number : FunD K "_law_scan_number" "_law_scan_number" (defArgs s__law_scan_number) (defBody s__law_scan_number) (defScope s__law_scan_number) [] [] (He.fAd K ("_law_scan_number", none)) (fdOf K (He.fAd K ("_law_scan_number", none)))
  d__law_scan_pair : FunD K "_law_scan_pair" "_law_scan_pair" (defArgs s__law_scan_pair) (defBody s__law_scan_pair) (defScope s__law_scan_pair) [] [] (He.fAd K ("_law_scan_pair", none)) (fdOf K (He.fAd K ("_law_scan_pair", none)))
  d__law_scan_word : FunD K "_law_scan_word" "_law_scan_word" (defArgs s__law_scan_word) (defBody s__law_scan_word) (defScope s__law_scan_word) [] [] (He.fAd K ("_law_scan_word", none)) (fdOf K (He.fAd K ("_law_scan_word", none)))
  d__law_scan : FunD K "_law_scan" "_law_scan" (defArgs s__law_scan) (defBody s__law_scan) (defScope s__law_scan) [] [] (He.fAd K ("_law_scan", none)) (fdOf K (He.fAd K ("_law_scan", none)))
  d__law_bent : FunD K "_law_bent" "_law_bent" (defArgs s__law_bent) (defBody s__law_bent) (defScope s__law_bent) [] [] (He.fAd K ("_law_bent", none)) (fdOf K (He.fAd K ("_law_bent", none)))
  d__law_compare : FunD K "_law_compare" "_law_compare" (defArgs s__law_compare) (defBody s__law_compare) (defScope s__law_compare) [] [] (He.fAd K ("_law_compare", none)) (fdOf K (He.fAd K ("_law_compare", none)))
  d__law_tree : FunD K "_law_tree" "_law_tree" (defArgs s__law_tree) (defBody s__law_tree) (defScope s__law_tree) [] [] (He.fAd K ("_law_tree", none)) (fdOf K (He.fAd K ("_law_tree", none)))
  d__law_condition_text : FunD K "_law_condition_text" "_law_condition_text" (defArgs s__law_condition_text) (defBody s__law_condition_text) (defScope s__law_condition_text) [] [] (He.fAd K ("_law_condition_text", none)) (fdOf K (He.fAd K ("_law_condition_text", none)))
  d__law_scan_compare : FunD K "_law_scan_compare" "_law_scan_compare" (defArgs s__law_scan_compare) (defBody s__law_scan_compare) (defScope s__law_scan_compare) [] [] (He.fAd K ("_law_scan_compare", none)) (fdOf K (He.fAd K ("_law_scan_compare", none)))
  d__law_scan_condition : FunD K "_law_scan_condition" "_law_scan_condition" (defArgs s__law_scan_condition) (defBody s__law_scan_condition) (defScope s__law_scan_condition) [] [] (He.fAd K ("_law_scan_condition", none)) (fdOf K (He.fAd K ("_law_scan_condition", none)))
  d__law_read_condition : FunD K "_law_read_condition" "_law_read_condition" (defArgs s__law_read_condition) (defBody s__law_read_condition) (defScope s__law_read_condition) [] [] (He.fAd K ("_law_read_condition", none)) (fdOf K (He.fAd K ("_law_read_condition", none)))
  d_law : FunD K "law" "law" (defArgs s_law) (defBody s_law) (defScope s_law) [] [] (He.fAd K ("law", none)) (fdOf K (He.fAd K ("law", none)))
  k_Reader : Cls K (He.ga K "Reader")
  i_Reader : C8.InsC K (He.ga K "Reader")
  it_Reader : IsTys K (He.ga K "Reader")
  n_Reader_source : NoAttr K (He.ga K "Reader") "source"
  n_Reader_at : NoAttr K (He.ga K "Reader") "at"
  n_Reader_depth : NoAttr K (He.ga K "Reader") "depth"
  mk_Reader : Mk K (He.ga K "Reader") (He.ma K (He.ga K "Reader") "__init__")
  d_Reader___init__ : FunD K "__init__" "Reader.__init__" (defArgs s_Reader___init__) (defBody s_Reader___init__) (defScope s_Reader___init__) [] [] (He.fAd K ("Reader", some "__init__")) (fdOf K (He.fAd K ("Reader", some "__init__")))
  m_Reader___init__ : Meth K (He.ga K "Reader") "__init__" (He.ma K (He.ga K "Reader") "__init__")
  d_Reader_sees : FunD K "sees" "Reader.sees" (defArgs s_Reader_sees) (defBody s_Reader_sees) (defScope s_Reader_sees) [] [] (He.fAd K ("Reader", some "sees")) (fdOf K (He.fAd K ("Reader", some "sees")))
  m_Reader_sees : Meth K (He.ga K "Reader") "sees" (He.ma K (He.ga K "Reader") "sees")
  d_Reader_accept : FunD K "accept" "Reader.accept" (defArgs s_Reader_accept) (defBody s_Reader_accept) (defScope s_Reader_accept) [] [] (He.fAd K ("Reader", some "accept")) (fdOf K (He.fAd K ("Reader", some "accept")))
  m_Reader_accept : Meth K (He.ga K "Reader") "accept" (He.ma K (He.ga K "Reader") "accept")
  d_Reader_need : FunD K "need" "Reader.need" (defArgs s_Reader_need) (defBody s_Reader_need) (defScope s_Reader_need) [] [] (He.fAd K ("Reader", some "need")) (fdOf K (He.fAd K ("Reader", some "need")))
  m_Reader_need : Meth K (He.ga K "Reader") "need" (He.ma K (He.ga K "Reader") "need")
  d_Reader_run : FunD K "run" "Reader.run" (defArgs s_Reader_run) (defBody s_Reader_run) (defScope s_Reader_run) [] [] (He.fAd K ("Reader", some "run")) (fdOf K (He.fAd K ("Reader", some "run")))
  m_Reader_run : Meth K (He.ga K "Reader") "run" (He.ma K (He.ga K "Reader") "run")
  d_Reader_word : FunD K "word" "Reader.word" (defArgs s_Reader_word) (defBody s_Reader_word) (defScope s_Reader_word) [] [] (He.fAd K ("Reader", some "word")) (fdOf K (He.fAd K ("Reader", some "word")))
  m_Reader_word : Meth K (He.ga K "Reader") "word" (He.ma K (He.ga K "Reader") "word")
  d_Reader_enter : FunD K "enter" "Reader.enter" (defArgs s_Reader_enter) (defBody s_Reader_enter) (defScope s_Reader_enter) [] [] (He.fAd K ("Reader", some "enter")) (fdOf K (He.fAd K ("Reader", some "enter")))
  m_Reader_enter : Meth K (He.ga K "Reader") "enter" (He.ma K (He.ga K "Reader") "enter")
  d_Reader_finish : FunD K "finish" "Reader.finish" (defArgs s_Reader_finish) (defBody s_Reader_finish) (defScope s_Reader_finish) [] [] (He.fAd K ("Reader", some "finish")) (fdOf K (He.fAd K ("Reader", some "finish")))
  m_Reader_finish : Meth K (He.ga K "Reader") "finish" (He.ma K (He.ga K "Reader") "finish")
  x_InvalidText : MkC K (He.ga K "InvalidText") ["tag", "value", "name", "limit", "many", "user", "position", "line"]
  xm_InvalidText : PySem.W.exmAny K (.ref (He.ga K "InvalidText")) [.ref (He.ga K "WishError"), .ref (He.ga K "Missing"), .ref (He.ga K "NothingLeft")] = some true
  xi_InvalidText : ∀ {P : Program}, IsPG P → PySem.W.InitFn K P (He.ga K "InvalidText") (He.ma K (He.ga K "InvalidText") "__init__") "InvalidText.__init__" (defArgs s_InvalidText___init__) (defBody s_InvalidText___init__) (defScope s_InvalidText___init__)
section
variable {K : PySem.W.Frag} {mg : Str → Option Value}
theorem b_is_name (T : Txt K mg) : Binds K (fdOf K (He.fAd K ("is_name", none))) p_is_name [] := FunD.bindsN (ps := p_is_name) T.d_is_name fun _ _ _ _ _ _ us hl => match us, hl with | [_], _ => rfl
theorem b_read_number (T : Txt K mg) : Binds K (fdOf K (He.fAd K ("read_number", none))) p_read_number [] := FunD.bindsN (ps := p_read_number) T.d_read_number fun _ _ _ _ _ _ us hl => match us, hl with | [_], _ => rfl
theorem b_read_arguments (T : Txt K mg) : Binds K (fdOf K (He.fAd K ("read_arguments", none))) p_read_arguments [] := FunD.bindsN (ps := p_read_arguments) T.d_read_arguments fun _ _ _ _ _ _ us hl => match us, hl with | [_], _ => rfl
theorem b_read_pair (T : Txt K mg) : Binds K (fdOf K (He.fAd K ("read_pair", none))) p_read_pair [] := FunD.bindsN (ps := p_read_pair) T.d_read_pair fun _ _ _ _ _ _ us hl => match us, hl with | [_], _ => rfl
theorem b_read_word (T : Txt K mg) : Binds K (fdOf K (He.fAd K ("read_word", none))) p_read_word [] := FunD.bindsN (ps := p_read_word) T.d_read_word fun _ _ _ _ _ _ us hl => match us, hl with | [_], _ => rfl
theorem b_read_term (T : Txt K mg) : Binds K (fdOf K (He.fAd K ("read_term", none))) p_read_term [] := FunD.bindsN (ps := p_read_term) T.d_read_term fun _ _ _ _ _ _ us hl => match us, hl with | [_], _ => rfl
theorem b_read_comparison (T : Txt K mg) : Binds K (fdOf K (He.fAd K ("read_comparison", none))) p_read_comparison [] := FunD.bindsN (ps := p_read_comparison) T.d_read_comparison fun _ _ _ _ _ _ us hl => match us, hl with | [_], _ => rfl
theorem b_read_condition (T : Txt K mg) : Binds K (fdOf K (He.fAd K ("read_condition", none))) p_read_condition [] := FunD.bindsN (ps := p_read_condition) T.d_read_condition fun _ _ _ _ _ _ us hl => match us, hl with | [_], _ => rfl
theorem b_parse_condition (T : Txt K mg) : Binds K (fdOf K (He.fAd K ("parse_condition", none))) p_parse_condition [] := FunD.bindsN (ps := p_parse_condition) T.d_parse_condition fun _ _ _ _ _ _ us hl => match us, hl with | [_], _ => rfl
theorem b__law_pull (T : Txt K mg) : Binds K (fdOf K (He.fAd K ("_law_pull", none))) p__law_pull [] := FunD.bindsN (ps := p__law_pull) T.d__law_pull fun _ _ _ _ _ _ us hl => match us, hl with | [_, _], _ => rfl
theorem b__law_of (T : Txt K mg) : Binds K (fdOf K (He.fAd K ("_law_of", none))) p__law_of [] := FunD.bindsN (ps := p__law_of) T.d__law_of fun _ _ _ _ _ _ us hl => match us, hl with | [_, _], _ => rfl
theorem b__law_same (T : Txt K mg) : Binds K (fdOf K (He.fAd K ("_law_same", none))) p__law_same [] := FunD.bindsN (ps := p__law_same) T.d__law_same fun _ _ _ _ _ _ us hl => match us, hl with | [_, _], _ => rfl
theorem b__law_bag (T : Txt K mg) : Binds K (fdOf K (He.fAd K ("_law_bag", none))) p__law_bag [] := FunD.bindsN (ps := p__law_bag) T.d__law_bag fun _ _ _ _ _ _ us hl => match us, hl with | [_], _ => rfl
theorem b__law_field (T : Txt K mg) : Binds K (fdOf K (He.fAd K ("_law_field", none))) p__law_field [] := FunD.bindsN (ps := p__law_field) T.d__law_field fun _ _ _ _ _ _ us hl => match us, hl with | [_], _ => rfl
theorem b__law_why (T : Txt K mg) : Binds K (fdOf K (He.fAd K ("_law_why", none))) p__law_why [] := FunD.bindsN (ps := p__law_why) T.d__law_why fun _ _ _ _ _ _ us hl => match us, hl with | [_], _ => rfl
theorem b__law_letters (T : Txt K mg) : Binds K (fdOf K (He.fAd K ("_law_letters", none))) p__law_letters [] := FunD.bindsN (ps := p__law_letters) T.d__law_letters fun _ _ _ _ _ _ us hl => match us, hl with | [], _ => rfl
theorem b__law_is_name (T : Txt K mg) : Binds K (fdOf K (He.fAd K ("_law_is_name", none))) p__law_is_name [] := FunD.bindsN (ps := p__law_is_name) T.d__law_is_name fun _ _ _ _ _ _ us hl => match us, hl with | [_], _ => rfl
theorem b__law_names (T : Txt K mg) : Binds K (fdOf K (He.fAd K ("_law_names", none))) p__law_names [] := FunD.bindsN (ps := p__law_names) T.d__law_names fun _ _ _ _ _ _ us hl => match us, hl with | [_, _], _ => rfl
theorem b__law_leaf (T : Txt K mg) : Binds K (fdOf K (He.fAd K ("_law_leaf", none))) p__law_leaf [] := FunD.bindsN (ps := p__law_leaf) T.d__law_leaf fun _ _ _ _ _ _ us hl => match us, hl with | [_, _], _ => rfl
theorem b__law_term (T : Txt K mg) : Binds K (fdOf K (He.fAd K ("_law_term", none))) p__law_term [] := FunD.bindsN (ps := p__law_term) T.d__law_term fun _ _ _ _ _ _ us hl => match us, hl with | [_, _, _, _], _ => rfl
theorem b__law_text (T : Txt K mg) : Binds K (fdOf K (He.fAd K ("_law_text", none))) p__law_text [] := FunD.bindsN (ps := p__law_text) T.d__law_text fun _ _ _ _ _ _ us hl => match us, hl with | [_], _ => rfl
theorem b__law_run (T : Txt K mg) : Binds K (fdOf K (He.fAd K ("_law_run", none))) p__law_run [] := FunD.bindsN (ps := p__law_run) T.d__law_run fun _ _ _ _ _ _ us hl => match us, hl with | [_, _, _], _ => rfl
theorem b__law_scan_number (T : Txt K mg) : Binds K (fdOf K (He.fAd K ("_law_scan_number", none))) p__law_scan_number [] := FunD.bindsN (ps := p__law_scan_number) T.d__law_scan_number fun _ _ _ _ _ _ us hl => match us, hl with | [_, _], _ => rfl
theorem b__law_scan_pair (T : Txt K mg) : Binds K (fdOf K (He.fAd K ("_law_scan_pair", none))) p__law_scan_pair [] := FunD.bindsN (ps := p__law_scan_pair) T.d__law_scan_pair fun _ _ _ _ _ _ us hl => match us, hl with | [_, _, _, _], _ => rfl
theorem b__law_scan_word (T : Txt K mg) : Binds K (fdOf K (He.fAd K ("_law_scan_word", none))) p__law_scan_word [] := FunD.bindsN (ps := p__law_scan_word) T.d__law_scan_word fun _ _ _ _ _ _ us hl => match us, hl with | [_, _, _], _ => rfl
theorem b__law_scan (T : Txt K mg) : Binds K (fdOf K (He.fAd K ("_law_scan", none))) p__law_scan [] := FunD.bindsN (ps := p__law_scan) T.d__law_scan fun _ _ _ _ _ _ us hl => match us, hl with | [_, _, _], _ => rfl
theorem b__law_bent (T : Txt K mg) : Binds K (fdOf K (He.fAd K ("_law_bent", none))) p__law_bent [] := FunD.bindsN (ps := p__law_bent) T.d__law_bent fun _ _ _ _ _ _ us hl => match us, hl with | [_, _, _], _ => rfl
theorem b__law_compare (T : Txt K mg) : Binds K (fdOf K (He.fAd K ("_law_compare", none))) p__law_compare [] := FunD.bindsN (ps := p__law_compare) T.d__law_compare fun _ _ _ _ _ _ us hl => match us, hl with | [_, _, _, _], _ => rfl
theorem b__law_tree (T : Txt K mg) : Binds K (fdOf K (He.fAd K ("_law_tree", none))) p__law_tree [] := FunD.bindsN (ps := p__law_tree) T.d__law_tree fun _ _ _ _ _ _ us hl => match us, hl with | [_, _, _], _ => rfl
theorem b__law_condition_text (T : Txt K mg) : Binds K (fdOf K (He.fAd K ("_law_condition_text", none))) p__law_condition_text [] := FunD.bindsN (ps := p__law_condition_text) T.d__law_condition_text fun _ _ _ _ _ _ us hl => match us, hl with | [_], _ => rfl
theorem b__law_scan_compare (T : Txt K mg) : Binds K (fdOf K (He.fAd K ("_law_scan_compare", none))) p__law_scan_compare [] := FunD.bindsN (ps := p__law_scan_compare) T.d__law_scan_compare fun _ _ _ _ _ _ us hl => match us, hl with | [_, _, _], _ => rfl
theorem b__law_scan_condition (T : Txt K mg) : Binds K (fdOf K (He.fAd K ("_law_scan_condition", none))) p__law_scan_condition [] := FunD.bindsN (ps := p__law_scan_condition) T.d__law_scan_condition fun _ _ _ _ _ _ us hl => match us, hl with | [_, _, _], _ => rfl
theorem b__law_read_condition (T : Txt K mg) : Binds K (fdOf K (He.fAd K ("_law_read_condition", none))) p__law_read_condition [] := FunD.bindsN (ps := p__law_read_condition) T.d__law_read_condition fun _ _ _ _ _ _ us hl => match us, hl with | [_], _ => rfl
theorem b_law (T : Txt K mg) : Binds K (fdOf K (He.fAd K ("law", none))) p_law [] := FunD.bindsN (ps := p_law) T.d_law fun _ _ _ _ _ _ us hl => match us, hl with | [_], _ => rfl
theorem b_Reader___init__ (T : Txt K mg) : Binds K (fdOf K (He.fAd K ("Reader", some "__init__"))) p_Reader___init__ [] := FunD.bindsN (ps := p_Reader___init__) T.d_Reader___init__ fun _ _ _ _ _ _ us hl => match us, hl with | [_, _], _ => rfl
theorem b_Reader_sees (T : Txt K mg) : Binds K (fdOf K (He.fAd K ("Reader", some "sees"))) p_Reader_sees [] := FunD.bindsN (ps := p_Reader_sees) T.d_Reader_sees fun _ _ _ _ _ _ us hl => match us, hl with | [_, _], _ => rfl
theorem b_Reader_accept (T : Txt K mg) : Binds K (fdOf K (He.fAd K ("Reader", some "accept"))) p_Reader_accept [] := FunD.bindsN (ps := p_Reader_accept) T.d_Reader_accept fun _ _ _ _ _ _ us hl => match us, hl with | [_, _], _ => rfl
theorem b_Reader_need (T : Txt K mg) : Binds K (fdOf K (He.fAd K ("Reader", some "need"))) p_Reader_need [] := FunD.bindsN (ps := p_Reader_need) T.d_Reader_need fun _ _ _ _ _ _ us hl => match us, hl with | [_, _], _ => rfl
theorem b_Reader_run (T : Txt K mg) : Binds K (fdOf K (He.fAd K ("Reader", some "run"))) p_Reader_run [] := FunD.bindsN (ps := p_Reader_run) T.d_Reader_run fun _ _ _ _ _ _ us hl => match us, hl with | [_, _], _ => rfl
theorem b_Reader_word (T : Txt K mg) : Binds K (fdOf K (He.fAd K ("Reader", some "word"))) p_Reader_word [] := FunD.bindsN (ps := p_Reader_word) T.d_Reader_word fun _ _ _ _ _ _ us hl => match us, hl with | [_], _ => rfl
theorem b_Reader_enter (T : Txt K mg) : Binds K (fdOf K (He.fAd K ("Reader", some "enter"))) p_Reader_enter [] := FunD.bindsN (ps := p_Reader_enter) T.d_Reader_enter fun _ _ _ _ _ _ us hl => match us, hl with | [_], _ => rfl
theorem b_Reader_finish (T : Txt K mg) : Binds K (fdOf K (He.fAd K ("Reader", some "finish"))) p_Reader_finish [] := FunD.bindsN (ps := p_Reader_finish) T.d_Reader_finish fun _ _ _ _ _ _ us hl => match us, hl with | [_], _ => rfl
end
end PW
/-! ### defs that are called where no repr is under way: repr of tuples within tuples -/
namespace PW
open PySem PySem.Spec PyProof.Rows L2
/-- a def's promise where no guarded call is under way -/
structure FnOkG (P : Program) (w : World) (K : PySem.W.Frag) (mg : Str → Option Value) (base : Heap) (CX : CXT) (k : Nat) (f : Addr) (fd : FuncData) (ps : List Str) (sp : Sp) : Prop where
  len : ∀ vs H Q E, sp vs H Q E → vs.length = ps.length
  run : ∀ (A : Around) (outer : List Env) (s : Shared) (H : Hp) (args : Args) (us : List Value) (vs : List V) (Q : VK) (E : XK), A.guards = some [] → Room k A → Env0 P w K mg base A outer s H → BindsTo s fd args (ps.zip us) → Vals vs us → sp vs H Q E →
    codeAny (model P w) A (.call (.ref f) args) (CR CX outer P w H s Q E) s
section
variable {P : Program} {w : World} {K : PySem.W.Frag} {mg : Str → Option Value} {base : Heap} {x qual : Str} {params : Arguments} {body : List Stmt} {scope : Scope} {dvs : List V} {kws : List (Str × V)} {f : Addr} {fd : FuncData}
theorem FunD.okG {CX : CXT} {N ps : List Str} {k : Nat} {sp : Sp} (F : FunD K x qual params body scope dvs kws f fd) (S : FnScope N ps scope) (len : ∀ vs H Q E, sp vs H Q E → vs.length = ps.length)
    (hbody : ∀ (cdv : Value) (A : Around) (outer : List Env) (s : Shared) (H : Hp) (vs : List V) (Q : VK) (E : XK), A.guards = some [] → Room k (A.deeper (envOfC qual scope s.heap.objs.size f cdv)) → sp vs H Q E →
      ∃ t, PSs (cxOf CX P w K mg base N qual scope f cdv A outer s H E) body t ∧ t { nx := fun _ H' => Q .non H', rt := Q } (start N vs) H) : FnOkG P w K mg base CX (k + 1) f fd ps sp := by
  obtain ⟨oc, od, dV, kV, doc, pm, an, cdv, ct, osl, rfl, lk, hcd, _, _⟩ := F.ex
  exact ⟨len, fun A outer s H args us vs Q E hg hr e0 hb r hsp => LamX.run_ofS lk hcd S hr e0 hb r (len _ _ _ _ hsp) fun hr' => hbody cdv A outer s H vs Q E hg hr' hsp⟩
end
/-- the heap at the law's call: of what the head left, the script alone may be told, where the written part does not hold it -/
def scrH (K : PySem.W.Frag) (a : Addr) (ob : Obj) (xs : List V) : Hp := fun b => if b = a ∧ K.lookup a = none then some (.frz ob (.lst xs)) else none
theorem scrH_ins {K : PySem.W.Frag} {a b : Addr} {ob : Obj} {xs : List V} {u : HO} (h : scrH K a ob xs b = some u) : (b = a ∧ K.lookup a = none) ∧ u = .frz ob (.lst xs) := by
  unfold scrH at h
  split at h
  · rename_i c
    exact ⟨c, (Option.some.inj h).symm⟩
  · cases h
theorem scrH_none {K : PySem.W.Frag} {a b : Addr} {ob : Obj} {xs : List V} (h : ¬ (b = a ∧ K.lookup a = none)) : scrH K a ob xs b = none := if_neg h
theorem scrH_at {K : PySem.W.Frag} {a : Addr} {ob : Obj} {xs : List V} (h : K.lookup a = none) : scrH K a ob xs a = some (.frz ob (.lst xs)) := if_pos ⟨rfl, h⟩
theorem scrH_only {K : PySem.W.Frag} {a : Addr} {ob : Obj} {xs : List V} : Only (scrH K a ob xs) := fun b => by
  cases e : scrH K a ob xs b with
  | none => exact .inl rfl
  | some u => exact .inr ⟨ob, xs, by rw [(scrH_ins e).2]⟩
section
variable {P : Program} {w : World} {K : PySem.W.Frag} {mg mb : Str → Option Value} {CX : CXT} {k : Nat} {fa a : Addr} {fd : FuncData} {x : Str} {sp : Sp} {s : Shared} {vs : List Value} {ns : List Int}
/-- the law's call at the head's end, by a promise for where no repr is under way -/
theorem lawG_call (KX : K.In s.heap) (hns : s.heap.Ns mainGlobals mg) (hb : s.heap.Ns builtinsNs mb) (hbb : ∀ x : Str, x ≠ "__name__" → mb x = bootBuiltins x) (hlim : s.heap.NoLimit) (hg : s.gens = #[])
    (ha : s.heap.get? a = some { cls := .type "list", data := .seq vs.toArray }) (hi : IntsAre vs ns) (hl : ns.length ≤ sizeLine) (hr : Room k callerA)
    (F : ∀ base : Heap, K.In base → base.Ns mainGlobals mg → FnOkG P w K mg base CX k fa fd [x] sp) (hbind : ∀ (s : Shared) (u : Value), BindsTo s fd ⟨[u], []⟩ [(x, u)])
    (hsp : ∀ H : Hp, Only H → SqL K H a (ns.map V.int) → sp [.ref a] H (fun v _ => v = .bl true) fun _ _ _ => False)
    (hCX : ∀ H e s', CX [] H s (fun _ _ _ => False) e s' → False) :
    codeAny (model P w) callerA (.call (.ref fa) ⟨[.ref a], []⟩) (fun r s' => r = .ok (.ret (.bool true)) ∧ OldK s.heap s'.heap ∧ s'.os = s.os ∧ AllBare s'.gens) s := by
  have rv := vals_ints hi
  generalize eO : ({ cls := .type "list", data := .seq vs.toArray } : Obj) = ob at ha
  generalize eH : scrH K a ob (ns.map V.int) = H
  -- what the top holds is kept beside the script
  have old : ∀ {b : Addr} {o : Obj}, s.heap.get? b = some o → ((∃ es ep, o.data = .dict es ep) ∨ K.lookup b = some o) → (hidT s.heap H).get? b = some o := fun {b o} e c => hidT_get e (by
    subst eH
    refine scrH_none ?_
    rintro ⟨rfl, n⟩
    rcases c with ⟨es, ep, c⟩ | c
    · have e2 := Option.some.inj (e.symm.trans ha)
      subst e2
      subst eO
      have c' : Data.seq vs.toArray _ = Data.dict es ep := c
      cases c'
    · cases n.symm.trans c)
  have ns' : ∀ {b : Addr} {m : Str → Option Value}, s.heap.Ns b m → (hidT s.heap H).Ns b m := fun {b m} z => by
    obtain ⟨o, es, ep, e, d, r⟩ := z
    exact ⟨o, es, ep, old e (.inl ⟨es, ep, d⟩), d, r⟩
  have kb : K.In (hidT s.heap H) := fun b o e => old (KX b o e) (.inr e)
  obtain ⟨ml, l1, l2⟩ := hlim
  have mo : Mod K mg (hidT s.heap H) := ⟨kb, ns' hns, ⟨mb, ns' hb, hbb⟩, ml, ns' l1, l2⟩
  have hL : SqL K H a (ns.map V.int) := by
    cases q : K.lookup a with
    | none =>
      refine .inl (.inr ⟨ob, ?_⟩)
      subst eH
      exact scrH_at q
    | some o =>
      have e2 := Option.some.inj ((KX a o q).symm.trans ha)
      subst e2
      subst eO
      refine .inr ⟨_, vs.toArray, _, q, rfl, rfl, rfl, ?_, by simpa using rv⟩
      rw [List.size_toArray, hi.length]
      exact hl
  have ok : HOk P w H s.heap := fun b u e => by
    subst eH
    obtain ⟨⟨rfl, _⟩, rfl⟩ := scrH_ins e
    subst eO
    refine ⟨ha, ?_, vs, _, rv, ha⟩
    rw [List.length_map]
    exact hl
  have e0 : Env0 P w K mg (hidT s.heap H) callerA [] s H := ⟨rfl, mo, fun b o e => of_hidT e, Nat.le_of_eq (hidT_size _ _), trivial, (fun b z => by cases z), ok, .of_eq hg⟩
  have hO : Only H := by
    subst eH
    exact scrH_only
  refine codeAny_mono ((F _ kb (ns' hns)).run callerA [] s H _ [.ref a] [.ref a] _ _ rfl hr e0 (hbind s (.ref a)) (.cons rfl .nil) (hsp H hO hL)) fun r s' z => ?_
  match r, z with
  | .error e, z => exact (hCX H e s' z).elim
  | .ok .next, z => exact False.elim z
  | .ok .brk, z => exact False.elim z
  | .ok .cont, z => exact False.elim z
  | .ok (.ret u), z =>
    obtain ⟨v, H', os, bare, un, hok', r', q⟩ := z
    have q : v = .bl true := q
    subst q
    cases (show u = Value.bool true from r')
    refine ⟨rfl, OldK.of_keep fun b o e => ?_, os, bare⟩
    rcases hO b with n | ⟨o1, xs, n⟩
    · exact un.keep b o e n (fun z => by cases z) (fun z => by cases z)
    · have k1 := (ok b _ n).1
      rw [e] at k1
      cases k1
      exact (hok' b _ (un.frzs b o _ n)).1
end
theorem walk_ofEG {l : PySem.W.OpenLaw} {n k : Nat} {q : Program} {loose : List Str} {XP : (Str → Option Value) → Heap → Prop} {YP : World → Heap → Prop} {d : DefRec} {CX : CXT} {x : Str}
    (hn : l.most = some n) (hn2 : n ≤ sizeLine) (hdf : d.params.defaults = []) (hr : Room k callerA)
    (F : ∀ (w : World) (mg : Str → Option Value) (fa : Addr) (h : Heap), YP w h → h.Ns mainGlobals mg → mg d.name = some (.ref fa) →
      ∃ (K : PySem.W.Frag) (fd : FuncData) (sp : Sp), K.In h ∧ (∀ (s : Shared) (u : Value), BindsTo s fd ⟨[u], []⟩ [(x, u)]) ∧
        (∀ (H : Hp) (a : Addr) (ns : List Int), ns.length ≤ n → Only H → SqL K H a (ns.map V.int) → sp [.ref a] H (fun v _ => v = .bl true) fun _ _ _ => False) ∧
        ∀ base : Heap, K.In base → base.Ns mainGlobals mg → FnOkG l.prog w K mg base CX k fa fd [x] sp)
    (hCX : ∀ (H : Hp) (s : Shared) (e : Value) (s' : Shared), CX [] H s (fun _ _ _ => False) e s' → False) :
    PySem.W.WalkO q loose XP YP l.row.toRowW d [] (fun f vs => PySem.call f vs) := by
  refine Att.attach_call hn hdf fun w s₀ s₁ mg mb fa o pm cd doc a vs ns G Y ho hd hcd hmg hobj hints hlen hg => ?_
  obtain ⟨K, fd, sp, KX, hb, hsp, hF⟩ := F w mg fa _ Y G.T.g hmg
  exact lawG_call KX G.T.g G.T.b G.T.builtins G.T.nolimit hg hobj hints (Nat.le_trans hlen hn2) hr hF hb (fun H hO hS => hsp H a ns hlen hO hS) fun H e s' => hCX H s₁ e s'
/-! ### data in the heap, shown -/
/-- repr(x) of such a datum -/
def cReprD (K : PySem.W.Frag) : List V → Hp → VK → Prop := fun xs H Q => ∃ (p : Addr) (d : PyData), xs = [.ref p] ∧ Dp K H (.ref p) d ∧ d.showable = true ∧ d.hasDict = false ∧ d.shown.length ≤ sizeLine ∧ d.depth ≤ 60 ∧ Q (.str d.shown) H
theorem call_reprD {X : Cx} (hg : X.A.guards = some []) (hu : X.A.units + 64 < cLine) : CallR X (.builtin "repr") (cReprD X.K) := by
  intro pins s σ H xs us Q I r h
  obtain ⟨p, d, rfl, hd, h1, h2, h3, h4, q⟩ := h
  obtain ⟨u, rfl, ru⟩ := vals1 r
  obtain ⟨as, hr⟩ := Dp.reads I d _ u hd ru
  cases (show u = Value.ref p from ru)
  exact repr_of_reads' hr h1 (PyData.noDict_hsm h2) hg (by omega) (fun _ _ e => e) (fun h' t tk k => ⟨.str d.shown, H, I.kept k, ⟨t, rfl⟩, q⟩) h3
end PW
/-! ### != [], str of an int or a text -/
namespace PW
open PySem PySem.Spec PyProof.Rows L2 PySem.SeqAt
section
variable {X : Cx}
/-- str of an int or of a text -/
def cStrOr : List V → Hp → VK → Prop := fun xs H Q => (∃ i, xs = [.int i] ∧ i.natAbs.log2 < 1920 ∧ Q (.str (toString i)) H) ∨ ∃ a, xs = [.str a] ∧ Q (.str a) H
theorem call_strT : CallR X (.type "str") (fun xs H Q => ∃ a, xs = [.str a] ∧ Q (.str a) H) := fun pins s σ H xs us Q I r h => by
  obtain ⟨z, rfl, q⟩ := h
  obtain ⟨u, rfl, t, rfl⟩ := vals1 r
  exact PySem.P.str_of_str ⟨.str z, H, I, ⟨_, rfl⟩, q⟩
theorem call_strOr : CallR X (.type "str") cStrOr := fun pins s σ H xs us Q I r h => h.elim (call_str_int pins s σ H xs us Q I r) (call_strT pins s σ H xs us Q I r)
theorem r_strI {i : Int} {H : Hp} {Q : VK} (h : i.natAbs.log2 < 1920) (q : Q (.str (toString i)) H) : cStrOr [.int i] H Q := .inl ⟨i, rfl, h, q⟩
theorem r_strS {z : Str} {H : Hp} {Q : VK} (q : Q (.str z) H) : cStrOr [.str z] H Q := .inr ⟨z, rfl, q⟩
theorem r_ixS {z : Str} {i : Int} {c : Nat} {H : Hp} {Q : VK} (hz : z.length ≤ sizeLine) (h : atI z.cps.toList i = some c) (q : Q (.str ⟨#[c]⟩) H) : rIxS (.str z) (.int i) H Q := ⟨z, i, c, rfl, rfl, hz, h, q⟩
theorem eqv_strs {ns : List Str} : PyData.eqv (.list (ns.map .str)) (.list []) = ns.isEmpty := by
  cases ns <;> rfl
theorem dp_strs {K : PySem.W.Frag} {H : Hp} {a : Addr} {ns : List Str} (h : SqL K H a (ns.map V.str)) : Dp K H (.ref a) (.list (ns.map .str)) := by
  refine .lst h ?_
  clear h
  induction ns with
  | nil => exact .nil
  | cons x r ih => exact .cons (.str x) ih
theorem shaped_strs {ns : List Str} (h : ∀ z ∈ ns, PyData.strOk z = true) : SeqAt.shaped (.list (ns.map .str)) = true := by
  have h1 : PyData.canLayAll0 (ns.map .str) = true := by
    induction ns with
    | nil => rfl
    | cons x r ih =>
      simp only [List.map_cons, PyData.canLayAll0, PyData.canLay0]
      rw [h x List.mem_cons_self, ih fun z hz => h z (List.mem_cons_of_mem _ hz)]
      rfl
  have h2 : PyData.depthAll (ns.map .str) ≤ 0 := by
    clear h h1
    induction ns with
    | nil => exact Nat.le_refl _
    | cons x r ih =>
      simp only [List.map_cons, PyData.depthAll, PyData.depth]
      omega
  unfold SeqAt.shaped
  simp only [PyData.canLay0, PyData.depth]
  rw [h1, Bool.true_and]
  exact decide_eq_true (by omega)
/-- ns != [] -/
theorem r_neNs {K : PySem.W.Frag} {H : Hp} {a b : Addr} {ns : List Str} {Q : VK} (h : SqL K H a (ns.map V.str)) (ok : ∀ z ∈ ns, PyData.strOk z = true) (h2 : SqL K H b []) (q : Q (.bl (!ns.isEmpty)) H) : rNeD K (.ref a) (.ref b) H Q :=
  ⟨_, .list [], dp_strs h, .lst h2 .nil, shaped_strs ok, by decide +kernel, by rw [eqv_strs]; exact q⟩
end
end PW
/-! ### a text times an int -/
namespace PW
open PySem PySem.Spec PyProof.Rows L2
def repS (z : Str) (n : Nat) : Str := ⟨((List.replicate n (TL.tl z)).flatten).toArray⟩
theorem fold_rep (l : List Nat) : ∀ (k : Nat) (acc : List Nat), List.foldl (fun x y : Array Nat => x ++ y) acc.toArray (List.replicate k l.toArray) = (acc ++ (List.replicate k l).flatten).toArray
  | 0, acc => by simp
  | k + 1, acc => by
    have e : acc.toArray ++ l.toArray = (acc ++ l).toArray := by simp
    rw [List.replicate_succ, List.foldl_cons, e, fold_rep l k, List.replicate_succ, List.flatten_cons, List.append_assoc]
theorem rep_fold (z : Str) (n : Nat) : (⟨(List.replicate n z.cps).foldl (· ++ ·) #[]⟩ : Str) = repS z n := by
  have e : z.cps = (TL.tl z).toArray := by
    show z.cps = z.cps.toList.toArray
    simp
  have f := fold_rep (TL.tl z) n []
  rw [List.nil_append] at f
  unfold repS
  rw [← f, ← e]
theorem tl_rep (z : Str) (n : Nat) : TL.tl (repS z n) = (List.replicate n (TL.tl z)).flatten := rfl
theorem repS_len (z : Str) (n : Nat) : (repS z n).length = n * z.length := by
  show ((List.replicate n (TL.tl z)).flatten).toArray.size = _
  rw [List.size_toArray, List.length_flatten, List.map_replicate, List.sum_replicate_nat]
  rw [← TL.len_tl]
def rRepS : R2 := fun x y H Q => ∃ (z : Str) (k : Int), x = .str z ∧ y = .int k ∧ 0 ≤ k ∧ k ≤ 1000 ∧ z.length ≤ 1000 ∧ Q (.str (repS z k.toNat)) H
theorem op_repS {X : Cx} : OpR X (binaryOp .Mult) rRepS := by
  intro pins s σ H x y v u Q I rx ry h
  obtain ⟨z, k, rfl, rfl, h0, h1, hz, q⟩ := h
  obtain ⟨t, rfl⟩ := rx
  obtain ⟨t', rfl⟩ := ry
  have hle : z.length * k.toNat ≤ 1000 * 1000 := Nat.mul_le_mul hz (by omega)
  have hl : Builtin.Str.tooLong (z.length * k.toNat) = false := by
    have : ¬ z.length * k.toNat > 2 ^ 24 := by omega
    simpa [Builtin.Str.tooLong, sizeLine] using this
  refine P.mul_str (by
    rw [decide_eq_false (by omega), decide_eq_false (by omega)]
    rfl) (fun n1 _ => ?_) (fun _ _ => hl) ?_
  · have d : (2 ^ 63 - 1 : Int) / 1000 ≤ (2 ^ 63 - 1) / k := by
      have e1 : k * ((2 ^ 63 - 1 : Int) / 1000) ≤ 2 ^ 63 - 1 := by
        have e2 : k * ((2 ^ 63 - 1 : Int) / 1000) ≤ 1000 * ((2 ^ 63 - 1 : Int) / 1000) := Int.mul_le_mul_of_nonneg_right h1 (by decide)
        omega
      exact (Int.le_ediv_iff_mul_le (by omega)).mpr (by rw [Int.mul_comm]; exact e1)
    have d2 : ((2 ^ 63 - 1 : Int)) / 1000 ≥ 1000 := by decide
    omega
  · have fin : ∀ y : Str, y = repS z k.toNat → (Made.str y).post (fun w s' => EP X pins σ Q w s') s := fun y e => by
      subst e
      refine ⟨?_, .str _, H, I.tok _, ⟨_, rfl⟩, q⟩
      rw [repS_len, sizeLine_eq, Nat.mul_comm]
      exact Nat.le_trans hle (by decide)
    by_cases n1 : k < 1
    · rw [if_pos n1]
      refine fin _ ?_
      rw [show k.toNat = 0 by omega]
      rfl
    · rw [if_neg n1]
      by_cases n2 : (k == 1 || z.length == 0) = true
      · rw [if_pos n2]
        have e : z = repS z k.toNat := TL.ext_tl (by
          rw [tl_rep]
          rcases Bool.or_eq_true_iff.mp n2 with e | e
          · rw [eq_of_beq e]
            show TL.tl z = ([TL.tl z] : List (List Nat)).flatten
            simp
          · have e := eq_of_beq e
            rw [TL.len_tl] at e
            rw [List.length_eq_zero_iff.mp e]
            simp)
        exact ⟨.str z, H, I, ⟨t, rfl⟩, by rw [← e] at q; exact q⟩
      · rw [if_neg n2]
        exact fin _ (rep_fold z k.toNat)
theorem r_repS {z : Str} {k : Int} {H : Hp} {Q : VK} (h0 : 0 ≤ k) (h1 : k ≤ 1000) (hz : z.length ≤ 1000) (q : Q (.str (repS z k.toNat)) H) : rRepS (.str z) (.int k) H Q := ⟨z, k, rfl, rfl, h0, h1, hz, q⟩
end PW
/-! ### own errors made and raised -/
namespace PW
open PySem PySem.Spec PyProof.Rows L2
section
variable {P : Program} {w : World} {K : PySem.W.Frag} {mg : Str → Option Value} {base : Heap}
theorem xmk_InvalidText (hP : IsPG P) (T : Txt K mg) : Makes0 P w K mg (He.ga K "InvalidText") "InvalidText" := by
  intro A s R X hg ⟨mb, hb, hbb⟩ hlim hd hR
  have M := T.x_InvalidText
  refine PySem.W.exc_made (M := fun m => ∃ tu, m = fun (y : Str) => if y = "tag" then some (.str "InvalidText" tu) else none) M.oex M.iC M.tC X (by show 0 ≤ sizeLine; decide) ?_ ?_
  · intro A' h2 x t0 R' hA' hk xK hx hq
    refine PySem.W.init_run (s := ⟨h2, s.gens, s.drawn, s.toks, s.os⟩) (mg := mg) (mb := mb) (args := []) (binds := [("self", .ref x)]) M.oex (T.xi_InvalidText hP) (X.keeps hk) (hg.keeps hk) (hb.keeps hk) ((hbb _ (by decide)).trans (by rfl)) (hlim.keeps hk) hx (by omega)
      (fun _ _ _ _ _ _ _ _ => BindsTo.of_eq (by rfl)) (by decide +kernel) (fun y hy => ?_) rfl rfl rfl T.f_super (fun _ _ _ => rfl) (fun _ => rfl) (fun _ => rfl) rfl rfl (by rfl) (by rfl) (by rfl) (by rfl) ?_
    · rcases List.mem_cons.mp hy with rfl | hy
      · rfl
      · cases hy
    · intro L cda cc s1 t1 os g d hn hL k hx1
      have xL : L ≠ x := Nat.ne_of_gt (Nat.lt_of_lt_of_le (Heap.lt_size hx) hL)
      refine PySem.W.init0_run (tag := "InvalidText") M.oex (PySem.W.in_but (X.keeps hk) xK k) hn (by rfl) hx1 rfl (by rfl) (M.no _ (by decide)) ?_
      intro h' tk dx tu e
      obtain ⟨g1, d1, os1⟩ : s1.gens = s.gens ∧ s1.drawn = s.drawn ∧ s1.os = s.os := ⟨g, d, os⟩
      have z := hq h' tk dx t1 _ ⟨tu, rfl⟩ ⟨fun b o nb q => e.keep b o nb (k b o nb q), e.obj, ?_, e.dne, e.ns⟩
      · rw [← g1, ← d1, ← os1] at z
        exact z
      · exact Nat.le_trans (Nat.le_trans hL (Nat.le_of_lt hn.lt)) e.dbig
  · intro h' tk e d m ⟨tu, hm⟩ E
    subst hm
    exact hR h' tk e d tu E
end
end PW
/-! ### the draws -/
namespace PW
open PySem PySem.Spec PyProof.Rows L2
/-- all but b stays -/
def ExB (b : Addr) (H H' : Hp) : Prop := ∀ a o, a ≠ b → H a = some o → H' a = some o
theorem ExB.refl {b : Addr} {H : Hp} : ExB b H H := fun _ _ _ h => h
theorem ExB.trans {b : Addr} {H H1 H2 : Hp} (x : ExB b H H1) (y : ExB b H1 H2) : ExB b H H2 := fun a o n h => y a o n (x a o n h)
theorem ExB.upd {b : Addr} {H H1 : Hp} {o : HO} (x : ExB b H H1) : ExB b H (L2.upd H1 b o) := fun a u n h => by
  rw [upd_ne n]
  exact x a u n h
structure BagAt (H : Hp) (b c : Addr) : Prop where
  ex : ∃ (cells : List Int) (i g s : Int), H b = some (.lst [.ref c, .int i, .int g, .int s]) ∧ H c = some (.lst (cells.map V.int)) ∧ 0 ≤ i ∧ 0 ≤ g ∧ 0 ≤ s ∧ s < 2147483549
theorem bag_ne {H : Hp} {b c : Addr} {cells : List Int} {i g s : Int} (h : H b = some (.lst [.ref c, .int i, .int g, .int s])) (h2 : H c = some (.lst (cells.map V.int))) : c ≠ b := by
  intro e
  subst e
  rw [h] at h2
  injection h2 with h2
  injection h2 with h2
  cases cells with
  | nil => cases h2
  | cons z r =>
    rw [List.map_cons] at h2
    injection h2 with h3
    cases h3
theorem BagAt.upd {H : Hp} {b c : Addr} {cells : List Int} {i g s i' g' s' : Int} (h : H b = some (.lst [.ref c, .int i, .int g, .int s])) (h2 : H c = some (.lst (cells.map V.int))) (a1 : 0 ≤ i') (a2 : 0 ≤ g') (a3 : 0 ≤ s') (a4 : s' < 2147483549) :
    BagAt (L2.upd H b (.lst [.ref c, .int i', .int g', .int s'])) b c :=
  ⟨cells, i', g', s', upd_same, by rw [upd_ne (bag_ne h h2)]; exact h2, a1, a2, a3, a4⟩
theorem atI_ints {xs : List Int} {i : Int} (h0 : 0 ≤ i) (h : i < (xs.length : Int)) : ∃ z, atI (xs.map V.int) i = some (.int z) := by
  have hl : i.toNat < xs.length := by omega
  have e : i = (i.toNat : Int) := by omega
  have h2 : atI (xs.map V.int) (i.toNat : Int) = some (.int xs[i.toNat]) := atI_nat (by rw [List.getElem?_map, List.getElem?_eq_getElem hl]; rfl)
  exact ⟨_, by rw [← e] at h2; exact h2⟩
theorem BagAt.objs {H : Hp} {b c : Addr} (h : BagAt H b c) : (∃ o, H b = some o) ∧ (∃ o, H c = some o) ∧ c ≠ b := by
  obtain ⟨cells, i, g, s, h1, h2, _⟩ := h
  exact ⟨⟨_, h1⟩, ⟨_, h2⟩, bag_ne h1 h2⟩
/-- where the two lists of the bag stay -/
theorem BagAt.keep {H H' : Hp} {b c : Addr} (h : BagAt H b c) (e1 : ∀ o, H b = some o → H' b = some o) (e2 : ∀ o, H c = some o → H' c = some o) : BagAt H' b c := by
  obtain ⟨cells, i, g, s, h1, h2, r⟩ := h
  exact ⟨cells, i, g, s, e1 _ h1, e2 _ h2, r⟩
theorem BagAt.put {H : Hp} {b c D : Addr} {o : HO} (h : BagAt H b c) (n1 : b ≠ D) (n2 : c ≠ D) : BagAt (L2.upd H D o) b c := h.keep (fun o e => by rw [upd_ne n1]; exact e) fun o e => by rw [upd_ne n2]; exact e
theorem BagAt.grow {H H' : Hp} {b c : Addr} (h : BagAt H b c) (e : ∀ a o, H a = some o → H' a = some o) : BagAt H' b c := h.keep (fun o q => e _ o q) fun o q => e _ o q
theorem BagAt.ne {H : Hp} {b c D : Addr} (h : BagAt H b c) (hD : H D = none) : b ≠ D ∧ c ≠ D := by
  obtain ⟨⟨o, h1⟩, ⟨o2, h2⟩, _⟩ := h.objs
  exact ⟨ne_of_none h1 hD, ne_of_none h2 hD⟩
theorem BagAt.new {H : Hp} {b c D : Addr} {o : HO} (h : BagAt H b c) (hD : H D = none) : BagAt (L2.upd H D o) b c := h.put (h.ne hD).1 (h.ne hD).2
def spPull : Sp := fun vs H Q _ => ∃ (b c : Addr) (m : Int), vs = [.ref b, .int m] ∧ BagAt H b c ∧ 0 < m ∧ m.natAbs.log2 < 9000 ∧ ∀ r H', 0 ≤ r → r < m → BagAt H' b c → ExB b H H' → Q (.int r) H'
section
variable {P : Program} {w : World} {K : PySem.W.Frag} {mg : Str → Option Value} {base : Heap}
theorem ok__law_pull (T : Txt K mg) : FnOk P w K mg base CX0 1 (He.ga K "_law_pull") (fdOf K (He.ga K "_law_pull")) p__law_pull spPull := by
  refine FunD.ok T.d__law_pull sc__law_pull (fun vs H Q E h => ?_) (fun cdv A outer s H vs Q E hr h => ?_)
  · obtain ⟨b, c, m, rfl, _⟩ := h
    rfl
  · obtain ⟨b, c, m, rfl, ⟨cells, i, g, z, hb, hc, hi, hg, hz, hz2⟩, hm, hm9, hQ⟩ := h
    have hcb := bag_ne hb hc
    refine ⟨_, PSs.nox ((pss_cons (ps_if (PW.pt (pw_and (pt_cmpR op_eq (pe_ix ix_list (pv 0) pe_int (fun _ _ => rfl)) pe_int (nomark _)) (pw_and1 (pt_cmpR op_lt (pe_ix ix_list (pv 0) pe_int (fun _ _ => rfl)) (pe_callB call_lenN (by rfl) T.f_len (by decide +kernel) (pa_cons (pe_ix ix_list (pv 0) pe_int (fun _ _ => rfl)) pa_nil)) (nomark _)))))
      (pss_cons (ps_set (i := 2) sc__law_pull.nd rfl (Or.inl rfl) (pe_ix ix_list (pe_ix ix_list (pv 0) pe_int (fun _ _ => rfl)) (pe_ix ix_list (pv 0) pe_int (fun _ _ => rfl)) (fun _ _ => rfl)))
        (pss_cons (ps_asg (pe_op op_add (pe_ix ix_list (pv 0) pe_int (fun _ _ => rfl)) pe_int) (pg_sub (pv 0) pe_int set_list))
        (pss_one (ps_if (pt_cmpR op_ge (pv 2) (pe_op op_pow pe_int pe_int) (nomark _))
          (pss_one (ps_asg (pv 2) (pg_sub (pv 0) pe_int set_list)))
          (pss_one (ps_asg (pe_op op_mod (pe_callTy call_intN (by rfl) T.f_int (by decide +kernel) (pa_cons (pe_op op_add (pe_op op_add (pe_op op_mulX (pe_ix ix_list (pv 0) pe_int (fun _ _ => rfl)) pe_int) (pe_op op_mulX (pe_op op_mod (pe_callTy call_intN (by rfl) T.f_int (by decide +kernel) (pa_cons (pv 2) pa_nil)) pe_int) pe_int)) pe_int) pa_nil)) pe_int) (pg_sub (pv 0) pe_int set_list)))))))
      pss_nil)
    (pss_cons (ps_if (pt_cmpR op_gt (pe_ix ix_list (pv 0) pe_int (fun _ _ => rfl)) pe_int (nomark _))
      (pss_cons (ps_set (i := 3) sc__law_pull.nd rfl (Or.inl rfl) (pe_op op_mod (pe_callTy call_intN (by rfl) T.f_int (by decide +kernel) (pa_cons (pe_ix ix_list (pv 0) pe_int (fun _ _ => rfl)) pa_nil)) (pv 1)))
        (pss_cons (ps_asg (pe_op op_fdivW (pe_ix ix_list (pv 0) pe_int (fun _ _ => rfl)) (pv 1)) (pg_sub (pv 0) pe_int set_list))
        (pss_one (ps_ret (pv 3)))))
      pss_nil)
    (pss_cons (ps_set (i := 4) sc__law_pull.nd rfl (Or.inl rfl) (pe_ix ix_list (pv 0) pe_int (fun _ _ => rfl)))
    (pss_cons (ps_asg (pe_op op_mod (pe_callTy call_intN (by rfl) T.f_int (by decide +kernel) (pa_cons (pe_op op_add (pe_op op_add (pe_op op_mulX (pv 4) (pv 4)) (pe_op op_mulX (pv 4) pe_int)) pe_int) pa_nil)) pe_int) (pg_sub (pv 0) pe_int set_list))
    (pss_one (ps_ret (pe_op op_mod (pe_callTy call_intN (by rfl) T.f_int (by decide +kernel) (pa_cons (pe_op op_add (pe_op op_fdivW (pe_ix ix_list (pv 0) pe_int (fun _ _ => rfl)) pe_int) (pe_op op_mulX (pe_op op_mod (pe_callTy call_intN (by rfl) T.f_int (by decide +kernel) (pa_cons (pe_ix ix_list (pv 0) pe_int (fun _ _ => rfl)) pa_nil)) pe_int) pe_int)) pa_nil)) (pv 1))))))))), ?_⟩
    show tSeq _ _ _ [some (V.ref b), some (V.int m), none, none, none] H
    walk_at "K"
    refine r_seqP (fun σ' H' => ∃ (x : Option V) (i g z : Int), σ' = [some (V.ref b), some (V.int m), x, none, none] ∧ H' b = some (.lst [.ref c, .int i, .int g, .int z]) ∧ H' c = some (.lst (cells.map V.int)) ∧ 0 ≤ i ∧ 0 ≤ g ∧ 0 ≤ z ∧ z < 2147483549 ∧ ExB b H H') ?_ ?_
    · clear hb hc hi hg hz hz2 i g z
      rintro σ' H' ⟨x, i, g, z, rfl, hb, hc, hi, hg, hz, hz2, hx⟩
      refine r_seqP (fun σ2 H2 => σ2 = [some (V.ref b), some (V.int m), x, none, none] ∧ H2 = H') ?_ ?_
      · rintro σ2 H2 ⟨rfl, rfl⟩
        walk_at "go"
        refine hQ _ _ (Int.emod_nonneg _ (by omega)) (Int.emod_lt_of_pos _ hm) (BagAt.upd hb hc hi hg (Int.emod_nonneg _ (by decide)) (Int.emod_lt_of_pos _ (by decide))) (ExB.upd hx)
      · intro N hN
        walk_at "go"
        refine r_if2 (fun e => ?_) (fun e => ?_)
        · have hg1 : 0 < g := by simpa using e
          walk_at "go"
          refine hQ _ _ (Int.emod_nonneg _ (by omega)) (Int.emod_lt_of_pos _ hm) (BagAt.upd hb hc hi (Int.ediv_nonneg hg (by omega)) hz hz2) (ExB.upd hx)
        · walk_at "go"
          exact hN _ _ ⟨rfl, rfl⟩
    · intro N hN
      walk_at "go"
      refine r_if2 (fun e => ?_) (fun e => ?_)
      · walk_at "go"
        refine r_if2 (fun e2 => ?_) (fun e2 => ?_)
        · have hlt : i < (cells.length : Int) := by simpa using e2
          obtain ⟨y, hy⟩ := atI_ints hi hlt
          walk_at "go"
          refine r_ixL (SqL.of hc) hy ?_
          walk_at "go"
          refine r_if2 (fun e3 => ?_) (fun e3 => ?_)
          · have h1 := of_decide_eq_true e3
            have h2 : (0 : Int) < 10 ^ Int.toNat 18 := by decide
            walk_at "go"
            refine hN _ _ ⟨some (.int y), i + 1, y, z, rfl, upd_same, (upd_ne hcb).trans ((upd_ne hcb).trans hc), by omega, by omega, hz, hz2, ExB.upd (ExB.upd ExB.refl)⟩
          · walk_at "go"
            refine hN _ _ ⟨some (.int y), i + 1, g, _, rfl, upd_same, (upd_ne hcb).trans ((upd_ne hcb).trans hc), by omega, hg, Int.emod_nonneg _ (by decide), Int.emod_lt_of_pos _ (by decide), ExB.upd (ExB.upd ExB.refl)⟩
        · walk_at "go"
          exact hN _ _ ⟨none, i, g, z, rfl, hb, hc, hi, hg, hz, hz2, ExB.refl⟩
      · walk_at "go"
        exact hN _ _ ⟨none, i, g, z, rfl, hb, hc, hi, hg, hz, hz2, ExB.refl⟩
end
end PW
namespace PW
open PySem PySem.Spec PyProof.Rows L2
/-- what is drawn from: a list, a tuple, a text -/
def SeqV (K : PySem.W.Frag) (H : Hp) (b : Addr) (s : V) (xs : List V) : Prop :=
  (∃ p, s = .ref p ∧ p ≠ b ∧ (H p = some (.lst xs) ∨ SqT K H p xs)) ∨ ∃ z : Str, s = .str z ∧ z.length ≤ sizeLine ∧ xs = z.cps.toList.map fun c => .str ⟨#[c]⟩
def spOf (K : PySem.W.Frag) : Sp := fun vs H Q _ => ∃ (b c : Addr) (s : V) (xs : List V), vs = [.ref b, s] ∧ BagAt H b c ∧ SeqV K H b s xs ∧ 0 < xs.length ∧ xs.length ≤ sizeLine ∧ ∀ v H', v ∈ xs → BagAt H' b c → ExB b H H' → Q v H'
theorem ExB.tup {K : PySem.W.Frag} {b p : Addr} {H H' : Hp} {xs : List V} (e : ExB b H H') (n : p ≠ b) (h : SqT K H p xs) : SqT K H' p xs := by
  rcases h with (h | ⟨o, h⟩) | h
  · exact .inl (.inl (e _ _ n h))
  · exact .inl (.inr ⟨o, e _ _ n h⟩)
  · exact .inr h
theorem seqLog {n : Nat} (h : n ≤ sizeLine) : ((n : Nat) : Int).natAbs.log2 < 9000 := by
  have h2 : n ≤ 2 ^ 24 := h
  have h3 : (n : Int).natAbs < 2 ^ 25 := by
    rw [Int.natAbs_natCast]
    exact Nat.lt_of_le_of_lt h2 (by decide)
  exact Nat.lt_trans (PySem.Flt.log2_lt_of (by decide) h3) (by decide)
section
variable {P : Program} {w : World} {K : PySem.W.Frag} {mg : Str → Option Value} {base : Heap}
theorem ok__law_of {k : Nat} (T : Txt K mg) (G__law_pull : FnOk P w K mg base CX0 k (He.ga K "_law_pull") (fdOf K (He.ga K "_law_pull")) p__law_pull spPull) : FnOk P w K mg base CX0 (k + 1) (He.ga K "_law_of") (fdOf K (He.ga K "_law_of")) p__law_of (spOf K) := by
  refine FunD.ok T.d__law_of sc__law_of (fun vs H Q E h => ?_) (fun cdv A outer s H vs Q E hr h => ?_)
  · obtain ⟨b, c, s, xs, rfl, _⟩ := h
    rfl
  · obtain ⟨b, c, q, xs, rfl, hb, hs, h0, hl, hQ⟩ := h
    refine ⟨_, PSs.nox ((pss_one (ps_ret (pe_ix ix_seq (pv 1) (pe_call G__law_pull hr rfl T.g__law_pull T.d__law_pull.kp (b__law_pull T) .nil pass0 (pa_cons (pv 0) (pa_cons (pe_callB call_lenN (by rfl) T.f_len (by decide +kernel) (pa_cons (pv 1) pa_nil)) pa_nil))) (fun _ _ => rfl))))), ?_⟩
    show tRet _ _ [some (V.ref b), some q] H
    walk_at "K"
    have hlen : ∀ R : VK, R (.int (xs.length : Nat)) H → cLen K [q] H R := fun R hR => by
      rcases hs with ⟨p, rfl, hp, hp2 | hp2⟩ | ⟨z, rfl, hz, e⟩
      · exact r_cLenL (SqL.of hp2) hR
      · exact r_cLenT hp2 hR
      · refine r_cLenS hz ?_
        have e2 : xs.length = z.length := by rw [e, List.length_map]; rfl
        rw [← e2]
        exact hR
    walk_at "go"
    refine hlen _ ?_
    walk_at "go"
    refine ⟨b, c, (xs.length : Nat), rfl, hb, by omega, seqLog hl, fun r H' r0 r1 hb' hx => ?_⟩
    rcases hs with ⟨p, rfl, hp, hp2 | hp2⟩ | ⟨z, rfl, hz, e⟩
    · obtain ⟨v, hv, ha⟩ := atI_mem r0 r1
      exact r_ixqL (SqL.of (hx _ _ hp hp2)) ha (hQ v H' hv hb' hx)
    · obtain ⟨v, hv, ha⟩ := atI_mem r0 r1
      exact r_ixqT (ExB.tup hx hp hp2) ha (hQ v H' hv hb' hx)
    · have e2 : xs.length = z.cps.toList.length := by rw [e, List.length_map]
      rw [e2] at r1
      obtain ⟨v, hv, ha⟩ := atI_mem r0 r1
      exact r_ixqS hz ha (hQ _ H' (by rw [e]; exact List.mem_map.mpr ⟨v, hv, rfl⟩) hb' hx)
end
end PW
namespace PW
open PySem PySem.Spec PyProof.Rows L2
theorem cutV_ints (ns : List Int) (lo hi : Option Int) : ∃ cells : List Int, cutV (ns.map V.int) lo hi = cells.map V.int := by
  unfold cutV
  rw [← List.map_drop, ← List.map_take]
  exact ⟨_, rfl⟩
/-- a new bag -/
def spBag (K : PySem.W.Frag) : Sp := fun vs H Q _ => ∃ (a : Addr) (ns : List Int), vs = [.ref a] ∧ SqL K H a (ns.map V.int) ∧ ns.length ≤ 63 ∧ ∀ b c H', H b = none → H c = none → BagAt H' b c → (∀ a o, H a = some o → H' a = some o) → Q (.ref b) H'
section
variable {P : Program} {w : World} {K : PySem.W.Frag} {mg : Str → Option Value} {base : Heap}
theorem ok__law_bag (T : Txt K mg) : FnOk P w K mg base CX0 1 (He.ga K "_law_bag") (fdOf K (He.ga K "_law_bag")) p__law_bag (spBag K) := by
  refine FunD.ok T.d__law_bag sc__law_bag (fun vs H Q E h => ?_) (fun cdv A outer s H vs Q E hr h => ?_)
  · obtain ⟨a, ns, rfl, _⟩ := h
    rfl
  · obtain ⟨a, ns, rfl, ha, hl, hQ⟩ := h
    refine ⟨_, PSs.nox ((pss_one (ps_ret (pe_lst (pa_cons (pe_callTy call_listN (by rfl) T.f_list (by decide +kernel) (pa_cons (pe_slice sl_list (pv 0) po_none (po_some pe_int)) pa_nil)) (pa_cons pe_int (pa_cons pe_int (pa_cons pe_int pa_nil)))))))), ?_⟩
    show tRet _ _ [some (V.ref a)] H
    walk_at "K"
    walk_at "go"
    intro l hl1
    walk_at "go"
    intro c hc
    walk_at "go"
    intro b hb
    have hcl : c ≠ l := Ne.symm (ne_of_none upd_same hc)
    have hb2 : (L2.upd H l (.lst (cutV (ns.map V.int) none (some 63)))) b = none := Same.free (H' := L2.upd (L2.upd H l (.lst (cutV (ns.map V.int) none (some 63)))) c (.lst (cutV (ns.map V.int) none (some 63)))) (fun x o e => by rw [upd_ne (ne_of_none e hc)]; exact e) hb
    have hb3 : H b = none := Same.free (H' := L2.upd H l (.lst (cutV (ns.map V.int) none (some 63)))) (fun x o e => by rw [upd_ne (ne_of_none e hl1)]; exact e) hb2
    have hbc : c ≠ b := ne_of_none upd_same hb
    obtain ⟨cells, e⟩ := cutV_ints ns none (some 63)
    have hc3 : H c = none := Same.free (H' := L2.upd H l (.lst (cutV (ns.map V.int) none (some 63)))) (fun x o e => by rw [upd_ne (ne_of_none e hl1)]; exact e) hc
    refine hQ b c _ hb3 hc3 ⟨cells, 0, 0, 5618, upd_same, (upd_ne hbc).trans ?_, by decide, by decide, by decide, by decide⟩ fun x o ex => ?_
    · rw [e]
      exact upd_same
    · rw [upd_ne (ne_of_none ex hb3), upd_ne (ne_of_none ex hc3), upd_ne (ne_of_none ex hl1)]
      exact ex
end
end PW
namespace PW
open PySem PySem.Spec PyProof.Rows L2
def spLetters : Sp := fun vs H Q _ => vs = [] ∧ Q (.str "abcdefghijklmnopqrstuvwxyz") H
section
variable {P : Program} {w : World} {K : PySem.W.Frag} {mg : Str → Option Value} {base : Heap}
theorem ok__law_letters (T : Txt K mg) : FnOk P w K mg base CX0 1 (He.ga K "_law_letters") (fdOf K (He.ga K "_law_letters")) p__law_letters spLetters := by
  refine FunD.ok T.d__law_letters sc__law_letters (fun vs H Q E h => ?_) (fun cdv A outer s H vs Q E hr h => ?_)
  · obtain ⟨rfl, _⟩ := h
    rfl
  · obtain ⟨rfl, hQ⟩ := h
    exact ⟨_, PSs.nox ((pss_one (ps_ret pe_str))), hQ⟩
end
end PW
namespace PW
open PySem PySem.Spec PyProof.Rows L2
/-- alike to depth n, part by part -/
def Sm (K : PySem.W.Frag) : Nat → Hp → V → V → Prop
  | 0, _, x, y => x = y ∧ flatV x = true
  | n + 1, H, x, y => (x = y ∧ flatV x = true) ∨ ∃ (p q : Addr) (xs ys : List V), x = .ref p ∧ y = .ref q ∧ ((H p = some (.lst xs) ∧ H q = some (.lst ys)) ∨ (H p = some (.tup xs) ∧ H q = some (.tup ys))) ∧
      xs.length = ys.length ∧ xs.length ≤ 100000 ∧ ∀ (i : Nat) u v, xs[i]? = some u → ys[i]? = some v → Sm K n H u v
theorem Sm.mono {K : PySem.W.Frag} : ∀ {n : Nat} {H H' : Hp} {x y : V}, Ex H H' → Sm K n H x y → Sm K n H' x y
  | 0, _, _, _, _, _, h => h
  | n + 1, H, H', x, y, e, h => by
    rcases h with h | ⟨p, q, xs, ys, h1, h2, h3, h4, h5, h6⟩
    · exact .inl h
    · refine .inr ⟨p, q, xs, ys, h1, h2, ?_, h4, h5, fun i u v hu hv => Sm.mono e (h6 i u v hu hv)⟩
      rcases h3 with h3 | h3
      · exact .inl ⟨e _ _ h3.1, e _ _ h3.2⟩
      · exact .inr ⟨e _ _ h3.1, e _ _ h3.2⟩
theorem Sm.flat {K : PySem.W.Frag} {n : Nat} {H : Hp} {x : V} (h : flatV x = true) : Sm K n H x x := by
  cases n with
  | zero => exact ⟨rfl, h⟩
  | succ n => exact .inl ⟨rfl, h⟩
theorem Sm.flats {K : PySem.W.Frag} {n : Nat} {H : Hp} {p q : Addr} {xs : List V} (hp : H p = some (.lst xs)) (hq : H q = some (.lst xs)) (hl : xs.length ≤ 100000) (hf : ∀ v ∈ xs, flatV v = true) : Sm K (n + 1) H (.ref p) (.ref q) :=
  .inr ⟨p, q, xs, xs, rfl, rfl, .inl ⟨hp, hq⟩, rfl, hl, fun i u v hu hv => by
    rw [hu] at hv
    injection hv with hv
    subst hv
    exact Sm.flat (hf u (List.mem_of_getElem? hu))⟩
def spSame (K : PySem.W.Frag) (n : Nat) : Sp := fun vs H Q _ => ∃ x y, vs = [x, y] ∧ Sm K n H x y ∧ ∀ H', Ex H H' → Q (.bl true) H'
section
variable {P : Program} {w : World} {K : PySem.W.Frag} {mg : Str → Option Value} {base : Heap}
def spNo : Sp := fun _ _ _ _ => False
theorem fnOk_no {CX : CXT} {k : Nat} {f : Addr} {fd : FuncData} {ps : List Str} : FnOk P w K mg base CX k f fd ps spNo := ⟨fun _ _ _ _ h => h.elim, fun _ _ _ _ _ _ _ _ _ _ _ _ _ h => h.elim⟩
theorem ok1__law_same {k n : Nat} {spj : Sp} (T : Txt K mg) (hj : n = 0 ∨ ∃ j, n = j + 1 ∧ spj = spSame K j) (G__law_same : FnOk P w K mg base CX0 k (He.ga K "_law_same") (fdOf K (He.ga K "_law_same")) p__law_same spj) :
    FnOk P w K mg base CX0 (k + 1) (He.ga K "_law_same") (fdOf K (He.ga K "_law_same")) p__law_same (spSame K n) := by
  refine FunD.ok T.d__law_same sc__law_same (fun vs H Q E h => ?_) (fun cdv A outer s H vs Q E hr h => ?_)
  · obtain ⟨x, y, rfl, _⟩ := h
    rfl
  · obtain ⟨x, y, rfl, hs, hQ⟩ := h
    refine ⟨_, PSs.nox ((pss_cons (ps_if (pt_val (pe_callB call_isiT (by rfl) T.f_isinstance (by decide +kernel) (pa_cons (pv 1) (pa_cons (pe_tup (pa_cons (pe_bltn (v := .ty "list") (u := .type "list") (by rfl) T.f_list (by decide +kernel) rfl) (pa_cons (pe_bltn (v := .ty "tuple") (u := .type "tuple") (by rfl) T.f_tuple (by decide +kernel) rfl) pa_nil))) pa_nil))))
      (pss_cons (ps_if (PW.pt (pw_or (pt_cmpR op_ne (pe_callB call_isi (by rfl) T.f_isinstance (by decide +kernel) (pa_cons (pv 0) (pa_cons (pe_bltn (v := .ty "list") (u := .type "list") (by rfl) T.f_list (by decide +kernel) rfl) pa_nil))) (pe_callB call_isi (by rfl) T.f_isinstance (by decide +kernel) (pa_cons (pv 1) (pa_cons (pe_bltn (v := .ty "list") (u := .type "list") (by rfl) T.f_list (by decide +kernel) rfl) pa_nil))) (nomark _)) (pw_or1 (pt_cmpR op_ne (pe_callB call_isi (by rfl) T.f_isinstance (by decide +kernel) (pa_cons (pv 0) (pa_cons (pe_bltn (v := .ty "tuple") (u := .type "tuple") (by rfl) T.f_tuple (by decide +kernel) rfl) pa_nil))) (pe_callB call_isi (by rfl) T.f_isinstance (by decide +kernel) (pa_cons (pv 1) (pa_cons (pe_bltn (v := .ty "tuple") (u := .type "tuple") (by rfl) T.f_tuple (by decide +kernel) rfl) pa_nil))) (nomark _)))))
          (pss_one (ps_ret pe_bl))
          pss_nil)
        (pss_one (ps_ret (pe_and (pe_cmpR op_eq (pe_callB call_lenN (by rfl) T.f_len (by decide +kernel) (pa_cons (pv 0) pa_nil)) (pe_callB call_lenN (by rfl) T.f_len (by decide +kernel) (pa_cons (pv 1) pa_nil)) (nomark _)) (pe_one (pe_callB (cr_all rfl) (by rfl) T.f_all (by decide +kernel) (pa_cons (pe_lc (own := [("_law_one_z", 2), ("_law_other_z", 3)]) (g := (gTup K 2 (gCons (gName 2) (gCons (gName 3) gNil)))) rfl sc__law_same.nd (RZ.pi_zipA (by rfl) T.f_zip (pa_cons (pv 0) (pa_cons (pv 1) pa_nil))) (blkOk_by (own := [("_law_one_z", 2), ("_law_other_z", 3)]) (N := n__law_same) (sc := defScope s__law_same) (by decide +kernel)) (fun _ _ _ _ _ => by (refine' PW.pg_tupX (K := K) ?a1 ?b1 ?c1 ?d1 ?h1; (case a1 => rfl); (case b1 => rfl); (case c1 => rfl); (case d1 => rfl); refine' PW.pgs_consX ?a2 ?b2 ?h2; (case a2 => rfl); (case b2 => (refine PW.pg_nameX 2 ?_ ?_ ?_ ?_; exact sc__law_same.nd; rfl; (first | exact Or.inl rfl | exact Or.inr rfl); (first | exact Or.inl rfl | exact Or.inr rfl))); refine' PW.pgs_consX ?a3 ?b3 ?h3; (case a3 => rfl); (case b3 => (refine PW.pg_nameX 3 ?_ ?_ ?_ ?_; exact sc__law_same.nd; rfl; (first | exact Or.inl rfl | exact Or.inr rfl); (first | exact Or.inl rfl | exact Or.inr rfl))); exact pgs_nil)) (fun _ _ _ _ _ => pts_nil) (fun _ _ _ _ _ => (pe_call G__law_same hr rfl T.g__law_same T.d__law_same.kp (b__law_same T) .nil pass0 (pa_cons (pv 2) (pa_cons (pv 3) pa_nil))))) pa_nil)))))))
      pss_nil)
    (pss_cons (ps_if (PW.pt (pw_or (pt_cmp (pc_isN (pv 1)) rfl) (pw_or1 (pt_cmp (pc_isN (pv 0)) rfl))))
      (pss_one (ps_ret (pe_and (pe_cmp (pc_isN (pv 1)) rfl) (pe_one (pe_cmp (pc_isN (pv 0)) rfl)))))
      pss_nil)
    (pss_cons (ps_if (PW.pt (pw_or (pt_cmpR op_ne (pe_callB call_isi (by rfl) T.f_isinstance (by decide +kernel) (pa_cons (pv 0) (pa_cons (pe_bltn (v := .ty "bool") (u := .type "bool") (by rfl) T.f_bool (by decide +kernel) rfl) pa_nil))) (pe_callB call_isi (by rfl) T.f_isinstance (by decide +kernel) (pa_cons (pv 1) (pa_cons (pe_bltn (v := .ty "bool") (u := .type "bool") (by rfl) T.f_bool (by decide +kernel) rfl) pa_nil))) (nomark _)) (pw_or1 (pt_cmpR op_ne (pe_callB call_isi (by rfl) T.f_isinstance (by decide +kernel) (pa_cons (pv 0) (pa_cons (pe_bltn (v := .ty "int") (u := .type "int") (by rfl) T.f_int (by decide +kernel) rfl) pa_nil))) (pe_callB call_isi (by rfl) T.f_isinstance (by decide +kernel) (pa_cons (pv 1) (pa_cons (pe_bltn (v := .ty "int") (u := .type "int") (by rfl) T.f_int (by decide +kernel) rfl) pa_nil))) (nomark _)))))
      (pss_one (ps_ret pe_bl))
      pss_nil)
    (pss_one (ps_ret (pe_and (pe_cmpR op_eq (pe_callB call_isi (by rfl) T.f_isinstance (by decide +kernel) (pa_cons (pv 0) (pa_cons (pe_bltn (v := .ty "str") (u := .type "str") (by rfl) T.f_str (by decide +kernel) rfl) pa_nil))) (pe_callB call_isi (by rfl) T.f_isinstance (by decide +kernel) (pa_cons (pv 1) (pa_cons (pe_bltn (v := .ty "str") (u := .type "str") (by rfl) T.f_str (by decide +kernel) rfl) pa_nil))) (nomark _)) (pe_one (pe_cmpR op_eq (pv 0) (pv 1) (nomark _)))))))))), ?_⟩
    show tSeq _ _ _ [some x, some y, none, none] H
    walk_at "K"
    by_cases hf : x = y ∧ flatV x = true
    · obtain ⟨rfl, hf⟩ := hf
      cases x with
      | non =>
        walk_at "go"
        intro p hp
        walk_at "go"
        exact hQ _ (Ex.new hp)
      | bl b =>
        walk_at "go"
        intro p hp
        walk_at "go"
        exact hQ _ (Ex.new hp)
      | int i =>
        walk_at "go"
        intro p hp
        walk_at "go"
        exact hQ _ (Ex.new hp)
      | str z =>
        walk_at "go"
        intro p hp
        walk_at "go"
        exact hQ _ (Ex.new hp)
      | _ => cases hf
    · cases n with
      | zero => exact absurd hs hf
      | succ n =>
        rcases hs with hs | ⟨p, q, xs, ys, rfl, rfl, hpq, hl, hl2, hit⟩
        · exact absurd hs hf
        · have j0 : ∃ j, n + 1 = j + 1 ∧ spj = spSame K j := hj.elim (fun z => nomatch z) id
          obtain ⟨j, ej, rfl⟩ := j0
          have ej2 : j = n := by omega
          subst ej2
          have comp : ∀ (J : It) (G : Hp → Prop) (H1 : Hp) (D : Addr) (Qd : Hp → Prop), Walk J xs.length G (YPair (fun i => xs[i]?) (fun i => ys[i]?)) → Ex H H1 → (∀ H', Ex H1 H' → G H') → H1 D = none → (∀ H' bs, Ex H H' → H' D = some (.lst ((List.replicate bs true).map V.bl)) → Qd H') →
              LcW J (gTup K 2 (gCons (gName 2) (gCons (gName 3) gNil))) tYes (tCall (spSame K j) [] E0 (tCons (tVar 2) (tCons (tVar 3) tNil))) [2, 3] [some (.ref p), some (.ref q), none, none] H1 D Qd := by
            intro J G H1 D Qd w x1 hG hD hR
            refine lc_grow w (σw := [some (.ref p), some (.ref q), none, none]) rfl (fun _ _ v => v = .bl true) hD hl2 hG (fun _ _ _ _ _ e => e) ?_ ?_
            · rintro i x H2 H3 acc R2 hi x2 ha ⟨T2, u, v, rfl, hT2, rfl, hu, hv⟩ hR2
              walk_at "go"
              refine ⟨rfl, ?_⟩
              walk_at "go"
              exact ⟨u, v, rfl, Sm.mono ((x1.trans x2).trans (Ex.new hT2)) (hit i u v hu hv), fun H4 x4 => hR2 _ _ rfl ((Ex.new hT2).trans x4)⟩
            · intro H2 acc x2 ha hlen hb
              refine hR H2 acc.length (x1.trans x2) ?_
              rw [ha, ← all_true (fun i v e => hb i v e)]
          rcases hpq with ⟨hp1, hq1⟩ | ⟨hp1, hq1⟩
          · walk_at "go"
            intro t ht
            have e1 := (Ex.new (o := .tup [V.ty "list", V.ty "tuple"]) ht) _ _ hp1
            have e2 := (Ex.new (o := .tup [V.ty "list", V.ty "tuple"]) ht) _ _ hq1
            walk_at "go"
            refine r_ifT' (decide_eq_true (by rw [hl])) ?_
            walk_at "go"
            refine ⟨p, q, xs, ys, rfl, Or.inl ⟨SqL.of e1, SqL.of e2, fun D hD => ?_⟩⟩
            refine comp _ _ _ D _ (walk_zip (by rw [← hl, Nat.min_self])) (Ex.new ht) (fun H' x => ⟨SqL.of (x _ _ e1), SqL.of (x _ _ e2)⟩) hD fun H' bs x hb => ?_
            walk_at "go"
            refine r_all (SqL.of hb) ?_
            rw [replicate_all]
            exact hQ _ x
          · walk_at "go"
            intro t ht
            have e1 := (Ex.new (o := .tup [V.ty "list", V.ty "tuple"]) ht) _ _ hp1
            have e2 := (Ex.new (o := .tup [V.ty "list", V.ty "tuple"]) ht) _ _ hq1
            walk_at "go"
            refine r_ifT' (decide_eq_true (by rw [hl])) ?_
            walk_at "go"
            refine ⟨p, q, xs, ys, rfl, Or.inr ⟨SqT.of e1, SqT.of e2, fun D hD => ?_⟩⟩
            refine comp _ _ _ D _ (walk_zipT (by rw [← hl, Nat.min_self])) (Ex.new ht) (fun H' x => ⟨SqT.of (x _ _ e1), SqT.of (x _ _ e2)⟩) hD fun H' bs x hb => ?_
            walk_at "go"
            refine r_all (SqL.of hb) ?_
            rw [replicate_all]
            exact hQ _ x
theorem ok__law_same (T : Txt K mg) : ∀ n : Nat, FnOk P w K mg base CX0 (n + 1) (He.ga K "_law_same") (fdOf K (He.ga K "_law_same")) p__law_same (spSame K n)
  | 0 => ok1__law_same T (.inl rfl) (fnOk_no (k := 0))
  | n + 1 => ok1__law_same T (.inr ⟨n, rfl, rfl⟩) (ok__law_same T n)
end
end PW
namespace PW
open PySem PySem.Spec PyProof.Rows L2
/-- the letters -/
def lettersZ : Str := "abcdefghijklmnopqrstuvwxyz"
def reservedV : List V := [.str "len", .str "mod", .str "and", .str "or", .str "not", .str "true"]
def allLet (z : Str) : Bool := (z.cps.toList.map fun c => decide (c ∈ lettersZ.cps.toList)).all id
/-- whether a text is a name -/
def isNameZ (z : Str) : Bool := decide (1 ≤ (z.length : Int)) && (decide ((z.length : Int) ≤ 6) && (!inV (.str z) reservedV && allLet z))
def isNameV : V → Bool
  | .str z => isNameZ z
  | _ => false
def spIsName (K : PySem.W.Frag) : Sp := fun vs H Q _ => ∃ x, vs = [x] ∧ ((∃ z, x = .str z ∧ z.length ≤ 100000) ∨ ∃ n, isNameV x = false ∧ TyX K H x (.type n) ∧ kitB n "str" = some false) ∧ ∀ H', Ex H H' → Q (.bl (isNameV x)) H'
def spLawIsName : Sp := fun vs H Q _ => ∃ z : Str, vs = [.str z] ∧ z.length ≤ 100000 ∧ ∀ H', Ex H H' → Q (.bl (isNameZ z)) H'
theorem size_le {z : Str} (h : z.length ≤ 100000) : z.length ≤ sizeLine := Nat.le_trans h (by decide)
section
variable {P : Program} {w : World} {K : PySem.W.Frag} {mg : Str → Option Value} {base : Heap}
theorem str_walk {te : TE} {vs : List Nat} {σ σw : L2.St} {H1 : Hp} {D : Addr} {Qd : Hp → Prop} {z : Str} {i : Nat} {f : Nat → V} (τ : Nat → L2.St) (hz : z.length ≤ 100000) (hw : wipe σ vs = σw) (hτ : ∀ c, σw.set i (some (.str ⟨#[c]⟩)) = τ c) (hv : ∀ c, wipe (τ c) vs = σw) (hD : H1 D = none)
    (hs : ∀ c H (R : VK), Ex H1 H → (∀ H4, Ex H H4 → R (f c) H4) → te (τ c) H R) (hd : ∀ H, Ex H1 H → H D = some (.lst (z.cps.toList.map f)) → Qd H) : LcW (Its z) (gName i) tYes te vs σ H1 D Qd := by
  refine lc_grow walk_str hw (fun i _ v => ∃ c, z.cps.toList[i]? = some c ∧ v = f c) hD hz (fun _ _ => trivial) (fun _ _ _ _ _ e => e) ?_ ?_
  · rintro j x H H' acc R hj x1 ha ⟨rfl, c, hc, rfl⟩ hR
    show wipe (σw.set i (some (.str ⟨#[c]⟩))) vs = σw ∧ te (σw.set i (some (.str ⟨#[c]⟩))) _ R
    rw [hτ]
    exact ⟨hv c, hs c _ R x1 fun H4 x4 => hR _ _ ⟨c, by rw [← hc]; simp, rfl⟩ x4⟩
  · intro H acc x1 ha hl hE
    refine hd H x1 ?_
    rw [ha, acc_map (l := z.cps.toList) (f := f) (by rw [hl]; rfl) fun i v e => hE i v e]
theorem ok__law_is_name {k : Nat} (T : Txt K mg) (G__law_letters : FnOk P w K mg base CX0 k (He.ga K "_law_letters") (fdOf K (He.ga K "_law_letters")) p__law_letters spLetters) :
    FnOk P w K mg base CX0 (k + 1) (He.ga K "_law_is_name") (fdOf K (He.ga K "_law_is_name")) p__law_is_name spLawIsName := by
  refine FunD.ok T.d__law_is_name sc__law_is_name (fun vs H Q E h => ?_) (fun cdv A outer s H vs Q E hr h => ?_)
  · obtain ⟨z, rfl, _⟩ := h
    rfl
  · obtain ⟨z, rfl, hz, hQ⟩ := h
    have hz2 := size_le hz
    refine ⟨_, PSs.nox ((pss_cons (ps_set (i := 1) sc__law_is_name.nd rfl (Or.inl rfl) (pe_and (pe_chain op_le op_le pe_int (pe_callB call_lenN (by rfl) T.f_len (by decide +kernel) (pa_cons (pv 0) pa_nil)) pe_int) (pe_one (pe_cmpR op_notIn_seq (pv 0) (pe_lst (pa_cons pe_str (pa_cons pe_str (pa_cons pe_str (pa_cons pe_str (pa_cons pe_str (pa_cons pe_str pa_nil))))))) rfl))))
    (pss_one (ps_ret (pe_and (pv 1) (pe_one (pe_callB (cr_all rfl) (by rfl) T.f_all (by decide +kernel) (pa_cons (pe_lc (own := [("_law_sign_z", 2)]) rfl sc__law_is_name.nd (pi_str (pv 0)) (blkOk_by (own := [("_law_sign_z", 2)]) (N := n__law_is_name) (sc := defScope s__law_is_name) (by decide +kernel)) (fun _ _ _ _ _ => (pg_name (i := 2) sc__law_is_name.nd rfl (Or.inl rfl) (hf := by first | exact Or.inl rfl | exact Or.inr rfl))) (fun _ _ _ _ _ => pts_nil) (fun _ _ _ _ _ => (pe_cmpR op_inS (pv 2) (pe_call0 G__law_letters hr rfl T.g__law_letters T.d__law_letters.kp (b__law_letters T) .nil pass0) rfl))) pa_nil)))))))), ?_⟩
    show tSeq _ _ _ [some (V.str z), none, none] H
    walk_at "K"
    refine r_seqP (fun σ' H' => σ' = [some (V.str z), some (.bl (decide (1 ≤ (z.length : Int)) && (decide ((z.length : Int) ≤ 6) && !inV (.str z) reservedV))), none] ∧ Ex H H') ?_ ?_
    · rintro σ' H' ⟨rfl, x⟩
      have fin : ∀ b : Bool, isNameZ z = b → ∀ H2, Ex H H2 → Q (.bl b) H2 := fun b e H2 x2 => by
        rw [← e]
        exact hQ H2 x2
      walk_at "go"
      refine r_if2 (fun e => ?_) (fun e => ?_)
      · walk_at "go"
        intro D hD
        refine str_walk (f := fun c => .bl (decide (c ∈ lettersZ.cps.toList))) (fun c => [some (V.str z), some (.bl (decide (1 ≤ (z.length : Int)) && (decide ((z.length : Int) ≤ 6) && !inV (.str z) reservedV))), some (.str ⟨#[c]⟩)]) hz rfl (fun _ => rfl) (fun _ => rfl) hD (fun c H2 R x2 hR => ?_) (fun H2 x2 ha => ?_)
        · walk_at "go"
          refine ⟨rfl, ?_⟩
          walk_at "go"
          exact hR _ (Ex.refl _)
        · walk_at "go"
          refine r_all (bs := z.cps.toList.map fun c => decide (c ∈ lettersZ.cps.toList)) (SqL.of (by rw [ha, List.map_map]; rfl)) ?_
          refine fin _ ?_ _ (x.trans x2)
          simp only [Bool.and_eq_true] at e
          unfold isNameZ allLet
          rw [e.1, e.2.1, e.2.2, Bool.true_and, Bool.true_and, Bool.true_and]
      · refine fin _ ?_ _ x
        unfold isNameZ
        rw [← Bool.and_assoc, ← Bool.and_assoc, Bool.and_assoc (decide (1 ≤ (z.length : Int))), e, Bool.false_and]
    · intro N hN
      walk_at "go"
      refine r_if2 (fun e => ?_) (fun e => ?_)
      · walk_at "go"
        refine r_if2 (fun e2 => ?_) (fun e2 => ?_)
        · walk_at "go"
          intro p hp
          walk_at "go"
          refine hN _ _ ⟨?_, Ex.new hp⟩
          rw [e, e2, Bool.true_and, Bool.true_and]
          rfl
        · walk_at "go"
          refine hN _ _ ⟨?_, Ex.refl _⟩
          rw [e2, Bool.false_and, Bool.and_false]
      · walk_at "go"
        refine hN _ _ ⟨?_, Ex.refl _⟩
        rw [e, Bool.false_and]
end
end PW
namespace PW
open PySem PySem.Spec PyProof.Rows L2
section
variable {P : Program} {w : World} {K : PySem.W.Frag} {mg : Str → Option Value} {base : Heap}
theorem ok_is_name {k : Nat} (T : Txt K mg) : FnOk P w K mg base CX0 (k + 1) (He.ga K "is_name") (fdOf K (He.ga K "is_name")) p_is_name (spIsName K) := by
  refine FunD.ok T.d_is_name sc_is_name (fun vs H Q E h => ?_) (fun cdv A outer s H vs Q E hr h => ?_)
  · obtain ⟨x, rfl, _⟩ := h
    rfl
  · obtain ⟨x, rfl, hx, hQ⟩ := h
    refine ⟨_, PSs.nox ((pss_cons (ps_if (PW.pt (pw_or (pt_not (pt_val (pe_callB call_isi (by rfl) T.f_isinstance (by decide +kernel) (pa_cons (pv 0) (pa_cons (pe_bltn (v := .ty "str") (u := .type "str") (by rfl) T.f_str (by decide +kernel) rfl) pa_nil))))) (pw_or (pt_not (pt_chain op_le op_le pe_int (pe_callB call_lenN (by rfl) T.f_len (by decide +kernel) (pa_cons (pv 0) pa_nil)) (pe_gint rfl T.c_MOST_LETTERS))) (pw_or1 (pt_cmpR op_in_seq (pv 0) (pe_glob (v := .ref _) rfl T.g_RESERVED rfl) rfl)))))
      (pss_one (ps_ret pe_bl))
      pss_nil)
    (pss_one (ps_ret (pe_callB (cr_all rfl) (by rfl) T.f_all (by decide +kernel) (pa_cons (pe_lc (own := [("sign", 1)]) rfl sc_is_name.nd (pi_str (pv 0)) (blkOk_by (own := [("sign", 1)]) (N := n_is_name) (sc := defScope s_is_name) (by decide +kernel)) (fun _ _ _ _ _ => (pg_name (i := 1) sc_is_name.nd rfl (Or.inl rfl) (hf := by first | exact Or.inl rfl | exact Or.inr rfl))) (fun _ _ _ _ _ => pts_nil) (fun _ _ _ _ _ => (pe_cmpR op_inS (pv 1) (pe_gstr rfl T.c_LETTERS) rfl))) pa_nil)))))), ?_⟩
    show tSeq _ _ _ [some x, none] H
    walk_at "K"
    rcases hx with ⟨z, rfl, hz⟩ | ⟨n, hf, ht, hk⟩
    · have hz2 := size_le hz
      have tR := T.t_RESERVED H
      have fin : ∀ b : Bool, isNameZ z = b → ∀ H2, Ex H H2 → Q (.bl b) H2 := fun b e H2 x2 => by
        rw [← e]
        exact hQ H2 x2
      refine r_seqP (fun σ' H' => σ' = [some (V.str z), none] ∧ H' = H ∧ decide (1 ≤ (z.length : Int)) = true ∧ decide ((z.length : Int) ≤ 6) = true ∧ inV (.str z) reservedV = false) ?_ ?_
      · rintro σ' H' ⟨rfl, rfl, e1, e2, e3⟩
        walk_at "go"
        intro D hD
        refine str_walk (f := fun c => .bl (decide (c ∈ lettersZ.cps.toList))) (fun c => [some (V.str z), some (.str ⟨#[c]⟩)]) hz rfl (fun _ => rfl) (fun _ => rfl) hD (fun c H2 R x2 hR => ?_) (fun H2 x2 ha => ?_)
        · walk_at "go"
          exact hR _ (Ex.refl _)
        · walk_at "go"
          refine r_all (bs := z.cps.toList.map fun c => decide (c ∈ lettersZ.cps.toList)) (SqL.of (by rw [ha, List.map_map]; rfl)) ?_
          refine fin _ ?_ _ x2
          unfold isNameZ allLet
          rw [e1, e2, e3, Bool.true_and, Bool.true_and]
          rfl
      · intro N hN
        walk_at "go"
        refine r_if2 (fun e => ?_) (fun e => ?_)
        · walk_at "go"
          refine r_if2 (fun e2 => ?_) (fun e2 => ?_)
          · walk_at "go"
            refine fin _ ?_ _ (Ex.refl _)
            have e4 : decide ((z.length : Int) ≤ 6) = false := by simpa using e2
            unfold isNameZ
            rw [e4]
            simp
          · have e4 : decide ((z.length : Int) ≤ 6) = true := by simpa using e2
            walk_at "go"
            refine r_if2 (fun e3 => ?_) (fun e3 => ?_)
            · walk_at "go"
              refine fin _ ?_ _ (Ex.refl _)
              unfold isNameZ
              rw [show inV (.str z) reservedV = true from e3]
              simp
            · walk_at "go"
              exact hN _ _ ⟨rfl, rfl, e, e4, e3⟩
        · walk_at "go"
          refine fin _ ?_ _ (Ex.refl _)
          unfold isNameZ
          rw [e]
          simp
    · walk_at "go"
      refine r_isi ht hk ?_
      walk_at "go"
      have q := hQ H (Ex.refl _)
      rw [hf] at q
      exact q
end
end PW
/-! ### terms: their texts, their levels, how they lie in the heap -/
namespace PW
open PySem PySem.Spec PyProof.Rows L2
inductive Tm where
  | num (i : Int)
  | nam (z : Str)
  | add (a b : Tm)
  | sub (a b : Tm)
  | tim (i : Int) (a : Tm)
  | pow (a : Tm)
  | len (a : Tm)
  | quo (a : Tm) (i : Int)
  | cal (f : Str) (as : List Tm)
/-- the signs of a number -/
def numC (i : Int) : List Nat := if i < 0 then 45 :: TL.numL i.natAbs else TL.numL i.natAbs
namespace Tm
mutual
def dep : Tm → Nat
  | .num _ => 1
  | .nam _ => 1
  | .add a b => 1 + max (dep a) (dep b)
  | .sub a b => 1 + max (dep a) (dep b)
  | .tim _ a => 1 + dep a
  | .pow a => 1 + dep a
  | .len a => 1 + dep a
  | .quo a _ => 1 + dep a
  | .cal _ as => 1 + deps as
def deps : List Tm → Nat
  | [] => 0
  | a :: r => max (dep a) (deps r)
end
mutual
/-- the signs of a term's text -/
def tx : Tm → List Nat
  | .num i => numC i
  | .nam z => TL.tl z
  | .add a b => 40 :: (tx a ++ (32 :: 43 :: 32 :: (tx b ++ [41])))
  | .sub a b => 40 :: (tx a ++ (32 :: 45 :: 32 :: (tx b ++ [41])))
  | .tim i a => numC i ++ (42 :: tx a)
  | .pow a => 50 :: 94 :: tx a
  | .len a => 108 :: 101 :: 110 :: 40 :: (tx a ++ [41])
  | .quo a i => 40 :: (tx a ++ (32 :: 47 :: 47 :: 32 :: (numC i ++ [41])))
  | .cal f as => TL.tl f ++ (40 :: (txs as ++ [41]))
def txs : List Tm → List Nat
  | [] => []
  | a :: r => tx a ++ txr r
def txr : List Tm → List Nat
  | [] => []
  | a :: r => 44 :: 32 :: (tx a ++ txr r)
end
/-- a term's text -/
def txt (t : Tm) : Str := ⟨t.tx.toArray⟩
/-- the terms directly inside -/
def parts : Tm → List Tm
  | .num _ => []
  | .nam _ => []
  | .add a b => [a, b]
  | .sub a b => [a, b]
  | .tim _ a => [a]
  | .pow a => [a]
  | .len a => [a]
  | .quo a _ => [a]
  | .cal _ as => as
mutual
/-- a bound of a term's size -/
def cost : Tm → Nat
  | .num _ => 1
  | .nam z => 1 + z.length
  | .add a b => 1 + cost a + cost b
  | .sub a b => 1 + cost a + cost b
  | .tim _ a => 1 + cost a
  | .pow a => 1 + cost a
  | .len a => 1 + cost a
  | .quo a _ => 1 + cost a
  | .cal f as => 1 + f.length + costs as
def costs : List Tm → Nat
  | [] => 0
  | a :: r => cost a + costs r
end
mutual
/-- names are names, ints are below n, m, q -/
def ok (n m q : Nat) : Tm → Prop
  | .num i => i.natAbs < n
  | .nam z => isNameZ z = true
  | .add a b => ok n m q a ∧ ok n m q b
  | .sub a b => ok n m q a ∧ ok n m q b
  | .tim i a => i.natAbs < m ∧ ok n m q a
  | .pow a => ok n m q a
  | .len a => ok n m q a
  | .quo a i => (1 ≤ i ∧ i < (q : Nat)) ∧ ok n m q a
  | .cal f as => isNameZ f = true ∧ as.length ≤ 3 ∧ oks n m q as
def oks (n m q : Nat) : List Tm → Prop
  | [] => True
  | a :: r => ok n m q a ∧ oks n m q r
end
mutual
/-- a term as a datum -/
def pd : Tm → PyData
  | .num i => .tuple [.str "number", .int i]
  | .nam z => .tuple [.str "name", .str z]
  | .add a b => .tuple [.str "add", pd a, pd b]
  | .sub a b => .tuple [.str "subtract", pd a, pd b]
  | .tim i a => .tuple [.str "times", .int i, pd a]
  | .pow a => .tuple [.str "power", pd a]
  | .len a => .tuple [.str "length", pd a]
  | .quo a i => .tuple [.str "quotient", pd a, .int i]
  | .cal f as => .tuple [.str "call", .str f, .tuple (pds as)]
def pds : List Tm → List PyData
  | [] => []
  | a :: r => pd a :: pds r
end
theorem oks_mem {n m q : Nat} : ∀ {as : List Tm}, oks n m q as ↔ ∀ a ∈ as, ok n m q a
  | [] => by simp [oks]
  | a :: r => by
    simp only [oks, List.mem_cons, forall_eq_or_imp]
    rw [oks_mem]
theorem pds_map : ∀ {as : List Tm}, pds as = as.map pd
  | [] => rfl
  | a :: r => by
    simp only [pds, List.map_cons]
    rw [pds_map]
theorem dep_pos (t : Tm) : 1 ≤ t.dep := by
  cases t <;> (unfold dep; omega)
theorem deps_le {as : List Tm} {n : Nat} : deps as ≤ n ↔ ∀ a ∈ as, a.dep ≤ n := by
  induction as with
  | nil => simp [deps]
  | cons a r ih =>
    simp only [deps, List.mem_cons, forall_eq_or_imp]
    rw [← ih]
    omega
theorem dep_parts {t : Tm} {n : Nat} (h : t.dep ≤ n + 1) : ∀ a ∈ t.parts, a.dep ≤ n := by
  cases t with
  | num i => intro a ha; exact nomatch ha
  | nam z => intro a ha; exact nomatch ha
  | add x y =>
    intro a ha
    simp only [dep] at h
    simp only [parts, List.mem_cons, List.not_mem_nil, or_false] at ha
    rcases ha with rfl | rfl <;> omega
  | sub x y =>
    intro a ha
    simp only [dep] at h
    simp only [parts, List.mem_cons, List.not_mem_nil, or_false] at ha
    rcases ha with rfl | rfl <;> omega
  | cal f as =>
    simp only [dep] at h
    exact deps_le.mp (show deps as ≤ n by omega)
  | _ =>
    intro a ha
    simp only [dep] at h
    simp only [parts, List.mem_cons, List.not_mem_nil, or_false] at ha
    subst ha
    omega
theorem deps_eq (t : Tm) : t.dep = 1 + deps t.parts := by
  cases t <;> simp [dep, parts, deps]
/-- the word at a term's head -/
def word : Tm → Str
  | .num _ => "number"
  | .nam _ => "name"
  | .add _ _ => "add"
  | .sub _ _ => "subtract"
  | .tim _ _ => "times"
  | .pow _ => "power"
  | .len _ => "length"
  | .quo _ _ => "quotient"
  | .cal _ _ => "call"
end Tm
/-- the tuple of a term: R tells its parts -/
def TmRow (K : PySem.W.Frag) (H : Hp) (R : V → Tm → Prop) (xs : List V) : Tm → Prop
  | .num i => xs = [.str "number", .int i]
  | .nam z => xs = [.str "name", .str z]
  | .add a b => ∃ x y, xs = [.str "add", x, y] ∧ R x a ∧ R y b
  | .sub a b => ∃ x y, xs = [.str "subtract", x, y] ∧ R x a ∧ R y b
  | .tim i a => ∃ x, xs = [.str "times", .int i, x] ∧ R x a
  | .pow a => ∃ x, xs = [.str "power", x] ∧ R x a
  | .len a => ∃ x, xs = [.str "length", x] ∧ R x a
  | .quo a i => ∃ x, xs = [.str "quotient", x, .int i] ∧ R x a
  | .cal f as => ∃ q ys, xs = [.str "call", .str f, .ref q] ∧ H q = some (.tup ys) ∧ Paired R ys as
/-- v is the term t, of at most d levels -/
def IsTm (K : PySem.W.Frag) (H : Hp) : Nat → V → Tm → Prop
  | 0, _, _ => False
  | d + 1, v, t => ∃ p xs, v = .ref p ∧ H p = some (.tup xs) ∧ TmRow K H (IsTm K H d) xs t
theorem TmRow.imp {K : PySem.W.Frag} {H H' : Hp} {R R' : V → Tm → Prop} {xs : List V} {t : Tm} (e : ∀ {p ys}, H p = some (.tup ys) → H' p = some (.tup ys)) (h : ∀ x a, R x a → R' x a) (r : TmRow K H R xs t) : TmRow K H' R' xs t := by
  cases t with
  | num i => exact r
  | nam z => exact r
  | add a b => obtain ⟨x, y, e1, e2, e3⟩ := r; exact ⟨x, y, e1, h _ _ e2, h _ _ e3⟩
  | sub a b => obtain ⟨x, y, e1, e2, e3⟩ := r; exact ⟨x, y, e1, h _ _ e2, h _ _ e3⟩
  | cal f as => obtain ⟨q, ys, e1, e2, e3⟩ := r; exact ⟨q, ys, e1, e e2, L2.Paired.mapP e3 h⟩
  | _ => obtain ⟨x, e1, e2⟩ := r; exact ⟨x, e1, h _ _ e2⟩
theorem IsTm.ex {K : PySem.W.Frag} {H H' : Hp} (x : Ex H H') : ∀ {d : Nat} {v : V} {t : Tm}, IsTm K H d v t → IsTm K H' d v t
  | 0, _, _, h => h.elim
  | d + 1, v, t, h => by
    obtain ⟨p, xs, e, h1, h2⟩ := h
    exact ⟨p, xs, e, x _ _ h1, h2.imp (fun q => x _ _ q) fun _ _ z => IsTm.ex x z⟩
theorem IsTm.up {K : PySem.W.Frag} {H : Hp} : ∀ {d d' : Nat} {v : V} {t : Tm}, d ≤ d' → IsTm K H d v t → IsTm K H d' v t
  | 0, _, _, _, _, h => h.elim
  | d + 1, 0, _, _, e, _ => absurd e (by omega)
  | d + 1, d' + 1, v, t, e, h => by
    obtain ⟨p, xs, e1, h1, h2⟩ := h
    exact ⟨p, xs, e1, h1, h2.imp id fun _ _ z => IsTm.up (by omega) z⟩
theorem pr_len {α β : Type} {F : α → β → Prop} {xs : List α} {ys : List β} (h : Paired F xs ys) : xs.length = ys.length := Paired.length h
theorem pr_get {α β : Type} {F : α → β → Prop} : ∀ {xs : List α} {ys : List β} {i : Nat} {x : α}, Paired F xs ys → xs[i]? = some x → ∃ y, ys[i]? = some y ∧ F x y
  | _, _, _, _, .nil, h => by cases h
  | _, _, 0, _, .cons r _, h => ⟨_, rfl, by
    injection h with h
    subst h
    exact r⟩
  | _, _, i + 1, _, .cons _ t, h => pr_get (i := i) t h
theorem deps_paired {R : V → Tm → Prop} {d : Nat} (h : ∀ v t, R v t → t.dep ≤ d) : ∀ {ys : List V} {as : List Tm}, Paired R ys as → Tm.deps as ≤ d
  | _, _, .nil => by simp [Tm.deps]
  | _, _, .cons a b => by
    have h1 := h _ _ a
    have h2 := deps_paired h b
    simp only [Tm.deps]
    omega
theorem IsTm.depth {K : PySem.W.Frag} {H : Hp} : ∀ {d : Nat} {v : V} {t : Tm}, IsTm K H d v t → t.dep ≤ d
  | 0, _, _, h => h.elim
  | d + 1, v, t, h => by
    obtain ⟨p, xs, e1, h1, h2⟩ := h
    cases t with
    | num i => simp only [Tm.dep]; omega
    | nam i => simp only [Tm.dep]; omega
    | add a b =>
      obtain ⟨x, y, _, e2, e3⟩ := h2
      have := IsTm.depth e2
      have := IsTm.depth e3
      simp only [Tm.dep]
      omega
    | sub a b =>
      obtain ⟨x, y, _, e2, e3⟩ := h2
      have := IsTm.depth e2
      have := IsTm.depth e3
      simp only [Tm.dep]
      omega
    | cal f as =>
      obtain ⟨q, ys, _, _, e3⟩ := h2
      have hd : Tm.deps as ≤ d := deps_paired (fun _ _ z => IsTm.depth z) e3
      simp only [Tm.dep]
      omega
    | _ =>
      obtain ⟨x, _, e2⟩ := h2
      have := IsTm.depth e2
      simp only [Tm.dep]
      omega
/-- a new tuple is a term -/
theorem IsTm.mk {K : PySem.W.Frag} {H : Hp} {d : Nat} {p : Addr} {xs : List V} {t : Tm} (h : H p = some (.tup xs)) (r : TmRow K H (IsTm K H d) xs t) : IsTm K H (d + 1) (.ref p) t := ⟨p, xs, rfl, h, r⟩
theorem tl_iS (i : Int) : TL.tl (Str.ofString (toString i)) = numC i := by
  unfold numC
  cases i with
  | ofNat n =>
    rw [if_neg (by show ¬ (n : Int) < 0; omega)]
    exact TL.tl_num n
  | negSucc n =>
    rw [if_pos (Int.negSucc_lt_zero n)]
    have e : toString (Int.negSucc n) = "-" ++ Nat.repr (n + 1) := rfl
    have e2 := TL.tl_num (n + 1)
    have e3 : toString ((n + 1 : Nat) : Int) = Nat.repr (n + 1) := rfl
    rw [e3] at e2
    rw [e, Str.ofString_eq_toList]
    rw [Str.ofString_eq_toList] at e2
    show (("-" ++ Nat.repr (n + 1)).toList.map Char.toNat) = _
    have e4 : (Nat.repr (n + 1)).toList.map Char.toNat = TL.numL (n + 1) := e2
    rw [String.toList_append, List.map_append, e4]
    rfl
theorem numC_len {i : Int} {k : Nat} (hk : 0 < k) (h : i.natAbs < 10 ^ k) : (numC i).length ≤ k + 1 := by
  have := TL.numL_len hk h
  unfold numC
  split
  · show (TL.numL i.natAbs).length + 1 ≤ k + 1
    omega
  · omega
theorem numC_ne (i : Int) : numC i ≠ [] := by
  unfold numC
  split
  · exact List.cons_ne_nil _ _
  · exact TL.numL_ne _
end PW
/-! ### terms as data; bounds of their texts -/
namespace PW
open PySem PySem.Spec PyProof.Rows L2
theorem lettersZ_tl : TL.tl lettersZ = [97, 98, 99, 100, 101, 102, 103, 104, 105, 106, 107, 108, 109, 110, 111, 112, 113, 114, 115, 116, 117, 118, 119, 120, 121, 122] := by decide +kernel
theorem mem_letters {c : Nat} : c ∈ lettersZ.cps.toList ↔ 97 ≤ c ∧ c ≤ 122 := by
  rw [show lettersZ.cps.toList = _ from lettersZ_tl]
  constructor
  · intro h
    simp only [List.mem_cons, List.not_mem_nil, or_false] at h
    omega
  · rintro ⟨h1, h2⟩
    simp only [List.mem_cons, List.not_mem_nil, or_false]
    omega
theorem allLet_iff {z : Str} : allLet z = true ↔ ∀ c ∈ TL.tl z, 97 ≤ c ∧ c ≤ 122 := by
  unfold allLet
  rw [List.all_map, List.all_eq_true]
  constructor
  · intro h c hc
    exact mem_letters.mp (of_decide_eq_true (h c hc))
  · intro h c hc
    exact decide_eq_true (mem_letters.mpr (h c hc))
structure IsNm (z : Str) : Prop where
  l1 : 1 ≤ z.length
  l6 : z.length ≤ 6
  let_ : ∀ c ∈ TL.tl z, 97 ≤ c ∧ c ≤ 122
  res : inV (.str z) reservedV = false
theorem isNm_iff {z : Str} : isNameZ z = true ↔ IsNm z := by
  unfold isNameZ
  simp only [Bool.and_eq_true, decide_eq_true_eq, Bool.not_eq_true']
  constructor
  · rintro ⟨h1, h2, h3, h4⟩
    exact ⟨by omega, by omega, allLet_iff.mp h4, h3⟩
  · rintro ⟨h1, h2, h3, h4⟩
    exact ⟨by omega, by omega, h4, allLet_iff.mpr h3⟩
theorem nm_repr {z : Str} (h : IsNm z) : (reprText z).length ≤ 10 * z.length + 2 := StrLaws.reprText_len z fun c hc => by
  have := (h.let_ c hc).2
  exact Nat.lt_of_le_of_lt this (by decide)
theorem IsTm.dat {K : PySem.W.Frag} {H : Hp} : ∀ {d : Nat} {v : V} {t : Tm}, IsTm K H d v t → Dp K H v t.pd
  | 0, _, _, h => h.elim
  | d + 1, v, t, h => by
    obtain ⟨p, xs, rfl, h1, h2⟩ := h
    cases t with
    | num i =>
      have h2 : xs = _ := h2
      subst h2
      simp only [Tm.pd]
      exact .tup (SqT.of h1) (.cons (.str _) (.cons (.int _) .nil))
    | nam z =>
      have h2 : xs = _ := h2
      subst h2
      simp only [Tm.pd]
      exact .tup (SqT.of h1) (.cons (.str _) (.cons (.str _) .nil))
    | add a b =>
      obtain ⟨x, y, rfl, e2, e3⟩ := h2
      simp only [Tm.pd]
      exact .tup (SqT.of h1) (.cons (.str _) (.cons (IsTm.dat e2) (.cons (IsTm.dat e3) .nil)))
    | sub a b =>
      obtain ⟨x, y, rfl, e2, e3⟩ := h2
      simp only [Tm.pd]
      exact .tup (SqT.of h1) (.cons (.str _) (.cons (IsTm.dat e2) (.cons (IsTm.dat e3) .nil)))
    | tim i a =>
      obtain ⟨x, rfl, e2⟩ := h2
      simp only [Tm.pd]
      exact .tup (SqT.of h1) (.cons (.str _) (.cons (.int _) (.cons (IsTm.dat e2) .nil)))
    | pow a =>
      obtain ⟨x, rfl, e2⟩ := h2
      simp only [Tm.pd]
      exact .tup (SqT.of h1) (.cons (.str _) (.cons (IsTm.dat e2) .nil))
    | len a =>
      obtain ⟨x, rfl, e2⟩ := h2
      simp only [Tm.pd]
      exact .tup (SqT.of h1) (.cons (.str _) (.cons (IsTm.dat e2) .nil))
    | quo a i =>
      obtain ⟨x, rfl, e2⟩ := h2
      simp only [Tm.pd]
      exact .tup (SqT.of h1) (.cons (.str _) (.cons (IsTm.dat e2) (.cons (.int _) .nil)))
    | cal f as =>
      obtain ⟨q, ys, rfl, e2, e3⟩ := h2
      simp only [Tm.pd]
      refine .tup (SqT.of h1) (.cons (.str _) (.cons (.str _) (.cons (.tup (SqT.of e2) ?_) .nil)))
      have go : ∀ {ys : List V} {as : List Tm}, Paired (IsTm K H d) ys as → DpAll K H ys (Tm.pds as) := by
        intro ys as z
        induction z with
        | nil => exact .nil
        | cons a b ih => exact .cons (IsTm.dat a) ih
      exact go e3
namespace Tm
mutual
theorem pd_dict : ∀ t : Tm, t.pd.hasDict = false
  | .num _ => by simp [pd, PyData.hasDict, PyData.hasDictAll]
  | .nam _ => by simp [pd, PyData.hasDict, PyData.hasDictAll]
  | .add a b => by simp [pd, PyData.hasDict, PyData.hasDictAll, pd_dict a, pd_dict b]
  | .sub a b => by simp [pd, PyData.hasDict, PyData.hasDictAll, pd_dict a, pd_dict b]
  | .tim _ a => by simp [pd, PyData.hasDict, PyData.hasDictAll, pd_dict a]
  | .pow a => by simp [pd, PyData.hasDict, PyData.hasDictAll, pd_dict a]
  | .len a => by simp [pd, PyData.hasDict, PyData.hasDictAll, pd_dict a]
  | .quo a _ => by simp [pd, PyData.hasDict, PyData.hasDictAll, pd_dict a]
  | .cal _ as => by simp [pd, PyData.hasDict, PyData.hasDictAll, pds_dict as]
theorem pds_dict : ∀ as : List Tm, PyData.hasDictAll (pds as) = false
  | [] => rfl
  | a :: r => by simp [pds, PyData.hasDictAll, pd_dict a, pds_dict r]
end
mutual
theorem pd_depth : ∀ t : Tm, t.pd.depth ≤ 2 * t.dep
  | .num _ => by simp [pd, PyData.depth, PyData.depthAll, dep]
  | .nam _ => by simp [pd, PyData.depth, PyData.depthAll, dep]
  | .add a b => by
    have := pd_depth a
    have := pd_depth b
    simp only [pd, PyData.depth, PyData.depthAll, dep]
    omega
  | .sub a b => by
    have := pd_depth a
    have := pd_depth b
    simp only [pd, PyData.depth, PyData.depthAll, dep]
    omega
  | .tim _ a => by
    have := pd_depth a
    simp only [pd, PyData.depth, PyData.depthAll, dep]
    omega
  | .pow a => by
    have := pd_depth a
    simp only [pd, PyData.depth, PyData.depthAll, dep]
    omega
  | .len a => by
    have := pd_depth a
    simp only [pd, PyData.depth, PyData.depthAll, dep]
    omega
  | .quo a _ => by
    have := pd_depth a
    simp only [pd, PyData.depth, PyData.depthAll, dep]
    omega
  | .cal _ as => by
    have := pds_depth as
    simp only [pd, PyData.depth, PyData.depthAll, dep]
    omega
theorem pds_depth : ∀ as : List Tm, PyData.depthAll (pds as) ≤ 2 * deps as
  | [] => by simp [pds, PyData.depthAll, deps]
  | a :: r => by
    have := pd_depth a
    have := pds_depth r
    simp only [pds, PyData.depthAll, deps]
    omega
end
end Tm
theorem log_small {i : Int} {n : Nat} (h : i.natAbs < n) (hn : n ≤ 10 ^ 10) : i.natAbs.log2 < 1920 := by
  by_cases h0 : i.natAbs = 0
  · rw [h0]; decide
  · exact (Nat.log2_lt h0).mpr (Nat.lt_of_lt_of_le (Nat.lt_of_lt_of_le h hn) (by
      have : (10 : Nat) ^ 10 ≤ 2 ^ 40 := by decide
      exact Nat.le_trans this (Nat.pow_le_pow_right (by decide) (by decide))))
theorem shown_int {i : Int} (h : i.natAbs < 10 ^ 10) : (PyData.int i).shown.length ≤ 11 := by
  simp only [PyData.shown]
  rw [PySem.ofString_length]
  exact int_text_length_le10 (by decide) h
theorem shown_tup (ds : List PyData) : (PyData.tuple ds).shown.length ≤ piled (PyData.shownAll ds) + 2 := by
  simp only [PyData.shown]
  unfold tupleText
  rw [Str.length_append, Str.length_append]
  have l1 : ("(" : Str).length = 1 := by decide +kernel
  have l2 : (Str.ofString (if ((PyData.shownAll ds).length == 1) = true then ",)" else ")")).length ≤ 2 := by
    split <;> decide +kernel
  by_cases h : PyData.shownAll ds = []
  · rw [h]
    decide +kernel
  · have := join_length_add _ h
    have l3 : (if ((PyData.shownAll ds).length == 1) = true then Str.ofString ",)" else Str.ofString ")").length ≤ 2 := by
      split <;> decide +kernel
    omega
structure TmB (n m q : Nat) : Prop where
  n : n ≤ 10 ^ 10
  m : m ≤ 10 ^ 10
  q : q ≤ 10 ^ 10
namespace Tm
variable {n m q : Nat}
mutual
theorem showable (B : TmB n m q) : ∀ t : Tm, t.ok n m q → t.pd.showable = true
  | .num i, h => by
    have h : i.natAbs < n := by simpa only [ok] using h
    simp [pd, PyData.showable, PyData.showableAll, log_small h B.n]
  | .nam _, _ => by simp [pd, PyData.showable, PyData.showableAll]
  | .add a b, h => by
    have h : ok n m q a ∧ ok n m q b := by simpa only [ok] using h
    simp [pd, PyData.showable, PyData.showableAll, showable B a h.1, showable B b h.2]
  | .sub a b, h => by
    have h : ok n m q a ∧ ok n m q b := by simpa only [ok] using h
    simp [pd, PyData.showable, PyData.showableAll, showable B a h.1, showable B b h.2]
  | .tim i a, h => by
    have h : i.natAbs < m ∧ ok n m q a := by simpa only [ok] using h
    simp [pd, PyData.showable, PyData.showableAll, log_small h.1 B.m, showable B a h.2]
  | .pow a, h => by
    have h : ok n m q a := by simpa only [ok] using h
    simp [pd, PyData.showable, PyData.showableAll, showable B a h]
  | .len a, h => by
    have h : ok n m q a := by simpa only [ok] using h
    simp [pd, PyData.showable, PyData.showableAll, showable B a h]
  | .quo a i, h => by
    have h : (1 ≤ i ∧ i < (q : Nat)) ∧ ok n m q a := by simpa only [ok] using h
    simp [pd, PyData.showable, PyData.showableAll, log_small (show i.natAbs < q by omega) B.q, showable B a h.2]
  | .cal f as, h => by
    have h : isNameZ f = true ∧ as.length ≤ 3 ∧ oks n m q as := by simpa only [ok] using h
    simp [pd, PyData.showable, PyData.showableAll, showables B as h.2.2]
theorem showables (B : TmB n m q) : ∀ as : List Tm, oks n m q as → PyData.showableAll (pds as) = true
  | [], _ => rfl
  | a :: r, h => by
    have h : ok n m q a ∧ oks n m q r := by simpa only [oks] using h
    simp [pds, PyData.showableAll, showable B a h.1, showables B r h.2]
end
theorem w_len {z : Str} {n : Nat} (h : (reprText z).length ≤ n := by decide +kernel) : (PyData.str z).shown.length ≤ n := by
  simp only [PyData.shown]
  exact h
mutual
theorem shown_len (B : TmB n m q) : ∀ t : Tm, t.ok n m q → t.pd.shown.length ≤ 48 * t.cost
  | .num i, h => by
    have h : i.natAbs < n := by simpa only [ok] using h
    have h1 := shown_int (Nat.lt_of_lt_of_le h B.n)
    have h2 := w_len (z := "number") (n := 8)
    have h3 := shown_tup [.str "number", .int i]
    simp only [pd, PyData.shownAll, piled_cons, piled_nil, cost] at h3 ⊢
    omega
  | .nam z, h => by
    have h : isNameZ z = true := by simpa only [ok] using h
    have h1 := nm_repr (isNm_iff.mp h)
    have h4 := w_len (z := z) h1
    have h2 := w_len (z := "name") (n := 6)
    have h3 := shown_tup [.str "name", .str z]
    simp only [pd, PyData.shownAll, piled_cons, piled_nil, cost] at h3 ⊢
    omega
  | .add a b, h => by
    have h : ok n m q a ∧ ok n m q b := by simpa only [ok] using h
    have h1 := shown_len B a h.1
    have h4 := shown_len B b h.2
    have h2 := w_len (z := "add") (n := 5)
    have h3 := shown_tup [.str "add", a.pd, b.pd]
    simp only [pd, PyData.shownAll, piled_cons, piled_nil, cost] at h3 ⊢
    omega
  | .sub a b, h => by
    have h : ok n m q a ∧ ok n m q b := by simpa only [ok] using h
    have h1 := shown_len B a h.1
    have h4 := shown_len B b h.2
    have h2 := w_len (z := "subtract") (n := 10)
    have h3 := shown_tup [.str "subtract", a.pd, b.pd]
    simp only [pd, PyData.shownAll, piled_cons, piled_nil, cost] at h3 ⊢
    omega
  | .tim i a, h => by
    have h : i.natAbs < m ∧ ok n m q a := by simpa only [ok] using h
    have h1 := shown_int (Nat.lt_of_lt_of_le h.1 B.m)
    have h4 := shown_len B a h.2
    have h2 := w_len (z := "times") (n := 7)
    have h3 := shown_tup [.str "times", .int i, a.pd]
    simp only [pd, PyData.shownAll, piled_cons, piled_nil, cost] at h3 ⊢
    omega
  | .pow a, h => by
    have h : ok n m q a := by simpa only [ok] using h
    have h4 := shown_len B a h
    have h2 := w_len (z := "power") (n := 7)
    have h3 := shown_tup [.str "power", a.pd]
    simp only [pd, PyData.shownAll, piled_cons, piled_nil, cost] at h3 ⊢
    omega
  | .len a, h => by
    have h : ok n m q a := by simpa only [ok] using h
    have h4 := shown_len B a h
    have h2 := w_len (z := "length") (n := 8)
    have h3 := shown_tup [.str "length", a.pd]
    simp only [pd, PyData.shownAll, piled_cons, piled_nil, cost] at h3 ⊢
    omega
  | .quo a i, h => by
    have h : (1 ≤ i ∧ i < (q : Nat)) ∧ ok n m q a := by simpa only [ok] using h
    have h1 := shown_int (Nat.lt_of_lt_of_le (show i.natAbs < q by omega) B.q)
    have h4 := shown_len B a h.2
    have h2 := w_len (z := "quotient") (n := 10)
    have h3 := shown_tup [.str "quotient", a.pd, .int i]
    simp only [pd, PyData.shownAll, piled_cons, piled_nil, cost] at h3 ⊢
    omega
  | .cal f as, h => by
    have h : isNameZ f = true ∧ as.length ≤ 3 ∧ oks n m q as := by simpa only [ok] using h
    have h1 := w_len (z := f) (nm_repr (isNm_iff.mp h.1))
    have h4 := showns_len B as h.2.2
    have h2 := w_len (z := "call") (n := 6)
    have h5 := shown_tup (pds as)
    have h3 := shown_tup [.str "call", .str f, .tuple (pds as)]
    simp only [pd, PyData.shownAll, piled_cons, piled_nil, cost] at h3 ⊢
    omega
theorem showns_len (B : TmB n m q) : ∀ as : List Tm, oks n m q as → piled (PyData.shownAll (pds as)) ≤ 48 * costs as + 2 * as.length
  | [], _ => by simp [pds, PyData.shownAll, piled_nil]
  | a :: r, h => by
    have h : ok n m q a ∧ oks n m q r := by simpa only [oks] using h
    have h1 := shown_len B a h.1
    have h2 := showns_len B r h.2
    simp only [pds, PyData.shownAll, piled_cons, costs, List.length_cons]
    omega
end
theorem numC_le {i : Int} {n : Nat} (h : i.natAbs < n) (hn : n ≤ 10 ^ 10) : (numC i).length ≤ 11 := numC_len (by decide) (Nat.lt_of_lt_of_le h hn)
mutual
theorem tx_len (B : TmB n m q) : ∀ t : Tm, t.ok n m q → t.tx.length ≤ 20 * t.cost
  | .num i, h => by
    have h : i.natAbs < n := by simpa only [ok] using h
    have := numC_le h B.n
    simp only [tx, cost]
    omega
  | .nam z, h => by
    have e := TL.len_tl z
    simp only [tx, cost]
    omega
  | .add a b, h => by
    have h : ok n m q a ∧ ok n m q b := by simpa only [ok] using h
    have h1 := tx_len B a h.1
    have h4 := tx_len B b h.2
    simp only [tx, cost, List.length_cons, List.length_append, List.length_nil]
    omega
  | .sub a b, h => by
    have h : ok n m q a ∧ ok n m q b := by simpa only [ok] using h
    have h1 := tx_len B a h.1
    have h4 := tx_len B b h.2
    simp only [tx, cost, List.length_cons, List.length_append, List.length_nil]
    omega
  | .tim i a, h => by
    have h : i.natAbs < m ∧ ok n m q a := by simpa only [ok] using h
    have h1 := numC_le h.1 B.m
    have h4 := tx_len B a h.2
    simp only [tx, cost, List.length_cons, List.length_append, List.length_nil]
    omega
  | .pow a, h => by
    have h : ok n m q a := by simpa only [ok] using h
    have h4 := tx_len B a h
    simp only [tx, cost, List.length_cons, List.length_append, List.length_nil]
    omega
  | .len a, h => by
    have h : ok n m q a := by simpa only [ok] using h
    have h4 := tx_len B a h
    simp only [tx, cost, List.length_cons, List.length_append, List.length_nil]
    omega
  | .quo a i, h => by
    have h : (1 ≤ i ∧ i < (q : Nat)) ∧ ok n m q a := by simpa only [ok] using h
    have h1 := numC_le (show i.natAbs < q by omega) B.q
    have h4 := tx_len B a h.2
    simp only [tx, cost, List.length_cons, List.length_append, List.length_nil]
    omega
  | .cal f as, h => by
    have h : isNameZ f = true ∧ as.length ≤ 3 ∧ oks n m q as := by simpa only [ok] using h
    have e := TL.len_tl f
    have h4 := txr_len B as h.2.2
    have h5 : (txs as).length ≤ (txr as).length := by
      cases as with
      | nil => simp [txs, txr]
      | cons a r =>
        simp only [txs, txr, List.length_cons, List.length_append]
        omega
    simp only [tx, cost, List.length_cons, List.length_append, List.length_nil]
    omega
theorem txr_len (B : TmB n m q) : ∀ as : List Tm, oks n m q as → (txr as).length ≤ 20 * costs as + 2 * as.length
  | [], _ => by simp [txr]
  | a :: r, h => by
    have h : ok n m q a ∧ oks n m q r := by simpa only [oks] using h
    have h1 := tx_len B a h.1
    have h2 := txr_len B r h.2
    simp only [txr, costs, List.length_cons, List.length_append]
    omega
end
end Tm
end PW
/-! ### texts by their signs -/
namespace PW
open PySem PySem.Spec PyProof.Rows L2
theorem tl_cut (z : Str) (i j : Nat) : TL.tl (cutS z (some (i : Int)) (some (j : Int))) = ((TL.tl z).drop i).take (j - i) := by
  unfold cutS
  show ((z.cps.toList.drop (HT.sIx z.length 0 (some (i : Int)))).take (HT.sIx z.length z.length (some (j : Int)) - HT.sIx z.length 0 (some (i : Int)))) = _
  rw [HT.sIx_nat, HT.sIx_nat]
  have e : z.length = z.cps.toList.length := TL.len_tl z
  show (z.cps.toList.drop _).take _ = (z.cps.toList.drop i).take (j - i)
  generalize z.cps.toList = l at e
  by_cases h : i ≤ l.length
  · rw [show min i z.length = i by omega]
    by_cases h2 : j ≤ l.length
    · rw [show min j z.length = j by omega]
    · rw [show min j z.length = l.length by omega]
      rw [List.take_of_length_le (by rw [List.length_drop]; omega), List.take_of_length_le (by rw [List.length_drop]; omega)]
  · rw [show min i z.length = l.length by omega]
    rw [List.drop_eq_nil_of_le (Nat.le_refl _), List.drop_eq_nil_of_le (show l.length ≤ i by omega)]
    simp
theorem tl_cut0 (z : Str) (j : Nat) : TL.tl (cutS z none (some (j : Int))) = (TL.tl z).take j := by
  unfold cutS
  show ((z.cps.toList.drop (HT.sIx z.length 0 none)).take (HT.sIx z.length z.length (some (j : Int)) - HT.sIx z.length 0 none)) = _
  rw [HT.sIx_nat, HT.sIx_none]
  have e : z.length = z.cps.toList.length := TL.len_tl z
  show (z.cps.toList.drop 0).take (min j z.length - 0) = z.cps.toList.take j
  generalize z.cps.toList = l at e
  rw [List.drop_zero, Nat.sub_zero]
  by_cases h2 : j ≤ l.length
  · rw [show min j z.length = j by omega]
  · rw [show min j z.length = l.length by omega, List.take_of_length_le (Nat.le_refl _), List.take_of_length_le (by omega)]
theorem tl_cut1 (z : Str) (i : Nat) : TL.tl (cutS z (some (i : Int)) none) = (TL.tl z).drop i := by
  unfold cutS
  show ((z.cps.toList.drop (HT.sIx z.length 0 (some (i : Int)))).take (HT.sIx z.length z.length none - HT.sIx z.length 0 (some (i : Int)))) = _
  rw [HT.sIx_nat, HT.sIx_none]
  have e : z.length = z.cps.toList.length := TL.len_tl z
  show (z.cps.toList.drop (min i z.length)).take (z.length - min i z.length) = z.cps.toList.drop i
  generalize z.cps.toList = l at e
  by_cases h : i ≤ l.length
  · rw [show min i z.length = i by omega, List.take_of_length_le (by rw [List.length_drop]; omega)]
  · rw [show min i z.length = l.length by omega, List.drop_eq_nil_of_le (Nat.le_refl _), List.drop_eq_nil_of_le (show l.length ≤ i by omega)]
    simp
theorem len_eq (z : Str) : z.length = (TL.tl z).length := TL.len_tl z
theorem joinL_nil : ∀ ps : List (List Nat), TL.joinL [] ps = ps.flatten
  | [] => rfl
  | [p] => by simp [TL.joinL]
  | p :: q :: r => by
    show p ++ ([] ++ TL.joinL [] (q :: r)) = _
    rw [joinL_nil (q :: r)]
    simp
/-- letters alone -/
def LetS (z : Str) : Prop := ∀ c ∈ TL.tl z, 97 ≤ c ∧ c ≤ 122
theorem tl_joinE {ys : List Str} : TL.tl (Txt.join (Str.ofString "") ys) = (ys.map TL.tl).flatten := by
  rw [TL.join_eq, TL.tl_join, show TL.tl (Str.ofString "") = [] by decide +kernel, joinL_nil]
theorem join_let {ys : List Str} (h : ∀ z ∈ ys, LetS z) : LetS (Txt.join (Str.ofString "") ys) := fun c hc => by
  rw [tl_joinE, List.mem_flatten] at hc
  obtain ⟨l, hl, hc⟩ := hc
  obtain ⟨z, hz, rfl⟩ := List.mem_map.mp hl
  exact h z hz c hc
theorem join_one {ys : List Str} (h : ∀ z ∈ ys, z.length = 1) : (Txt.join (Str.ofString "") ys).length = ys.length := by
  rw [len_eq, tl_joinE]
  induction ys with
  | nil => rfl
  | cons y r ih =>
    have h1 := h y List.mem_cons_self
    rw [len_eq] at h1
    rw [List.map_cons, List.flatten_cons, List.length_append, ih fun z hz => h z (List.mem_cons_of_mem _ hz), h1, List.length_cons]
    omega
theorem eqV_str {a b : Str} : eqV (.str a) (.str b) = true ↔ b = a := by
  show (a == b) = true ↔ b = a
  rw [beq_iff_eq]
  exact eq_comm
theorem res_iff {z : Str} : inV (.str z) reservedV = true ↔ z = "len" ∨ z = "mod" ∨ z = "and" ∨ z = "or" ∨ z = "not" ∨ z = "true" := by
  unfold inV reservedV
  simp only [List.any_cons, List.any_nil, Bool.or_false, Bool.or_eq_true, eqV_str]
/-- a drawn text of letters is a name, or is one with a letter more -/
theorem fix_nm {z : Str} (h1 : 1 ≤ z.length) (h6 : z.length ≤ 6) (hl : LetS z) : IsNm (if isNameZ z = true then z else z ++ "q") := by
  by_cases h : isNameZ z = true
  · rw [if_pos h]
    exact isNm_iff.mp h
  · rw [if_neg h]
    have hr : inV (.str z) reservedV = true := by
      cases e : inV (.str z) reservedV with
      | true => rfl
      | false => exact absurd (isNm_iff.mpr ⟨h1, h6, hl, e⟩) h
    refine isNm_iff.mp ?_
    rcases res_iff.mp hr with rfl | rfl | rfl | rfl | rfl | rfl <;> decide +kernel
end PW
/-! ### the heap without the bag -/
namespace PW
open PySem PySem.Spec PyProof.Rows L2
theorem Ex.tb {b : Addr} {H H' : Hp} (x : Ex H H') : ExB b H H' := fun a o _ h => x a o h
theorem ExB.hd {b : Addr} {H H' : Hp} (x : ExB b H H') : Ex (PW.hide H b) (PW.hide H' b) := fun a o h => by
  have na : a ≠ b := fun z => by
    rw [z, hide_same] at h
    cases h
  rw [hide_ne na] at h ⊢
  exact x a o na h
theorem hide_new {H : Hp} {b p : Addr} {o : HO} {u : HO} (hb : H b = some u) (hp : H p = none) : hide (L2.upd H p o) b p = some o := by
  have n : p ≠ b := fun z => by
    rw [z, hb] at hp
    cases hp
  rw [hide_ne n, upd_same]
theorem BagAt.some {H : Hp} {b c : Addr} (h : BagAt H b c) : ∃ u, H b = some u := h.objs.1
end PW
/-! ### names, leaves, terms as the laws draw them -/
namespace PW
open PySem PySem.Spec PyProof.Rows L2
structure NmL (H : Hp) (l : Addr) (ns : List Str) : Prop where
  at_ : H l = some (.lst (ns.map V.str))
  ok : ∀ z ∈ ns, IsNm z
theorem NmL.ex {H H' : Hp} {l : Addr} {ns : List Str} (x : Ex H H') (h : NmL H l ns) : NmL H' l ns := ⟨x _ _ h.at_, h.ok⟩
def spLNames : Sp := fun vs H Q _ => ∃ b c m, vs = [.ref b, .int m] ∧ BagAt H b c ∧ 0 ≤ m ∧ m ≤ 10 ∧ ∀ l ns H', NmL (hide H' b) l ns → ns.length = m.toNat → BagAt H' b c → ExB b H H' → Q (.ref l) H'
section
variable {P : Program} {w : World} {K : PySem.W.Frag} {mg : Str → Option Value} {base : Heap}
theorem ok__law_names {k : Nat} (T : Txt K mg)
    (G__law_pull : FnOk P w K mg base CX0 k (He.ga K "_law_pull") (fdOf K (He.ga K "_law_pull")) p__law_pull (spPull))
    (G__law_of : FnOk P w K mg base CX0 k (He.ga K "_law_of") (fdOf K (He.ga K "_law_of")) p__law_of (spOf K))
    (G__law_letters : FnOk P w K mg base CX0 k (He.ga K "_law_letters") (fdOf K (He.ga K "_law_letters")) p__law_letters (spLetters))
    (G__law_is_name : FnOk P w K mg base CX0 k (He.ga K "_law_is_name") (fdOf K (He.ga K "_law_is_name")) p__law_is_name (spLawIsName)) : FnOk P w K mg base CX0 (k + 1) (He.ga K "_law_names") (fdOf K (He.ga K "_law_names")) p__law_names (spLNames) := by
  refine FunD.ok T.d__law_names sc__law_names (fun vs H Q E h => ?_) (fun cdv A outer s H vs Q E hr h => ?_)
  · obtain ⟨b, c, m, rfl, _⟩ := h
    rfl
  · obtain ⟨b, c, m, rfl, hB, hm0, hm1, hQ⟩ := h
    refine ⟨_, PSs.nox ((pss_cons (ps_asg (pe_tup (pa_cons (pe_call G__law_pull hr rfl T.g__law_pull T.d__law_pull.kp (b__law_pull T) .nil pass0 (pa_cons (pv 0) (pa_cons pe_int pa_nil))) (pa_cons (pe_call0 G__law_letters hr rfl T.g__law_letters T.d__law_letters.kp (b__law_letters T) .nil pass0) pa_nil))) (pg_tup rfl (pgs_cons (pg_name (i := 2) sc__law_names.nd rfl (Or.inl rfl) (hf := by first | exact Or.inl rfl | exact Or.inr rfl)) (pgs_cons (pg_name (i := 3) sc__law_names.nd rfl (Or.inr rfl) (hf := by first | exact Or.inl rfl | exact Or.inr rfl)) pgs_nil))))
    (pss_cons (ps_asg (pe_tup (pa_cons (pe_call G__law_pull hr rfl T.g__law_pull T.d__law_pull.kp (b__law_pull T) .nil pass0 (pa_cons (pv 0) (pa_cons (pe_op op_add (pv 2) pe_int) pa_nil))) (pa_cons (pe_call G__law_pull hr rfl T.g__law_pull T.d__law_pull.kp (b__law_pull T) .nil pass0 (pa_cons (pv 0) (pa_cons pe_int pa_nil))) (pa_cons (pe_call G__law_of hr rfl T.g__law_of T.d__law_of.kp (b__law_of T) .nil pass0 (pa_cons (pv 0) (pa_cons (pe_lst (pa_cons pe_int (pa_cons pe_int (pa_cons pe_int (pa_cons pe_int pa_nil))))) pa_nil))) pa_nil)))) (pg_tup rfl (pgs_cons (pg_name (i := 4) sc__law_names.nd rfl (Or.inr rfl) (hf := by first | exact Or.inl rfl | exact Or.inr rfl)) (pgs_cons (pg_name (i := 5) sc__law_names.nd rfl (Or.inr rfl) (hf := by first | exact Or.inl rfl | exact Or.inr rfl)) (pgs_cons (pg_name (i := 6) sc__law_names.nd rfl (Or.inr rfl) (hf := by first | exact Or.inl rfl | exact Or.inr rfl)) pgs_nil)))))
    (pss_cons (ps_set (i := 7) sc__law_names.nd rfl (Or.inr rfl) (pe_join pe_str (pe_lc (own := [("_law_k", 9)]) rfl sc__law_names.nd (pi_range1 rfl T.f_range (pa_cons (pv 2) pa_nil)) (blkOk_by (own := [("_law_k", 9)]) (N := n__law_names) (sc := defScope s__law_names) (by decide +kernel)) (fun _ _ _ _ _ => (pg_name (i := 9) sc__law_names.nd rfl (Or.inl rfl) (hf := by first | exact Or.inl rfl | exact Or.inr rfl))) (fun _ _ _ _ _ => pts_nil) (fun _ _ _ _ _ => (pe_call G__law_of hr rfl T.g__law_of T.d__law_of.kp (b__law_of T) .nil pass0 (pa_cons (pv 0) (pa_cons (pv 3) pa_nil)))))))
    (pss_cons (ps_setLc (i := 8) (own := [("_law_k", 9)]) rfl sc__law_names.nd rfl rfl (sw_true rfl rfl rfl (by decide +kernel)) (pi_range1 rfl T.f_range (pa_cons (pv 1) pa_nil)) (blkOk_by (own := [("_law_k", 9)]) (N := n__law_names) (sc := defScope s__law_names) (by decide +kernel)) (fun _ _ _ _ _ => (pg_name (i := 9) sc__law_names.nd rfl (Or.inl rfl) (hf := by first | exact Or.inl rfl | exact Or.inr rfl))) (fun _ _ _ _ _ => pts_nil) (fun _ _ _ _ _ => (pe_op op_addSN (pe_op op_addSN (pe_slice sl_str (pv 7) po_none (po_some (pv 4))) (pe_ix ix_str (pv 3) (pe_op op_mod (pe_callTy call_intN (by rfl) T.f_int (by decide +kernel) (pa_cons (pe_op op_add (pv 5) (pe_op op_mulX (pv 6) (pv 9))) pa_nil)) pe_int) (fun _ _ => rfl))) (pe_slice sl_str (pv 7) (po_some (pv 4)) po_none))))
    (pss_one (ps_ret (pe_lc (own := [("_law_one_z", 10)]) rfl sc__law_names.nd (pi_list (pv 8)) (blkOk_by (own := [("_law_one_z", 10)]) (N := n__law_names) (sc := defScope s__law_names) (by decide +kernel)) (fun _ _ _ _ _ => (pg_name (i := 10) sc__law_names.nd rfl (Or.inl rfl) (hf := by first | exact Or.inl rfl | exact Or.inr rfl))) (fun _ _ _ _ _ => pts_nil) (fun _ _ _ _ _ => (pe_ifExp (pt_val (pe_call G__law_is_name hr rfl T.g__law_is_name T.d__law_is_name.kp (b__law_is_name T) .nil pass0 (pa_cons (pv 10) pa_nil))) (pv 10) (pe_op op_addSN (pv 10) pe_str))))))))))), ?_⟩
    show tSeq _ _ _ [some (V.ref b), some (V.int m), none, none, none, none, none, none, none, none, none] H
    walk_at "K"
    walk_at "go"
    refine ⟨b, c, 6, rfl, hB, by decide, by decide, fun r H1 r0 r1 hB1 x1 => ?_⟩
    walk_at "go"
    refine ⟨rfl, ?_⟩
    walk_at "go"
    intro p hp
    have hB1' := hB1.new (o := .tup [V.int r, .str lettersZ]) hp
    have x1' := x1.trans (Ex.new (o := .tup [V.int r, .str lettersZ]) hp).tb
    walk_at "go"
    refine ⟨b, c, r + 1, rfl, hB1', by omega, log_ok (by omega) (by omega), fun at_ H2 a0 a1 hB2 x2 => ?_⟩
    walk_at "go"
    refine ⟨b, c, 26, rfl, hB2, by decide, by decide, fun fi H3 f0 f1 hB3 x3 => ?_⟩
    walk_at "go"
    intro l1 hl1
    walk_at "go"
    refine ⟨b, c, .ref l1, _, rfl, hB3.new hl1, Or.inl ⟨l1, rfl, (hB3.ne hl1).1.symm, Or.inl upd_same⟩, by walk_at "len", by walk_at "len", fun v4 H4 hv4 hB4 x4 => ?_⟩
    obtain ⟨st, rfl, st0, st1⟩ : ∃ st : Int, v4 = .int st ∧ 1 ≤ st ∧ st ≤ 7 := by
      simp only [List.mem_cons, List.not_mem_nil, or_false] at hv4
      rcases hv4 with rfl | rfl | rfl | rfl
      all_goals exact ⟨_, rfl, by decide, by decide⟩
    walk_at "go"
    intro p2 hp2
    have hB5 := hB4.new (o := .tup [V.int at_, V.int fi, V.int st]) hp2
    have x5 := ((((x1'.trans x2).trans x3).trans (Ex.new hl1).tb).trans x4).trans (Ex.new (o := .tup [V.int at_, V.int fi, V.int st]) hp2).tb
    clear x1 x1' x2 x3 x4 hB1 hB1' hB2 hB3 hB4
    walk_at "go"
    generalize L2.upd H4 p2 (.tup [V.int at_, V.int fi, V.int st]) = H5 at hB5 x5 ⊢
    clear hp2 hl1 hp hv4
    intro D hD
    have nD := hB5.ne hD
    refine lc_inv walk_range (σw := [some (V.ref b), some (V.int m), some (V.int r), some (V.str lettersZ), some (V.int at_), some (V.int fi), some (V.int st), none, none, none, none]) rfl (fun H => BagAt H b c ∧ ExB b H5 H) (fun _ v => ∃ s : Str, v = .str s ∧ (s.length = 1 ∧ LetS s)) hD (by omega) ⟨hB5.new hD, (Ex.new hD).tb⟩ (fun _ _ => trivial) ?_ ?_
    · rintro j x H6 H7 acc R hj ⟨hB6, x6⟩ hacc ⟨rfl, rfl⟩ hR
      walk_at "go"
      refine ⟨rfl, ?_⟩
      walk_at "go"
      refine ⟨b, c, .str lettersZ, _, rfl, hB6, Or.inr ⟨lettersZ, rfl, by decide, rfl⟩, by decide, by decide, fun v H7 hv hB7 x7 => ?_⟩
      obtain ⟨d, hd, rfl⟩ := List.mem_map.mp hv
      refine hR _ H7 ⟨_, rfl, rfl, fun e he => ?_⟩ (x7 D _ nD.1.symm hacc) ⟨hB7.put nD.1 nD.2, fun q o n ho => ?_⟩
      · have he : e ∈ [d] := he
        rw [List.mem_singleton.mp he]
        exact mem_letters.mp hd
      · rw [upd_ne (ne_of_none ho hD)]
        exact x7 q o n (x6 q o n ho)
    · rintro H6 acc ⟨hB6, x6⟩ hacc hlen hE
      obtain ⟨ys, rfl, hl2, hy⟩ := acc_exists (g := V.str) (p := fun s => s.length = 1 ∧ LetS s) hE
      have hy1 := sum_le (k := 1) (l := ys) fun z hz => Nat.le_of_eq (hy z hz).1
      have e0 : (Str.ofString "").length = 0 := by decide
      walk_at "go"
      refine ⟨_, D, ys, rfl, rfl, Or.inl (SqL.of hacc), by rw [e0]; omega, ?_⟩
      have k1 : (Txt.join (Str.ofString "") ys).length = r.toNat := by
        rw [join_one fun z hz => (hy z hz).1, hl2]
        exact hlen
      have k2 : LetS (Txt.join (Str.ofString "") ys) := join_let fun z hz => (hy z hz).2
      generalize Txt.join (Str.ofString "") ys = stem at k1 k2 ⊢
      have x7 := x5.trans x6
      clear x5 x6 hy hy1 hE hlen hl2 hacc hD nD hB5
      walk_at "go"
      intro D2 hD2
      obtain ⟨na, rfl⟩ : ∃ na : Nat, at_ = na := ⟨at_.toNat, by omega⟩
      have hstem : stem.length ≤ 100000 := by omega
      have hsl : stem.length ≤ sizeLine := size_le hstem
      refine lc_grow walk_range (σw := [some (V.ref b), some (V.int m), some (V.int r), some (V.str lettersZ), some (V.int (na : Int)), some (V.int fi), some (V.int st), some (V.str stem), none, none, none]) rfl (fun _ _ v => ∃ s : Str, v = .str s ∧ (1 ≤ s.length ∧ s.length ≤ 6 ∧ LetS s)) hD2 (by omega) (fun _ _ => trivial) (fun _ _ _ _ _ e => e) ?_ ?_
      · rintro j x H7 H8 acc2 R hj x8 hacc2 ⟨rfl, rfl⟩ hR
        walk_at "go"
        refine ⟨rfl, ?_⟩
        walk_at "go"
        have hk : 0 ≤ (fi + st * (0 + (j : Int))) % 26 ∧ (fi + st * (0 + (j : Int))) % 26 < 26 := ⟨Int.emod_nonneg _ (by decide), Int.emod_lt_of_pos _ (by decide)⟩
        generalize (fi + st * (0 + (j : Int))) % 26 = q at hk ⊢
        obtain ⟨nq, rfl⟩ : ∃ nq : Nat, q = nq := ⟨q.toNat, by omega⟩
        obtain ⟨d, hd⟩ : ∃ d, lettersZ.cps.toList[nq]? = some d := ⟨_, List.getElem?_eq_getElem (show nq < lettersZ.cps.toList.length from by rw [show lettersZ.cps.toList.length = 26 by decide +kernel]; omega)⟩
        have hdl := mem_letters.mp (List.mem_of_getElem? hd)
        refine r_ixS (by decide) (atI_nat hd) ?_
        have l1 := cutS_len stem none (some (na : Int))
        have l2 : (⟨#[d]⟩ : Str).length = 1 := rfl
        refine r_addS (by rw [l2]; exact Nat.le_trans (show _ ≤ 100000 by omega) (by decide)) ?_
        walk_at "go"
        have l3 := cutS_len stem (some (na : Int)) none
        refine r_addS (by rw [add_len, l2]; exact Nat.le_trans (show _ ≤ 100000 by omega) (by decide)) ?_
        have e1 := tl_cut0 stem na
        have e2 := tl_cut1 stem na
        have e3 := len_eq stem
        refine hR _ _ ⟨_, rfl, ?_, ?_, ?_⟩ (Ex.refl _)
        · rw [add_len, add_len, l2]
          omega
        · rw [add_len, add_len, l2, len_eq, len_eq, e1, e2, List.length_take, List.length_drop]
          omega
        · intro e he
          rw [TL.tl_append, TL.tl_append, e1, e2] at he
          rcases List.mem_append.mp he with he | he
          · rcases List.mem_append.mp he with he | he
            · exact k2 e (List.mem_of_mem_take he)
            · have he : e ∈ [d] := he
              rw [List.mem_singleton.mp he]
              exact hdl
          · exact k2 e (List.mem_of_mem_drop he)
      · rintro H7 acc2 x8 hacc2 hlen2 hE2
        obtain ⟨zs, rfl, hz2, hz⟩ := acc_exists (g := V.str) (p := fun s => 1 ≤ s.length ∧ s.length ≤ 6 ∧ LetS s) hE2
        have hB7 := hB6.grow x8
        have x9 := x7.trans x8.tb
        walk_at "go"
        intro D3 hD3
        refine lc_grow (walk_list (xs := zs.map V.str)) (σw := [some (V.ref b), some (V.int m), some (V.int r), some (V.str lettersZ), some (V.int (na : Int)), some (V.int fi), some (V.int st), some (V.str stem), some (V.ref D2), none, none]) rfl (fun i _ v => ∃ s : Str, v = .str s ∧ IsNm s) hD3 (by rw [List.length_map]; omega) (fun H' e => SqL.of (e _ _ hacc2)) (fun _ _ _ _ _ e => e) ?_ ?_
        · rintro j x H8 H9 acc3 R hj x10 hacc3 ⟨rfl, hx⟩ hR
          rw [List.getElem?_map] at hx
          obtain ⟨s, hs, rfl⟩ := Option.map_eq_some_iff.mp hx
          have hs2 := hz s (List.mem_of_getElem? hs)
          walk_at "go"
          refine ⟨rfl, ?_⟩
          walk_at "go"
          refine ⟨s, rfl, by omega, fun H10 x11 => ?_⟩
          walk_at "go"
          have hf := fix_nm hs2.1 hs2.2.1 hs2.2.2
          refine r_if2 (fun e => ?_) (fun e => ?_)
          · rw [if_pos e] at hf
            walk_at "go"
            exact hR _ _ ⟨s, rfl, hf⟩ x11
          · rw [if_neg (by rw [e]; exact Bool.false_ne_true)] at hf
            walk_at "go"
            refine r_addS ?_ ?_
            · have l4 : (Str.ofString "q").length = 1 := by decide +kernel
              rw [l4]
              exact Nat.le_trans (show _ ≤ 100000 by omega) (by decide)
            · exact hR _ _ ⟨_, rfl, hf⟩ x11
        · rintro H8 acc3 x10 hacc3 hlen3 hE3
          obtain ⟨ns, rfl, hn2, hn⟩ := acc_exists (g := V.str) (p := IsNm) hE3
          have hB8 := hB7.grow x10
          obtain ⟨ub, hub⟩ := hB7.some
          have nb : D3 ≠ b := fun z => by
            rw [z, hub] at hD3
            cases hD3
          refine hQ D3 ns H8 ⟨by rw [hide_ne nb]; exact hacc3, hn⟩ ?_ hB8 (x9.trans x10.tb)
          rw [hn2, hlen3, List.length_map, hz2, hlen2]
end
end PW
/-! ### the names of a term -/
namespace PW
open PySem PySem.Spec PyProof.Rows L2
namespace Tm
mutual
/-- the names of a term, in the order of its text -/
def nms : Tm → List Str
  | .num _ => []
  | .nam z => [z]
  | .add a b => nms a ++ nms b
  | .sub a b => nms a ++ nms b
  | .tim _ a => nms a
  | .pow a => nms a
  | .len a => nms a
  | .quo a _ => nms a
  | .cal _ as => nmss as
def nmss : List Tm → List Str
  | [] => []
  | a :: r => nms a ++ nmss r
end
theorem nmss_take {l : List Tm} : ∀ {k : Nat}, (nmss (l.take k)).length ≤ (nmss l).length := by
  induction l with
  | nil => intro k; simp
  | cons a r ih =>
    intro k
    cases k with
    | zero => simp [nmss]
    | succ k =>
      have := ih (k := k)
      simp only [List.take_succ_cons, nmss, List.length_append]
      omega
theorem nms_parts {t : Tm} (h : t.word ≠ "name") : t.nms = nmss t.parts := by
  cases t with
  | nam z => exact absurd rfl h
  | _ => simp [nms, nmss, parts]
mutual
theorem nms_ok {n m q : Nat} : ∀ {t : Tm}, t.ok n m q → ∀ z ∈ t.nms, isNameZ z = true
  | .num _, _, z, hz => by
    rw [nms] at hz
    exact nomatch hz
  | .nam y, h, z, hz => by
    rw [nms, List.mem_singleton] at hz
    subst hz
    rw [ok] at h
    exact h
  | .add a b, h, z, hz => by
    rw [nms, List.mem_append] at hz
    rw [ok] at h
    exact hz.elim (nms_ok h.1 z) (nms_ok h.2 z)
  | .sub a b, h, z, hz => by
    rw [nms, List.mem_append] at hz
    rw [ok] at h
    exact hz.elim (nms_ok h.1 z) (nms_ok h.2 z)
  | .tim _ a, h, z, hz => by
    rw [nms] at hz
    rw [ok] at h
    exact nms_ok h.2 z hz
  | .pow a, h, z, hz => by
    rw [nms] at hz
    rw [ok] at h
    exact nms_ok h z hz
  | .len a, h, z, hz => by
    rw [nms] at hz
    rw [ok] at h
    exact nms_ok h z hz
  | .quo a _, h, z, hz => by
    rw [nms] at hz
    rw [ok] at h
    exact nms_ok h.2 z hz
  | .cal _ as, h, z, hz => by
    rw [nms] at hz
    rw [ok] at h
    exact nmss_ok h.2.2 z hz
theorem nmss_ok {n m q : Nat} : ∀ {as : List Tm}, oks n m q as → ∀ z ∈ nmss as, isNameZ z = true
  | [], _, z, hz => by
    rw [nmss] at hz
    exact nomatch hz
  | a :: r, h, z, hz => by
    rw [nmss, List.mem_append] at hz
    rw [oks] at h
    exact hz.elim (nms_ok h.1 z) (nmss_ok h.2 z)
end
end Tm
end PW
/-! ### leaves and terms drawn -/
namespace PW
open PySem PySem.Spec PyProof.Rows L2
abbrev Tm.okT (t : Tm) : Prop := t.ok (10 ^ 9) 100 100
theorem tmb : TmB (10 ^ 9) 100 100 := ⟨by decide, by decide, by decide⟩
theorem nm_ok {ns : List Str} (h : ∀ z ∈ ns, IsNm z) : ∀ z ∈ ns, PyData.strOk z = true := fun z hz => by
  unfold PyData.strOk
  rw [Array.all_eq_true']
  intro c hc
  have := ((h z hz).let_ c (by simpa [TL.tl] using hc)).2
  exact decide_eq_true (by omega)
theorem tm_new {K : PySem.W.Frag} {H : Hp} {b p : Addr} {xs : List V} {d : Nat} {t : Tm} {u : HO} (hb : H b = some u) (hp : H p = none) (r : TmRow K (hide H b) (IsTm K (hide H b) d) xs t) : IsTm K (hide (L2.upd H p (.tup xs)) b) (d + 1) (.ref p) t := by
  have x : Ex (hide H b) (hide (L2.upd H p (.tup xs)) b) := (Ex.new hp).hides b
  exact IsTm.mk (hide_new hb hp) (r.imp (fun q => x _ _ q) fun _ _ z => z.ex x)
def spLLeaf (K : PySem.W.Frag) : Sp := fun vs H Q _ => ∃ b c l ns, vs = [.ref b, .ref l] ∧ BagAt H b c ∧ NmL (hide H b) l ns ∧ ns.length ≤ 1000 ∧ ∀ v t H', IsTm K (hide H' b) 1 v t → t.okT → (t.cost ≤ 7 ∧ t.nms.length ≤ 1) → BagAt H' b c → ExB b H H' → Q v H'
theorem num_ok {i : Int} (h : i.natAbs < 10 ^ 9) : (Tm.num i).okT := by
  simp only [Tm.okT, Tm.ok]
  exact h
theorem nam_ok {z : Str} (h : IsNm z) : (Tm.nam z).okT := by
  simp only [Tm.okT, Tm.ok]
  exact isNm_iff.mpr h
section
variable {P : Program} {w : World} {K : PySem.W.Frag} {mg : Str → Option Value} {base : Heap}
theorem ok__law_leaf {k : Nat} (T : Txt K mg)
    (G__law_pull : FnOk P w K mg base CX0 k (He.ga K "_law_pull") (fdOf K (He.ga K "_law_pull")) p__law_pull (spPull))
    (G__law_of : FnOk P w K mg base CX0 k (He.ga K "_law_of") (fdOf K (He.ga K "_law_of")) p__law_of (spOf K)) : FnOk P w K mg base CX0 (k + 1) (He.ga K "_law_leaf") (fdOf K (He.ga K "_law_leaf")) p__law_leaf (spLLeaf K) := by
  refine FunD.ok T.d__law_leaf sc__law_leaf (fun vs H Q E h => ?_) (fun cdv A outer s H vs Q E hr h => ?_)
  · obtain ⟨b, c, l, ns, rfl, _⟩ := h
    rfl
  · obtain ⟨b, c, l, ns, rfl, hB, hN, hn, hQ⟩ := h
    have e9 : (10 : Int) ^ Int.toNat 9 = 1000000000 := by decide
    have e6 : (10 : Int) ^ Int.toNat 6 = 1000000 := by decide
    refine ⟨_, PSs.nox ((pss_cons (ps_set (i := 2) sc__law_leaf.nd rfl (Or.inl rfl) (pe_call G__law_of hr rfl T.g__law_of T.d__law_of.kp (b__law_of T) .nil pass0 (pa_cons (pv 0) (pa_cons (pe_lst (pa_cons pe_int (pa_cons pe_int (pa_cons pe_int (pa_cons (pe_op op_sub (pe_call G__law_pull hr rfl T.g__law_pull T.d__law_pull.kp (b__law_pull T) .nil pass0 (pa_cons (pv 0) (pa_cons pe_int pa_nil))) pe_int) (pa_cons (pe_call G__law_pull hr rfl T.g__law_pull T.d__law_pull.kp (b__law_pull T) .nil pass0 (pa_cons (pv 0) (pa_cons (pe_op op_pow pe_int pe_int) pa_nil))) (pa_cons (pe_op op_sub pe_int (pe_call G__law_pull hr rfl T.g__law_pull T.d__law_pull.kp (b__law_pull T) .nil pass0 (pa_cons (pv 0) (pa_cons (pe_op op_pow pe_int pe_int) pa_nil)))) pa_nil))))))) pa_nil))))
    (pss_one (ps_ret (pe_ifExp (PW.pt (pw_and (pt_cmpR (op_neD hr.units) (pv 1) (pe_lst pa_nil) (nomark _)) (pw_and1 (pt_cmpR op_gt (pe_call G__law_pull hr rfl T.g__law_pull T.d__law_pull.kp (b__law_pull T) .nil pass0 (pa_cons (pv 0) (pa_cons pe_int pa_nil))) pe_int (nomark _))))) (pe_tup (pa_cons pe_str (pa_cons (pe_call G__law_of hr rfl T.g__law_of T.d__law_of.kp (b__law_of T) .nil pass0 (pa_cons (pv 0) (pa_cons (pv 1) pa_nil))) pa_nil))) (pe_tup (pa_cons pe_str (pa_cons (pv 2) pa_nil)))))))), ?_⟩
    show tSeq _ _ _ [some (V.ref b), some (V.ref l), none] H
    walk_at "K"
    walk_at "go"
    refine ⟨b, c, 40, rfl, hB, by decide, by decide, fun r1 H1 r10 r11 hB1 x1 => ?_⟩
    walk_at "go"
    refine ⟨b, c, _, rfl, hB1, by decide, by decide, fun r2 H2 r20 r21 hB2 x2 => ?_⟩
    rw [e9] at r21
    walk_at "go"
    refine ⟨b, c, _, rfl, hB2, by decide, by decide, fun r3 H3 r30 r31 hB3 x3 => ?_⟩
    rw [e6] at r31
    walk_at "go"
    intro m hm
    walk_at "go"
    refine ⟨b, c, .ref m, _, rfl, hB3.new hm, Or.inl ⟨m, rfl, (hB3.ne hm).1.symm, Or.inl upd_same⟩, by walk_at "len", by walk_at "len", fun v4 H4 hv4 hB4 x4 => ?_⟩
    obtain ⟨i, rfl, hi⟩ : ∃ i : Int, v4 = .int i ∧ i.natAbs < 10 ^ 9 := by
      simp only [List.mem_cons, List.not_mem_nil, or_false] at hv4
      rcases hv4 with rfl | rfl | rfl | rfl | rfl | rfl
      all_goals exact ⟨_, rfl, by omega⟩
    have xx := (((x1.trans x2).trans x3).trans (Ex.new (o := .lst [V.int 0, V.int 1, V.int 2, V.int (r1 - 20), V.int r2, V.int (0 - r3)]) hm).tb).trans x4
    have hN4 := hN.ex xx.hd
    clear x1 x2 x3 x4 hB1 hB2 hB3 hv4 hm
    have hfin : ∀ H5, BagAt H5 b c → ExB b H H5 → ∀ p, H5 p = none → Q (.ref p) (L2.upd H5 p (.tup [V.str "number", .int i])) := fun H5 hB5 x5 p hp => by
      obtain ⟨u, hu⟩ := hB5.some
      exact hQ _ (.num i) _ (tm_new (d := 0) hu hp rfl) (num_ok hi) (by simp [Tm.cost, Tm.nms]) (hB5.new hp) (x5.trans (Ex.new hp).tb)
    walk_at "go"
    intro m2 hm2
    walk_at "go"
    have hB5 := hB4.new (o := .lst []) hm2
    have x5 := xx.trans (Ex.new (o := .lst []) hm2).tb
    have hN5 := hN4.ex ((Ex.new (o := .lst []) hm2).hides b)
    have hl5 := Ex.hide _ b _ _ hN5.at_
    refine r_neNs (SqL.of hl5) (nm_ok hN.ok) (SqL.of upd_same) ?_
    walk_at "go"
    refine r_if2 (fun e => ?_) (fun e => ?_)
    · walk_at "go"
      refine ⟨b, c, 3, rfl, hB5, by decide, by decide, fun r6 H6 r60 r61 hB6 x6 => ?_⟩
      have x7 := x5.trans x6
      have hN6 := hN5.ex x6.hd
      walk_at "go"
      refine r_if2 (fun e2 => ?_) (fun e2 => ?_)
      · walk_at "go"
        have hne : ns ≠ [] := fun z => by
          subst z
          cases e
        have hl6 := Ex.hide _ b _ _ hN6.at_
        obtain ⟨u, hu⟩ := hB6.some
        have nlb : l ≠ b := fun z => by
          have e3 := hN6.at_
          rw [z, hide_same] at e3
          cases e3
        have hpos : 0 < ns.length := List.length_pos_iff.mpr hne
        refine ⟨b, c, .ref l, _, rfl, hB6, Or.inl ⟨l, rfl, nlb, Or.inl hl6⟩, by rw [List.length_map]; exact hpos, by rw [List.length_map]; exact Nat.le_trans hn (by decide), fun v7 H7 hv7 hB7 x8 => ?_⟩
        obtain ⟨z, hz, rfl⟩ := List.mem_map.mp hv7
        walk_at "go"
        intro p hp
        obtain ⟨u7, hu7⟩ := hB7.some
        have hzn := hN.ok z hz
        exact hQ _ (.nam z) _ (tm_new (d := 0) hu7 hp rfl) (nam_ok hzn) (by have := hzn.l6; simp only [Tm.cost, Tm.nms, List.length_singleton]; omega) (hB7.new hp) ((x7.trans x8).trans (Ex.new hp).tb)
      · walk_at "go"
        intro p hp
        exact hfin H6 hB6 x7 p hp
    · walk_at "go"
      intro p hp
      exact hfin _ hB5 x5 p hp
def spLTerm (K : PySem.W.Frag) (n : Nat) : Sp := fun vs H Q _ => ∃ b c l l2 ns cs dd, vs = [.ref b, .ref l, .ref l2, .int dd] ∧ BagAt H b c ∧ NmL (hide H b) l ns ∧ NmL (hide H b) l2 cs ∧ ns.length ≤ 1000 ∧ cs.length ≤ 1000 ∧ dd ≤ (n : Int) + 1 ∧
  ∀ v t H', IsTm K (hide H' b) (max 1 dd.toNat) v t → t.okT → (t.cost ≤ 8 * 3 ^ (max 1 dd.toNat) ∧ t.nms.length < 2 ^ (max 1 dd.toNat)) → BagAt H' b c → ExB b H H' → Q v H'
end
theorem cost3 {c m : Nat} (hm : 2 ≤ m) (hc : c ≤ 14 + 16 * 3 ^ (m - 1)) : c ≤ 8 * 3 ^ m := by
  obtain ⟨j, rfl⟩ : ∃ j, m = j + 2 := ⟨m - 2, by omega⟩
  have e : j + 2 - 1 = j + 1 := by omega
  rw [e] at hc
  have p : 0 < 3 ^ j := Nat.pow_pos (by decide)
  rw [show (3 : Nat) ^ (j + 1) = 3 ^ j * 3 from Nat.pow_succ ..] at hc
  rw [show (3 : Nat) ^ (j + 2) = 3 ^ j * 3 * 3 by rw [Nat.pow_succ, Nat.pow_succ]]
  generalize 3 ^ j = y at *
  omega
theorem cut3 {x y : V} {a e : Tm} {R : V → Tm → Prop} (h1 : R x a) (h2 : R y e) (k : Int) (k0 : 0 ≤ k) (k1 : k < 4) : Paired R (cutV [x, y, x] none (some k)) ([a, e, a].take k.toNat) := by
  have : k = 0 ∨ k = 1 ∨ k = 2 ∨ k = 3 := by omega
  rcases this with rfl | rfl | rfl | rfl
  · exact .nil
  · exact .cons h1 .nil
  · exact .cons h1 (.cons h2 .nil)
  · exact .cons h1 (.cons h2 (.cons h1 .nil))
theorem take3 {a e : Tm} {n m q : Nat} (ha : a.ok n m q) (he : e.ok n m q) (k : Nat) : Tm.oks n m q ([a, e, a].take k) := by
  rw [Tm.oks_mem]
  intro z hz
  have hz := List.mem_of_mem_take hz
  simp only [List.mem_cons, List.not_mem_nil, or_false] at hz
  rcases hz with rfl | rfl | rfl <;> assumption
theorem costs_take {l : List Tm} : ∀ {k : Nat}, Tm.costs (l.take k) ≤ Tm.costs l := by
  induction l with
  | nil => intro k; simp
  | cons a r ih =>
    intro k
    cases k with
    | zero => simp [Tm.costs]
    | succ k =>
      have := ih (k := k)
      simp only [List.take_succ_cons, Tm.costs]
      omega
section
variable {P : Program} {w : World} {K : PySem.W.Frag} {mg : Str → Option Value} {base : Heap}
theorem ok1__law_term {k n : Nat} {spj : Sp} (T : Txt K mg) (hj : n = 0 ∨ ∃ j, n = j + 1 ∧ spj = spLTerm K j)
    (G__law_pull : FnOk P w K mg base CX0 k (He.ga K "_law_pull") (fdOf K (He.ga K "_law_pull")) p__law_pull (spPull))
    (G__law_of : FnOk P w K mg base CX0 k (He.ga K "_law_of") (fdOf K (He.ga K "_law_of")) p__law_of (spOf K))
    (G__law_leaf : FnOk P w K mg base CX0 k (He.ga K "_law_leaf") (fdOf K (He.ga K "_law_leaf")) p__law_leaf (spLLeaf K))
    (G__law_term : FnOk P w K mg base CX0 k (He.ga K "_law_term") (fdOf K (He.ga K "_law_term")) p__law_term (spj)) : FnOk P w K mg base CX0 (k + 1) (He.ga K "_law_term") (fdOf K (He.ga K "_law_term")) p__law_term (spLTerm K n) := by
  refine FunD.ok T.d__law_term sc__law_term (fun vs H Q E h => ?_) (fun cdv A outer s H vs Q E hr h => ?_)
  · obtain ⟨b, c, l, l2, ns, cs, dd, rfl, _⟩ := h
    rfl
  · obtain ⟨b, c, l, l2, ns, cs, dd, rfl, hB, hN, hC, hn, hcn, hdn, hQ⟩ := h
    refine ⟨_, PSs.nox ((pss_cons (ps_set (i := 4) sc__law_term.nd rfl (Or.inl rfl) (pe_call G__law_pull hr rfl T.g__law_pull T.d__law_pull.kp (b__law_pull T) .nil pass0 (pa_cons (pv 0) (pa_cons pe_int pa_nil))))
    (pss_cons (ps_if (PW.pt (pw_or (pt_cmpR op_lt (pv 3) pe_int (nomark _)) (pw_or1 (pt_cmpR op_eq (pv 4) pe_int (nomark _)))))
      (pss_one (ps_ret (pe_call G__law_leaf hr rfl T.g__law_leaf T.d__law_leaf.kp (b__law_leaf T) .nil pass0 (pa_cons (pv 0) (pa_cons (pv 1) pa_nil)))))
      pss_nil)
    (pss_cons (ps_set (i := 5) sc__law_term.nd rfl (Or.inl rfl) (pe_call G__law_term hr rfl T.g__law_term T.d__law_term.kp (b__law_term T) .nil pass0 (pa_cons (pv 0) (pa_cons (pv 1) (pa_cons (pv 2) (pa_cons (pe_op op_sub (pv 3) pe_int) pa_nil))))))
    (pss_cons (ps_if (pt_cmpR op_lt (pv 4) pe_int (nomark _))
      (pss_one (ps_ret (pe_tup (pa_cons (pe_ix ix_list (pe_lst (pa_cons pe_str (pa_cons pe_str (pa_cons pe_str pa_nil)))) (pe_op op_sub (pv 4) pe_int) (fun _ _ => rfl)) (pa_cons (pv 5) (pa_cons (pe_call G__law_term hr rfl T.g__law_term T.d__law_term.kp (b__law_term T) .nil pass0 (pa_cons (pv 0) (pa_cons (pv 1) (pa_cons (pv 2) (pa_cons (pe_op op_sub (pe_op op_sub (pv 3) pe_int) (pe_call G__law_pull hr rfl T.g__law_pull T.d__law_pull.kp (b__law_pull T) .nil pass0 (pa_cons (pv 0) (pa_cons pe_int pa_nil)))) pa_nil))))) pa_nil))))))
      pss_nil)
    (pss_cons (ps_if (pt_cmpR op_eq (pv 4) pe_int (nomark _))
      (pss_one (ps_ret (pe_tup (pa_cons pe_str (pa_cons (pe_op op_sub (pe_call G__law_pull hr rfl T.g__law_pull T.d__law_pull.kp (b__law_pull T) .nil pass0 (pa_cons (pv 0) (pa_cons pe_int pa_nil))) pe_int) (pa_cons (pv 5) pa_nil))))))
      pss_nil)
    (pss_cons (ps_if (pt_cmpR op_eq (pv 4) pe_int (nomark _))
      (pss_one (ps_ret (pe_tup (pa_cons pe_str (pa_cons (pv 5) pa_nil)))))
      pss_nil)
    (pss_cons (ps_if (pt_cmpR op_eq (pv 4) pe_int (nomark _))
      (pss_one (ps_ret (pe_tup (pa_cons pe_str (pa_cons (pv 5) pa_nil)))))
      pss_nil)
    (pss_cons (ps_if (PW.pt (pw_or (pt_cmpR op_eq (pv 4) pe_int (nomark _)) (pw_or1 (pt_cmpR (PW.op_eqE hr.units0) (pv 2) (pe_lst pa_nil) (nomark _)))))
      (pss_one (ps_ret (pe_tup (pa_cons pe_str (pa_cons (pv 5) (pa_cons (pe_op op_add pe_int (pe_call G__law_pull hr rfl T.g__law_pull T.d__law_pull.kp (b__law_pull T) .nil pass0 (pa_cons (pv 0) (pa_cons pe_int pa_nil)))) pa_nil))))))
      pss_nil)
    (pss_one (ps_ret (pe_tup (pa_cons pe_str (pa_cons (pe_call G__law_of hr rfl T.g__law_of T.d__law_of.kp (b__law_of T) .nil pass0 (pa_cons (pv 0) (pa_cons (pv 2) pa_nil))) (pa_cons (pe_callTy call_tupleN (by rfl) T.f_tuple (by decide +kernel) (pa_cons (pe_slice sl_list (pe_lst (pa_cons (pv 5) (pa_cons (pe_call G__law_leaf hr rfl T.g__law_leaf T.d__law_leaf.kp (b__law_leaf T) .nil pass0 (pa_cons (pv 0) (pa_cons (pv 1) pa_nil))) (pa_cons (pv 5) pa_nil)))) po_none (po_some (pe_call G__law_pull hr rfl T.g__law_pull T.d__law_pull.kp (b__law_pull T) .nil pass0 (pa_cons (pv 0) (pa_cons pe_int pa_nil))))) pa_nil)) pa_nil))))))))))))))), ?_⟩
    show tSeq _ _ _ [some (V.ref b), some (V.ref l), some (V.ref l2), some (V.int dd), none, none] H
    walk_at "K"
    have leaf : ∀ H1, BagAt H1 b c → ExB b H H1 → spLLeaf K [.ref b, .ref l] H1 Q (fun _ _ _ => False) := fun H1 hB1 x1 =>
      ⟨b, c, l, ns, rfl, hB1, hN.ex x1.hd, hn, fun v t H' h1 h2 h3 h4 x => hQ v t H' (h1.up (Nat.le_max_left ..)) h2 (by
        have : (3 : Nat) ^ 1 ≤ 3 ^ (max 1 dd.toNat) := Nat.pow_le_pow_right (by decide) (Nat.le_max_left ..)
        have : (2 : Nat) ^ 1 ≤ 2 ^ (max 1 dd.toNat) := Nat.pow_le_pow_right (by decide) (Nat.le_max_left ..)
        omega) h4 (x1.trans x)⟩
    walk_at "go"
    refine ⟨b, c, 9, rfl, hB, by decide, by decide, fun way H1 w0 w1 hB1 x1 => ?_⟩
    have hN1 := hN.ex x1.hd
    have hC1 := hC.ex x1.hd
    walk_at "go"
    refine r_if2 (fun e => ?_) (fun e => ?_)
    · walk_at "go"
      exact leaf H1 hB1 x1
    · have hd2 : ¬ dd < 2 := of_decide_eq_false e
      walk_at "go"
      refine r_if2 (fun e2 => ?_) (fun e2 => ?_)
      · walk_at "go"
        exact leaf H1 hB1 x1
      · have hw0 : ¬ way = 0 := fun z => of_decide_eq_false e2 (by rw [z])
        obtain ⟨j, rfl, rfl⟩ : ∃ j, n = j + 1 ∧ spj = spLTerm K j := hj.elim (fun z => by omega) id
        walk_at "go"
        refine ⟨b, c, l, l2, ns, cs, _, rfl, hB1, hN1, hC1, hn, hcn, by omega, fun v1 t1 H2 hv1 ok1 co1 hB2 x2 => ?_⟩
        obtain ⟨m, rfl⟩ : ∃ m : Nat, dd = (m : Int) + 2 := ⟨(dd - 2).toNat, by omega⟩
        have em : max 1 ((m : Int) + 2 - 1).toNat = m + 1 := by omega
        have eM : max 1 ((m : Int) + 2).toNat = m + 2 := by omega
        rw [em] at hv1 co1
        rw [eM] at hQ
        obtain ⟨co1, nm1⟩ := co1
        have pw2 : (2 : Nat) ^ (m + 2) = 2 ^ (m + 1) * 2 := Nat.pow_succ ..
        have pw1 : 1 ≤ (2 : Nat) ^ (m + 1) := Nat.pow_pos (by decide)
        have x12 := x1.trans x2
        have hN2 := hN1.ex x2.hd
        have hC2 := hC1.ex x2.hd
        have fin : ∀ (xs : List V) (t : Tm) (H3 : Hp), BagAt H3 b c → ExB b H H3 → TmRow K (hide H3 b) (IsTm K (hide H3 b) (m + 1)) xs t → t.okT → (t.cost ≤ 14 + 16 * 3 ^ (m + 1) ∧ t.nms.length < 2 ^ (m + 2)) → ∀ p, H3 p = none → Q (.ref p) (L2.upd H3 p (.tup xs)) := fun xs t H3 hB3 x3 r ok co p hp => by
          obtain ⟨u, hu⟩ := hB3.some
          exact hQ _ t _ (tm_new hu hp r) ok ⟨cost3 (m := m + 2) (by omega) co.1, co.2⟩ (hB3.new hp) (x3.trans (Ex.new hp).tb)
        clear leaf hQ hN1 hC1 hB1 x1 e e2
        walk_at "go"
        refine r_if2 (fun e => ?_) (fun e => ?_)
        · have hw4 : way < 4 := of_decide_eq_true e
          walk_at "go"
          intro l3 hl3
          have hB3 := hB2.new (o := .lst [V.str "add", V.str "add", V.str "subtract"]) hl3
          have x3 := (Ex.new (o := .lst [V.str "add", V.str "add", V.str "subtract"]) hl3).tb (b := b)
          have hv3 := hv1.ex x3.hd
          walk_at "go"
          obtain ⟨wd, hat, hwd⟩ : ∃ wd : Str, atI [V.str "add", V.str "add", V.str "subtract"] (way - 1) = some (.str wd) ∧ (wd = "add" ∨ wd = "subtract") := by
            have : way = 1 ∨ way = 2 ∨ way = 3 := by omega
            rcases this with rfl | rfl | rfl
            · exact ⟨"add", rfl, .inl rfl⟩
            · exact ⟨"add", rfl, .inl rfl⟩
            · exact ⟨"subtract", rfl, .inr rfl⟩
          refine r_ixL (SqL.of upd_same) hat ?_
          walk_at "go"
          refine ⟨b, c, 2, rfl, hB3, by decide, by decide, fun r4 H4 r40 r41 hB4 x4 => ?_⟩
          have hv4 := hv3.ex x4.hd
          walk_at "go"
          refine ⟨b, c, l, l2, ns, cs, _, rfl, hB4, (hN2.ex x3.hd).ex x4.hd, (hC2.ex x3.hd).ex x4.hd, hn, hcn, by omega, fun v5 t5 H5 hv5 ok5 co5 hB5 x5 => ?_⟩
          have e5 : max 1 ((m : Int) + 2 - 1 - r4).toNat ≤ m + 1 := by omega
          have p5 : (3 : Nat) ^ (max 1 ((m : Int) + 2 - 1 - r4).toNat) ≤ 3 ^ (m + 1) := Nat.pow_le_pow_right (by decide) e5
          have q5 : (2 : Nat) ^ (max 1 ((m : Int) + 2 - 1 - r4).toNat) ≤ 2 ^ (m + 1) := Nat.pow_le_pow_right (by decide) e5
          obtain ⟨co5, nm5⟩ := co5
          have hx5 := hv5.up e5
          have hy5 := hv4.ex x5.hd
          walk_at "go"
          refine fin _ (if wd = "add" then .add t1 t5 else .sub t1 t5) H5 hB5 (((x12.trans x3).trans x4).trans x5) ?_ ?_ ?_
          · rcases hwd with rfl | rfl
            · exact ⟨_, _, rfl, hy5, hx5⟩
            · rw [if_neg (by decide +kernel)]
              exact ⟨_, _, rfl, hy5, hx5⟩
          · rcases hwd with rfl | rfl
            · show (Tm.add t1 t5).okT
              simp only [Tm.okT, Tm.ok]
              exact ⟨ok1, ok5⟩
            · rw [if_neg (by decide +kernel)]
              simp only [Tm.okT, Tm.ok]
              exact ⟨ok1, ok5⟩
          · rcases hwd with rfl | rfl
            · show (Tm.add t1 t5).cost ≤ _ ∧ (Tm.add t1 t5).nms.length < _
              simp only [Tm.cost, Tm.nms, List.length_append]
              omega
            · rw [if_neg (by decide +kernel)]
              simp only [Tm.cost, Tm.nms, List.length_append]
              omega
        · have hw4 : ¬ way < 4 := of_decide_eq_false e
          walk_at "go"
          refine r_if2 (fun e => ?_) (fun e => ?_)
          · walk_at "go"
            refine ⟨b, c, 199, rfl, hB2, by decide, by decide, fun r4 H4 r40 r41 hB4 x4 => ?_⟩
            walk_at "go"
            refine fin _ (.tim (r4 - 99) t1) H4 hB4 (x12.trans x4) ⟨_, rfl, hv1.ex x4.hd⟩ ?_ ?_
            · simp only [Tm.okT, Tm.ok]
              exact ⟨by omega, ok1⟩
            · simp only [Tm.cost, Tm.nms]
              omega
          · walk_at "go"
            refine r_if2 (fun e => ?_) (fun e => ?_)
            · walk_at "go"
              refine fin _ (.pow t1) H2 hB2 x12 ⟨_, rfl, hv1⟩ ?_ ?_
              · simp only [Tm.okT, Tm.ok]
                exact ok1
              · simp only [Tm.cost, Tm.nms]
                omega
            · walk_at "go"
              refine r_if2 (fun e => ?_) (fun e => ?_)
              · walk_at "go"
                refine fin _ (.len t1) H2 hB2 x12 ⟨_, rfl, hv1⟩ ?_ ?_
                · simp only [Tm.okT, Tm.ok]
                  exact ok1
                · simp only [Tm.cost, Tm.nms]
                  omega
              · have quo : ∀ H3, BagAt H3 b c → ExB b H2 H3 → spPull [.ref b, .int 99] H3 (fun y H4 => (∃ r : Int, y = .int r ∧ 0 ≤ r ∧ r < 99 ∧ BagAt H4 b c ∧ ExB b H2 H4)) (fun _ _ _ => False) := fun H3 hB3 x3 =>
                  ⟨b, c, 99, rfl, hB3, by decide, by decide, fun r H4 r0 r1 hB4 x4 => ⟨r, rfl, r0, r1, hB4, x3.trans x4⟩⟩
                have qfin : ∀ (r : Int) (H4 : Hp), 0 ≤ r → r < 99 → BagAt H4 b c → ExB b H2 H4 → ∀ p, H4 p = none → Q (.ref p) (L2.upd H4 p (.tup [V.str "quotient", v1, .int (1 + r)])) := fun r H4 r0 r1 hB4 x4 p hp => by
                  refine fin _ (.quo t1 (1 + r)) H4 hB4 (x12.trans x4) ⟨_, rfl, hv1.ex x4.hd⟩ ?_ ?_ p hp
                  · simp only [Tm.okT, Tm.ok]
                    exact ⟨⟨by omega, by omega⟩, ok1⟩
                  · simp only [Tm.cost, Tm.nms]
                    omega
                clear quo
                walk_at "go"
                refine r_if2 (fun e => ?_) (fun e => ?_)
                · walk_at "go"
                  refine ⟨b, c, 99, rfl, hB2, by decide, by decide, fun r H4 r0 r1 hB4 x4 => ?_⟩
                  walk_at "go"
                  intro p hp
                  exact qfin r H4 r0 r1 hB4 x4 p hp
                · walk_at "go"
                  intro m2 hm2
                  have hB3 := hB2.new (o := .lst []) hm2
                  have x3 := (Ex.new (o := .lst []) hm2).tb (b := b)
                  have hC3 := hC2.ex x3.hd
                  have hl3 := Ex.hide _ b _ _ hC3.at_
                  walk_at "go"
                  refine r_if2 (fun e => ?_) (fun e => ?_)
                  · walk_at "go"
                    refine ⟨b, c, 99, rfl, hB3, by decide, by decide, fun r H4 r0 r1 hB4 x4 => ?_⟩
                    walk_at "go"
                    intro p hp
                    exact qfin r H4 r0 r1 hB4 (x3.trans x4) p hp
                  · have hne : cs ≠ [] := fun z => by
                      subst z
                      cases e
                    have nlb : l2 ≠ b := fun z => by
                      have e3 := hC3.at_
                      rw [z, hide_same] at e3
                      cases e3
                    walk_at "go"
                    refine ⟨b, c, .ref l2, _, rfl, hB3, Or.inl ⟨l2, rfl, nlb, Or.inl hl3⟩, by rw [List.length_map]; exact List.length_pos_iff.mpr hne, by rw [List.length_map]; exact Nat.le_trans hcn (by decide), fun v4 H4 hv4 hB4 x4 => ?_⟩
                    obtain ⟨f, hf, rfl⟩ := List.mem_map.mp hv4
                    have hfn := hC.ok f hf
                    have x34 := x3.trans x4
                    walk_at "go"
                    refine ⟨b, c, l, ns, rfl, hB4, hN2.ex x34.hd, hn, fun v5 t5 H5 hv5 ok5 co5 hB5 x5 => ?_⟩
                    have x35 := x34.trans x5
                    walk_at "go"
                    intro l6 hl6
                    have hB6 := hB5.new (o := .lst [v1, v5, v1]) hl6
                    have x6 := (Ex.new (o := .lst [v1, v5, v1]) hl6).tb (b := b)
                    walk_at "go"
                    refine ⟨b, c, 4, rfl, hB6, by decide, by decide, fun r7 H7 r70 r71 hB7 x7 => ?_⟩
                    have nl6 := hB5.ne hl6
                    have hl7 := x7 _ _ nl6.1.symm (upd_same (H := H5) (a := l6) (o := .lst [v1, v5, v1]))
                    walk_at "go"
                    intro l8 hl8
                    walk_at "go"
                    intro q hq
                    walk_at "go"
                    have hB8 := hB7.new (o := .lst (cutV [v1, v5, v1] none (some r7))) hl8
                    have x8 := (Ex.new (o := .lst (cutV [v1, v5, v1] none (some r7))) hl8).tb (b := b)
                    have hB9 := hB8.new (o := .tup (cutV [v1, v5, v1] none (some r7))) hq
                    have x9 := (Ex.new (o := .tup (cutV [v1, v5, v1] none (some r7))) hq).tb (b := b)
                    obtain ⟨u8, hu8⟩ := hB8.some
                    have hq9 := hide_new (o := .tup (cutV [v1, v5, v1] none (some r7))) hu8 hq
                    have y1 := hv1.ex (((((x35.trans x6).trans x7).trans x8).trans x9).hd)
                    have y5 := (hv5.up (show 1 ≤ m + 1 by omega)).ex ((((x6.trans x7).trans x8).trans x9).hd)
                    refine fin _ (.cal f ([t1, t5, t1].take r7.toNat)) _ hB9 (((((x12.trans x35).trans x6).trans x7).trans x8).trans x9) ⟨q, _, rfl, hq9, cut3 y1 y5 r7 r70 r71⟩ ?_ ?_
                    · simp only [Tm.okT, Tm.ok]
                      exact ⟨isNm_iff.mpr hfn, by rw [List.length_take]; exact Nat.min_le_right _ _, take3 ok1 ok5 _⟩
                    · have h1 := costs_take (l := [t1, t5, t1]) (k := r7.toNat)
                      have h6 := hfn.l6
                      have h2 := Tm.nmss_take (l := [t1, t5, t1]) (k := r7.toNat)
                      obtain ⟨co5, nm5⟩ := co5
                      simp only [Tm.costs] at h1
                      simp only [Tm.nmss, List.length_append, List.length_nil] at h2
                      simp only [Tm.cost, Tm.nms]
                      omega
theorem ok__law_term {k : Nat} (T : Txt K mg)
    (G__law_pull : FnOk P w K mg base CX0 k (He.ga K "_law_pull") (fdOf K (He.ga K "_law_pull")) p__law_pull (spPull))
    (G__law_of : FnOk P w K mg base CX0 k (He.ga K "_law_of") (fdOf K (He.ga K "_law_of")) p__law_of (spOf K))
    (G__law_leaf : FnOk P w K mg base CX0 k (He.ga K "_law_leaf") (fdOf K (He.ga K "_law_leaf")) p__law_leaf (spLLeaf K)) : ∀ n, FnOk P w K mg base CX0 (k + n + 1) (He.ga K "_law_term") (fdOf K (He.ga K "_law_term")) p__law_term (spLTerm K n)
  | 0 => ok1__law_term (spj := spNo) T (.inl rfl) G__law_pull G__law_of G__law_leaf fnOk_no
  | n + 1 => ok1__law_term T (.inr ⟨n, rfl, rfl⟩) (G__law_pull.mono (by omega)) (G__law_of.mono (by omega)) (G__law_leaf.mono (by omega)) (ok__law_term T G__law_pull G__law_of G__law_leaf n)
end
end PW
/-! ### conditions -/
namespace PW
open PySem PySem.Spec PyProof.Rows L2
inductive Cd where
  | tru
  | neg (c : Cd)
  | con (a b : Cd)
  | dis (a b : Cd)
  | less (s t : Tm)
  | equ (s t : Tm)
  | res (t : Tm) (m r : Int)
namespace Cd
def dep : Cd → Nat
  | .neg c => 1 + dep c
  | .con a b => 1 + max (dep a) (dep b)
  | .dis a b => 1 + max (dep a) (dep b)
  | _ => 1
/-- the comparisons, in the order of the text -/
def atoms : Cd → List Cd
  | .tru => []
  | .neg c => atoms c
  | .con a b => atoms a ++ atoms b
  | .dis a b => atoms a ++ atoms b
  | .less s t => [.less s t]
  | .equ s t => [.equ s t]
  | .res t m r => [.res t m r]
/-- the terms of a comparison -/
def tms : Cd → List Tm
  | .less s t => [s, t]
  | .equ s t => [s, t]
  | .res t _ _ => [t]
  | _ => []
def isAtom : Cd → Bool
  | .less _ _ => true
  | .equ _ _ => true
  | .res _ _ _ => true
  | _ => false
def word : Cd → Str
  | .tru => "true"
  | .neg _ => "not"
  | .con _ _ => "and"
  | .dis _ _ => "or"
  | .less _ _ => "less"
  | .equ _ _ => "equal"
  | .res _ _ _ => "rest"
def cost : Cd → Nat
  | .tru => 1
  | .neg c => 1 + cost c
  | .con a b => 1 + cost a + cost b
  | .dis a b => 1 + cost a + cost b
  | .less s t => 1 + s.cost + t.cost
  | .equ s t => 1 + s.cost + t.cost
  | .res t _ _ => 1 + t.cost
def ok : Cd → Prop
  | .tru => True
  | .neg c => ok c
  | .con a b => ok a ∧ ok b
  | .dis a b => ok a ∧ ok b
  | .less s t => s.okT ∧ t.okT
  | .equ s t => s.okT ∧ t.okT
  | .res t m r => t.okT ∧ 2 ≤ m ∧ m ≤ 12 ∧ 0 ≤ r ∧ r < m
def pd : Cd → PyData
  | .tru => .tuple [.str "true"]
  | .neg c => .tuple [.str "not", pd c]
  | .con a b => .tuple [.str "and", pd a, pd b]
  | .dis a b => .tuple [.str "or", pd a, pd b]
  | .less s t => .tuple [.str "less", s.pd, t.pd]
  | .equ s t => .tuple [.str "equal", s.pd, t.pd]
  | .res t m r => .tuple [.str "rest", t.pd, .int m, .int r]
/-- levels of all terms are at most n -/
def tdep (n : Nat) : Cd → Prop
  | .tru => True
  | .neg c => tdep n c
  | .con a b => tdep n a ∧ tdep n b
  | .dis a b => tdep n a ∧ tdep n b
  | .less s t => s.dep ≤ n ∧ t.dep ≤ n
  | .equ s t => s.dep ≤ n ∧ t.dep ≤ n
  | .res t _ _ => t.dep ≤ n
theorem dep_pos (c : Cd) : 1 ≤ c.dep := by
  cases c <;> (unfold dep; omega)
theorem cost_pos (c : Cd) : 1 ≤ c.cost := by
  cases c <;> (unfold cost; omega)
theorem pd_dict : ∀ c : Cd, c.pd.hasDict = false
  | .tru => rfl
  | .neg c => by simp [pd, PyData.hasDict, PyData.hasDictAll, pd_dict c]
  | .con a b => by simp [pd, PyData.hasDict, PyData.hasDictAll, pd_dict a, pd_dict b]
  | .dis a b => by simp [pd, PyData.hasDict, PyData.hasDictAll, pd_dict a, pd_dict b]
  | .less s t => by simp [pd, PyData.hasDict, PyData.hasDictAll, Tm.pd_dict]
  | .equ s t => by simp [pd, PyData.hasDict, PyData.hasDictAll, Tm.pd_dict]
  | .res t m r => by simp [pd, PyData.hasDict, PyData.hasDictAll, Tm.pd_dict]
theorem pd_depth {n : Nat} : ∀ c : Cd, c.tdep n → c.pd.depth ≤ c.dep + 2 * n
  | .tru, _ => by simp [pd, PyData.depth, PyData.depthAll, dep]
  | .neg c, h => by
    have := pd_depth c h
    simp only [pd, PyData.depth, PyData.depthAll, dep]
    omega
  | .con a b, h => by
    have := pd_depth a h.1
    have := pd_depth b h.2
    simp only [pd, PyData.depth, PyData.depthAll, dep]
    omega
  | .dis a b, h => by
    have := pd_depth a h.1
    have := pd_depth b h.2
    simp only [pd, PyData.depth, PyData.depthAll, dep]
    omega
  | .less s t, h => by
    have := Tm.pd_depth s
    have := Tm.pd_depth t
    have := h.1
    have := h.2
    simp only [pd, PyData.depth, PyData.depthAll, dep]
    omega
  | .equ s t, h => by
    have := Tm.pd_depth s
    have := Tm.pd_depth t
    have := h.1
    have := h.2
    simp only [pd, PyData.depth, PyData.depthAll, dep]
    omega
  | .res t m r, h => by
    have := Tm.pd_depth t
    have h : t.dep ≤ n := h
    simp only [pd, PyData.depth, PyData.depthAll, dep]
    omega
theorem showable : ∀ c : Cd, c.ok → c.pd.showable = true
  | .tru, _ => by decide
  | .neg c, h => by
    have := showable c h
    simp [pd, PyData.showable, PyData.showableAll, this]
  | .con a b, h => by
    have := showable a h.1
    have := showable b h.2
    simp [pd, PyData.showable, PyData.showableAll, *]
  | .dis a b, h => by
    have := showable a h.1
    have := showable b h.2
    simp [pd, PyData.showable, PyData.showableAll, *]
  | .less s t, h => by
    have := Tm.showable tmb s h.1
    have := Tm.showable tmb t h.2
    simp [pd, PyData.showable, PyData.showableAll, *]
  | .equ s t, h => by
    have := Tm.showable tmb s h.1
    have := Tm.showable tmb t h.2
    simp [pd, PyData.showable, PyData.showableAll, *]
  | .res t m r, h => by
    obtain ⟨h1, h2, h3, h4, h5⟩ := h
    have := Tm.showable tmb t h1
    have := log_small (show m.natAbs < 100 by omega) (by decide)
    have := log_small (show r.natAbs < 100 by omega) (by decide)
    simp [pd, PyData.showable, PyData.showableAll, *]
theorem shown_len : ∀ c : Cd, c.ok → c.pd.shown.length ≤ 48 * c.cost
  | .tru, _ => by
    have h3 := shown_tup [.str "true"]
    have h2 := Tm.w_len (z := "true") (n := 6)
    simp only [pd, PyData.shownAll, piled_cons, piled_nil, cost] at h3 ⊢
    omega
  | .neg c, h => by
    have := shown_len c h
    have h3 := shown_tup [.str "not", c.pd]
    have h2 := Tm.w_len (z := "not") (n := 6)
    simp only [pd, PyData.shownAll, piled_cons, piled_nil, cost] at h3 ⊢
    omega
  | .con a b, h => by
    have := shown_len a h.1
    have := shown_len b h.2
    have h3 := shown_tup [.str "and", a.pd, b.pd]
    have h2 := Tm.w_len (z := "and") (n := 6)
    simp only [pd, PyData.shownAll, piled_cons, piled_nil, cost] at h3 ⊢
    omega
  | .dis a b, h => by
    have := shown_len a h.1
    have := shown_len b h.2
    have h3 := shown_tup [.str "or", a.pd, b.pd]
    have h2 := Tm.w_len (z := "or") (n := 6)
    simp only [pd, PyData.shownAll, piled_cons, piled_nil, cost] at h3 ⊢
    omega
  | .less s t, h => by
    have := Tm.shown_len tmb s h.1
    have := Tm.shown_len tmb t h.2
    have h3 := shown_tup [.str "less", s.pd, t.pd]
    have h2 := Tm.w_len (z := "less") (n := 6)
    simp only [pd, PyData.shownAll, piled_cons, piled_nil, cost] at h3 ⊢
    omega
  | .equ s t, h => by
    have := Tm.shown_len tmb s h.1
    have := Tm.shown_len tmb t h.2
    have h3 := shown_tup [.str "equal", s.pd, t.pd]
    have h2 := Tm.w_len (z := "equal") (n := 7)
    simp only [pd, PyData.shownAll, piled_cons, piled_nil, cost] at h3 ⊢
    omega
  | .res t m r, h => by
    obtain ⟨h1, h2, h3, h4, h5⟩ := h
    have := Tm.shown_len tmb t h1
    have i1 := shown_int (show m.natAbs < 10 ^ 10 by omega)
    have i2 := shown_int (show r.natAbs < 10 ^ 10 by omega)
    have h3 := shown_tup [.str "rest", t.pd, .int m, .int r]
    have h2 := Tm.w_len (z := "rest") (n := 6)
    simp only [pd, PyData.shownAll, piled_cons, piled_nil, cost] at h3 ⊢
    omega
theorem atoms_atom : ∀ c : Cd, ∀ a ∈ c.atoms, a.isAtom = true
  | .tru, a, h => nomatch h
  | .neg c, a, h => atoms_atom c a h
  | .con x y, a, h => (List.mem_append.mp h).elim (atoms_atom x a) (atoms_atom y a)
  | .dis x y, a, h => (List.mem_append.mp h).elim (atoms_atom x a) (atoms_atom y a)
  | .less s t, a, h => by
    rw [List.mem_singleton.mp h]
    rfl
  | .equ s t, a, h => by
    rw [List.mem_singleton.mp h]
    rfl
  | .res t m r, a, h => by
    rw [List.mem_singleton.mp h]
    rfl
end Cd
/-- the tuple of a condition -/
def CdRow (R : V → Cd → Prop) (S : V → Tm → Prop) (xs : List V) : Cd → Prop
  | .tru => xs = [.str "true"]
  | .neg c => ∃ x, xs = [.str "not", x] ∧ R x c
  | .con a b => ∃ x y, xs = [.str "and", x, y] ∧ R x a ∧ R y b
  | .dis a b => ∃ x y, xs = [.str "or", x, y] ∧ R x a ∧ R y b
  | .less s t => ∃ x y, xs = [.str "less", x, y] ∧ S x s ∧ S y t
  | .equ s t => ∃ x y, xs = [.str "equal", x, y] ∧ S x s ∧ S y t
  | .res t m r => ∃ x, xs = [.str "rest", x, .int m, .int r] ∧ S x t
/-- v is the condition c, of at most d levels, its terms of at most e -/
def IsCd (K : PySem.W.Frag) (H : Hp) (e : Nat) : Nat → V → Cd → Prop
  | 0, _, _ => False
  | d + 1, v, c => ∃ p xs, v = .ref p ∧ H p = some (.tup xs) ∧ CdRow (IsCd K H e d) (IsTm K H e) xs c
theorem CdRow.imp {R R' : V → Cd → Prop} {S S' : V → Tm → Prop} {xs : List V} {c : Cd} (h : ∀ x a, R x a → R' x a) (g : ∀ x a, S x a → S' x a) (r : CdRow R S xs c) : CdRow R' S' xs c := by
  cases c with
  | tru => exact r
  | neg c => obtain ⟨x, e, e1⟩ := r; exact ⟨x, e, h _ _ e1⟩
  | con a b => obtain ⟨x, y, e, e1, e2⟩ := r; exact ⟨x, y, e, h _ _ e1, h _ _ e2⟩
  | dis a b => obtain ⟨x, y, e, e1, e2⟩ := r; exact ⟨x, y, e, h _ _ e1, h _ _ e2⟩
  | less a b => obtain ⟨x, y, e, e1, e2⟩ := r; exact ⟨x, y, e, g _ _ e1, g _ _ e2⟩
  | equ a b => obtain ⟨x, y, e, e1, e2⟩ := r; exact ⟨x, y, e, g _ _ e1, g _ _ e2⟩
  | res t m r2 => obtain ⟨x, e, e1⟩ := r; exact ⟨x, e, g _ _ e1⟩
theorem CdRow.head {R : V → Cd → Prop} {S : V → Tm → Prop} {xs : List V} {c : Cd} (h : CdRow R S xs c) : ∃ r, xs = .str c.word :: r := by
  cases c with
  | tru => exact ⟨_, h⟩
  | neg c => obtain ⟨x, e, _⟩ := h; exact ⟨_, e⟩
  | res t m r => obtain ⟨x, e, _⟩ := h; exact ⟨_, e⟩
  | _ => obtain ⟨x, y, e, _⟩ := h; exact ⟨_, e⟩
theorem IsCd.ex {K : PySem.W.Frag} {H H' : Hp} {e : Nat} (x : Ex H H') : ∀ {d : Nat} {v : V} {c : Cd}, IsCd K H e d v c → IsCd K H' e d v c
  | 0, _, _, h => h.elim
  | d + 1, v, c, h => by
    obtain ⟨p, xs, e, h1, h2⟩ := h
    exact ⟨p, xs, e, x _ _ h1, h2.imp (fun _ _ z => IsCd.ex x z) fun _ _ z => z.ex x⟩
theorem IsCd.up {K : PySem.W.Frag} {H : Hp} {e e' : Nat} (he : e ≤ e') : ∀ {d d' : Nat} {v : V} {c : Cd}, d ≤ d' → IsCd K H e d v c → IsCd K H e' d' v c
  | 0, _, _, _, _, h => h.elim
  | d + 1, 0, _, _, z, _ => absurd z (by omega)
  | d + 1, d' + 1, v, c, z, h => by
    obtain ⟨p, xs, e1, h1, h2⟩ := h
    exact ⟨p, xs, e1, h1, h2.imp (fun _ _ z => IsCd.up he (by omega) z) fun _ _ z => z.up he⟩
theorem IsCd.mk {K : PySem.W.Frag} {H : Hp} {e d : Nat} {p : Addr} {xs : List V} {c : Cd} (h : H p = some (.tup xs)) (r : CdRow (IsCd K H e d) (IsTm K H e) xs c) : IsCd K H e (d + 1) (.ref p) c := ⟨p, xs, rfl, h, r⟩
theorem IsCd.ref {K : PySem.W.Frag} {H : Hp} {e : Nat} : ∀ {d : Nat} {v : V} {c : Cd}, IsCd K H e d v c → ∃ p, v = .ref p
  | 0, _, _, h => h.elim
  | _ + 1, _, _, ⟨p, _, e, _⟩ => ⟨p, e⟩
theorem IsCd.depth {K : PySem.W.Frag} {H : Hp} {e : Nat} : ∀ {d : Nat} {v : V} {c : Cd}, IsCd K H e d v c → c.dep ≤ d
  | 0, _, _, h => h.elim
  | d + 1, v, c, h => by
    obtain ⟨p, xs, e1, h1, h2⟩ := h
    cases c with
    | neg c =>
      obtain ⟨x, _, e2⟩ := h2
      have := IsCd.depth e2
      simp only [Cd.dep]
      omega
    | con a b =>
      obtain ⟨x, y, _, e2, e3⟩ := h2
      have := IsCd.depth e2
      have := IsCd.depth e3
      simp only [Cd.dep]
      omega
    | dis a b =>
      obtain ⟨x, y, _, e2, e3⟩ := h2
      have := IsCd.depth e2
      have := IsCd.depth e3
      simp only [Cd.dep]
      omega
    | _ =>
      simp only [Cd.dep]
      omega
theorem IsCd.tdep {K : PySem.W.Frag} {H : Hp} {e : Nat} : ∀ {d : Nat} {v : V} {c : Cd}, IsCd K H e d v c → c.tdep e
  | 0, _, _, h => h.elim
  | d + 1, v, c, h => by
    obtain ⟨p, xs, e1, h1, h2⟩ := h
    cases c with
    | tru => trivial
    | neg c =>
      obtain ⟨x, _, e2⟩ := h2
      exact IsCd.tdep (c := c) e2
    | con a b =>
      obtain ⟨x, y, _, e2, e3⟩ := h2
      exact ⟨IsCd.tdep e2, IsCd.tdep e3⟩
    | dis a b =>
      obtain ⟨x, y, _, e2, e3⟩ := h2
      exact ⟨IsCd.tdep e2, IsCd.tdep e3⟩
    | less a b =>
      obtain ⟨x, y, _, e2, e3⟩ := h2
      exact ⟨e2.depth, e3.depth⟩
    | equ a b =>
      obtain ⟨x, y, _, e2, e3⟩ := h2
      exact ⟨e2.depth, e3.depth⟩
    | res t m r =>
      obtain ⟨x, _, e2⟩ := h2
      exact e2.depth
theorem IsCd.dat {K : PySem.W.Frag} {H : Hp} {e : Nat} : ∀ {d : Nat} {v : V} {c : Cd}, IsCd K H e d v c → Dp K H v c.pd
  | 0, _, _, h => h.elim
  | d + 1, v, c, h => by
    obtain ⟨p, xs, rfl, h1, h2⟩ := h
    cases c with
    | tru =>
      have h2 : xs = _ := h2
      subst h2
      exact .tup (SqT.of h1) (.cons (.str _) .nil)
    | neg c =>
      obtain ⟨x, rfl, e2⟩ := h2
      exact .tup (SqT.of h1) (.cons (.str _) (.cons (IsCd.dat e2) .nil))
    | con a b =>
      obtain ⟨x, y, rfl, e2, e3⟩ := h2
      exact .tup (SqT.of h1) (.cons (.str _) (.cons (IsCd.dat e2) (.cons (IsCd.dat e3) .nil)))
    | dis a b =>
      obtain ⟨x, y, rfl, e2, e3⟩ := h2
      exact .tup (SqT.of h1) (.cons (.str _) (.cons (IsCd.dat e2) (.cons (IsCd.dat e3) .nil)))
    | less a b =>
      obtain ⟨x, y, rfl, e2, e3⟩ := h2
      exact .tup (SqT.of h1) (.cons (.str _) (.cons e2.dat (.cons e3.dat .nil)))
    | equ a b =>
      obtain ⟨x, y, rfl, e2, e3⟩ := h2
      exact .tup (SqT.of h1) (.cons (.str _) (.cons e2.dat (.cons e3.dat .nil)))
    | res t m r =>
      obtain ⟨x, rfl, e2⟩ := h2
      exact .tup (SqT.of h1) (.cons (.str _) (.cons e2.dat (.cons (.int _) (.cons (.int _) .nil))))
def Cd.anms (a : Cd) : List Str := Tm.nmss a.tms
/-- the names of some comparisons -/
def cnmss : List Cd → List Str
  | [] => []
  | a :: r => a.anms ++ cnmss r
def Cd.cnms (c : Cd) : List Str := cnmss c.atoms
theorem cnmss_get {as : List Cd} {i : Nat} {a : Cd} (h : as[i]? = some a) : cnmss (as.take (i + 1)) = cnmss (as.take i) ++ a.anms := by
  induction as generalizing i with
  | nil => cases h
  | cons b r ih =>
    cases i with
    | zero =>
      injection h with h
      subst h
      simp [cnmss]
    | succ i =>
      have := ih (i := i) (by simpa using h)
      simp only [List.take_succ_cons, cnmss, this, List.append_assoc]
theorem cnmss_take {l : List Cd} : ∀ {k : Nat}, (cnmss (l.take k)).length ≤ (cnmss l).length := by
  induction l with
  | nil => intro k; simp
  | cons a r ih =>
    intro k
    cases k with
    | zero => simp [cnmss]
    | succ k =>
      have := ih (k := k)
      simp only [List.take_succ_cons, cnmss, List.length_append]
      omega
end PW
/-! ### the texts of conditions -/
namespace PW
open PySem PySem.Spec PyProof.Rows L2
namespace Cd
/-- the signs of a condition's text -/
def tx : Cd → List Nat
  | .tru => [116, 114, 117, 101]
  | .neg c => [110, 111, 116, 32] ++ tx c
  | .con a b => [91] ++ (tx a ++ ([32, 97, 110, 100, 32] ++ (tx b ++ [93])))
  | .dis a b => [91] ++ (tx a ++ ([32, 111, 114, 32] ++ (tx b ++ [93])))
  | .less s t => s.tx ++ ([32, 60, 32] ++ t.tx)
  | .equ s t => s.tx ++ ([32, 61, 32] ++ t.tx)
  | .res t m r => t.tx ++ ([32, 109, 111, 100, 32] ++ (numC m ++ ([32, 61, 32] ++ numC r)))
def txt (c : Cd) : Str := ⟨c.tx.toArray⟩
theorem tx_len : ∀ c : Cd, c.ok → c.tx.length ≤ 20 * c.cost
  | .tru, _ => by decide
  | .neg c, h => by
    have := tx_len c h
    simp only [tx, cost, List.length_append, List.length_cons, List.length_nil]
    omega
  | .con a b, h => by
    have := tx_len a h.1
    have := tx_len b h.2
    simp only [tx, cost, List.length_append, List.length_cons, List.length_nil]
    omega
  | .dis a b, h => by
    have := tx_len a h.1
    have := tx_len b h.2
    simp only [tx, cost, List.length_append, List.length_cons, List.length_nil]
    omega
  | .less s t, h => by
    have := Tm.tx_len tmb s h.1
    have := Tm.tx_len tmb t h.2
    simp only [tx, cost, List.length_append, List.length_cons, List.length_nil]
    omega
  | .equ s t, h => by
    have := Tm.tx_len tmb s h.1
    have := Tm.tx_len tmb t h.2
    simp only [tx, cost, List.length_append, List.length_cons, List.length_nil]
    omega
  | .res t m r, h => by
    obtain ⟨h1, h2, h3, h4, h5⟩ := h
    have := Tm.tx_len tmb t h1
    have l1 := numC_len (i := m) (k := 2) (by decide) (by omega)
    have l2 := numC_len (i := r) (k := 2) (by decide) (by omega)
    simp only [tx, cost, List.length_append, List.length_cons, List.length_nil]
    omega
end Cd
end PW
/-! ### conditions as the laws draw them -/
namespace PW
open PySem PySem.Spec PyProof.Rows L2
theorem cd_new {K : PySem.W.Frag} {H : Hp} {b p : Addr} {xs : List V} {e d : Nat} {c : Cd} {u : HO} (hb : H b = some u) (hp : H p = none) (r : CdRow (IsCd K (hide H b) e d) (IsTm K (hide H b) e) xs c) : IsCd K (hide (L2.upd H p (.tup xs)) b) e (d + 1) (.ref p) c := by
  have x : Ex (hide H b) (hide (L2.upd H p (.tup xs)) b) := (Ex.new hp).hides b
  exact IsCd.mk (hide_new hb hp) (r.imp (fun _ _ z => z.ex x) fun _ _ z => z.ex x)
def spLCmp (K : PySem.W.Frag) (n : Nat) : Sp := fun vs H Q _ => ∃ b c l l2 ns cs dd, vs = [.ref b, .ref l, .ref l2, .int dd] ∧ BagAt H b c ∧ NmL (hide H b) l ns ∧ NmL (hide H b) l2 cs ∧ ns.length ≤ 1000 ∧ cs.length ≤ 1000 ∧ dd ≤ (n : Int) + 1 ∧
  ∀ v a H', IsCd K (hide H' b) (n + 1) 1 v a → a.ok → a.isAtom = true → a.cost ≤ 1 + 16 * 3 ^ (n + 1) → a.anms.length + 2 ≤ 2 * 2 ^ (n + 1) → BagAt H' b c → ExB b H H' → Q v H'
section
variable {P : Program} {w : World} {K : PySem.W.Frag} {mg : Str → Option Value} {base : Heap}
theorem ok__law_compare {k n : Nat} (T : Txt K mg)
    (G__law_pull : FnOk P w K mg base CX0 k (He.ga K "_law_pull") (fdOf K (He.ga K "_law_pull")) p__law_pull (spPull))
    (G__law_of : FnOk P w K mg base CX0 k (He.ga K "_law_of") (fdOf K (He.ga K "_law_of")) p__law_of (spOf K))
    (G__law_term : FnOk P w K mg base CX0 k (He.ga K "_law_term") (fdOf K (He.ga K "_law_term")) p__law_term (spLTerm K n)) : FnOk P w K mg base CX0 (k + 1) (He.ga K "_law_compare") (fdOf K (He.ga K "_law_compare")) p__law_compare (spLCmp K n) := by
  refine FunD.ok T.d__law_compare sc__law_compare (fun vs H Q E h => ?_) (fun cdv A outer s H vs Q E hr h => ?_)
  · obtain ⟨b, c, l, l2, ns, cs, dd, rfl, _⟩ := h
    rfl
  · obtain ⟨b, c, l, l2, ns, cs, dd, rfl, hB, hN, hC, hn, hcn, hdn, hQ⟩ := h
    refine ⟨_, PSs.nox ((pss_cons (ps_par (i := 4) (j := 5) (by rfl) sc__law_compare.nd rfl rfl (by decide) rfl rfl (pa_cons (pe_call G__law_term hr rfl T.g__law_term T.d__law_term.kp (b__law_term T) .nil pass0 (pa_cons (pv 0) (pa_cons (pv 1) (pa_cons (pv 2) (pa_cons (pv 3) pa_nil))))) (pa_cons (pe_call G__law_term hr rfl T.g__law_term T.d__law_term.kp (b__law_term T) .nil pass0 (pa_cons (pv 0) (pa_cons (pv 1) (pa_cons (pv 2) (pa_cons (pv 3) pa_nil))))) pa_nil)) (by rfl))
    (pss_cons (ps_set (i := 6) sc__law_compare.nd rfl (Or.inl rfl) (pe_op op_add pe_int (pe_call G__law_pull hr rfl T.g__law_pull T.d__law_pull.kp (b__law_pull T) .nil pass0 (pa_cons (pv 0) (pa_cons pe_int pa_nil)))))
    (pss_one (ps_ret (pe_call G__law_of hr rfl T.g__law_of T.d__law_of.kp (b__law_of T) .nil pass0 (pa_cons (pv 0) (pa_cons (pe_lst (pa_cons (pe_tup (pa_cons pe_str (pa_cons (pv 4) (pa_cons (pv 5) pa_nil)))) (pa_cons (pe_tup (pa_cons pe_str (pa_cons (pv 4) (pa_cons (pv 5) pa_nil)))) (pa_cons (pe_tup (pa_cons pe_str (pa_cons (pv 4) (pa_cons (pv 6) (pa_cons (pe_call G__law_pull hr rfl T.g__law_pull T.d__law_pull.kp (b__law_pull T) .nil pass0 (pa_cons (pv 0) (pa_cons (pv 6) pa_nil))) pa_nil))))) pa_nil)))) pa_nil)))))))), ?_⟩
    show tSeq _ _ _ [some (V.ref b), some (V.ref l), some (V.ref l2), some (V.int dd), none, none, none] H
    walk_at "K"
    have le : max 1 dd.toNat ≤ n + 1 := by omega
    have c3 : 8 * 3 ^ (max 1 dd.toNat) ≤ 8 * 3 ^ (n + 1) := Nat.mul_le_mul_left 8 (Nat.pow_le_pow_right (by decide) le)
    have c2 : (2 : Nat) ^ (max 1 dd.toNat) ≤ 2 ^ (n + 1) := Nat.pow_le_pow_right (by decide) le
    walk_at "go"
    refine ⟨b, c, l, l2, ns, cs, dd, rfl, hB, hN, hC, hn, hcn, hdn, fun v1 t1 H1 h1 ok1 co1 hB1 x1 => ?_⟩
    replace h1 := h1.up le
    walk_at "go"
    refine ⟨b, c, l, l2, ns, cs, dd, rfl, hB1, hN.ex x1.hd, hC.ex x1.hd, hn, hcn, hdn, fun v2 t2 H2 h2 ok2 co2 hB2 x2 => ?_⟩
    replace h2 := h2.up le
    replace h1 := h1.ex x2.hd
    have x12 := x1.trans x2
    clear hB1 x1 x2
    walk_at "go"
    refine ⟨b, c, 11, rfl, hB2, by decide, by decide, fun m H3 m0 m1 hB3 x3 => ?_⟩
    replace h1 := h1.ex x3.hd
    replace h2 := h2.ex x3.hd
    have x13 := x12.trans x3
    clear hB2 x3 x12
    walk_at "go"
    intro p1 hp1
    obtain ⟨u, hu⟩ := hB3.some
    have a1 : IsCd K _ (n + 1) 1 (.ref p1) (.less t1 t2) := cd_new (d := 0) hu hp1 ⟨v1, v2, rfl, h1, h2⟩
    have y1 := Ex.new (o := .tup [V.str "less", v1, v2]) hp1
    replace hB3 := hB3.new (o := .tup [V.str "less", v1, v2]) hp1
    replace h1 := h1.ex (y1.hides b)
    replace h2 := h2.ex (y1.hides b)
    have x14 := x13.trans y1.tb
    clear hu hp1 y1 x13
    walk_at "go"
    intro p2 hp2
    obtain ⟨u, hu⟩ := hB3.some
    have a2 : IsCd K _ (n + 1) 1 (.ref p2) (.equ t1 t2) := cd_new (d := 0) hu hp2 ⟨v1, v2, rfl, h1, h2⟩
    have y1 := Ex.new (o := .tup [V.str "equal", v1, v2]) hp2
    replace hB3 := hB3.new (o := .tup [V.str "equal", v1, v2]) hp2
    replace h1 := h1.ex (y1.hides b)
    replace a1 := a1.ex (y1.hides b)
    have x15 := x14.trans y1.tb
    clear hu hp2 y1 x14
    walk_at "go"
    refine ⟨b, c, _, rfl, hB3, by omega, Nat.lt_trans (log_small (n := 2000) (by omega) (by decide)) (by decide), fun r H4 r0 r1 hB4 x4 => ?_⟩
    replace h1 := h1.ex x4.hd
    replace a1 := a1.ex x4.hd
    replace a2 := a2.ex x4.hd
    have x16 := x15.trans x4
    clear hB3 x4 x15
    walk_at "go"
    intro p3 hp3
    obtain ⟨u, hu⟩ := hB4.some
    have a3 : IsCd K _ (n + 1) 1 (.ref p3) (.res t1 (2 + m) r) := cd_new (d := 0) hu hp3 ⟨v1, rfl, h1⟩
    have y1 := Ex.new (o := .tup [V.str "rest", v1, .int (2 + m), .int r]) hp3
    replace hB4 := hB4.new (o := .tup [V.str "rest", v1, .int (2 + m), .int r]) hp3
    replace a1 := a1.ex (y1.hides b)
    replace a2 := a2.ex (y1.hides b)
    have x17 := x16.trans y1.tb
    clear hu hp3 y1 x16
    walk_at "go"
    intro q hq
    have y1 := Ex.new (o := .lst [V.ref p1, V.ref p2, V.ref p3]) hq
    have hqb := (hB4.ne hq).1.symm
    replace hB4 := hB4.new (o := .lst [V.ref p1, V.ref p2, V.ref p3]) hq
    replace a1 := a1.ex (y1.hides b)
    replace a2 := a2.ex (y1.hides b)
    replace a3 := a3.ex (y1.hides b)
    have x18 := x17.trans y1.tb
    walk_at "go"
    refine ⟨b, c, .ref q, _, rfl, hB4, Or.inl ⟨q, rfl, hqb, Or.inl upd_same⟩, by walk_at "len", by walk_at "len", fun v H5 hv hB5 x5 => ?_⟩
    replace a1 := a1.ex x5.hd
    replace a2 := a2.ex x5.hd
    replace a3 := a3.ex x5.hd
    have x19 := x18.trans x5
    simp only [List.mem_cons, List.not_mem_nil, or_false] at hv
    rcases hv with rfl | rfl | rfl
    · exact hQ _ _ _ a1 ⟨ok1, ok2⟩ rfl (by simp only [Cd.cost]; omega) (by simp only [Cd.anms, Cd.tms, Tm.nmss, List.length_append, List.length_nil]; omega) hB5 x19
    · exact hQ _ _ _ a2 ⟨ok1, ok2⟩ rfl (by simp only [Cd.cost]; omega) (by simp only [Cd.anms, Cd.tms, Tm.nmss, List.length_append, List.length_nil]; omega) hB5 x19
    · exact hQ _ _ _ a3 ⟨ok1, by omega, by omega, r0, r1⟩ rfl (by simp only [Cd.cost]; omega) (by simp only [Cd.anms, Cd.tms, Tm.nmss, List.length_append, List.length_nil]; omega) hB5 x19
end
end PW
/-! ### texts of terms: the law's and the program's -/
namespace PW
open PySem PySem.Spec PyProof.Rows L2
theorem str_ext {x y : Str} (h : TL.tl x = TL.tl y) : x = y := TL.ext_tl h
theorem tl_txt (t : Tm) : TL.tl t.txt = t.tx := rfl
theorem tl_num_ (i : Int) : TL.tl (Str.ofString (toString i)) = numC i := tl_iS i
theorem joinL_txs : ∀ as : List Tm, TL.joinL [44, 32] (as.map Tm.tx) = Tm.txs as
  | [] => rfl
  | a :: r => by
    have go : ∀ (a : Tm) (r : List Tm), TL.joinL [44, 32] ((a :: r).map Tm.tx) = a.tx ++ Tm.txr r := by
      intro a r
      induction r generalizing a with
      | nil => simp [TL.joinL, Tm.txr]
      | cons x s ih =>
        show a.tx ++ ([44, 32] ++ TL.joinL [44, 32] ((x :: s).map Tm.tx)) = _
        rw [ih x]
        simp only [Tm.txr, List.cons_append, List.nil_append]
    rw [go]
    simp only [Tm.txs]
theorem join_txs (as : List Tm) : TL.tl (Txt.join (Str.ofString ", ") (as.map Tm.txt)) = Tm.txs as := by
  rw [TL.join_eq, TL.tl_join, show TL.tl (Str.ofString ", ") = [44, 32] by decide +kernel, List.map_map]
  exact joinL_txs as
theorem txr_sum (as : List Tm) : ((as.map Tm.txt).map (fun z : Str => z.length)).sum + as.length * 2 = (Tm.txr as).length := by
  induction as with
  | nil => simp [Tm.txr]
  | cons a r ih =>
    have e : a.txt.length = a.tx.length := len_eq _
    simp only [List.map_cons, List.sum_cons, Tm.txr, List.length_cons, List.length_append, Nat.succ_mul]
    omega
theorem txr_mem {a : Tm} : ∀ {as : List Tm}, a ∈ as → a.tx.length ≤ (Tm.txr as).length
  | [], h => nomatch h
  | b :: r, h => by
    simp only [Tm.txr, List.length_cons, List.length_append]
    rcases List.mem_cons.mp h with rfl | h
    · omega
    · have := txr_mem h
      omega
theorem txs_len (as : List Tm) : (Tm.txr as).length ≤ (Tm.txs as).length + 2 := by
  cases as with
  | nil => simp [Tm.txr]
  | cons a r =>
    simp only [Tm.txr, Tm.txs, List.length_cons, List.length_append]
    omega
theorem lit0 : TL.tl (Str.ofString "*") = [42] := by decide +kernel
theorem lit1 : TL.tl (Str.ofString "(") = [40] := by decide +kernel
theorem lit2 : TL.tl (Str.ofString ", ") = [44, 32] := by decide +kernel
theorem lit3 : TL.tl (Str.ofString ")") = [41] := by decide +kernel
theorem lit4 : TL.tl (Str.ofString "2^") = [50, 94] := by decide +kernel
theorem lit5 : TL.tl (Str.ofString "len(") = [108, 101, 110, 40] := by decide +kernel
theorem lit6 : TL.tl (Str.ofString " // ") = [32, 47, 47, 32] := by decide +kernel
theorem lit7 : TL.tl (Str.ofString " + ") = [32, 43, 32] := by decide +kernel
theorem lit8 : TL.tl (Str.ofString " - ") = [32, 45, 32] := by decide +kernel
theorem lit9 : TL.tl (Str.ofString " ") = [32] := by decide +kernel
theorem lit10 : TL.tl (Str.ofString "+") = [43] := by decide +kernel
theorem lit11 : TL.tl (Str.ofString "-") = [45] := by decide +kernel
theorem lit12 : TL.tl (Str.ofString " mod ") = [32, 109, 111, 100, 32] := by decide +kernel
theorem lit13 : TL.tl (Str.ofString " = ") = [32, 61, 32] := by decide +kernel
theorem lit14 : TL.tl (Str.ofString " < ") = [32, 60, 32] := by decide +kernel
theorem lit15 : TL.tl (Str.ofString "not ") = [110, 111, 116, 32] := by decide +kernel
theorem lit16 : TL.tl (Str.ofString "[") = [91] := by decide +kernel
theorem lit17 : TL.tl (Str.ofString "]") = [93] := by decide +kernel
theorem lit18 : TL.tl (Str.ofString "and") = [97, 110, 100] := by decide +kernel
theorem lit19 : TL.tl (Str.ofString "or") = [111, 114] := by decide +kernel
theorem lit20 : TL.tl (Str.ofString " and ") = [32, 97, 110, 100, 32] := by decide +kernel
theorem lit21 : TL.tl (Str.ofString " or ") = [32, 111, 114, 32] := by decide +kernel
theorem lit22 : TL.tl (Str.ofString "true") = [116, 114, 117, 101] := by decide +kernel
theorem lit23 : TL.tl (Str.ofString "") = [] := by decide +kernel
theorem tl_empty : TL.tl Str.empty = [] := rfl
theorem line16 : sizeLine = 16777216 := by decide +kernel
theorem tl_mk (l : List Nat) : TL.tl (⟨l.toArray⟩ : Str) = l := rfl
/-- the text of a term of at most n + 1 levels, with ints in range -/
def spTTx (K : PySem.W.Frag) (n : Nat) : Sp := fun vs H Q _ => ∃ v t d, vs = [v] ∧ IsTm K H d v t ∧ t.dep ≤ n + 1 ∧ t.okT ∧ t.tx.length ≤ 1000000 ∧ ∀ H', Ex H H' → Q (.str t.txt) H'
theorem logT {i : Int} {n : Nat} (h : i.natAbs < n) (hn : n ≤ 10 ^ 10) : i.natAbs.log2 < 1920 := log_small h hn
theorem look2 {k1 k2 z : Str} {v1 v2 v : V} (hk : k1 ≠ k2) (e : (k1 = z ∧ v = v1) ∨ (k2 = z ∧ v = v2)) : valV (mergeK [] [((.inr k1 : Key), v1), ((.inr k2 : Key), v2)]) (.inr z) = some v := by
  have n : ¬ (Sum.inr k1 : Key) = Sum.inr k2 := fun z => hk (Sum.inr.inj z)
  have m : mergeK [] [((.inr k1 : Key), v1), ((.inr k2 : Key), v2)] = [((.inr k1 : Key), v1), ((.inr k2 : Key), v2)] := by
    simp [mergeK, putK, n]
  rw [m]
  rcases e with ⟨rfl, rfl⟩ | ⟨rfl, rfl⟩
  · exact valV_pos rfl
  · rw [valV_neg n]
    exact valV_pos rfl
/-- {k1: v1, k2: v2}[z] -/
theorem r_dsel {σ : L2.St} {H : Hp} {Q : VK} {k1 k2 z : Str} {v1 v2 v : V} {i : Nat} (hi : σ[i]? = some (some (.str z))) (hk : k1 ≠ k2) (e : (k1 = z ∧ v = v1) ∨ (k2 = z ∧ v = v2)) (q : ∀ H', Ex H H' → Q v H') : tDGet (tDisp [(tC (.str k1), tC v1), (tC (.str k2), tC v2)]) (tVar i) σ H Q := by
  intro p hp
  refine ⟨upd_same, [((.inr k1 : Key), v1), ((.inr k2 : Key), v2)], rfl, by show 2 ≤ 15; decide, ?_⟩
  refine ⟨.str z, hi, p, v, rfl, ?_, q _ ?_⟩
  · have d := DGet.k (k := (.inr z : Key)) (upd_same (H := L2.upd H p (.dK [])) (a := p) (o := .dK (mergeK [] [((.inr k1 : Key), v1), ((.inr k2 : Key), v2)])))
    rw [look2 hk e] at d
    exact d
  · intro a o ha
    rw [upd_ne (ne_of_none ha hp), upd_ne (ne_of_none ha hp)]
    exact ha
section
variable {K : PySem.W.Frag} {H : Hp} {Q : VK} {p : Addr} {xs : List V} {v : V}
theorem r_ix0 {a : V} {r : List V} (h : SqT K H p (a :: r)) (q : Q a H) : rIx K (.ref p) (.int 0) H Q := r_ixqT h (by exact atI0) q
end
end PW
/-! ### f-strings, step by step -/
namespace PW
open PySem PySem.Spec PyProof.Rows L2
def JsN (ts : List TE) (acc : Str) (σ : L2.St) (R : Str → Hp → Prop) (x : V) (H : Hp) : Prop := ∃ y : Str, x = .str y ∧ (acc ++ y).length ≤ sizeLine ∧ tJs ts (acc ++ y) σ H R
def FmN (Q : VK) (x : V) (H : Hp) : Prop := (∃ y : Str, x = .str y ∧ y.length ≤ sizeLine ∧ Q (.str y) H) ∨ ∃ i : Int, x = .int i ∧ i.natAbs.log2 < 1920 ∧ Q (.str (toString i)) H
section
variable {t te : TE} {ts : List TE} {acc y : Str} {σ : L2.St} {H : Hp} {R : Str → Hp → Prop} {Q : VK} {i : Int}
instance : Step (tJs (t :: ts) acc σ H R) (t σ H fun x H1 => JsN ts acc σ R x H1) := ⟨id⟩
instance : Step (tJs [] acc σ H R) (R acc H) := ⟨id⟩
instance : Step (tFmt te σ H Q) (te σ H fun x H1 => FmN Q x H1) := ⟨id⟩
theorem r_js (h : (acc ++ y).length ≤ sizeLine) (q : tJs ts (acc ++ y) σ H R) : JsN ts acc σ R (.str y) H := ⟨y, rfl, h, q⟩
theorem r_fmS (h : y.length ≤ sizeLine) (q : Q (.str y) H) : FmN Q (.str y) H := .inl ⟨y, rfl, h, q⟩
theorem r_fmI (h : i.natAbs.log2 < 1920) (q : Q (.str (toString i)) H) : FmN Q (.int i) H := .inr ⟨i, rfl, h, q⟩
end
end PW
local macro_rules | `(tactic| walk_at "tl") => `(tactic| simp only [PW.len_eq, TL.tl_append, PW.tl_empty, PW.tl_txt, PW.tl_num_, PW.lit0, PW.lit1, PW.lit2, PW.lit3, PW.lit4, PW.lit5, PW.lit6, PW.lit7, PW.lit8, PW.lit9, PW.lit10, PW.lit11, PW.lit12, PW.lit13, PW.lit14, PW.lit15, PW.lit16, PW.lit17, PW.lit18, PW.lit19, PW.lit20, PW.lit21, PW.lit22, PW.lit23, List.length_append, List.length_cons, List.length_nil, List.append_assoc, List.cons_append, List.nil_append, PW.line16])
local macro_rules | `(tactic| walk_at "size") => `(tactic| first | with_reducible assumption | (walk_at "tl"; omega) | exact Nat.le_trans (by with_reducible assumption) (by decide))
local macro_rules | `(tactic| walk_at "txt") => `(tactic| (simp only [PW.Tm.tx, TL.tl_append, PW.tl_empty, PW.tl_txt, PW.tl_num_, PW.join_txs, PW.lit0, PW.lit1, PW.lit2, PW.lit3, PW.lit4, PW.lit5, PW.lit6, PW.lit7, PW.lit8, PW.lit9, PW.lit10, PW.lit11, PW.lit12, PW.lit13, PW.lit14, PW.lit15, PW.lit16, PW.lit17, PW.lit18, PW.lit19, PW.lit20, PW.lit21, PW.lit22, PW.lit23, List.append_assoc, List.cons_append, List.nil_append, List.append_nil]; try rfl))
local macro_rules | `(tactic| walk_at "g2") => `(tactic| first
  | walk_at "g1"
  | ((with_reducible refine' PW.r_js ?h ?_); (case h => walk_at "size"))
  | ((with_reducible refine' PW.r_fmS ?h ?_); (case h => walk_at "size"))
  | ((with_reducible refine' PW.r_fmI ?h ?_); (case h => with_reducible assumption))
  | ((with_reducible refine' PW.r_strI ?h ?_); (case h => with_reducible assumption))
  | (with_reducible refine' PW.r_strS ?_))
local macro_rules | `(tactic| walk_at "go") => `(tactic| repeat (walk_at "g2"))
namespace PW
open PySem PySem.Spec PyProof.Rows L2
section
variable {P : Program} {w : World} {K : PySem.W.Frag} {mg : Str → Option Value} {base : Heap}
theorem ok1__law_text {k n : Nat} {spj : Sp} (T : Txt K mg) (hj : n = 0 ∨ ∃ j, n = j + 1 ∧ spj = spTTx K j)
    (G__law_text : FnOk P w K mg base CX0 k (He.ga K "_law_text") (fdOf K (He.ga K "_law_text")) p__law_text (spj)) : FnOk P w K mg base CX0 (k + 1) (He.ga K "_law_text") (fdOf K (He.ga K "_law_text")) p__law_text (spTTx K n) := by
  refine FunD.ok T.d__law_text sc__law_text (fun vs H Q E h => ?_) (fun cdv A outer s H vs Q E hr h => ?_)
  · obtain ⟨v, t, d, rfl, _⟩ := h
    rfl
  · obtain ⟨v, t, d, rfl, ht, hd, ok, hl, hQ⟩ := h
    have sub : ∀ {x : V} {a : Tm} {d : Nat}, IsTm K H d x a → a.dep ≤ n → a.okT → a.tx.length ≤ 1000000 → ∀ (H1 : Hp) (Q1 : VK) (E1 : XK), Ex H H1 → (∀ H', Ex H1 H' → Q1 (.str a.txt) H') → spj [x] H1 Q1 E1 := fun {x a d} h1 h2 h3 h4 H1 Q1 E1 x1 q => by
      have hp := a.dep_pos
      obtain ⟨j, rfl, rfl⟩ : ∃ j, n = j + 1 ∧ spj = spTTx K j := hj.elim (fun z => by omega) id
      exact ⟨x, a, d, rfl, h1.ex x1, h2, h3, h4, q⟩
    have fin : ∀ (z : Str) H1, Ex H H1 → TL.tl z = t.tx → Q (.str z) H1 := fun z H1 x e => by
      rw [show z = t.txt from str_ext e]
      exact hQ H1 x
    refine ⟨_, PSs.nox ((pss_cons (ps_set (i := 1) sc__law_text.nd rfl (Or.inl rfl) (pe_ix ix_seq (pv 0) pe_int (fun _ _ => rfl)))
    (pss_cons (ps_if (pt_cmpR op_in_seq (pv 1) (pe_lst (pa_cons pe_str (pa_cons pe_str pa_nil))) rfl)
      (pss_one (ps_ret (pe_callTy PW.call_strOr (by rfl) T.f_str (by decide +kernel) (pa_cons (pe_ix ix_seq (pv 0) pe_int (fun _ _ => rfl)) pa_nil))))
      pss_nil)
    (pss_cons (ps_if (pt_cmpR op_eq (pv 1) pe_str (nomark _))
      (pss_one (ps_ret (pe_op op_addSN (pe_op op_addSN (pe_callTy PW.call_strOr (by rfl) T.f_str (by decide +kernel) (pa_cons (pe_ix ix_seq (pv 0) pe_int (fun _ _ => rfl)) pa_nil)) pe_str) (pe_call G__law_text hr rfl T.g__law_text T.d__law_text.kp (b__law_text T) .nil pass0 (pa_cons (pe_ix ix_seq (pv 0) pe_int (fun _ _ => rfl)) pa_nil)))))
      pss_nil)
    (pss_cons (ps_if (pt_cmpR op_eq (pv 1) pe_str (nomark _))
      (pss_one (ps_ret (pe_op op_addSN (pe_op op_addSN (pe_op op_addSN (pe_ix ix_seq (pv 0) pe_int (fun _ _ => rfl)) pe_str) (pe_join pe_str (pe_lc (own := [("_law_one_z", 2)]) rfl sc__law_text.nd (pi_tup (pe_ix ix_seq (pv 0) pe_int (fun _ _ => rfl))) (blkOk_by (own := [("_law_one_z", 2)]) (N := n__law_text) (sc := defScope s__law_text) (by decide +kernel)) (fun _ _ _ _ _ => (pg_name (i := 2) sc__law_text.nd rfl (Or.inl rfl) (hf := by first | exact Or.inl rfl | exact Or.inr rfl))) (fun _ _ _ _ _ => pts_nil) (fun _ _ _ _ _ => (pe_call G__law_text hr rfl T.g__law_text T.d__law_text.kp (b__law_text T) .nil pass0 (pa_cons (pv 2) pa_nil)))))) pe_str)))
      pss_nil)
    (pss_cons (ps_set (i := 2) sc__law_text.nd rfl (Or.inl rfl) (pe_call G__law_text hr rfl T.g__law_text T.d__law_text.kp (b__law_text T) .nil pass0 (pa_cons (pe_ix ix_seq (pv 0) pe_int (fun _ _ => rfl)) pa_nil)))
    (pss_cons (ps_if (pt_cmpR op_eq (pv 1) pe_str (nomark _))
      (pss_one (ps_ret (pe_op op_addSN pe_str (pv 2))))
      pss_nil)
    (pss_cons (ps_if (pt_cmpR op_eq (pv 1) pe_str (nomark _))
      (pss_one (ps_ret (pe_op op_addSN (pe_op op_addSN pe_str (pv 2)) pe_str)))
      pss_nil)
    (pss_cons (ps_if (pt_cmpR op_eq (pv 1) pe_str (nomark _))
      (pss_one (ps_ret (pe_op op_addSN (pe_op op_addSN (pe_op op_addSN (pe_op op_addSN pe_str (pv 2)) pe_str) (pe_callTy PW.call_strOr (by rfl) T.f_str (by decide +kernel) (pa_cons (pe_ix ix_seq (pv 0) pe_int (fun _ _ => rfl)) pa_nil))) pe_str)))
      pss_nil)
    (pss_one (ps_ret (pe_op op_addSN (pe_op op_addSN (pe_op op_addSN (pe_op op_addSN pe_str (pv 2)) (pe_dget (hu_of hr) (pe_disp (pps_cons pe_str pe_str (pps_cons pe_str pe_str pps_nil)) (by rfl) (by rfl) (fun z => by cases z) (by decide)) (pv 1) (fun _ _ => rfl))) (pe_call G__law_text hr rfl T.g__law_text T.d__law_text.kp (b__law_text T) .nil pass0 (pa_cons (pe_ix ix_seq (pv 0) pe_int (fun _ _ => rfl)) pa_nil))) pe_str)))))))))))), ?_⟩
    show tSeq _ _ _ [some v, none, none] H
    walk_at "K"
    cases d with
    | zero => exact ht.elim
    | succ d =>
    obtain ⟨p, xs, rfl, hs, row⟩ := ht
    cases t with
    | num i =>
      have row : xs = _ := row
      subst row
      have ok : i.natAbs < 10 ^ 9 := by simpa only [Tm.okT, Tm.ok] using ok
      have hlg := logT ok (by decide)
      walk_at "go"
      intro l hl1
      walk_at "go"
      exact fin _ _ (Ex.new hl1) (by walk_at "txt")
    | nam z =>
      have row : xs = _ := row
      subst row
      walk_at "go"
      intro l hl1
      walk_at "go"
      exact fin _ _ (Ex.new hl1) (by walk_at "txt")
    | tim i a =>
      obtain ⟨x, rfl, hx⟩ := row
      have ok : i.natAbs < 100 ∧ a.okT := by simpa only [Tm.okT, Tm.ok] using ok
      have hlg := logT ok.1 (by decide)
      simp only [Tm.dep] at hd
      simp only [Tm.tx, List.length_append, List.length_cons] at hl
      walk_at "go"
      intro l hl1
      walk_at "go"
      refine sub hx (by omega) ok.2 (by omega) _ _ _ (Ex.new hl1) fun H2 x2 => ?_
      walk_at "go"
      exact fin _ _ ((Ex.new hl1).trans x2) (by walk_at "txt")
    | pow a =>
      obtain ⟨x, rfl, hx⟩ := row
      have ok : a.okT := by simpa only [Tm.okT, Tm.ok] using ok
      simp only [Tm.dep] at hd
      simp only [Tm.tx, List.length_append, List.length_cons] at hl
      walk_at "go"
      intro l hl1
      walk_at "go"
      refine sub hx (by omega) ok (by omega) _ _ _ (Ex.new hl1) fun H2 x2 => ?_
      walk_at "go"
      exact fin _ _ ((Ex.new hl1).trans x2) (by walk_at "txt")
    | len a =>
      obtain ⟨x, rfl, hx⟩ := row
      have ok : a.okT := by simpa only [Tm.okT, Tm.ok] using ok
      simp only [Tm.dep] at hd
      simp only [Tm.tx, List.length_append, List.length_cons] at hl
      walk_at "go"
      intro l hl1
      walk_at "go"
      refine sub hx (by omega) ok (by omega) _ _ _ (Ex.new hl1) fun H2 x2 => ?_
      walk_at "go"
      exact fin _ _ ((Ex.new hl1).trans x2) (by walk_at "txt")
    | quo a i =>
      obtain ⟨x, rfl, hx⟩ := row
      have ok : (1 ≤ i ∧ i < ((100 : Nat) : Int)) ∧ a.okT := by simpa only [Tm.okT, Tm.ok] using ok
      have hlg : i.natAbs.log2 < 1920 := logT (n := 100) (by omega) (by decide)
      simp only [Tm.dep] at hd
      simp only [Tm.tx, List.length_append, List.length_cons] at hl
      walk_at "go"
      intro l hl1
      walk_at "go"
      refine sub hx (by omega) ok.2 (by omega) _ _ _ (Ex.new hl1) fun H2 x2 => ?_
      have hs2 := (((Ex.new hl1).trans x2)) _ _ hs
      walk_at "go"
      exact fin _ _ ((Ex.new hl1).trans x2) (by walk_at "txt")
    | add a a2 =>
      obtain ⟨x, y, rfl, hx, hy⟩ := row
      have ok : a.okT ∧ a2.okT := by simpa only [Tm.okT, Tm.ok] using ok
      simp only [Tm.dep] at hd
      simp only [Tm.tx, List.length_append, List.length_cons] at hl
      walk_at "go"
      intro l hl1
      walk_at "go"
      refine sub hx (by omega) ok.1 (by omega) _ _ _ (Ex.new hl1) fun H2 x2 => ?_
      have hs2 := (((Ex.new hl1).trans x2)) _ _ hs
      walk_at "go"
      refine r_dsel (by rfl) (by decide +kernel) (.inl ⟨rfl, rfl⟩) fun H3 x3 => ?_
      have hs3 := (x3) _ _ hs2
      walk_at "go"
      refine sub hy (by omega) ok.2 (by omega) _ _ _ (((Ex.new hl1).trans x2).trans x3) fun H4 x4 => ?_
      walk_at "go"
      exact fin _ _ ((((Ex.new hl1).trans x2).trans x3).trans x4) (by walk_at "txt")
    | sub a a2 =>
      obtain ⟨x, y, rfl, hx, hy⟩ := row
      have ok : a.okT ∧ a2.okT := by simpa only [Tm.okT, Tm.ok] using ok
      simp only [Tm.dep] at hd
      simp only [Tm.tx, List.length_append, List.length_cons] at hl
      walk_at "go"
      intro l hl1
      walk_at "go"
      refine sub hx (by omega) ok.1 (by omega) _ _ _ (Ex.new hl1) fun H2 x2 => ?_
      have hs2 := (((Ex.new hl1).trans x2)) _ _ hs
      walk_at "go"
      refine r_dsel (by rfl) (by decide +kernel) (.inr ⟨rfl, rfl⟩) fun H3 x3 => ?_
      have hs3 := (x3) _ _ hs2
      walk_at "go"
      refine sub hy (by omega) ok.2 (by omega) _ _ _ (((Ex.new hl1).trans x2).trans x3) fun H4 x4 => ?_
      walk_at "go"
      exact fin _ _ ((((Ex.new hl1).trans x2).trans x3).trans x4) (by walk_at "txt")
    | cal f as =>
      obtain ⟨q, ys, rfl, hq, hys⟩ := row
      have ok : isNameZ f = true ∧ as.length ≤ 3 ∧ Tm.oks (10 ^ 9) 100 100 as := by simpa only [Tm.okT, Tm.ok] using ok
      have ok3 := Tm.oks_mem.mp ok.2.2
      simp only [Tm.dep] at hd
      simp only [Tm.tx, List.length_append, List.length_cons] at hl
      have hf := (isNm_iff.mp ok.1).l6
      have hlen := pr_len hys
      have hds := Tm.deps_le.mp (show Tm.deps as ≤ n by omega)
      have htl := txs_len as
      have hin : ∀ a ∈ as, a.tx.length ≤ (Tm.txr as).length := fun a ha => txr_mem ha
      have hq1 := hq
      walk_at "go"
      intro l hl1
      have hq2 := ((Ex.new (o := .lst [V.str "number", V.str "name"]) hl1)) _ _ hq
      walk_at "go"
      intro D hD
      refine lc_grow (walk_tup (xs := ys)) (σw := [some (V.ref p), some (V.str "call"), none]) rfl (fun i _ v => ∃ a, as[i]? = some a ∧ v = .str a.txt) hD (by omega) (fun H' e => SqT.of (e _ _ hq2)) (fun _ _ _ _ _ e => e) ?_ ?_
      · rintro j y H2 H3 acc R hj x3 hacc ⟨rfl, hy⟩ hR
        obtain ⟨a, ha, hya⟩ := pr_get hys hy
        have ham := List.mem_of_getElem? ha
        walk_at "go"
        refine ⟨rfl, ?_⟩
        walk_at "go"
        refine sub hya (hds a ham) (ok3 a ham) (by have := hin a ham; omega) _ _ _ ((Ex.new hl1).trans x3) fun H4 x4 => ?_
        exact hR _ _ ⟨a, ha, rfl⟩ x4
      · rintro H2 acc x2 hacc hal hE
        have hacc2 : acc = as.map fun a => V.str a.txt := acc_map (by omega) hE
        subst hacc2
        have hsum := txr_sum as
        walk_at "go"
        refine ⟨_, D, as.map Tm.txt, rfl, rfl, Or.inl (SqL.of (by rw [hacc, List.map_map]; rfl)), ?_, ?_⟩
        · rw [List.length_map, show (Str.ofString ", ").length = 2 by decide +kernel]
          omega
        · have hj : (TL.tl (Txt.join (Str.ofString ", ") (as.map Tm.txt))).length ≤ 1000000 := by
            rw [join_txs]
            omega
          walk_at "go"
          exact fin _ _ ((Ex.new hl1).trans x2) (by walk_at "txt")
theorem ok__law_text {k : Nat} (T : Txt K mg) : ∀ n, FnOk P w K mg base CX0 (k + n + 1) (He.ga K "_law_text") (fdOf K (He.ga K "_law_text")) p__law_text (spTTx K n)
  | 0 => ok1__law_text (spj := spNo) T (.inl rfl) fnOk_no
  | n + 1 => ok1__law_text T (.inr ⟨n, rfl, rfl⟩) (ok__law_text T n)
end
end PW
namespace PW
open PySem PySem.Spec PyProof.Rows L2
theorem tl_ctx (c : Cd) : TL.tl c.txt = c.tx := rfl
theorem lit24 : TL.tl (Str.ofString "not") = [110, 111, 116] := by decide +kernel
def spCTx (K : PySem.W.Frag) (n : Nat) : Sp := fun vs H Q _ => ∃ v c e d, vs = [v] ∧ IsCd K H e d v c ∧ c.dep ≤ n + 1 ∧ e ≤ 17 ∧ c.ok ∧ c.tx.length ≤ 1000000 ∧ ∀ H', Ex H H' → Q (.str c.txt) H'
end PW
local macro_rules | `(tactic| walk_at "tl") => `(tactic| simp only [PW.len_eq, TL.tl_append, PW.tl_empty, PW.tl_txt, PW.tl_ctx, PW.tl_num_, PW.lit0, PW.lit1, PW.lit2, PW.lit3, PW.lit4, PW.lit5, PW.lit6, PW.lit7, PW.lit8, PW.lit9, PW.lit10, PW.lit11, PW.lit12, PW.lit13, PW.lit14, PW.lit15, PW.lit16, PW.lit17, PW.lit18, PW.lit19, PW.lit20, PW.lit21, PW.lit22, PW.lit23, List.length_append, List.length_cons, List.length_nil, List.append_assoc, List.cons_append, List.nil_append, PW.line16])
local macro_rules | `(tactic| walk_at "txt") => `(tactic| (simp only [PW.Tm.tx, PW.Cd.tx, TL.tl_append, PW.tl_empty, PW.tl_txt, PW.tl_ctx, PW.tl_num_, PW.join_txs, PW.lit0, PW.lit1, PW.lit2, PW.lit3, PW.lit4, PW.lit5, PW.lit6, PW.lit7, PW.lit8, PW.lit9, PW.lit10, PW.lit11, PW.lit12, PW.lit13, PW.lit14, PW.lit15, PW.lit16, PW.lit17, PW.lit18, PW.lit19, PW.lit20, PW.lit21, PW.lit22, PW.lit23, List.append_assoc, List.cons_append, List.nil_append, List.append_nil]; try rfl))
/-! ### _law_condition_text -/
namespace PW
open PySem PySem.Spec PyProof.Rows L2
section
variable {P : Program} {w : World} {K : PySem.W.Frag} {mg : Str → Option Value} {base : Heap}
theorem ok1__law_condition_text {k n : Nat} {spj : Sp} (T : Txt K mg) (hj : n = 0 ∨ ∃ j, n = j + 1 ∧ spj = spCTx K j)
    (G__law_text : FnOk P w K mg base CX0 k (He.ga K "_law_text") (fdOf K (He.ga K "_law_text")) p__law_text (spTTx K 16))
    (G__law_condition_text : FnOk P w K mg base CX0 k (He.ga K "_law_condition_text") (fdOf K (He.ga K "_law_condition_text")) p__law_condition_text (spj)) : FnOk P w K mg base CX0 (k + 1) (He.ga K "_law_condition_text") (fdOf K (He.ga K "_law_condition_text")) p__law_condition_text (spCTx K n) := by
  refine FunD.ok T.d__law_condition_text sc__law_condition_text (fun vs H Q E h => ?_) (fun cdv A outer s H vs Q E hr h => ?_)
  · obtain ⟨v, c, e, d, rfl, _⟩ := h
    rfl
  · obtain ⟨v, c, e, d, rfl, hc, hd, he, ok, hl, hQ⟩ := h
    have sub : ∀ {x : V} {a : Cd} {d : Nat}, IsCd K H e d x a → a.dep ≤ n → a.ok → a.tx.length ≤ 1000000 → ∀ (H1 : Hp) (Q1 : VK) (E1 : XK), Ex H H1 → (∀ H', Ex H1 H' → Q1 (.str a.txt) H') → spj [x] H1 Q1 E1 := fun {x a d} h1 h2 h3 h4 H1 Q1 E1 x1 q => by
      have hp := a.dep_pos
      obtain ⟨j, rfl, rfl⟩ : ∃ j, n = j + 1 ∧ spj = spCTx K j := hj.elim (fun z => by omega) id
      exact ⟨x, a, e, d, rfl, h1.ex x1, h2, he, h3, h4, q⟩
    have subt : ∀ {x : V} {t : Tm}, IsTm K H e x t → t.okT → t.tx.length ≤ 1000000 → ∀ (H1 : Hp) (Q1 : VK) (E1 : XK), Ex H H1 → (∀ H', Ex H1 H' → Q1 (.str t.txt) H') → spTTx K 16 [x] H1 Q1 E1 := fun {x t} h1 h3 h4 H1 Q1 E1 x1 q => ⟨x, t, e, rfl, h1.ex x1, Nat.le_trans h1.depth he, h3, h4, q⟩
    have fin : ∀ (z : Str) H1, Ex H H1 → TL.tl z = c.tx → Q (.str z) H1 := fun z H1 x e => by
      rw [show z = c.txt from str_ext e]
      exact hQ H1 x
    refine ⟨_, PSs.nox ((pss_cons (ps_set (i := 1) sc__law_condition_text.nd rfl (Or.inl rfl) (pe_ix ix_seq (pv 0) pe_int (fun _ _ => rfl)))
    (pss_cons (ps_if (pt_cmpR op_eq (pv 1) pe_str (nomark _))
      (pss_one (ps_ret (pv 1)))
      pss_nil)
    (pss_cons (ps_if (pt_cmpR op_eq (pv 1) pe_str (nomark _))
      (pss_one (ps_ret (pe_op op_addSN pe_str (pe_call G__law_condition_text hr rfl T.g__law_condition_text T.d__law_condition_text.kp (b__law_condition_text T) .nil pass0 (pa_cons (pe_ix ix_seq (pv 0) pe_int (fun _ _ => rfl)) pa_nil)))))
      pss_nil)
    (pss_cons (ps_if (pt_cmpR op_in_seq (pv 1) (pe_lst (pa_cons pe_str (pa_cons pe_str pa_nil))) rfl)
      (pss_one (ps_ret (pe_op op_addSN (pe_op op_addSN (pe_op op_addSN (pe_op op_addSN (pe_op op_addSN (pe_op op_addSN pe_str (pe_call G__law_condition_text hr rfl T.g__law_condition_text T.d__law_condition_text.kp (b__law_condition_text T) .nil pass0 (pa_cons (pe_ix ix_seq (pv 0) pe_int (fun _ _ => rfl)) pa_nil))) pe_str) (pv 1)) pe_str) (pe_call G__law_condition_text hr rfl T.g__law_condition_text T.d__law_condition_text.kp (b__law_condition_text T) .nil pass0 (pa_cons (pe_ix ix_seq (pv 0) pe_int (fun _ _ => rfl)) pa_nil))) pe_str)))
      pss_nil)
    (pss_cons (ps_set (i := 2) sc__law_condition_text.nd rfl (Or.inl rfl) (pe_call G__law_text hr rfl T.g__law_text T.d__law_text.kp (b__law_text T) .nil pass0 (pa_cons (pe_ix ix_seq (pv 0) pe_int (fun _ _ => rfl)) pa_nil)))
    (pss_cons (ps_if (pt_cmpR op_eq (pv 1) pe_str (nomark _))
      (pss_one (ps_ret (pe_op op_addSN (pe_op op_addSN (pe_op op_addSN (pe_op op_addSN (pv 2) pe_str) (pe_callTy PW.call_strOr (by rfl) T.f_str (by decide +kernel) (pa_cons (pe_ix ix_seq (pv 0) pe_int (fun _ _ => rfl)) pa_nil))) pe_str) (pe_callTy PW.call_strOr (by rfl) T.f_str (by decide +kernel) (pa_cons (pe_ix ix_seq (pv 0) pe_int (fun _ _ => rfl)) pa_nil)))))
      pss_nil)
    (pss_one (ps_ret (pe_op op_addSN (pe_op op_addSN (pv 2) (pe_dget (hu_of hr) (pe_disp (pps_cons pe_str pe_str (pps_cons pe_str pe_str pps_nil)) (by rfl) (by rfl) (fun z => by cases z) (by decide)) (pv 1) (fun _ _ => rfl))) (pe_call G__law_text hr rfl T.g__law_text T.d__law_text.kp (b__law_text T) .nil pass0 (pa_cons (pe_ix ix_seq (pv 0) pe_int (fun _ _ => rfl)) pa_nil)))))))))))), ?_⟩
    show tSeq _ _ _ [some v, none, none] H
    walk_at "K"
    cases d with
    | zero => exact hc.elim
    | succ d =>
    obtain ⟨p, xs, rfl, hs, row⟩ := hc
    cases c with
    | tru =>
      have row : xs = _ := row
      subst row
      walk_at "go"
      exact fin _ _ (Ex.refl _) (by walk_at "txt")
    | neg a =>
      obtain ⟨x, rfl, hx⟩ := row
      simp only [Cd.dep] at hd
      simp only [Cd.tx, List.length_append, List.length_cons] at hl
      walk_at "go"
      refine sub hx (by omega) ok (by omega) _ _ _ (Ex.refl _) fun H2 x2 => ?_
      walk_at "go"
      exact fin _ _ x2 (by walk_at "txt")
    | con a a2 =>
      obtain ⟨x, y, rfl, hx, hy⟩ := row
      simp only [Cd.dep] at hd
      simp only [Cd.tx, List.length_append, List.length_cons] at hl
      walk_at "go"
      intro q1 hq1
      have x0 := (Ex.new (o := .lst [V.str "and", V.str "or"]) hq1)
      have hs0 := (x0) _ _ hs
      walk_at "go"
      refine sub hx (by omega) ok.1 (by omega) _ _ _ x0 fun H2 x2 => ?_
      have hs2 := (x2) _ _ hs0
      walk_at "go"
      refine sub hy (by omega) ok.2 (by omega) _ _ _ (x0.trans x2) fun H4 x4 => ?_
      walk_at "go"
      exact fin _ _ ((x0.trans x2).trans x4) (by walk_at "txt")
    | dis a a2 =>
      obtain ⟨x, y, rfl, hx, hy⟩ := row
      simp only [Cd.dep] at hd
      simp only [Cd.tx, List.length_append, List.length_cons] at hl
      walk_at "go"
      intro q1 hq1
      have x0 := (Ex.new (o := .lst [V.str "and", V.str "or"]) hq1)
      have hs0 := (x0) _ _ hs
      walk_at "go"
      refine sub hx (by omega) ok.1 (by omega) _ _ _ x0 fun H2 x2 => ?_
      have hs2 := (x2) _ _ hs0
      walk_at "go"
      refine sub hy (by omega) ok.2 (by omega) _ _ _ (x0.trans x2) fun H4 x4 => ?_
      walk_at "go"
      exact fin _ _ ((x0.trans x2).trans x4) (by walk_at "txt")
    | less a a2 =>
      obtain ⟨x, y, rfl, hx, hy⟩ := row
      simp only [Cd.tx, List.length_append, List.length_cons] at hl
      walk_at "go"
      intro q1 hq1
      have x0 := (Ex.new (o := .lst [V.str "and", V.str "or"]) hq1)
      have hs0 := (x0) _ _ hs
      walk_at "go"
      refine subt hx ok.1 (by omega) _ _ _ x0 fun H2 x2 => ?_
      have hs2 := (x2) _ _ hs0
      walk_at "go"
      refine r_dsel (by rfl) (by decide +kernel) (.inl ⟨rfl, rfl⟩) fun H3 x3 => ?_
      have hs3 := (x3) _ _ hs2
      walk_at "go"
      refine subt hy ok.2 (by omega) _ _ _ ((x0.trans x2).trans x3) fun H4 x4 => ?_
      walk_at "go"
      exact fin _ _ (((x0.trans x2).trans x3).trans x4) (by walk_at "txt")
    | equ a a2 =>
      obtain ⟨x, y, rfl, hx, hy⟩ := row
      simp only [Cd.tx, List.length_append, List.length_cons] at hl
      walk_at "go"
      intro q1 hq1
      have x0 := (Ex.new (o := .lst [V.str "and", V.str "or"]) hq1)
      have hs0 := (x0) _ _ hs
      walk_at "go"
      refine subt hx ok.1 (by omega) _ _ _ x0 fun H2 x2 => ?_
      have hs2 := (x2) _ _ hs0
      walk_at "go"
      refine r_dsel (by rfl) (by decide +kernel) (.inr ⟨rfl, rfl⟩) fun H3 x3 => ?_
      have hs3 := (x3) _ _ hs2
      walk_at "go"
      refine subt hy ok.2 (by omega) _ _ _ ((x0.trans x2).trans x3) fun H4 x4 => ?_
      walk_at "go"
      exact fin _ _ (((x0.trans x2).trans x3).trans x4) (by walk_at "txt")
    | res a m r =>
      obtain ⟨x, rfl, hx⟩ := row
      obtain ⟨ok1, m1, m2, r1, r2⟩ := ok
      have hlm : m.natAbs.log2 < 1920 := logT (n := 100) (by omega) (by decide)
      have hlr : r.natAbs.log2 < 1920 := logT (n := 100) (by omega) (by decide)
      have l1 := numC_len (i := m) (k := 2) (by decide) (by omega)
      have l2 := numC_len (i := r) (k := 2) (by decide) (by omega)
      simp only [Cd.tx, List.length_append, List.length_cons] at hl
      walk_at "go"
      intro q1 hq1
      have x0 := (Ex.new (o := .lst [V.str "and", V.str "or"]) hq1)
      have hs0 := (x0) _ _ hs
      walk_at "go"
      refine subt hx ok1 (by omega) _ _ _ x0 fun H2 x2 => ?_
      have hs2 := (x2) _ _ hs0
      walk_at "go"
      exact fin _ _ (x0.trans x2) (by walk_at "txt")
theorem ok__law_condition_text {k : Nat} (T : Txt K mg)
    (G__law_text : FnOk P w K mg base CX0 k (He.ga K "_law_text") (fdOf K (He.ga K "_law_text")) p__law_text (spTTx K 16)) : ∀ n, FnOk P w K mg base CX0 (k + n + 1) (He.ga K "_law_condition_text") (fdOf K (He.ga K "_law_condition_text")) p__law_condition_text (spCTx K n)
  | 0 => ok1__law_condition_text (spj := spNo) T (.inl rfl) G__law_text fnOk_no
  | n + 1 => ok1__law_condition_text T (.inr ⟨n, rfl, rfl⟩) (G__law_text.mono (by omega)) (ok__law_condition_text T G__law_text n)
end
end PW
namespace PW
open PySem PySem.Spec PyProof.Rows L2
theorem IsCd.atom {K : PySem.W.Frag} {H : Hp} {e : Nat} : ∀ {d : Nat} {v : V} {c : Cd}, c.isAtom = true → IsCd K H e d v c → IsCd K H e 1 v c
  | 0, _, _, _, h => h.elim
  | d + 1, v, c, ha, h => by
    obtain ⟨p, xs, e1, h1, h2⟩ := h
    refine ⟨p, xs, e1, h1, ?_⟩
    cases c with
    | tru => exact h2
    | less a b => exact h2
    | equ a b => exact h2
    | res t m r => exact h2
    | _ => cases ha
theorem prd_exC {K : PySem.W.Frag} {H H' : Hp} (x : Ex H H') {e d : Nat} {ys : List V} {as : List Cd} (h : Paired (IsCd K H e d) ys as) : Paired (IsCd K H' e d) ys as := L2.Paired.mapP h fun _ _ z => z.ex x
theorem prd_app {α β : Type} {F : α → β → Prop} : ∀ {xs xs' : List α} {ys ys' : List β}, Paired F xs ys → Paired F xs' ys' → Paired F (xs ++ xs') (ys ++ ys')
  | _, _, _, _, .nil, h => h
  | _, _, _, _, .cons a b, h => .cons a (prd_app b h)
end PW
/-! ### trees of comparisons -/
namespace PW
open PySem PySem.Spec PyProof.Rows L2
namespace Tm
mutual
theorem lay {n m q : Nat} : ∀ t : Tm, t.ok n m q → t.pd.canLay0 = true
  | .num i, _ => by simp only [pd, PyData.canLay0, PyData.canLayAll0]; decide +kernel
  | .nam z, h => by
    have h : isNameZ z = true := by simpa only [ok] using h
    have hz := nm_ok (ns := [z]) (fun y hy => by rw [List.mem_singleton.mp hy]; exact isNm_iff.mp h) z List.mem_cons_self
    simp only [pd, PyData.canLay0, PyData.canLayAll0, hz]
    decide +kernel
  | .add a b, h => by
    have h : ok n m q a ∧ ok n m q b := by simpa only [ok] using h
    simp only [pd, PyData.canLay0, PyData.canLayAll0, lay a h.1, lay b h.2]
    decide +kernel
  | .sub a b, h => by
    have h : ok n m q a ∧ ok n m q b := by simpa only [ok] using h
    simp only [pd, PyData.canLay0, PyData.canLayAll0, lay a h.1, lay b h.2]
    decide +kernel
  | .tim i a, h => by
    have h : i.natAbs < m ∧ ok n m q a := by simpa only [ok] using h
    simp only [pd, PyData.canLay0, PyData.canLayAll0, lay a h.2]
    decide +kernel
  | .pow a, h => by
    have h : ok n m q a := by simpa only [ok] using h
    simp only [pd, PyData.canLay0, PyData.canLayAll0, lay a h]
    decide +kernel
  | .len a, h => by
    have h : ok n m q a := by simpa only [ok] using h
    simp only [pd, PyData.canLay0, PyData.canLayAll0, lay a h]
    decide +kernel
  | .quo a i, h => by
    have h : (1 ≤ i ∧ i < (q : Nat)) ∧ ok n m q a := by simpa only [ok] using h
    simp only [pd, PyData.canLay0, PyData.canLayAll0, lay a h.2]
    decide +kernel
  | .cal f as, h => by
    have h : isNameZ f = true ∧ as.length ≤ 3 ∧ oks n m q as := by simpa only [ok] using h
    have hz := nm_ok (ns := [f]) (fun y hy => by rw [List.mem_singleton.mp hy]; exact isNm_iff.mp h.1) f List.mem_cons_self
    simp only [pd, PyData.canLay0, PyData.canLayAll0, hz, lays as h.2.2]
    decide +kernel
theorem lays {n m q : Nat} : ∀ as : List Tm, oks n m q as → PyData.canLayAll0 (pds as) = true
  | [], _ => rfl
  | a :: r, h => by
    have h : ok n m q a ∧ oks n m q r := by simpa only [oks] using h
    simp only [pds, PyData.canLayAll0, lay a h.1, lays r h.2]
    rfl
end
end Tm
theorem Cd.lay : ∀ c : Cd, c.ok → c.pd.canLay0 = true
  | .tru, _ => by decide +kernel
  | .neg c, h => by
    simp only [Cd.pd, PyData.canLay0, PyData.canLayAll0, Cd.lay c h]
    decide +kernel
  | .con a b, h => by
    simp only [Cd.pd, PyData.canLay0, PyData.canLayAll0, Cd.lay a h.1, Cd.lay b h.2]
    decide +kernel
  | .dis a b, h => by
    simp only [Cd.pd, PyData.canLay0, PyData.canLayAll0, Cd.lay a h.1, Cd.lay b h.2]
    decide +kernel
  | .less s t, h => by
    simp only [Cd.pd, PyData.canLay0, PyData.canLayAll0, Tm.lay s h.1, Tm.lay t h.2]
    decide +kernel
  | .equ s t, h => by
    simp only [Cd.pd, PyData.canLay0, PyData.canLayAll0, Tm.lay s h.1, Tm.lay t h.2]
    decide +kernel
  | .res t m r, h => by
    simp only [Cd.pd, PyData.canLay0, PyData.canLayAll0, Tm.lay t h.1]
    decide +kernel
/-- a list of comparisons -/
structure AtL (K : PySem.W.Frag) (H : Hp) (e X : Nat) (l : Addr) (vs : List V) (as : List Cd) : Prop where
  at_ : H l = some (.lst vs)
  prd : Paired (IsCd K H e 1) vs as
  few : as.length ≤ 1000
  ok : ∀ a ∈ as, a.ok
  atm : ∀ a ∈ as, a.isAtom = true
  cst : ∀ a ∈ as, a.cost ≤ X
theorem AtL.ex {K : PySem.W.Frag} {H H' : Hp} {e X : Nat} {l : Addr} {vs : List V} {as : List Cd} (x : Ex H H') (h : AtL K H e X l vs as) : AtL K H' e X l vs as := ⟨x _ _ h.at_, prd_exC x h.prd, h.few, h.ok, h.atm, h.cst⟩
theorem dp_cds {K : PySem.W.Frag} {H : Hp} {e d : Nat} : ∀ {vs : List V} {as : List Cd}, Paired (IsCd K H e d) vs as → DpAll K H vs (as.map Cd.pd)
  | _, _, .nil => .nil
  | _, _, .cons a r => .cons a.dat (dp_cds r)
theorem shaped_cds {as : List Cd} {n : Nat} (ok : ∀ a ∈ as, a.ok) (hd : ∀ a ∈ as, a.dep ≤ 1 ∧ a.tdep n) (hn : n ≤ 20) : SeqAt.shaped (.list (as.map Cd.pd)) = true := by
  have h1 : PyData.canLayAll0 (as.map Cd.pd) = true := by
    clear hd
    induction as with
    | nil => rfl
    | cons a r ih =>
      simp only [List.map_cons, PyData.canLayAll0, Cd.lay a (ok a List.mem_cons_self), ih fun x hx => ok x (List.mem_cons_of_mem _ hx)]
      rfl
  have h2 : PyData.depthAll (as.map Cd.pd) ≤ 41 := by
    clear ok h1
    induction as with
    | nil => exact Nat.zero_le _
    | cons a r ih =>
      have q := hd a List.mem_cons_self
      have := Cd.pd_depth a q.2
      have := ih fun x hx => hd x (List.mem_cons_of_mem _ hx)
      simp only [List.map_cons, PyData.depthAll]
      omega
  unfold SeqAt.shaped
  simp only [PyData.canLay0, PyData.depth]
  rw [h1, Bool.true_and]
  exact decide_eq_true (by omega)
theorem eqv_cds {as : List Cd} : PyData.eqv (.list (as.map Cd.pd)) (.list []) = as.isEmpty := by
  cases as <;> rfl
theorem atom_dep {a : Cd} (h : a.isAtom = true) : a.dep = 1 := by
  cases a <;> first | rfl | cases h
theorem atom_atoms {a : Cd} (h : a.isAtom = true) : a.atoms = [a] := by
  cases a <;> first | rfl | cases h
def spLTree (K : PySem.W.Frag) (n : Nat) : Sp := fun vs H Q _ => ∃ b c l e X ws as dd, vs = [.ref b, .ref l, .int dd] ∧ BagAt H b c ∧ AtL K (hide H b) e X l ws as ∧ e ≤ 20 ∧ 1 ≤ X ∧ dd ≤ (n : Int) ∧
  ∀ v t H', IsCd K (hide H' b) e (dd.toNat + 1) v t → t.ok → (∀ a ∈ t.atoms, a ∈ as) → t.atoms.length ≤ 2 ^ dd.toNat → t.cost + 1 ≤ (X + 1) * 2 ^ dd.toNat → BagAt H' b c → ExB b H H' → Q v H'
section
variable {P : Program} {w : World} {K : PySem.W.Frag} {mg : Str → Option Value} {base : Heap}
theorem ok1__law_tree {k n : Nat} {spj : Sp} (T : Txt K mg) (hj : n = 0 ∨ ∃ j, n = j + 1 ∧ spj = spLTree K j)
    (G__law_pull : FnOk P w K mg base CX0 k (He.ga K "_law_pull") (fdOf K (He.ga K "_law_pull")) p__law_pull (spPull))
    (G__law_of : FnOk P w K mg base CX0 k (He.ga K "_law_of") (fdOf K (He.ga K "_law_of")) p__law_of (spOf K))
    (G__law_tree : FnOk P w K mg base CX0 k (He.ga K "_law_tree") (fdOf K (He.ga K "_law_tree")) p__law_tree (spj)) : FnOk P w K mg base CX0 (k + 1) (He.ga K "_law_tree") (fdOf K (He.ga K "_law_tree")) p__law_tree (spLTree K n) := by
  refine FunD.ok T.d__law_tree sc__law_tree (fun vs H Q E h => ?_) (fun cdv A outer s H vs Q E hr h => ?_)
  · obtain ⟨b, c, l, e, X, ws, as, dd, rfl, _⟩ := h
    rfl
  · obtain ⟨b, c, l, e, X, ws, as, dd, rfl, hB, hA, he, hX, hdn, hQ⟩ := h
    refine ⟨_, PSs.nox ((pss_cons (ps_set (i := 3) sc__law_tree.nd rfl (Or.inl rfl) (pe_call G__law_pull hr rfl T.g__law_pull T.d__law_pull.kp (b__law_pull T) .nil pass0 (pa_cons (pv 0) (pa_cons pe_int pa_nil))))
    (pss_cons (ps_if (PW.pt (pw_or (pt_cmpR op_lt (pv 2) pe_int (nomark _)) (pw_or1 (pt_cmpR op_eq (pv 3) pe_int (nomark _)))))
      (pss_one (ps_ret (pe_ifExp (PW.pt (pw_and (pt_cmpR (op_neD hr.units) (pv 1) (pe_lst pa_nil) (nomark _)) (pw_and1 (pt_cmpR op_gt (pe_call G__law_pull hr rfl T.g__law_pull T.d__law_pull.kp (b__law_pull T) .nil pass0 (pa_cons (pv 0) (pa_cons pe_int pa_nil))) pe_int (nomark _))))) (pe_call G__law_of hr rfl T.g__law_of T.d__law_of.kp (b__law_of T) .nil pass0 (pa_cons (pv 0) (pa_cons (pv 1) pa_nil))) (pe_tup (pa_cons pe_str pa_nil)))))
      pss_nil)
    (pss_cons (ps_set (i := 4) sc__law_tree.nd rfl (Or.inl rfl) (pe_call G__law_tree hr rfl T.g__law_tree T.d__law_tree.kp (b__law_tree T) .nil pass0 (pa_cons (pv 0) (pa_cons (pv 1) (pa_cons (pe_op op_sub (pv 2) pe_int) pa_nil)))))
    (pss_one (ps_ret (pe_ifExp (pt_cmpR op_eq (pv 3) pe_int (nomark _)) (pe_tup (pa_cons pe_str (pa_cons (pv 4) pa_nil))) (pe_tup (pa_cons (pe_ix ix_list (pe_lst (pa_cons pe_str (pa_cons pe_str pa_nil))) (pe_op op_mod (pe_callTy call_intN (by rfl) T.f_int (by decide +kernel) (pa_cons (pv 3) pa_nil)) pe_int) (fun _ _ => rfl)) (pa_cons (pv 4) (pa_cons (pe_call G__law_tree hr rfl T.g__law_tree T.d__law_tree.kp (b__law_tree T) .nil pass0 (pa_cons (pv 0) (pa_cons (pv 1) (pa_cons (pe_op op_sub (pv 2) pe_int) pa_nil)))) pa_nil))))))))))), ?_⟩
    show tSeq _ _ _ [some (V.ref b), some (V.ref l), some (V.int dd), none, none] H
    walk_at "K"
    have pw1 : 1 ≤ 2 ^ dd.toNat := Nat.pow_pos (by decide)
    have up : X + 1 ≤ (X + 1) * 2 ^ dd.toNat := Nat.le_mul_of_pos_right _ pw1
    have tru : ∀ H1, BagAt H1 b c → ExB b H H1 → ∀ p, H1 p = none → Q (.ref p) (L2.upd H1 p (.tup [V.str "true"])) := fun H1 hB1 x1 p hp => by
      obtain ⟨u, hu⟩ := hB1.some
      exact hQ _ .tru _ ((cd_new (c := .tru) (d := 0) hu hp (show _ = _ from rfl)).up (Nat.le_refl e) (by omega)) trivial (fun a h => nomatch h) (Nat.zero_le _) (by simp only [Cd.cost]; omega) (hB1.new hp) (x1.trans (Ex.new hp).tb)
    have nlb : l ≠ b := fun z => by
      have e3 := hA.at_
      rw [z, hide_same] at e3
      cases e3
    have pick : ∀ H2, BagAt H2 b c → ExB b H H2 → as.isEmpty = false → spOf K [.ref b, .ref l] H2 Q (fun _ _ _ => False) := fun H2 hB2 x2 hne => by
      have hA2 := hA.ex x2.hd
      have hl2 := Ex.hide _ b _ _ hA2.at_
      have hlen := pr_len hA.prd
      have hpos : 0 < as.length := by
        cases as with
        | nil => cases hne
        | cons a r => exact Nat.succ_pos _
      have hfew := hA.few
      refine ⟨b, c, .ref l, ws, rfl, hB2, Or.inl ⟨l, rfl, nlb, Or.inl hl2⟩, by omega, by rw [hlen]; exact Nat.le_trans hfew (by decide), fun v H4 hv hB4 x4 => ?_⟩
      obtain ⟨i, hi⟩ := List.mem_iff_getElem?.mp hv
      obtain ⟨a, ha, hva⟩ := pr_get (hA2.ex x4.hd).prd hi
      have ham := List.mem_of_getElem? ha
      have h1 := hA.cst a ham
      exact hQ v a H4 (hva.up (Nat.le_refl e) (by omega)) (hA.ok a ham) (fun y hy => by
        rw [atom_atoms (hA.atm a ham), List.mem_singleton] at hy
        rw [hy]
        exact ham) (by rw [atom_atoms (hA.atm a ham)]; exact pw1) (by omega) hB4 (x2.trans x4)
    walk_at "go"
    refine ⟨b, c, 6, rfl, hB, by decide, by decide, fun way H1 w0 w1 hB1 x1 => ?_⟩
    have hA1 := hA.ex x1.hd
    walk_at "go"
    refine r_if2 (fun e1 => ?_) (fun e1 => ?_)
    · walk_at "go"
      intro q hq
      have y := Ex.new (o := .lst []) hq
      have hA2 := hA1.ex ((Ex.hide H1 b).trans y)
      refine ⟨.list (as.map Cd.pd), .list [], .lst (SqL.of hA2.at_) (dp_cds hA2.prd), .lst (SqL.of upd_same) .nil, shaped_cds (n := e) hA.ok (fun a ha => ⟨Nat.le_of_eq (atom_dep (hA.atm a ha)), by
        obtain ⟨i, hi⟩ := List.mem_iff_getElem?.mp ha
        obtain ⟨v, hv⟩ : ∃ v, ws[i]? = some v := by
          have hlen := pr_len hA.prd
          have := (List.getElem?_eq_some_iff.mp hi).1
          exact ⟨_, List.getElem?_eq_getElem (by omega)⟩
        obtain ⟨a2, ha2, hva⟩ := pr_get hA.prd hv
        rw [hi] at ha2
        cases ha2
        exact hva.tdep⟩) he, by decide +kernel, ?_⟩
      rw [eqv_cds]
      have hB2 := hB1.new (o := .lst []) hq
      have x2 := x1.trans y.tb
      walk_at "go"
      refine r_if2 (fun z => ?_) (fun z => ?_)
      · have hne : as.isEmpty = false := by simpa using z
        walk_at "go"
        refine ⟨b, c, 9, rfl, hB2, by decide, by decide, fun r H3 r0 r1 hB3 x3 => ?_⟩
        walk_at "go"
        refine r_if2 (fun z => ?_) (fun z => ?_)
        · walk_at "go"
          exact pick H3 hB3 (x2.trans x3) hne
        · walk_at "go"
          intro p hp
          exact tru H3 hB3 (x2.trans x3) p hp
      · walk_at "go"
        intro p hp
        exact tru _ hB2 x2 p hp
    · have hd1 : ¬ dd < 1 := of_decide_eq_false e1
      walk_at "go"
      refine r_if2 (fun e2 => ?_) (fun e2 => ?_)
      · walk_at "go"
        intro q hq
        have y := Ex.new (o := .lst []) hq
        have hA2 := hA1.ex ((Ex.hide H1 b).trans y)
        refine ⟨.list (as.map Cd.pd), .list [], .lst (SqL.of hA2.at_) (dp_cds hA2.prd), .lst (SqL.of upd_same) .nil, shaped_cds (n := e) hA.ok (fun a ha => ⟨Nat.le_of_eq (atom_dep (hA.atm a ha)), by
          obtain ⟨i, hi⟩ := List.mem_iff_getElem?.mp ha
          obtain ⟨v, hv⟩ : ∃ v, ws[i]? = some v := by
            have hlen := pr_len hA.prd
            have := (List.getElem?_eq_some_iff.mp hi).1
            exact ⟨_, List.getElem?_eq_getElem (by omega)⟩
          obtain ⟨a2, ha2, hva⟩ := pr_get hA.prd hv
          rw [hi] at ha2
          cases ha2
          exact hva.tdep⟩) he, by decide +kernel, ?_⟩
        rw [eqv_cds]
        have hB2 := hB1.new (o := .lst []) hq
        have x2 := x1.trans y.tb
        walk_at "go"
        refine r_if2 (fun z => ?_) (fun z => ?_)
        · have hne : as.isEmpty = false := by simpa using z
          walk_at "go"
          refine ⟨b, c, 9, rfl, hB2, by decide, by decide, fun r H3 r0 r1 hB3 x3 => ?_⟩
          walk_at "go"
          refine r_if2 (fun z => ?_) (fun z => ?_)
          · walk_at "go"
            exact pick H3 hB3 (x2.trans x3) hne
          · walk_at "go"
            intro p hp
            exact tru H3 hB3 (x2.trans x3) p hp
        · walk_at "go"
          intro p hp
          exact tru _ hB2 x2 p hp
      · obtain ⟨j, rfl, rfl⟩ : ∃ j, n = j + 1 ∧ spj = spLTree K j := hj.elim (fun z => by omega) id
        obtain ⟨m, rfl⟩ : ∃ m : Nat, dd = (m : Int) + 1 := ⟨(dd - 1).toNat, by omega⟩
        clear tru pick
        have em : ((m : Int) + 1 - 1).toNat = m := by omega
        have eM : ((m : Int) + 1).toNat = m + 1 := by omega
        rw [eM] at hQ
        walk_at "go"
        refine ⟨b, c, l, e, X, ws, as, _, rfl, hB1, hA1, he, hX, by omega, fun v1 t1 H2 h1 ok1 as1 al1 co1 hB2 x2 => ?_⟩
        rw [em] at h1 al1 co1
        have hA2 := hA1.ex x2.hd
        have x12 := x1.trans x2
        have p1 : (2 : Nat) ^ (m + 1) = 2 ^ m * 2 := Nat.pow_succ ..
        have p2 : (X + 1) * 2 ^ (m + 1) = (X + 1) * 2 ^ m * 2 := by rw [p1, Nat.mul_assoc]
        have p3 : 1 ≤ 2 ^ m := Nat.pow_pos (by decide)
        walk_at "go"
        refine r_if2 (fun e3 => ?_) (fun e3 => ?_)
        · walk_at "go"
          intro p hp
          obtain ⟨u, hu⟩ := hB2.some
          exact hQ _ (.neg t1) _ (cd_new hu hp ⟨v1, rfl, h1⟩) ok1 as1 (by
            show t1.atoms.length ≤ _
            omega) (by
            simp only [Cd.cost]
            have := t1.cost_pos
            omega) (hB2.new hp) (x12.trans (Ex.new hp).tb)
        · walk_at "go"
          intro q hq
          have y := Ex.new (o := .lst [V.str "and", V.str "or"]) hq
          have hB3 := hB2.new (o := .lst [V.str "and", V.str "or"]) hq
          have hA3 := hA2.ex (y.hides b)
          have x13 := x12.trans y.tb
          replace h1 := h1.ex (y.hides b)
          clear hB2 hA2 x12
          walk_at "go"
          obtain ⟨wd, hat, hwd⟩ : ∃ wd : Str, atI [V.str "and", V.str "or"] (way % 2) = some (.str wd) ∧ (wd = "and" ∨ wd = "or") := by
            have : way % 2 = 0 ∨ way % 2 = 1 := by omega
            rcases this with z | z
            · rw [z]
              exact ⟨"and", rfl, .inl rfl⟩
            · rw [z]
              exact ⟨"or", rfl, .inr rfl⟩
          refine r_ixL (SqL.of upd_same) hat ?_
          walk_at "go"
          refine ⟨b, c, l, e, X, ws, as, _, rfl, hB3, hA3, he, hX, by omega, fun v2 t2 H4 h2 ok2 as2 al2 co2 hB4 x4 => ?_⟩
          rw [em] at h2 al2 co2
          replace h1 := h1.ex x4.hd
          have x14 := x13.trans x4
          walk_at "go"
          intro p hp
          obtain ⟨u, hu⟩ := hB4.some
          have hmem : ∀ a ∈ t1.atoms ++ t2.atoms, a ∈ as := fun a ha => (List.mem_append.mp ha).elim (as1 a) (as2 a)
          have hlen : (t1.atoms ++ t2.atoms).length ≤ 2 ^ (m + 1) := by
            rw [List.length_append]
            omega
          rcases hwd with rfl | rfl
          · exact hQ _ (.con t1 t2) _ (cd_new hu hp ⟨v1, v2, rfl, h1, h2⟩) ⟨ok1, ok2⟩ hmem hlen (by
              simp only [Cd.cost]
              omega) (hB4.new hp) (x14.trans (Ex.new hp).tb)
          · exact hQ _ (.dis t1 t2) _ (cd_new hu hp ⟨v1, v2, rfl, h1, h2⟩) ⟨ok1, ok2⟩ hmem hlen (by
              simp only [Cd.cost]
              omega) (hB4.new hp) (x14.trans (Ex.new hp).tb)
theorem ok__law_tree {k : Nat} (T : Txt K mg)
    (G__law_pull : FnOk P w K mg base CX0 k (He.ga K "_law_pull") (fdOf K (He.ga K "_law_pull")) p__law_pull (spPull))
    (G__law_of : FnOk P w K mg base CX0 k (He.ga K "_law_of") (fdOf K (He.ga K "_law_of")) p__law_of (spOf K)) : ∀ n, FnOk P w K mg base CX0 (k + n + 1) (He.ga K "_law_tree") (fdOf K (He.ga K "_law_tree")) p__law_tree (spLTree K n)
  | 0 => ok1__law_tree (spj := spNo) T (.inl rfl) G__law_pull G__law_of fnOk_no
  | n + 1 => ok1__law_tree T (.inr ⟨n, rfl, rfl⟩) (G__law_pull.mono (by omega)) (G__law_of.mono (by omega)) (ok__law_tree T G__law_pull G__law_of n)
end
end PW
/-! ### the reading of terms, plainly -/
namespace PW
open PySem PySem.Spec PyProof.Rows L2
namespace Rd
def isDig (c : Nat) : Bool := decide (48 ≤ c) && decide (c ≤ 57)
def isLet (c : Nat) : Bool := decide (97 ≤ c) && decide (c ≤ 122)
/-- a number begins -/
def isNum : List Nat → Bool
  | [] => false
  | c :: _ => decide (c = 45) || isDig c
/-- pass w -/
def acc (w l : List Nat) : Option (List Nat) := if l.take w.length = w then some (l.drop w.length) else none
def num (l : List Nat) : Option (Int × List Nat) :=
  let m := (acc [45] l).isSome
  let l1 := (acc [45] l).getD l
  let ds := l1.takeWhile isDig
  if 1 ≤ ds.length ∧ ds.length ≤ 9 ∧ ¬ (ds.head? = some 48 ∧ (1 < ds.length ∨ m = true)) then some (if m = true then -((NumText.digitsVal ds : Nat) : Int) else ((NumText.digitsVal ds : Nat) : Int), l1.dropWhile isDig) else none
/-- further arguments; f turns at most -/
def more (rd : List Nat → Option (Tm × List Nat)) : Nat → List Nat → Option (List Tm × List Nat)
  | 0, _ => none
  | f + 1, l => match acc [44, 32] l with
    | none => some ([], l)
    | some l1 => match rd l1 with
      | none => none
      | some (t, l2) => match more rd f l2 with
        | none => none
        | some (ts, l3) => some (t :: ts, l3)
def args (rd : List Nat → Option (Tm × List Nat)) (l : List Nat) : Option (List Tm × List Nat) :=
  match acc [41] l with
  | some l1 => some ([], l1)
  | none => match rd l with
    | none => none
    | some (t, l1) => match more rd (l1.length + 1) l1 with
      | none => none
      | some (ts, l2) => match acc [41] l2 with
        | none => none
        | some l3 => if ts.length + 1 ≤ 3 then some (t :: ts, l3) else none
def pair (rd : List Nat → Option (Tm × List Nat)) (l : List Nat) : Option (Tm × List Nat) :=
  match rd l with
  | none => none
  | some (t, l1) => match acc [32, 47, 47, 32] l1 with
    | some l2 => match num l2 with
      | none => none
      | some (m, l3) => match acc [41] l3 with
        | none => none
        | some l4 => if 1 ≤ m ∧ m ≤ 99 then some (.quo t m, l4) else none
    | none => match acc [32, 43, 32] l1 with
      | some l2 => match rd l2 with
        | none => none
        | some (u, l3) => match acc [41] l3 with
          | none => none
          | some l4 => some (.add t u, l4)
      | none => match acc [32, 45, 32] l1 with
        | none => none
        | some l2 => match rd l2 with
          | none => none
          | some (u, l3) => match acc [41] l3 with
            | none => none
            | some l4 => some (.sub t u, l4)
def word (rd : List Nat → Option (Tm × List Nat)) (l : List Nat) : Option (Tm × List Nat) :=
  let w := l.takeWhile isLet
  let l1 := l.dropWhile isLet
  if w = [108, 101, 110] then
    match acc [40] l1 with
    | none => none
    | some l2 => match rd l2 with
      | none => none
      | some (t, l3) => match acc [41] l3 with
        | none => none
        | some l4 => some (.len t, l4)
  else if isNameZ ⟨w.toArray⟩ = true then
    match acc [40] l1 with
    | none => some (.nam ⟨w.toArray⟩, l1)
    | some l2 => match args rd l2 with
      | none => none
      | some (as, l3) => some (.cal ⟨w.toArray⟩ as, l3)
  else none
/-- a term, of at most n levels -/
def term : Nat → List Nat → Option (Tm × List Nat)
  | 0, _ => none
  | n + 1, l => match acc [40] l with
    | some l1 => pair (term n) l1
    | none => match acc [50, 94] l with
      | some l1 => match term n l1 with
        | none => none
        | some (t, l2) => some (.pow t, l2)
      | none => if isNum l = true then
          match num l with
          | none => none
          | some (i, l1) => match acc [42] l1 with
            | none => some (.num i, l1)
            | some l2 => if 99 < i.natAbs then none else match term n l2 with
              | none => none
              | some (t, l3) => some (.tim i t, l3)
        else word (term n) l
end Rd
end PW
/-! ### the reading of a term's text gives the term -/
namespace PW
open PySem PySem.Spec PyProof.Rows L2
namespace Rd
/-- what may follow a term -/
def Fo (l : List Nat) : Prop := ∀ c, l.head? = some c → isDig c = false ∧ isLet c = false ∧ c ≠ 40 ∧ c ≠ 42 ∧ c ≠ 94
theorem fo_cons {c : Nat} {l : List Nat} (h : isDig c = false ∧ isLet c = false ∧ c ≠ 40 ∧ c ≠ 42 ∧ c ≠ 94) : Fo (c :: l) := fun d e => by
  have e : c = d := Option.some.inj e
  subst e
  exact h
theorem fo_nil : Fo [] := fun _ e => nomatch e
theorem acc_app (w l : List Nat) : acc w (w ++ l) = some l := by
  unfold acc
  rw [List.take_left, if_pos rfl, List.drop_left]
theorem acc1 (c : Nat) (l : List Nat) : acc [c] (c :: l) = some l := acc_app [c] l
theorem acc_ne {c d : Nat} {w l : List Nat} (h : c ≠ d) : acc (c :: w) (d :: l) = none := by
  unfold acc
  rw [if_neg]
  intro e
  simp only [List.length_cons, List.take_succ_cons, List.cons.injEq] at e
  exact h e.1.symm
theorem acc_nil {c : Nat} {w : List Nat} : acc (c :: w) [] = none := rfl
theorem acc_head {c : Nat} {w l : List Nat} (h : ∀ d, l.head? = some d → d ≠ c) : acc (c :: w) l = none := by
  cases l with
  | nil => rfl
  | cons d r => exact acc_ne fun e => h d rfl e.symm
theorem acc_ne2 {a c d : Nat} {w l : List Nat} (h : c ≠ d) : acc (a :: c :: w) (a :: d :: l) = none := by
  unfold acc
  rw [if_neg]
  intro e
  simp only [List.length_cons, List.take_succ_cons, List.cons.injEq] at e
  exact h e.2.1.symm
theorem tw_app {p : Nat → Bool} {a l : List Nat} (h : ∀ c ∈ a, p c = true) (hl : ∀ c, l.head? = some c → p c = false) : (a ++ l).takeWhile p = a ∧ (a ++ l).dropWhile p = l := by
  induction a with
  | nil =>
    cases l with
    | nil => exact ⟨rfl, rfl⟩
    | cons c r =>
      have := hl c rfl
      rw [List.nil_append, List.takeWhile_cons, List.dropWhile_cons, this]
      exact ⟨rfl, rfl⟩
  | cons c r ih =>
    have h1 := h c List.mem_cons_self
    have h2 := ih fun d hd => h d (List.mem_cons_of_mem _ hd)
    rw [List.cons_append, List.takeWhile_cons, List.dropWhile_cons, h1]
    exact ⟨by rw [if_pos rfl, h2.1], by rw [if_pos rfl, h2.2]⟩
theorem numL_dig (n : Nat) : ∀ c ∈ TL.numL n, isDig c = true := fun c hc => by
  have := TL.numL_digits n c hc
  unfold isDig
  simp only [Bool.and_eq_true, decide_eq_true_eq]
  omega
theorem numL_head (n : Nat) : ∃ c r, TL.numL n = c :: r ∧ isDig c = true ∧ (c = 48 → n = 0 ∧ r = []) := by
  cases e : TL.numL n with
  | nil => exact absurd e (TL.numL_ne n)
  | cons c r =>
    refine ⟨c, r, rfl, numL_dig n c (by rw [e]; exact List.mem_cons_self), fun h48 => ?_⟩
    subst h48
    -- a leading zero
    have key : ∀ m : Nat, ∀ s, TL.numL m = 48 :: s → m = 0 ∧ s = [] := by
      intro m
      induction m using Nat.strongRecOn with
      | _ m ih =>
        intro s hs
        by_cases h : m < 10
        · rw [TL.numL_lt h] at hs
          simp only [List.cons.injEq] at hs
          exact ⟨by omega, hs.2.symm⟩
        · rw [TL.numL_step (by omega)] at hs
          obtain ⟨c2, r2, e2⟩ : ∃ c2 r2, TL.numL (m / 10) = c2 :: r2 := by
            cases e3 : TL.numL (m / 10) with
            | nil => exact absurd e3 (TL.numL_ne _)
            | cons a b => exact ⟨a, b, rfl⟩
          rw [e2] at hs
          simp only [List.cons_append, List.cons.injEq] at hs
          have := ih (m / 10) (by omega) r2 (by rw [e2, hs.1])
          omega
    exact key n r e
theorem num_tx {i : Int} (h : i.natAbs < 10 ^ 9) {l : List Nat} (hl : ∀ c, l.head? = some c → isDig c = false) : num (numC i ++ l) = some (i, l) := by
  obtain ⟨c, r, e, hd, h48⟩ := numL_head i.natAbs
  have hlen := TL.numL_len (k := 9) (by decide) h
  have hne : 1 ≤ (TL.numL i.natAbs).length := by rw [e, List.length_cons]; omega
  have tw := tw_app (l := l) (numL_dig i.natAbs) hl
  have hv := TL.numL_val i.natAbs
  unfold num numC
  by_cases hi : i < 0
  · rw [if_pos hi, List.cons_append, acc1]
    simp only [Option.isSome_some, Option.getD_some, if_true, tw.1, tw.2, hv]
    rw [if_pos]
    · congr 2
      omega
    · refine ⟨hne, hlen, ?_⟩
      rintro ⟨h1, _⟩
      rw [e] at h1
      have := (h48 (Option.some.inj h1)).1
      omega
  · rw [if_neg hi]
    have c45 : c ≠ 45 := fun z => by
      subst z
      cases hd
    have ha : acc [45] (TL.numL i.natAbs ++ l) = none := by
      rw [e]
      exact acc_ne fun z => c45 z.symm
    simp only [ha, Option.isSome_none, Option.getD_none, tw.1, tw.2, hv, Bool.false_eq_true, if_false]
    rw [if_pos]
    · congr 2
      omega
    · refine ⟨hne, hlen, ?_⟩
      rintro ⟨h1, h2⟩
      rw [e] at h1 h2
      have := (h48 (Option.some.inj h1)).2
      subst this
      simp at h2
theorem numC_head (i : Int) : ∃ c r, numC i = c :: r ∧ (c = 45 ∨ isDig c = true) ∧ ∀ d s, r = d :: s → isDig d = true := by
  have all := numL_dig i.natAbs
  obtain ⟨c, r, e, hd, _⟩ := numL_head i.natAbs
  unfold numC
  split
  · refine ⟨45, _, rfl, .inl rfl, fun d s z => all d ?_⟩
    rw [z]
    exact List.mem_cons_self
  · refine ⟨c, r, e, .inr hd, fun d s z => all d ?_⟩
    rw [e, z]
    exact List.mem_cons_of_mem _ List.mem_cons_self
theorem nm_let {z : Str} (h : IsNm z) : ∀ c ∈ TL.tl z, isLet c = true := fun c hc => by
  have := h.let_ c hc
  unfold isLet
  simp only [Bool.and_eq_true, decide_eq_true_eq]
  exact this
theorem nm_head {z : Str} (h : IsNm z) : ∃ c r, TL.tl z = c :: r ∧ isLet c = true := by
  cases e : TL.tl z with
  | nil =>
    have := h.l1
    rw [len_eq, e] at this
    exact absurd this (by decide)
  | cons c r => exact ⟨c, r, rfl, nm_let h c (by rw [e]; exact List.mem_cons_self)⟩
/-- how a term's text begins -/
theorem tx_head {n m q : Nat} (t : Tm) (ok : t.ok n m q) : ∃ c r, t.tx = c :: r ∧ (c = 45 ∨ isDig c = true ∨ isLet c = true ∨ c = 40) := by
  cases t with
  | num i =>
    obtain ⟨c, r, e, h, _⟩ := numC_head i
    exact ⟨c, r, by simp only [Tm.tx, e], h.elim .inl fun z => .inr (.inl z)⟩
  | tim i a =>
    obtain ⟨c, r, e, h, _⟩ := numC_head i
    exact ⟨c, _, by simp only [Tm.tx, e, List.cons_append]; rfl, h.elim .inl fun z => .inr (.inl z)⟩
  | nam z =>
    have ok : isNameZ z = true := by simpa only [Tm.ok] using ok
    obtain ⟨c, r, e, h⟩ := nm_head (isNm_iff.mp ok)
    exact ⟨c, r, by simp only [Tm.tx, e], .inr (.inr (.inl h))⟩
  | cal f as =>
    have ok : isNameZ f = true ∧ as.length ≤ 3 ∧ Tm.oks n m q as := by simpa only [Tm.ok] using ok
    obtain ⟨c, r, e, h⟩ := nm_head (isNm_iff.mp ok.1)
    exact ⟨c, _, by simp only [Tm.tx, e, List.cons_append]; rfl, .inr (.inr (.inl h))⟩
  | pow a => exact ⟨50, _, by simp only [Tm.tx]; rfl, .inr (.inl (by decide))⟩
  | len a => exact ⟨108, _, by simp only [Tm.tx]; rfl, .inr (.inr (.inl (by decide)))⟩
  | _ => exact ⟨40, _, by simp only [Tm.tx]; rfl, .inr (.inr (.inr rfl))⟩
theorem not_len {z : Str} (h : IsNm z) : TL.tl z ≠ [108, 101, 110] := fun e => by
  have : z = "len" := TL.ext_tl (e.trans (by decide +kernel))
  subst this
  have := h.res
  revert this
  decide +kernel
theorem let_not {c : Nat} (h : isLet c = true) : c ≠ 40 ∧ c ≠ 50 ∧ c ≠ 45 ∧ isDig c = false ∧ c ≠ 41 := by
  unfold isLet at h
  simp only [Bool.and_eq_true, decide_eq_true_eq] at h
  refine ⟨by omega, by omega, by omega, ?_, by omega⟩
  unfold isDig
  simp only [Bool.and_eq_false_iff, decide_eq_false_iff_not]
  right
  omega
theorem dig_not {c : Nat} (h : isDig c = true) : c ≠ 40 ∧ c ≠ 94 ∧ c ≠ 41 ∧ c ≠ 45 := by
  unfold isDig at h
  simp only [Bool.and_eq_true, decide_eq_true_eq] at h
  refine ⟨by omega, by omega, by omega, by omega⟩
section
variable {n : Nat} (ih : ∀ (t : Tm), t.okT → t.dep ≤ n → ∀ l, Fo l → term n (t.tx ++ l) = some (t, l))
include ih
theorem more_tx : ∀ (as : List Tm) (f : Nat) (l : List Nat), (∀ a ∈ as, a.okT ∧ a.dep ≤ n) → as.length < f → more (term n) f (Tm.txr as ++ (41 :: l)) = some (as, 41 :: l)
  | _, 0, _, _, h => absurd h (by omega)
  | [], f + 1, l, _, _ => by
    have e : acc [44, 32] (41 :: l) = none := acc_ne (by decide)
    unfold more
    simp only [Tm.txr, List.nil_append, e]
  | a :: r, f + 1, l, h, hf => by
    have h1 := h a List.mem_cons_self
    have e : Tm.txr (a :: r) ++ (41 :: l) = [44, 32] ++ (a.tx ++ (Tm.txr r ++ (41 :: l))) := by
      simp only [Tm.txr, List.cons_append, List.nil_append, List.append_assoc]
    rw [e]
    unfold more
    rw [acc_app]
    have fo : Fo (Tm.txr r ++ (41 :: l)) := by
      cases r with
      | nil => exact fo_cons (by decide)
      | cons b s => exact fo_cons (by decide)
    simp only [ih a h1.1 h1.2 _ fo]
    rw [more_tx r f l (fun b hb => h b (List.mem_cons_of_mem _ hb)) (by simp only [List.length_cons] at hf; omega)]
theorem args_tx (as : List Tm) (l : List Nat) (h : ∀ a ∈ as, a.okT ∧ a.dep ≤ n) (h3 : as.length ≤ 3) : args (term n) (Tm.txs as ++ (41 :: l)) = some (as, l) := by
  cases as with
  | nil =>
    unfold args
    rw [show Tm.txs [] ++ (41 :: l) = 41 :: l by simp [Tm.txs], acc1]
  | cons a r =>
    have h1 := h a List.mem_cons_self
    obtain ⟨c, s, e, hc⟩ := tx_head a h1.1
    have e1 : Tm.txs (a :: r) ++ (41 :: l) = a.tx ++ (Tm.txr r ++ (41 :: l)) := by
      simp only [Tm.txs, List.append_assoc]
    have ha : acc [41] (a.tx ++ (Tm.txr r ++ (41 :: l))) = none := by
      rw [e]
      refine acc_ne fun z => ?_
      subst z
      rcases hc with z | z | z | z
      · cases z
      · cases z
      · cases z
      · cases z
    have fo : Fo (Tm.txr r ++ (41 :: l)) := by
      cases r with
      | nil => exact fo_cons (by decide)
      | cons b s => exact fo_cons (by decide)
    have hl : ∀ as : List Tm, as.length ≤ (Tm.txr as).length := by
      intro as
      induction as with
      | nil => exact Nat.le_refl _
      | cons b s ih2 =>
        simp only [Tm.txr, List.length_cons, List.length_append]
        omega
    unfold args
    rw [e1, ha]
    simp only [ih a h1.1 h1.2 _ fo]
    rw [more_tx ih r _ l (fun b hb => h b (List.mem_cons_of_mem _ hb)) (by
      have := hl r
      rw [List.length_append]
      omega)]
    simp only [acc1]
    rw [if_pos (by simpa using h3)]
end
theorem term_tx : ∀ (n : Nat) (t : Tm), t.okT → t.dep ≤ n → ∀ l, Fo l → term n (t.tx ++ l) = some (t, l)
  | 0, t, _, hd, _, _ => absurd hd (by have := t.dep_pos; omega)
  | n + 1, t, ok, hd, l, fo => by
    have ih := term_tx n
    have fd : ∀ c, l.head? = some c → isDig c = false := fun c e => (fo c e).1
    cases t with
    | num i =>
      have ok : i.natAbs < 10 ^ 9 := by simpa only [Tm.okT, Tm.ok] using ok
      obtain ⟨c, r, e, hc, hr⟩ := numC_head i
      have hn := num_tx ok fd
      simp only [Tm.tx]
      have hs : isNum (numC i ++ l) = true := by
        rw [e]
        simp only [List.cons_append, isNum, Bool.or_eq_true, decide_eq_true_eq]
        exact hc
      have h40 : acc [40] (numC i ++ l) = none := by
        rw [e]
        refine acc_ne fun z => ?_
        subst z
        rcases hc with z | z <;> cases z
      have h50 : acc [50, 94] (numC i ++ l) = none := by
        rw [e]
        by_cases z : c = 50
        · subst z
          cases r with
          | nil =>
            cases l with
            | nil => rfl
            | cons d s => exact acc_ne2 fun z => (fo d rfl).2.2.2.2 z.symm
          | cons d s => exact acc_ne2 fun z => (dig_not (hr d s rfl)).2.1 z.symm
        · exact acc_ne fun y => z y.symm
      have h42 : acc [42] l = none := acc_head fun d e => (fo d e).2.2.2.1
      unfold term
      rw [h40]
      simp only [h50]
      rw [if_pos hs, hn]
      simp only [h42]
    | tim i a =>
      have ok : i.natAbs < 100 ∧ a.okT := by simpa only [Tm.okT, Tm.ok] using ok
      simp only [Tm.dep] at hd
      obtain ⟨c, r, e, hc, hr⟩ := numC_head i
      have hn := num_tx (i := i) (l := 42 :: (a.tx ++ l)) (by omega) (fun c e => by
        have e : 42 = c := Option.some.inj e
        subst e
        decide)
      have et : (Tm.tim i a).tx ++ l = numC i ++ (42 :: (a.tx ++ l)) := by
        simp only [Tm.tx, List.append_assoc, List.cons_append]
      rw [et]
      have hs : isNum (numC i ++ (42 :: (a.tx ++ l))) = true := by
        rw [e]
        simp only [List.cons_append, isNum, Bool.or_eq_true, decide_eq_true_eq]
        exact hc
      have h40 : acc [40] (numC i ++ (42 :: (a.tx ++ l))) = none := by
        rw [e]
        refine acc_ne fun z => ?_
        subst z
        rcases hc with z | z <;> cases z
      have h50 : acc [50, 94] (numC i ++ (42 :: (a.tx ++ l))) = none := by
        rw [e]
        by_cases z : c = 50
        · subst z
          cases r with
          | nil => exact acc_ne2 (by decide)
          | cons d s => exact acc_ne2 fun z => (dig_not (hr d s rfl)).2.1 z.symm
        · exact acc_ne fun y => z y.symm
      unfold term
      rw [h40]
      simp only [h50]
      rw [if_pos hs, hn]
      simp only [acc1]
      rw [if_neg (by omega), ih a ok.2 (by omega) l fo]
    | pow a =>
      have ok : a.okT := by simpa only [Tm.okT, Tm.ok] using ok
      simp only [Tm.dep] at hd
      have et : (Tm.pow a).tx ++ l = [50, 94] ++ (a.tx ++ l) := by
        simp only [Tm.tx, List.cons_append, List.nil_append]
      rw [et]
      unfold term
      rw [show acc [40] ([50, 94] ++ (a.tx ++ l)) = none from acc_ne (by decide)]
      simp only [acc_app]
      rw [ih a ok (by omega) l fo]
    | nam z =>
      have ok : isNameZ z = true := by simpa only [Tm.okT, Tm.ok] using ok
      have nm := isNm_iff.mp ok
      obtain ⟨c, r, e, hc⟩ := nm_head nm
      have cn := let_not hc
      have tw := tw_app (l := l) (nm_let nm) fun c e => (fo c e).2.1
      simp only [Tm.tx]
      have h40 : acc [40] (TL.tl z ++ l) = none := by
        rw [e]
        exact acc_ne fun z => cn.1 z.symm
      have h50 : acc [50, 94] (TL.tl z ++ l) = none := by
        rw [e]
        exact acc_ne fun z => cn.2.1 z.symm
      have hs : ¬ isNum (TL.tl z ++ l) = true := by
        rw [e]
        simp only [List.cons_append, isNum, Bool.or_eq_true, decide_eq_true_eq, not_or]
        exact ⟨cn.2.2.1, by rw [cn.2.2.2.1]; exact Bool.false_ne_true⟩
      have hl40 : acc [40] l = none := acc_head fun d e => (fo d e).2.2.1
      unfold term
      rw [h40]
      simp only [h50]
      rw [if_neg hs]
      unfold word
      simp only [tw.1, tw.2]
      rw [if_neg (not_len nm), show (⟨(TL.tl z).toArray⟩ : Str) = z from TL.mk_tl z, if_pos ok, hl40]
    | len a =>
      have ok : a.okT := by simpa only [Tm.okT, Tm.ok] using ok
      simp only [Tm.dep] at hd
      have et : (Tm.len a).tx ++ l = [108, 101, 110] ++ (40 :: (a.tx ++ (41 :: l))) := by
        simp only [Tm.tx, List.cons_append, List.nil_append, List.append_assoc]
      have tw := tw_app (p := isLet) (a := [108, 101, 110]) (l := 40 :: (a.tx ++ (41 :: l))) (by decide) fun c e => by
        have e : 40 = c := Option.some.inj e
        subst e
        decide
      rw [et]
      unfold term
      rw [show acc [40] ([108, 101, 110] ++ (40 :: (a.tx ++ (41 :: l)))) = none from acc_ne (by decide)]
      simp only [show acc [50, 94] ([108, 101, 110] ++ (40 :: (a.tx ++ (41 :: l)))) = none from acc_ne (by decide)]
      rw [if_neg (show ¬ isNum ([108, 101, 110] ++ (40 :: (a.tx ++ (41 :: l)))) = true from by show ¬ (decide (108 = 45) || isDig 108) = true; decide)]
      unfold word
      simp only [tw.1, tw.2, if_true, acc1]
      rw [ih a ok (by omega) _ (fo_cons (by decide))]
      simp only [acc1]
    | quo a i =>
      have ok : (1 ≤ i ∧ i < ((100 : Nat) : Int)) ∧ a.okT := by simpa only [Tm.okT, Tm.ok] using ok
      simp only [Tm.dep] at hd
      have et : (Tm.quo a i).tx ++ l = 40 :: (a.tx ++ ([32, 47, 47, 32] ++ (numC i ++ (41 :: l)))) := by
        simp only [Tm.tx, List.cons_append, List.nil_append, List.append_assoc]
      rw [et]
      unfold term
      rw [acc1]
      simp only
      unfold pair
      rw [ih a ok.2 (by omega) ([32, 47, 47, 32] ++ (numC i ++ (41 :: l))) (fo_cons (by decide))]
      simp only [acc_app]
      rw [num_tx (by omega) (fun c e => by
        have e : 41 = c := Option.some.inj e
        subst e
        decide)]
      simp only [acc1]
      rw [if_pos ⟨ok.1.1, by omega⟩]
    | add a b =>
      have ok : a.okT ∧ b.okT := by simpa only [Tm.okT, Tm.ok] using ok
      simp only [Tm.dep] at hd
      have et : (Tm.add a b).tx ++ l = 40 :: (a.tx ++ ([32, 43, 32] ++ (b.tx ++ (41 :: l)))) := by
        simp only [Tm.tx, List.cons_append, List.nil_append, List.append_assoc]
      rw [et]
      unfold term
      rw [acc1]
      simp only
      unfold pair
      rw [ih a ok.1 (by omega) ([32, 43, 32] ++ (b.tx ++ (41 :: l))) (fo_cons (by decide))]
      simp only [show acc [32, 47, 47, 32] ([32, 43, 32] ++ (b.tx ++ (41 :: l))) = none from acc_ne2 (by decide), acc_app]
      rw [ih b ok.2 (by omega) _ (fo_cons (by decide))]
      simp only [acc1]
    | sub a b =>
      have ok : a.okT ∧ b.okT := by simpa only [Tm.okT, Tm.ok] using ok
      simp only [Tm.dep] at hd
      have et : (Tm.sub a b).tx ++ l = 40 :: (a.tx ++ ([32, 45, 32] ++ (b.tx ++ (41 :: l)))) := by
        simp only [Tm.tx, List.cons_append, List.nil_append, List.append_assoc]
      rw [et]
      unfold term
      rw [acc1]
      simp only
      unfold pair
      rw [ih a ok.1 (by omega) ([32, 45, 32] ++ (b.tx ++ (41 :: l))) (fo_cons (by decide))]
      simp only [show acc [32, 47, 47, 32] ([32, 45, 32] ++ (b.tx ++ (41 :: l))) = none from acc_ne2 (by decide), show acc [32, 43, 32] ([32, 45, 32] ++ (b.tx ++ (41 :: l))) = none from acc_ne2 (by decide), acc_app]
      rw [ih b ok.2 (by omega) _ (fo_cons (by decide))]
      simp only [acc1]
    | cal f as =>
      have ok : isNameZ f = true ∧ as.length ≤ 3 ∧ Tm.oks (10 ^ 9) 100 100 as := by simpa only [Tm.okT, Tm.ok] using ok
      simp only [Tm.dep] at hd
      have nm := isNm_iff.mp ok.1
      obtain ⟨c, r, e, hc⟩ := nm_head nm
      have cn := let_not hc
      have et : (Tm.cal f as).tx ++ l = TL.tl f ++ (40 :: (Tm.txs as ++ (41 :: l))) := by
        simp only [Tm.tx, List.cons_append, List.nil_append, List.append_assoc]
      have tw := tw_app (l := 40 :: (Tm.txs as ++ (41 :: l))) (nm_let nm) fun c e => by
        have e : 40 = c := Option.some.inj e
        subst e
        decide
      rw [et]
      have h40 : acc [40] (TL.tl f ++ (40 :: (Tm.txs as ++ (41 :: l)))) = none := by
        rw [e]
        exact acc_ne fun z => cn.1 z.symm
      have h50 : acc [50, 94] (TL.tl f ++ (40 :: (Tm.txs as ++ (41 :: l)))) = none := by
        rw [e]
        exact acc_ne fun z => cn.2.1 z.symm
      have hs : ¬ isNum (TL.tl f ++ (40 :: (Tm.txs as ++ (41 :: l)))) = true := by
        rw [e]
        simp only [List.cons_append, isNum, Bool.or_eq_true, decide_eq_true_eq, not_or]
        exact ⟨cn.2.2.1, by rw [cn.2.2.2.1]; exact Bool.false_ne_true⟩
      unfold term
      rw [h40]
      simp only [h50]
      rw [if_neg hs]
      unfold word
      simp only [tw.1, tw.2]
      rw [if_neg (not_len nm), show (⟨(TL.tl f).toArray⟩ : Str) = f from TL.mk_tl f, if_pos ok.1]
      simp only [acc1]
      rw [args_tx ih as l (fun a ha => ⟨Tm.oks_mem.mp ok.2.2 a ha, Tm.deps_le.mp (show Tm.deps as ≤ n by omega) a ha⟩) ok.2.1]
end Rd
end PW
/-! ### the reader of texts: its methods -/
namespace PW
open PySem PySem.Spec PyProof.Rows L2
def AEndN (C a : Addr) (f : Str) (nx : L2.St → Hp → Prop) (σ : L2.St) (z : V) (H : Hp) : Prop := ∃ dx' fs', H a = some (.ins C dx' fs') ∧ fs'.length < 1000 ∧ nx σ (upd H a (.ins C dx' (putF f z fs')))
def FAugN (K : PySem.W.Frag) (f : Str) (tv : TE) (rd : V → V → Hp → VK → Prop) (nx : L2.St → Hp → Prop) (σ : L2.St) (x : V) (H : Hp) : Prop := ∃ a C dx fs v, x = .ref a ∧ H a = some (.ins C dx fs) ∧ Cls K C ∧ NoAttr K C f ∧ fs.lookup f = some v ∧ tv σ H fun y H2 => rd v y H2 fun z H3 => AEndN C a f nx σ z H3
section
variable {K : PySem.W.Frag} {ta tv : TE} {rd : V → V → Hp → VK → Prop} {f : Str} {D : Ends} {σ : L2.St} {H : Hp} {i j : Int} {Q : VK} {p C dx : Addr} {fs : List (Str × V)} {v z : V} {nx : L2.St → Hp → Prop}
instance : Step (sFldAug K ta tv rd f D σ H) (ta σ H fun x H1 => FAugN K f tv rd D.nx σ x H1) := ⟨id⟩
instance : Step (rAdd (.int i) (.int j) H Q) (Q (.int (i + j)) H) := ⟨fun q => ⟨i, j, rfl, rfl, q⟩⟩
instance : Step (rSub (.int i) (.int j) H Q) (Q (.int (i - j)) H) := ⟨fun q => ⟨i, j, rfl, rfl, q⟩⟩
theorem r_faug (h : H p = some (.ins C dx fs)) (c : Cls K C) (n : NoAttr K C f) (l : fs.lookup f = some v) (q : tv σ H fun y H2 => rd v y H2 fun z H3 => AEndN C p f nx σ z H3) : FAugN K f tv rd nx σ (.ref p) H := ⟨p, C, dx, fs, v, rfl, h, c, n, l, q⟩
theorem r_aend (h : H p = some (.ins C dx fs)) (l : fs.length < 1000) (q : nx σ (upd H p (.ins C dx (putF f z fs)))) : AEndN C p f nx σ z H := ⟨dx, fs, h, l, q⟩
end
def fsR (s a d : V) : List (Str × V) := [("source", s), ("at", a), ("depth", d)]
theorem putR_at {s a d z : V} : putF "at" z (fsR s a d) = fsR s z d := rfl
theorem putR_dp {s a d z : V} : putF "depth" z (fsR s a d) = fsR s a z := rfl
abbrev RdC (K : PySem.W.Frag) : Addr := He.ga K "Reader"
/-- the reader at r stands before l, at the depth e -/
def RdAt (K : PySem.W.Frag) (H : Hp) (r : Addr) (src : Str) (l : List Nat) (e : Nat) : Prop := ∃ (dx : Addr) (a : Nat), H r = some (.ins (RdC K) dx (fsR (.str src) (.int a) (.int e))) ∧ a ≤ (TL.tl src).length ∧ (TL.tl src).drop a = l
/-- an InvalidText may leave -/
def TxtE (K : PySem.W.Frag) (r : Addr) (H : Hp) (E : XK) : Prop := ∀ d H', ExB r H H' → H' d = some (.xd [("tag", .str "InvalidText")]) → d ≠ r → E (.ref (He.ga K "InvalidText")) (some d) H'
theorem TxtE.new {K : PySem.W.Frag} {r : Addr} {H : Hp} {E : XK} {u : HO} (hr : H r = some u) (h : TxtE K r H E) {d : Addr} (hd : H d = none) : E (.ref (He.ga K "InvalidText")) (some d) (upd H d (.xd [("tag", .str "InvalidText")])) :=
  h d _ (Ex.new hd).tb upd_same fun z => by rw [z, hr] at hd; cases hd
theorem TxtE.on {K : PySem.W.Frag} {r : Addr} {H H1 : Hp} {E : XK} (h : TxtE K r H E) (x : ExB r H H1) : TxtE K r H1 E := fun d H' x' => h d H' (x.trans x')
theorem ExB.self {r : Addr} {H : Hp} {o : HO} : ExB r H (L2.upd H r o) := ExB.upd ExB.refl
def spSees (K : PySem.W.Frag) : Sp := fun vs H Q _ => ∃ r w src l e, vs = [.ref r, .str w] ∧ RdAt K H r src l e ∧ src.length ≤ 100000 ∧ w.length ≤ 100000 ∧ Q (.bl (Rd.acc (TL.tl w) l).isSome) H
def spAcc (K : PySem.W.Frag) : Sp := fun vs H Q _ => ∃ r w src l e, vs = [.ref r, .str w] ∧ RdAt K H r src l e ∧ src.length ≤ 100000 ∧ w.length ≤ 100000 ∧ (∀ l', Rd.acc (TL.tl w) l = some l' → ∀ H', RdAt K H' r src l' e → ExB r H H' → Q (.bl true) H') ∧ (Rd.acc (TL.tl w) l = none → Q (.bl false) H)
def spNeed (K : PySem.W.Frag) : Sp := fun vs H Q E => ∃ r w src l e, vs = [.ref r, .str w] ∧ RdAt K H r src l e ∧ src.length ≤ 100000 ∧ w.length ≤ 100000 ∧ (∀ l', Rd.acc (TL.tl w) l = some l' → ∀ H', RdAt K H' r src l' e → ExB r H H' → Q .non H') ∧ (Rd.acc (TL.tl w) l = none → TxtE K r H E)
def spRun (K : PySem.W.Frag) : Sp := fun vs H Q _ => ∃ r sg src l e, ∃ p : Nat → Bool, vs = [.ref r, .str sg] ∧ (∀ c, decide (c ∈ sg.cps.toList) = p c) ∧ RdAt K H r src l e ∧ src.length ≤ 100000 ∧ ∀ H', RdAt K H' r src (l.dropWhile p) e → ExB r H H' → Q (.str ⟨(l.takeWhile p).toArray⟩) H'
def spWord (K : PySem.W.Frag) : Sp := fun vs H Q _ => ∃ r src l e, vs = [.ref r] ∧ RdAt K H r src l e ∧ src.length ≤ 100000 ∧ ∀ H', RdAt K H' r src l e → ExB r H H' → Q (.str ⟨(l.takeWhile Rd.isLet).toArray⟩) H'
def spEnter (K : PySem.W.Frag) : Sp := fun vs H Q E => ∃ r src l e, vs = [.ref r] ∧ RdAt K H r src l e ∧ (e + 1 ≤ 20 → ∀ H', RdAt K H' r src l (e + 1) → ExB r H H' → Q .non H') ∧ (20 < e + 1 → TxtE K r H E)
def spFinish (K : PySem.W.Frag) : Sp := fun vs H Q E => ∃ r src l e, vs = [.ref r] ∧ RdAt K H r src l e ∧ src.length ≤ 100000 ∧ (l = [] → Q .non H) ∧ (l ≠ [] → TxtE K r H E)
theorem sees_eq {src w : Str} {a : Nat} {l : List Nat} (hl : (TL.tl src).drop a = l) : decide (V.str (cutS src (some (a : Int)) (some ((a : Int) + (w.length : Int)))) = V.str w) = (Rd.acc (TL.tl w) l).isSome := by
  have e : ((a : Int) + (w.length : Int)) = ((a + w.length : Nat) : Int) := by omega
  have e2 := tl_cut src a (a + w.length)
  rw [hl, show a + w.length - a = w.length by omega, len_eq] at e2
  rw [e, len_eq]
  unfold Rd.acc
  by_cases h : l.take (TL.tl w).length = TL.tl w
  · rw [if_pos h]
    refine decide_eq_true (congrArg V.str (TL.ext_tl (e2.trans h)))
  · rw [if_neg h]
    refine decide_eq_false fun z => h ?_
    rw [← e2, V.str.inj z]
theorem acc_some {w l l' : List Nat} (h : Rd.acc w l = some l') : l = w ++ l' := by
  unfold Rd.acc at h
  split at h
  · rename_i e
    have h := Option.some.inj h
    rw [← h]
    conv => lhs; rw [← List.take_append_drop w.length l, e]
  · cases h
theorem rd_pass {src : Str} {a : Nat} {w l l' : List Nat} (ha : a ≤ (TL.tl src).length) (hl : (TL.tl src).drop a = l) (h : l = w ++ l') : a + w.length ≤ (TL.tl src).length ∧ (TL.tl src).drop (a + w.length) = l' := by
  subst h
  have e := congrArg List.length hl
  rw [List.length_drop, List.length_append] at e
  refine ⟨by omega, ?_⟩
  rw [← List.drop_drop, hl, List.drop_left]
section
variable {P : Program} {w : World} {K : PySem.W.Frag} {mg : Str → Option Value} {base : Heap}
theorem ok_sees (T : Txt K mg) : FnOk P w K mg base CX0 (1) (He.ma K (He.ga K "Reader") "sees") (fdOf K (He.fAd K ("Reader", some "sees"))) p_Reader_sees (spSees K) := by
  refine FunD.ok T.d_Reader_sees sc_Reader_sees (fun vs H Q E h => ?_) (fun cdv A outer s H vs Q E hr h => ?_)
  · obtain ⟨r, w, src, l, e, rfl, _⟩ := h
    rfl
  · obtain ⟨r, w, src, l, e, rfl, ⟨dx, a, hr1, ha, hl⟩, hs, hw, hQ⟩ := h
    have kC := T.k_Reader
    have nS := T.n_Reader_source
    have nA := T.n_Reader_at
    have hs2 := size_le hs
    have hw2 := size_le hw
    refine ⟨_, PSs.nox ((pss_one (ps_ret (pe_cmpR op_eq (pe_slice sl_str (pe_fld (pv 0) rfl) (po_some (pe_fld (pv 0) rfl)) (po_some (pe_op op_add (pe_fld (pv 0) rfl) (pe_callB call_lenN (by rfl) T.f_len (by decide +kernel) (pa_cons (pv 1) pa_nil))))) (pv 1) (nomark _))))), ?_⟩
    show tRet _ _ [some (V.ref r), some (V.str w)] H
    walk_at "K"
    walk_at "go"
    rw [sees_eq hl]
    exact hQ
theorem ok_accept {k : Nat} (T : Txt K mg) (G_Reader_sees : FnOk P w K mg base CX0 k (He.ma K (He.ga K "Reader") "sees") (fdOf K (He.fAd K ("Reader", some "sees"))) p_Reader_sees (spSees K)) : FnOk P w K mg base CX0 (k + 1) (He.ma K (He.ga K "Reader") "accept") (fdOf K (He.fAd K ("Reader", some "accept"))) p_Reader_accept (spAcc K) := by
  refine FunD.ok T.d_Reader_accept sc_Reader_accept (fun vs H Q E h => ?_) (fun cdv A outer s H vs Q E hr h => ?_)
  · obtain ⟨r, w, src, l, e, rfl, _⟩ := h
    rfl
  · obtain ⟨r, w, src, l, e, rfl, hR, hs, hw, h1, h2⟩ := h
    have kC := T.k_Reader
    have nA := T.n_Reader_at
    have hw2 := size_le hw
    refine ⟨_, PSs.nox ((pss_cons (ps_if (pt_not (pt_val (pe_meth (pv 0) T.k_Reader T.m_Reader_sees G_Reader_sees hr (b_Reader_sees T) .nil pass0 (pa_cons (pv 1) pa_nil))))
      (pss_one (ps_ret pe_bl))
      pss_nil)
    (pss_cons (ps_fldaug (pv 0) (pe_callB call_lenN (by rfl) T.f_len (by decide +kernel) (pa_cons (pv 1) pa_nil)) in_add)
    (pss_one (ps_ret pe_bl))))), ?_⟩
    show tSeq _ _ _ [some (V.ref r), some (V.str w)] H
    walk_at "K"
    obtain ⟨dx, a, hr1, ha, hl⟩ := id hR
    walk_at "go"
    refine ⟨r, w, src, l, e, rfl, hR, hs, hw, ?_⟩
    walk_at "go"
    cases q : Rd.acc (TL.tl w) l with
    | none =>
      simp only [q, Option.isSome_none, Bool.not_false, if_true]
      walk_at "go"
      exact h2 q
    | some l' =>
      simp only [q, Option.isSome_some, Bool.not_true, Bool.false_eq_true, if_false]
      walk_at "go"
      refine r_faug hr1 kC nA rfl ?_
      walk_at "go"
      refine r_aend hr1 (by show 3 < 1000; decide) ?_
      rw [putR_at]
      walk_at "go"
      have hp := rd_pass ha hl (acc_some q)
      rw [← len_eq] at hp
      refine h1 l' q _ ⟨dx, a + w.length, ?_, hp.1, hp.2⟩ ExB.self
      rw [upd_same, show ((a + w.length : Nat) : Int) = (a : Int) + (w.length : Int) by omega]
theorem ok_need {k : Nat} (hP : IsPG P) (T : Txt K mg) (G_Reader_accept : FnOk P w K mg base CX0 k (He.ma K (He.ga K "Reader") "accept") (fdOf K (He.fAd K ("Reader", some "accept"))) p_Reader_accept (spAcc K)) : FnOk P w K mg base (L2.CX P w) (k + 1) (He.ma K (He.ga K "Reader") "need") (fdOf K (He.fAd K ("Reader", some "need"))) p_Reader_need (spNeed K) := by
  refine FunD.ok T.d_Reader_need sc_Reader_need (fun vs H Q E h => ?_) (fun cdv A outer s H vs Q E hr h => ?_)
  · obtain ⟨r, w, src, l, e, rfl, _⟩ := h
    rfl
  · obtain ⟨r, w, src, l, e, rfl, hR, hs, hw, h1, h2⟩ := h
    refine ⟨_, ((pss_one (ps_if (pt_not (pt_val (pe_meth (pv 0) T.k_Reader T.m_Reader_accept G_Reader_accept hr (b_Reader_accept T) .nil pass0 (pa_cons (pv 1) pa_nil))))
      (pss_one (ps_raise rfl (takes_of rfl rfl rfl rfl) (PW.pmk0 (xmk_InvalidText hP T) (raises_own T.x_InvalidText.oex.exC T.x_InvalidText.oex.tyC) T.x_InvalidText.oex.kC T.g_InvalidText hr rfl)))
      pss_nil))), ?_⟩
    show tIfS _ _ _ _ [some (V.ref r), some (V.str w)] H
    walk_at "K"
    obtain ⟨dx, a, hr1, ha, hl⟩ := id hR
    walk_at "go"
    refine ⟨r, w, src, l, e, rfl, hR, hs, hw, fun l' q H' hR' x => ?_, fun q => ?_⟩
    · walk_at "go"
      exact h1 l' q H' hR' x
    · walk_at "go"
      exact fun d hd => (h2 q).new hr1 hd
theorem ok_enter (hP : IsPG P) (T : Txt K mg) : FnOk P w K mg base (L2.CX P w) 1 (He.ma K (He.ga K "Reader") "enter") (fdOf K (He.fAd K ("Reader", some "enter"))) p_Reader_enter (spEnter K) := by
  refine FunD.ok T.d_Reader_enter sc_Reader_enter (fun vs H Q E h => ?_) (fun cdv A outer s H vs Q E hr h => ?_)
  · obtain ⟨r, src, l, e, rfl, _⟩ := h
    rfl
  · obtain ⟨r, src, l, e, rfl, ⟨dx, a, hr1, ha, hl⟩, h1, h2⟩ := h
    have kC := T.k_Reader
    have nD := T.n_Reader_depth
    refine ⟨_, ((pss_cons (ps_fldaug (pv 0) pe_int in_add)
    (pss_one (ps_if (pt_cmpR op_gt (pe_fld (pv 0) rfl) (pe_gint rfl T.c_MOST_DEPTH) (nomark _))
      (pss_one (ps_raise rfl (takes_of rfl rfl rfl rfl) (PW.pmk0 (xmk_InvalidText hP T) (raises_own T.x_InvalidText.oex.exC T.x_InvalidText.oex.tyC) T.x_InvalidText.oex.kC T.g_InvalidText hr rfl)))
      pss_nil)))), ?_⟩
    show tSeq _ _ _ [some (V.ref r)] H
    walk_at "K"
    walk_at "go"
    refine r_faug hr1 kC nD rfl ?_
    walk_at "go"
    refine r_aend hr1 (by show 3 < 1000; decide) ?_
    rw [putR_dp]
    have hr2 : (L2.upd H r (.ins (RdC K) dx (fsR (.str src) (.int a) (.int ((e : Int) + 1))))) r = some (.ins (RdC K) dx (fsR (.str src) (.int a) (.int ((e : Int) + 1)))) := upd_same
    have x2 : ExB r H (L2.upd H r (.ins (RdC K) dx (fsR (.str src) (.int a) (.int ((e : Int) + 1))))) := ExB.self
    generalize L2.upd H r (.ins (RdC K) dx (fsR (.str src) (.int a) (.int ((e : Int) + 1)))) = H2 at hr2 x2 ⊢
    walk_at "go"
    refine r_if2 (fun q => ?_) (fun q => ?_)
    · have q := of_decide_eq_true q
      walk_at "go"
      exact fun d hd => ((h2 (by omega)).on x2).new hr2 hd
    · have q := of_decide_eq_false q
      walk_at "go"
      refine h1 (by omega) H2 ⟨dx, a, ?_, ha, hl⟩ x2
      rw [hr2, show ((e + 1 : Nat) : Int) = (e : Int) + 1 by omega]
theorem ok_finish (hP : IsPG P) (T : Txt K mg) : FnOk P w K mg base (L2.CX P w) 1 (He.ma K (He.ga K "Reader") "finish") (fdOf K (He.fAd K ("Reader", some "finish"))) p_Reader_finish (spFinish K) := by
  refine FunD.ok T.d_Reader_finish sc_Reader_finish (fun vs H Q E h => ?_) (fun cdv A outer s H vs Q E hr h => ?_)
  · obtain ⟨r, src, l, e, rfl, _⟩ := h
    rfl
  · obtain ⟨r, src, l, e, rfl, ⟨dx, a, hr1, ha, hl⟩, hs, h1, h2⟩ := h
    have kC := T.k_Reader
    have nS := T.n_Reader_source
    have nA := T.n_Reader_at
    have hs2 := size_le hs
    refine ⟨_, ((pss_one (ps_if (pt_cmpR op_ne (pe_fld (pv 0) rfl) (pe_callB call_lenN (by rfl) T.f_len (by decide +kernel) (pa_cons (pe_fld (pv 0) rfl) pa_nil)) (nomark _))
      (pss_one (ps_raise rfl (takes_of rfl rfl rfl rfl) (PW.pmk0 (xmk_InvalidText hP T) (raises_own T.x_InvalidText.oex.exC T.x_InvalidText.oex.tyC) T.x_InvalidText.oex.kC T.g_InvalidText hr rfl)))
      pss_nil))), ?_⟩
    show tIfS _ _ _ _ [some (V.ref r)] H
    walk_at "K"
    walk_at "go"
    have hlen := congrArg List.length hl
    rw [List.length_drop, ← len_eq] at hlen
    refine r_if2 (fun q => ?_) (fun q => ?_)
    · have q : ¬ V.int (a : Int) = V.int (src.length : Int) := by simpa using q
      walk_at "go"
      refine fun d hd => (h2 fun z => ?_).new hr1 hd
      subst z
      rw [List.length_nil] at hlen
      rw [← len_eq] at ha
      exact q (congrArg V.int (by omega))
    · have q : V.int (a : Int) = V.int (src.length : Int) := by simpa using q
      have q := V.int.inj q
      walk_at "go"
      refine h1 (List.length_eq_zero_iff.mp (by omega))
theorem ok_run (T : Txt K mg) : FnOk P w K mg base CX0 (1) (He.ma K (He.ga K "Reader") "run") (fdOf K (He.fAd K ("Reader", some "run"))) p_Reader_run (spRun K) := by
  refine FunD.ok T.d_Reader_run sc_Reader_run (fun vs H Q E h => ?_) (fun cdv A outer s H vs Q E hr h => ?_)
  · obtain ⟨r, sg, src, l, e, p, rfl, _⟩ := h
    rfl
  · obtain ⟨r, sg, src, l, e, p, rfl, hp, ⟨dx, a, hr1, ha, hl⟩, hs, hQ⟩ := h
    have kC := T.k_Reader
    have nS := T.n_Reader_source
    have nA := T.n_Reader_at
    have hs2 := size_le hs
    refine ⟨_, PSs.nox ((pss_cons (ps_set (i := 2) sc_Reader_run.nd rfl (Or.inl rfl) (pe_fld (pv 0) rfl))
    (pss_cons (ps_while PassesOwn.never (PW.pt (pw_and (pt_cmpR op_lt (pe_fld (pv 0) rfl) (pe_callB call_lenN (by rfl) T.f_len (by decide +kernel) (pa_cons (pe_fld (pv 0) rfl) pa_nil)) (nomark _)) (pw_and1 (pt_cmpR op_inS (pe_ix ix_str (pe_fld (pv 0) rfl) (pe_fld (pv 0) rfl) (fun _ _ => rfl)) (pv 1) rfl))))
      (pss_one (ps_fldaug (pv 0) pe_int in_add)))
    (pss_one (ps_ret (pe_slice sl_str (pe_fld (pv 0) rfl) (po_some (pv 2)) (po_some (pe_fld (pv 0) rfl)))))))), ?_⟩
    show tSeq _ _ _ [some (V.ref r), some (V.str sg), none] H
    walk_at "K"
    walk_at "go"
    obtain ⟨Pv, hPv⟩ : ∃ Pv : Nat → L2.St → Hp → Prop, Pv = fun m σ H' => ∃ x y, σ = [some (V.ref r), some (V.str sg), some (V.int (a : Int))] ∧ l = x ++ y ∧ m = y.length ∧ (∀ c ∈ x, p c = true) ∧ H' r = some (.ins (RdC K) dx (fsR (.str src) (.int ((a + x.length : Nat) : Int)) (.int e))) ∧ ExB r H H' := ⟨_, rfl⟩
    refine while_it Pv (m0 := l.length) (by rw [hPv]; exact ⟨[], l, rfl, rfl, rfl, (fun c hc => nomatch hc), hr1, ExB.refl⟩) ?_
    intro m σ H1 hpv
    rw [hPv] at hpv
    obtain ⟨x, y, rfl, rfl, rfl, hx, hr2, x1⟩ := hpv
    have hq := rd_pass ha hl rfl
    have fin : (∀ c, y.head? = some c → p c = false) → Q (.str (cutS src (some (a : Int)) (some ((a + x.length : Nat) : Int)))) H1 := fun hy => by
      have tw := Rd.tw_app hx hy
      have e1 : cutS src (some (a : Int)) (some ((a + x.length : Nat) : Int)) = ⟨((x ++ y).takeWhile p).toArray⟩ := TL.ext_tl (by
        rw [tl_cut, hl, show a + x.length - a = x.length by omega, List.take_left, tw.1])
      rw [e1]
      refine hQ H1 ⟨dx, a + x.length, hr2, hq.1, ?_⟩ x1
      rw [tw.2]
      exact hq.2
    walk_at "go"
    have hlen := congrArg List.length hq.2
    rw [List.length_drop, ← len_eq] at hlen
    refine r_if2 (fun q => ?_) (fun q => ?_)
    · have q := of_decide_eq_true q
      walk_at "go"
      obtain ⟨c, y2, rfl⟩ : ∃ c y2, y = c :: y2 := by
        cases y with
        | nil =>
          rw [List.length_nil] at hlen
          rw [← len_eq] at hq
          omega
        | cons c y2 => exact ⟨c, y2, rfl⟩
      have hc : (TL.tl src)[a + x.length]? = some c := by
        have e := congrArg List.head? hq.2
        rw [List.head?_drop] at e
        exact e
      refine r_ixS hs2 (atI_nat hc) ?_
      walk_at "go"
      rw [hp c]
      cases hc2 : p c with
      | true =>
        refine r_ifT ?_
        refine r_turn ?_
        walk_at "go"
        refine r_faug hr2 kC nA rfl ?_
        walk_at "go"
        refine r_aend hr2 (by show 3 < 1000; decide) ?_
        rw [putR_at]
        refine ⟨y2.length, by rw [List.length_cons]; omega, ?_⟩
        rw [hPv]
        refine ⟨x ++ [c], y2, rfl, by simp, rfl, ?_, ?_, x1.trans ExB.self⟩
        · intro d hd
          rcases List.mem_append.mp hd with hd | hd
          · exact hx d hd
          · rw [List.mem_singleton.mp hd]
            exact hc2
        · rw [upd_same, List.length_append, show ((a + (x.length + [c].length) : Nat) : Int) = ((a + x.length : Nat) : Int) + 1 by simp only [List.length_cons, List.length_nil]; omega]
      | false =>
        refine r_ifF ?_
        walk_at "go"
        exact fin fun d hd => by
          have hd : c = d := Option.some.inj hd
          subst hd
          exact hc2
    · have q := of_decide_eq_false q
      walk_at "go"
      refine fin fun d hd => ?_
      have : y = [] := List.length_eq_zero_iff.mp (by rw [← len_eq] at hq; omega)
      subst this
      cases hd
theorem ok_word {k : Nat} (T : Txt K mg) (G_Reader_run : FnOk P w K mg base CX0 k (He.ma K (He.ga K "Reader") "run") (fdOf K (He.fAd K ("Reader", some "run"))) p_Reader_run (spRun K)) : FnOk P w K mg base CX0 (k + 1) (He.ma K (He.ga K "Reader") "word") (fdOf K (He.fAd K ("Reader", some "word"))) p_Reader_word (spWord K) := by
  refine FunD.ok T.d_Reader_word sc_Reader_word (fun vs H Q E h => ?_) (fun cdv A outer s H vs Q E hr h => ?_)
  · obtain ⟨r, src, l, e, rfl, _⟩ := h
    rfl
  · obtain ⟨r, src, l, e, rfl, hR, hs, hQ⟩ := h
    have kC := T.k_Reader
    have nA := T.n_Reader_at
    refine ⟨_, PSs.nox ((pss_cons (ps_set (i := 1) sc_Reader_word.nd rfl (Or.inl rfl) (pe_fld (pv 0) rfl))
    (pss_cons (ps_set (i := 2) sc_Reader_word.nd rfl (Or.inl rfl) (pe_meth (pv 0) T.k_Reader T.m_Reader_run G_Reader_run hr (b_Reader_run T) .nil pass0 (pa_cons (pe_gstr rfl T.c_LETTERS) pa_nil)))
    (pss_cons (ps_fld (pv 0) (pv 1) rfl)
    (pss_one (ps_ret (pv 2))))))), ?_⟩
    show tSeq _ _ _ [some (V.ref r), none, none] H
    walk_at "K"
    obtain ⟨dx, a, hr1, ha, hl⟩ := id hR
    walk_at "go"
    refine ⟨r, _, src, l, e, Rd.isLet, rfl, fun c => ?_, hR, hs, fun H1 ⟨dx1, a1, hr2, ha1, hl1⟩ x1 => ?_⟩
    · have h : c ∈ (Str.ofString "abcdefghijklmnopqrstuvwxyz").cps.toList ↔ 97 ≤ c ∧ c ≤ 122 := mem_letters (c := c)
      unfold Rd.isLet
      by_cases q : 97 ≤ c ∧ c ≤ 122
      · rw [decide_eq_true (h.mpr q), decide_eq_true q.1, decide_eq_true q.2]
        rfl
      · rw [decide_eq_false (fun z => q (h.mp z))]
        symm
        simp only [Bool.and_eq_false_iff, decide_eq_false_iff_not]
        omega
    · walk_at "go"
      rw [putR_at]
      exact hQ _ ⟨dx1, a, upd_same, ha, hl⟩ (x1.trans ExB.self)
end
end PW
/-! ### terms read -/
namespace PW
open PySem PySem.Spec PyProof.Rows L2
def spRNum (K : PySem.W.Frag) : Sp := fun vs H Q E => ∃ r src l e, vs = [.ref r] ∧ RdAt K H r src l e ∧ src.length ≤ 100000 ∧ (∀ i l', Rd.num l = some (i, l') → ∀ H', RdAt K H' r src l' e → ExB r H H' → Q (.int i) H') ∧ (Rd.num l = none → TxtE K r H E)
theorem S_len (a : List Nat) : (⟨a.toArray⟩ : Str).length = a.length := len_eq _
theorem digs_mem (c : Nat) : decide (c ∈ (Str.ofString "0123456789").cps.toList) = Rd.isDig c := by
  have e : (Str.ofString "0123456789").cps.toList = [48, 49, 50, 51, 52, 53, 54, 55, 56, 57] := by decide +kernel
  have h : c ∈ (Str.ofString "0123456789").cps.toList ↔ 48 ≤ c ∧ c ≤ 57 := by
    rw [e]
    constructor
    · intro h
      simp only [List.mem_cons, List.not_mem_nil, or_false] at h
      omega
    · rintro ⟨h1, h2⟩
      simp only [List.mem_cons, List.not_mem_nil, or_false]
      omega
  unfold Rd.isDig
  by_cases q : 48 ≤ c ∧ c ≤ 57
  · rw [decide_eq_true (h.mpr q), decide_eq_true q.1, decide_eq_true q.2]
    rfl
  · rw [decide_eq_false (fun z => q (h.mp z))]
    symm
    simp only [Bool.and_eq_false_iff, decide_eq_false_iff_not]
    omega
theorem lets_mem (c : Nat) : decide (c ∈ (Str.ofString "abcdefghijklmnopqrstuvwxyz").cps.toList) = Rd.isLet c := by
  have h : c ∈ (Str.ofString "abcdefghijklmnopqrstuvwxyz").cps.toList ↔ 97 ≤ c ∧ c ≤ 122 := mem_letters (c := c)
  unfold Rd.isLet
  by_cases q : 97 ≤ c ∧ c ≤ 122
  · rw [decide_eq_true (h.mpr q), decide_eq_true q.1, decide_eq_true q.2]
    rfl
  · rw [decide_eq_false (fun z => q (h.mp z))]
    symm
    simp only [Bool.and_eq_false_iff, decide_eq_false_iff_not]
    omega
theorem tw_all {p : Nat → Bool} : ∀ {l : List Nat}, ∀ c ∈ l.takeWhile p, p c = true
  | [], c, h => nomatch h
  | d :: r, c, h => by
    rw [List.takeWhile_cons] at h
    split at h
    · rename_i q
      rcases List.mem_cons.mp h with rfl | h
      · exact q
      · exact tw_all c h
    · cases h
theorem tw_len {p : Nat → Bool} (l : List Nat) : (l.takeWhile p).length ≤ l.length := by
  have := List.takeWhile_append_dropWhile (p := p) (l := l)
  have := congrArg List.length this
  rw [List.length_append] at this
  omega
section
variable {P : Program} {w : World} {K : PySem.W.Frag} {mg : Str → Option Value} {base : Heap}
theorem ok_read_number {k : Nat} (hP : IsPG P) (T : Txt K mg)
    (G_Reader_accept : FnOk P w K mg base CX0 k (He.ma K (He.ga K "Reader") "accept") (fdOf K (He.fAd K ("Reader", some "accept"))) p_Reader_accept (spAcc K))
    (G_Reader_run : FnOk P w K mg base CX0 k (He.ma K (He.ga K "Reader") "run") (fdOf K (He.fAd K ("Reader", some "run"))) p_Reader_run (spRun K)) : FnOk P w K mg base (L2.CX P w) (k + 1) (He.ga K "read_number") (fdOf K (He.ga K "read_number")) p_read_number (spRNum K) := by
  refine FunD.ok T.d_read_number sc_read_number (fun vs H Q E h => ?_) (fun cdv A outer s H vs Q E hr h => ?_)
  · obtain ⟨r, src, l, e, rfl, _⟩ := h
    rfl
  · obtain ⟨r, src, l, e, rfl, hR, hs, h1, h2⟩ := h
    have kC := T.k_Reader
    refine ⟨_, ((pss_cons (ps_set (i := 1) sc_read_number.nd rfl (Or.inl rfl) (pe_meth (pv 0) T.k_Reader T.m_Reader_accept G_Reader_accept hr (b_Reader_accept T) .nil pass0 (pa_cons pe_str pa_nil)))
    (pss_cons (ps_set (i := 2) sc_read_number.nd rfl (Or.inl rfl) (pe_meth (pv 0) T.k_Reader T.m_Reader_run G_Reader_run hr (b_Reader_run T) .nil pass0 (pa_cons (pe_gstr rfl T.c_DIGITS) pa_nil)))
    (pss_cons (ps_if (PW.pt (pw_or (pt_not (pt_chain op_le op_le pe_int (pe_callB call_lenN (by rfl) T.f_len (by decide +kernel) (pa_cons (pv 2) pa_nil)) (pe_gint rfl T.c_MOST_DIGITS))) (pw_or1 (PW.pt (pw_and (pt_cmpR op_eq (pe_ix ix_str (pv 2) pe_int (fun _ _ => rfl)) pe_str (nomark _)) (pw_and1 (PW.pt (pw_or (pt_cmpR op_gt (pe_callB call_lenN (by rfl) T.f_len (by decide +kernel) (pa_cons (pv 2) pa_nil)) pe_int (nomark _)) (pw_or1 (pt_val (pv 1)))))))))))
      (pss_one (ps_raise rfl (takes_of rfl rfl rfl rfl) (PW.pmk0 (xmk_InvalidText hP T) (raises_own T.x_InvalidText.oex.exC T.x_InvalidText.oex.tyC) T.x_InvalidText.oex.kC T.g_InvalidText hr rfl)))
      pss_nil)
    (pss_one (ps_ret (pe_ifExp (pt_val (pv 1)) (pe_un un_neg (pe_callTy call_int_str (by rfl) T.f_int (by decide +kernel) (pa_cons (pv 2) pa_nil))) (pe_callTy call_int_str (by rfl) T.f_int (by decide +kernel) (pa_cons (pv 2) pa_nil))))))))), ?_⟩
    show tSeq _ _ _ [some (V.ref r), none, none] H
    walk_at "K"
    refine r_seqP (fun σ' H' => ∃ m l1, σ' = [some (V.ref r), some (.bl m), none] ∧ m = (Rd.acc [45] l).isSome ∧ l1 = (Rd.acc [45] l).getD l ∧ RdAt K H' r src l1 e ∧ ExB r H H') ?_ ?_
    · rintro σ' H1 ⟨m, l1, rfl, hm, hl1, hR1, x1⟩
      obtain ⟨dx, a, hr1, ha, hl⟩ := id hR1
      have hlen : l1.length ≤ 100000 := by
        rw [← hl, List.length_drop, ← len_eq]
        omega
      have hds := tw_len (p := Rd.isDig) l1
      have hall : ∀ c ∈ l1.takeWhile Rd.isDig, Rd.isDig c = true := tw_all
      have hnum : Rd.num l = if 1 ≤ (l1.takeWhile Rd.isDig).length ∧ (l1.takeWhile Rd.isDig).length ≤ 9 ∧ ¬ ((l1.takeWhile Rd.isDig).head? = some 48 ∧ (1 < (l1.takeWhile Rd.isDig).length ∨ m = true)) then some (if m = true then -((NumText.digitsVal (l1.takeWhile Rd.isDig) : Nat) : Int) else ((NumText.digitsVal (l1.takeWhile Rd.isDig) : Nat) : Int), l1.dropWhile Rd.isDig) else none := by
        subst hm hl1
        rfl
      walk_at "go"
      refine ⟨r, _, src, l1, e, Rd.isDig, rfl, digs_mem, hR1, hs, fun H2 hR2 x2 => ?_⟩
      generalize l1.takeWhile Rd.isDig = ds at hds hall hnum ⊢
      have hsz : (⟨ds.toArray⟩ : Str).length ≤ sizeLine := size_le (by rw [S_len]; omega)
      have x12 := x1.trans x2
      obtain ⟨dx2, a2, hr2, ha2, hl2⟩ := id hR2
      have raise : Rd.num l = none → ∀ d, H2 d = none → E (.ref (He.ga K "InvalidText")) (some d) (L2.upd H2 d (.xd [("tag", .str "InvalidText")])) := fun q d hd => ((h2 q).on x12).new hr2 hd
      walk_at "go"
      have hint : ds ≠ [] → ds.length ≤ 9 → intText? (⟨ds.toArray⟩ : Str) = some ((NumText.digitsVal ds : Nat) : Int) := fun hne h9 => SX.int_S (List.all_eq_true.mpr hall) hne (by omega)
      have fin : (1 ≤ ds.length ∧ ds.length ≤ 9 ∧ ¬ (ds.head? = some 48 ∧ (1 < ds.length ∨ m = true))) → Q (.int (if m = true then -((NumText.digitsVal ds : Nat) : Int) else ((NumText.digitsVal ds : Nat) : Int))) H2 := fun c => h1 _ _ (by rw [hnum, if_pos c]) H2 hR2 x12
      refine r_if2 (fun q1 => ?_) (fun q1 => ?_)
      · have q1 := of_decide_eq_true q1
        rw [S_len] at q1
        have n1 : 1 ≤ ds.length := by omega
        walk_at "go"
        refine r_if2 (fun q2 => ?_) (fun q2 => ?_)
        · have q2 : ¬ ((⟨ds.toArray⟩ : Str).length : Int) ≤ 9 := by simpa using q2
          rw [S_len] at q2
          walk_at "go"
          exact raise (by rw [hnum, if_neg fun c => q2 (by omega)])
        · have q2 : ((⟨ds.toArray⟩ : Str).length : Int) ≤ 9 := by simpa using q2
          rw [S_len] at q2
          have n9 : ds.length ≤ 9 := by omega
          obtain ⟨c, ds2, rfl⟩ : ∃ c ds2, ds = c :: ds2 := by
            cases ds with
            | nil => exact absurd n1 (by decide)
            | cons c ds2 => exact ⟨c, ds2, rfl⟩
          have hl640 : (⟨(c :: ds2).toArray⟩ : Str).length ≤ 640 := by rw [S_len]; omega
          have hi := hint (List.cons_ne_nil _ _) n9
          have c48 : V.str (⟨#[c]⟩ : Str) = V.str (Str.ofString "0") ↔ c = 48 := by
            have e0 : (Str.ofString "0") = ⟨#[48]⟩ := by decide +kernel
            rw [e0]
            constructor
            · intro z
              have z := congrArg (fun y : Str => y.cps.toList) (V.str.inj z)
              simpa using z
            · rintro rfl
              rfl
          walk_at "go"
          refine r_ixS hsz (by exact atI0) ?_
          walk_at "go"
          refine r_if2 (fun q3 => ?_) (fun q3 => ?_)
          · have q3 := c48.mp (of_decide_eq_true q3)
            subst q3
            walk_at "go"
            refine r_if2 (fun q4 => ?_) (fun q4 => ?_)
            · have q4 := of_decide_eq_true q4
              rw [S_len] at q4
              walk_at "go"
              exact raise (by rw [hnum, if_neg fun c => c.2.2 ⟨rfl, .inl (by omega)⟩])
            · have q4 := of_decide_eq_false q4
              rw [S_len] at q4
              cases m with
              | true =>
                walk_at "go"
                exact raise (by rw [hnum, if_neg fun c => c.2.2 ⟨rfl, .inr rfl⟩])
              | false =>
                walk_at "go"
                refine ⟨_, _, rfl, hi, hl640, ?_⟩
                exact fin ⟨n1, n9, fun z => z.2.elim (fun y => q4 (by omega)) fun y => nomatch y⟩
          · have q3 : ¬ c = 48 := fun z => of_decide_eq_false q3 (c48.mpr z)
            have cond : ¬ ((c :: ds2).head? = some 48 ∧ (1 < (c :: ds2).length ∨ m = true)) := fun z => q3 (Option.some.inj z.1)
            walk_at "go"
            cases m with
            | true =>
              walk_at "go"
              refine ⟨_, _, rfl, hi, hl640, ?_⟩
              walk_at "go"
              exact fin ⟨n1, n9, cond⟩
            | false =>
              walk_at "go"
              refine ⟨_, _, rfl, hi, hl640, ?_⟩
              exact fin ⟨n1, n9, cond⟩
      · have q1 := of_decide_eq_false q1
        rw [S_len] at q1
        walk_at "go"
        exact raise (by rw [hnum, if_neg fun c => q1 (by omega)])
    · intro N hN
      obtain ⟨dx, a, hr1, ha, hl⟩ := id hR
      walk_at "go"
      refine ⟨r, _, src, l, e, rfl, hR, hs, by decide, fun l' q H' hR' x => ?_, fun q => ?_⟩
      · rw [show TL.tl (Str.ofString "-") = [45] from lit11] at q
        walk_at "go"
        exact hN _ _ ⟨true, l', rfl, by rw [q]; rfl, by rw [q]; rfl, hR', x⟩
      · rw [show TL.tl (Str.ofString "-") = [45] from lit11] at q
        walk_at "go"
        exact hN _ _ ⟨false, l, rfl, by rw [q]; rfl, by rw [q]; rfl, hR, ExB.refl⟩
end
end PW
/-! ### the reading shortens -/
namespace PW
open PySem PySem.Spec PyProof.Rows L2
namespace Rd
theorem acc_le {w l l' : List Nat} (h : acc w l = some l') : l'.length + w.length = l.length := by
  rw [acc_some h, List.length_append]
  omega
theorem dw_le (p : Nat → Bool) (l : List Nat) : (l.dropWhile p).length ≤ l.length := by
  have := congrArg List.length (List.takeWhile_append_dropWhile (p := p) (l := l))
  rw [List.length_append] at this
  omega
theorem num_le {l l' : List Nat} {i : Int} (h : num l = some (i, l')) : l'.length ≤ l.length := by
  unfold num at h
  cases q : acc [45] l with
  | none =>
    simp only [q, Option.isSome_none, Option.getD_none] at h
    split at h
    · have h := (Prod.mk.inj (Option.some.inj h)).2
      rw [← h]
      exact dw_le _ _
    · cases h
  | some l1 =>
    have := acc_le q
    simp only [q, Option.isSome_some, Option.getD_some] at h
    split at h
    · have h := (Prod.mk.inj (Option.some.inj h)).2
      rw [← h]
      have := dw_le isDig l1
      omega
    · cases h
section
variable {rd : List Nat → Option (Tm × List Nat)} (hrd : ∀ l t l', rd l = some (t, l') → l'.length ≤ l.length)
include hrd
theorem more_le : ∀ {f : Nat} {l l' : List Nat} {ts : List Tm}, more rd f l = some (ts, l') → l'.length ≤ l.length
  | 0, _, _, _, h => nomatch h
  | f + 1, l, l', ts, h => by
    unfold more at h
    split at h
    · have h := (Prod.mk.inj (Option.some.inj h)).2
      rw [← h]
      exact Nat.le_refl _
    · rename_i l1 q1
      have := acc_le q1
      split at h
      · cases h
      · rename_i t l2 q2
        have := hrd _ _ _ q2
        split at h
        · cases h
        · rename_i ts2 l3 q3
          have := more_le q3
          have h := (Prod.mk.inj (Option.some.inj h)).2
          subst h
          omega
theorem args_le {l l' : List Nat} {ts : List Tm} (h : args rd l = some (ts, l')) : l'.length ≤ l.length := by
  unfold args at h
  split at h
  · rename_i l1 q1
    have := acc_le q1
    have h := (Prod.mk.inj (Option.some.inj h)).2
    subst h
    omega
  · split at h
    · cases h
    · rename_i t l1 q1
      have := hrd _ _ _ q1
      split at h
      · cases h
      · rename_i ts2 l2 q2
        have := more_le hrd q2
        split at h
        · cases h
        · rename_i l3 q3
          have := acc_le q3
          split at h
          · have h := (Prod.mk.inj (Option.some.inj h)).2
            subst h
            omega
          · cases h
theorem pair_le {l l' : List Nat} {t : Tm} (h : pair rd l = some (t, l')) : l'.length ≤ l.length := by
  unfold pair at h
  split at h
  · cases h
  · rename_i t1 l1 q1
    have := hrd _ _ _ q1
    split at h
    · rename_i l2 q2
      have := acc_le q2
      split at h
      · cases h
      · rename_i m l3 q3
        have := num_le q3
        split at h
        · cases h
        · rename_i l4 q4
          have := acc_le q4
          split at h
          · have h := (Prod.mk.inj (Option.some.inj h)).2
            subst h
            omega
          · cases h
    · split at h
      · rename_i l2 q2
        have := acc_le q2
        split at h
        · cases h
        · rename_i u l3 q3
          have := hrd _ _ _ q3
          split at h
          · cases h
          · rename_i l4 q4
            have := acc_le q4
            have h := (Prod.mk.inj (Option.some.inj h)).2
            subst h
            omega
      · split at h
        · cases h
        · rename_i l2 q2
          have := acc_le q2
          split at h
          · cases h
          · rename_i u l3 q3
            have := hrd _ _ _ q3
            split at h
            · cases h
            · rename_i l4 q4
              have := acc_le q4
              have h := (Prod.mk.inj (Option.some.inj h)).2
              subst h
              omega
theorem word_le {l l' : List Nat} {t : Tm} (h : word rd l = some (t, l')) : l'.length ≤ l.length := by
  have hd := dw_le isLet l
  unfold word at h
  simp only at h
  split at h
  · split at h
    · cases h
    · rename_i l2 q2
      have := acc_le q2
      split at h
      · cases h
      · rename_i u l3 q3
        have := hrd _ _ _ q3
        split at h
        · cases h
        · rename_i l4 q4
          have := acc_le q4
          have h := (Prod.mk.inj (Option.some.inj h)).2
          subst h
          omega
  · split at h
    · split at h
      · have h := (Prod.mk.inj (Option.some.inj h)).2
        subst h
        exact hd
      · rename_i l2 q2
        have := acc_le q2
        split at h
        · cases h
        · rename_i as l3 q3
          have := args_le hrd q3
          have h := (Prod.mk.inj (Option.some.inj h)).2
          subst h
          omega
    · cases h
end
theorem term_le : ∀ {n : Nat} {l l' : List Nat} {t : Tm}, term n l = some (t, l') → l'.length ≤ l.length
  | 0, _, _, _, h => nomatch h
  | n + 1, l, l', t, h => by
    have ih : ∀ l t l', term n l = some (t, l') → l'.length ≤ l.length := fun l t l' h => term_le h
    unfold term at h
    split at h
    · rename_i l1 q1
      have := acc_le q1
      have := pair_le ih h
      omega
    · split at h
      · rename_i l1 q1
        have := acc_le q1
        split at h
        · cases h
        · rename_i u l2 q2
          have := ih _ _ _ q2
          have h := (Prod.mk.inj (Option.some.inj h)).2
          subst h
          omega
      · split at h
        · split at h
          · cases h
          · rename_i i l1 q1
            have := num_le q1
            split at h
            · have h := (Prod.mk.inj (Option.some.inj h)).2
              subst h
              omega
            · rename_i l2 q2
              have := acc_le q2
              split at h
              · cases h
              · split at h
                · cases h
                · rename_i u l3 q3
                  have := ih _ _ _ q3
                  have h := (Prod.mk.inj (Option.some.inj h)).2
                  subst h
                  omega
        · exact word_le ih h
end Rd
theorem RdAt.ex {K : PySem.W.Frag} {H H' : Hp} {r : Addr} {src : Str} {l : List Nat} {e : Nat} (x : Ex H H') (h : RdAt K H r src l e) : RdAt K H' r src l e := by
  obtain ⟨dx, a, h1, h2, h3⟩ := h
  exact ⟨dx, a, x _ _ h1, h2, h3⟩
theorem RdAt.some {K : PySem.W.Frag} {H : Hp} {r : Addr} {src : Str} {l : List Nat} {e : Nat} (h : RdAt K H r src l e) : ∃ u, H r = some u := by
  obtain ⟨dx, a, h1, _⟩ := h
  exact ⟨_, h1⟩
def spRTerm (K : PySem.W.Frag) (n : Nat) : Sp := fun vs H Q E => ∃ r src l e, vs = [.ref r] ∧ RdAt K H r src l e ∧ e + n = 20 ∧ src.length ≤ 100000 ∧ (∀ t l' v H', Rd.term n l = some (t, l') → RdAt K H' r src l' e → IsTm K (hide H' r) n v t → ExB r H H' → Q v H') ∧ (Rd.term n l = none → TxtE K r H E)
def spRPair (K : PySem.W.Frag) (n : Nat) : Sp := fun vs H Q E => ∃ r src l e, vs = [.ref r] ∧ RdAt K H r src l e ∧ e + n = 20 ∧ src.length ≤ 100000 ∧ (∀ t l' v H', Rd.pair (Rd.term n) l = some (t, l') → RdAt K H' r src l' e → IsTm K (hide H' r) (n + 1) v t → ExB r H H' → Q v H') ∧ (Rd.pair (Rd.term n) l = none → TxtE K r H E)
def spRWord (K : PySem.W.Frag) (n : Nat) : Sp := fun vs H Q E => ∃ r src l e, vs = [.ref r] ∧ RdAt K H r src l e ∧ e + n = 20 ∧ src.length ≤ 100000 ∧ (∀ t l' v H', Rd.word (Rd.term n) l = some (t, l') → RdAt K H' r src l' e → IsTm K (hide H' r) (n + 1) v t → ExB r H H' → Q v H') ∧ (Rd.word (Rd.term n) l = none → TxtE K r H E)
def spRArgs (K : PySem.W.Frag) (n : Nat) : Sp := fun vs H Q E => ∃ r src l e, vs = [.ref r] ∧ RdAt K H r src l e ∧ e + n = 20 ∧ src.length ≤ 100000 ∧ (∀ as l' q ys H', Rd.args (Rd.term n) l = some (as, l') → RdAt K H' r src l' e → (hide H' r) q = some (.tup ys) → Paired (IsTm K (hide H' r) n) ys as → ExB r H H' → Q (.ref q) H') ∧ (Rd.args (Rd.term n) l = none → TxtE K r H E)
end PW
namespace PW
open PySem PySem.Spec PyProof.Rows L2
section
variable {P : Program} {w : World} {K : PySem.W.Frag} {mg : Str → Option Value} {base : Heap}
theorem ok_read_pair {k n : Nat} (hP : IsPG P) (T : Txt K mg)
    (G_Reader_accept : FnOk P w K mg base CX0 k (He.ma K (He.ga K "Reader") "accept") (fdOf K (He.fAd K ("Reader", some "accept"))) p_Reader_accept (spAcc K))
    (G_Reader_need : FnOk P w K mg base (L2.CX P w) k (He.ma K (He.ga K "Reader") "need") (fdOf K (He.fAd K ("Reader", some "need"))) p_Reader_need (spNeed K))
    (G_read_number : FnOk P w K mg base (L2.CX P w) k (He.ga K "read_number") (fdOf K (He.ga K "read_number")) p_read_number (spRNum K))
    (G_read_term : FnOk P w K mg base (L2.CX P w) k (He.ga K "read_term") (fdOf K (He.ga K "read_term")) p_read_term (spRTerm K n)) : FnOk P w K mg base (L2.CX P w) (k + 1) (He.ga K "read_pair") (fdOf K (He.ga K "read_pair")) p_read_pair (spRPair K n) := by
  refine FunD.ok T.d_read_pair sc_read_pair (fun vs H Q E h => ?_) (fun cdv A outer s H vs Q E hr h => ?_)
  · obtain ⟨r, src, l, e, rfl, _⟩ := h
    rfl
  · obtain ⟨r, src, l, e, rfl, hR, he, hs, h1, h2⟩ := h
    have kC := T.k_Reader
    refine ⟨_, ((pss_cons (ps_set (i := 1) sc_read_pair.nd rfl (Or.inl rfl) (pe_call G_read_term hr rfl T.g_read_term T.d_read_term.kp (b_read_term T) .nil (passes_call (takes_of rfl rfl rfl rfl) (fun _ _ _ _ h => h)) (pa_cons (pv 0) pa_nil)))
    (pss_cons (ps_if (pt_val (pe_meth (pv 0) T.k_Reader T.m_Reader_accept G_Reader_accept hr (b_Reader_accept T) .nil pass0 (pa_cons pe_str pa_nil)))
      (pss_cons (ps_set (i := 2) sc_read_pair.nd rfl (Or.inl rfl) (pe_call G_read_number hr rfl T.g_read_number T.d_read_number.kp (b_read_number T) .nil (passes_call (takes_of rfl rfl rfl rfl) (fun _ _ _ _ h => h)) (pa_cons (pv 0) pa_nil)))
        (pss_cons (ps_expr (pe_meth (pv 0) T.k_Reader T.m_Reader_need G_Reader_need hr (b_Reader_need T) .nil (passes_call (takes_of rfl rfl rfl rfl) (fun _ _ _ _ h => h)) (pa_cons pe_str pa_nil)))
        (pss_cons (ps_if (pt_not (pt_chain op_le op_le pe_int (pv 2) (pe_gint rfl T.c_MOST_FACTOR)))
          (pss_one (ps_raise rfl (takes_of rfl rfl rfl rfl) (PW.pmk0 (xmk_InvalidText hP T) (raises_own T.x_InvalidText.oex.exC T.x_InvalidText.oex.tyC) T.x_InvalidText.oex.kC T.g_InvalidText hr rfl)))
          pss_nil)
        (pss_one (ps_ret (pe_tup (pa_cons pe_str (pa_cons (pv 1) (pa_cons (pv 2) pa_nil)))))))))
      pss_nil)
    (pss_cons (ps_set (i := 3) sc_read_pair.nd rfl (Or.inl rfl) (pe_ifExp (pt_val (pe_meth (pv 0) T.k_Reader T.m_Reader_accept G_Reader_accept hr (b_Reader_accept T) .nil pass0 (pa_cons pe_str pa_nil))) pe_str pe_str))
    (pss_cons (ps_if (pt_cmpR op_eq (pv 3) pe_str (nomark _))
      (pss_one (ps_expr (pe_meth (pv 0) T.k_Reader T.m_Reader_need G_Reader_need hr (b_Reader_need T) .nil (passes_call (takes_of rfl rfl rfl rfl) (fun _ _ _ _ h => h)) (pa_cons pe_str pa_nil))))
      pss_nil)
    (pss_cons (ps_set (i := 4) sc_read_pair.nd rfl (Or.inl rfl) (pe_call G_read_term hr rfl T.g_read_term T.d_read_term.kp (b_read_term T) .nil (passes_call (takes_of rfl rfl rfl rfl) (fun _ _ _ _ h => h)) (pa_cons (pv 0) pa_nil)))
    (pss_cons (ps_expr (pe_meth (pv 0) T.k_Reader T.m_Reader_need G_Reader_need hr (b_Reader_need T) .nil (passes_call (takes_of rfl rfl rfl rfl) (fun _ _ _ _ h => h)) (pa_cons pe_str pa_nil)))
    (pss_one (ps_ret (pe_tup (pa_cons (pv 3) (pa_cons (pv 1) (pa_cons (pv 4) pa_nil))))))))))))), ?_⟩
    show tSeq _ _ _ [some (V.ref r), none, none, none, none] H
    walk_at "K"
    walk_at "go"
    refine ⟨r, src, l, e, rfl, hR, he, hs, fun t l1 v H1 q1 hR1 ht1 x1 => ?_, fun q1 => h2 (by unfold Rd.pair; rw [q1])⟩
    obtain ⟨dx1, a1, hr1, ha1, hl1⟩ := id hR1
    walk_at "go"
    refine ⟨r, _, src, l1, e, rfl, hR1, hs, by decide, fun l2 q2 H2 hR2 x2 => ?_, fun q2 => ?_⟩
    · rw [lit6] at q2
      walk_at "go"
      have x12 := x1.trans x2
      refine ⟨r, src, l2, e, rfl, hR2, hs, fun m l3 q3 H3 hR3 x3 => ?_, fun q3 => (h2 (by unfold Rd.pair; simp only [q1, q2, q3])).on x12⟩
      obtain ⟨dx3, a3, hr3, ha3, hl3⟩ := id hR3
      have x13 := x12.trans x3
      walk_at "go"
      refine ⟨r, _, src, l3, e, rfl, hR3, hs, by decide, fun l4 q4 H4 hR4 x4 => ?_, fun q4 => (h2 (by unfold Rd.pair; rw [lit3] at q4; simp only [q1, q2, q3, q4])).on x13⟩
      rw [lit3] at q4
      obtain ⟨dx4, a4, hr4, ha4, hl4⟩ := id hR4
      have x14 := x13.trans x4
      have raise : ¬ (1 ≤ m ∧ m ≤ 99) → ∀ d, H4 d = none → E (.ref (He.ga K "InvalidText")) (some d) (L2.upd H4 d (.xd [("tag", .str "InvalidText")])) := fun q d hd => ((h2 (by unfold Rd.pair; simp only [q1, q2, q3, q4]; rw [if_neg q])).on x14).new hr4 hd
      walk_at "go"
      refine r_if2 (fun c1 => ?_) (fun c1 => ?_)
      · have c1 := of_decide_eq_true c1
        walk_at "go"
        refine r_if2 (fun c2 => ?_) (fun c2 => ?_)
        · have c2 : ¬ m ≤ 99 := by simpa using c2
          walk_at "go"
          exact raise fun z => c2 z.2
        · have c2 : m ≤ 99 := by simpa using c2
          walk_at "go"
          intro p hp
          obtain ⟨uu, hu⟩ := hR4.some
          exact h1 (.quo t m) l4 _ _ (by unfold Rd.pair; simp only [q1, q2, q3, q4]; rw [if_pos ⟨c1, c2⟩]) (hR4.ex (Ex.new hp)) (tm_new (t := .quo t m) hu hp ⟨_, rfl, ht1.ex ((x2.trans x3).trans x4).hd⟩) (x14.trans (Ex.new hp).tb)
      · have c1 := of_decide_eq_false c1
        walk_at "go"
        exact raise fun z => c1 z.1
    · rw [lit6] at q2
      walk_at "go"
      refine ⟨r, _, src, l1, e, rfl, hR1, hs, by decide, fun l3 q3 H3 hR3 x3 => ?_, fun q3 => ?_⟩
      · rw [lit7] at q3
        have x13 := x1.trans x3
        walk_at "go"
        refine ⟨r, src, l3, e, rfl, hR3, he, hs, fun u l4 v4 H4 q4 hR4 hu4 x4 => ?_, fun q4 => (h2 (by unfold Rd.pair; simp only [q1, q2, q3, q4])).on x13⟩
        have hR4' := hR4
        obtain ⟨dx4, a4, hr4, ha4, hl4⟩ := id hR4
        have x14 := x13.trans x4
        walk_at "go"
        refine ⟨r, _, src, l4, e, rfl, hR4, hs, by decide, fun l5 q5 H5 hR5 x5 => ?_, fun q5 => (h2 (by unfold Rd.pair; rw [lit3] at q5; simp only [q1, q2, q3, q4, q5])).on x14⟩
        rw [lit3] at q5
        walk_at "go"
        intro p hp
        obtain ⟨uu, hu⟩ := hR5.some
        refine h1 (.add t u) l5 _ _ (by unfold Rd.pair; simp only [q1, q2, q3, q4, q5]) (hR5.ex (Ex.new hp)) (tm_new (t := .add t u) hu hp ⟨_, _, rfl, ht1.ex ((x3.trans x4).trans x5).hd, hu4.ex x5.hd⟩) ((x14.trans x5).trans (Ex.new hp).tb)
      · rw [lit7] at q3
        walk_at "go"
        refine ⟨r, _, src, l1, e, rfl, hR1, hs, by decide, fun l3 qs H3 hR3 x3 => ?_, fun qs => (h2 (by unfold Rd.pair; rw [lit8] at qs; simp only [q1, q2, q3, qs])).on x1⟩
        rw [lit8] at qs
        have x13 := x1.trans x3
        walk_at "go"
        refine ⟨r, src, l3, e, rfl, hR3, he, hs, fun u l4 v4 H4 q4 hR4 hu4 x4 => ?_, fun q4 => (h2 (by unfold Rd.pair; simp only [q1, q2, q3, qs, q4])).on x13⟩
        have hR4' := hR4
        obtain ⟨dx4, a4, hr4, ha4, hl4⟩ := id hR4
        have x14 := x13.trans x4
        walk_at "go"
        refine ⟨r, _, src, l4, e, rfl, hR4, hs, by decide, fun l5 q5 H5 hR5 x5 => ?_, fun q5 => (h2 (by unfold Rd.pair; rw [lit3] at q5; simp only [q1, q2, q3, qs, q4, q5])).on x14⟩
        rw [lit3] at q5
        walk_at "go"
        intro p hp
        obtain ⟨uu, hu⟩ := hR5.some
        refine h1 (.sub t u) l5 _ _ (by unfold Rd.pair; simp only [q1, q2, q3, qs, q4, q5]) (hR5.ex (Ex.new hp)) (tm_new (t := .sub t u) hu hp ⟨_, _, rfl, ht1.ex ((x3.trans x4).trans x5).hd, hu4.ex x5.hd⟩) ((x14.trans x5).trans (Ex.new hp).tb)
end
end PW
namespace PW
open PySem PySem.Spec PyProof.Rows L2
theorem prd_app' {α β : Type} {F : α → β → Prop} : ∀ {xs xs' : List α} {ys ys' : List β}, Paired F xs ys → Paired F xs' ys' → Paired F (xs ++ xs') (ys ++ ys')
  | _, _, _, _, .nil, h => h
  | _, _, _, _, .cons a b, h => .cons a (prd_app' b h)
/-- terms are made of tuples -/
theorem IsTm.tups {K : PySem.W.Frag} {H H' : Hp} (x : ∀ {p : Addr} {xs : List V}, H p = some (.tup xs) → H' p = some (.tup xs)) : ∀ {d : Nat} {v : V} {t : Tm}, IsTm K H d v t → IsTm K H' d v t
  | 0, _, _, h => h.elim
  | d + 1, v, t, h => by
    obtain ⟨p, xs, e, h1, h2⟩ := h
    exact ⟨p, xs, e, x h1, h2.imp (fun q => x q) fun _ _ z => IsTm.tups x z⟩
theorem tup_put {H : Hp} {r a p : Addr} {xs : List V} {o u : HO} (ha : H a = some o) (ho : ∀ zs, o ≠ .tup zs) (h : (hide H r) p = some (.tup xs)) : (hide (L2.upd H a u) r) p = some (.tup xs) := by
  have nr : p ≠ r := fun z => by
    rw [z, hide_same] at h
    cases h
  rw [hide_ne nr] at h
  have na : p ≠ a := fun z => by
    rw [z, ha] at h
    exact ho _ (Option.some.inj h)
  rw [hide_ne nr, upd_ne na]
  exact h
theorem RdAt.put {K : PySem.W.Frag} {H : Hp} {r a : Addr} {src : Str} {l : List Nat} {e : Nat} {u : HO} (n : a ≠ r) (h : RdAt K H r src l e) : RdAt K (L2.upd H a u) r src l e := by
  obtain ⟨dx, p, h1, h2, h3⟩ := h
  exact ⟨dx, p, by rw [upd_ne (Ne.symm n)]; exact h1, h2, h3⟩
section
variable {P : Program} {w : World} {K : PySem.W.Frag} {mg : Str → Option Value} {base : Heap}
theorem ok_read_arguments {k n : Nat} (hP : IsPG P) (T : Txt K mg)
    (G_Reader_accept : FnOk P w K mg base CX0 k (He.ma K (He.ga K "Reader") "accept") (fdOf K (He.fAd K ("Reader", some "accept"))) p_Reader_accept (spAcc K))
    (G_Reader_need : FnOk P w K mg base (L2.CX P w) k (He.ma K (He.ga K "Reader") "need") (fdOf K (He.fAd K ("Reader", some "need"))) p_Reader_need (spNeed K))
    (G_read_term : FnOk P w K mg base (L2.CX P w) k (He.ga K "read_term") (fdOf K (He.ga K "read_term")) p_read_term (spRTerm K n)) : FnOk P w K mg base (L2.CX P w) (k + 1) (He.ga K "read_arguments") (fdOf K (He.ga K "read_arguments")) p_read_arguments (spRArgs K n) := by
  refine FunD.ok T.d_read_arguments sc_read_arguments (fun vs H Q E h => ?_) (fun cdv A outer s H vs Q E hr h => ?_)
  · obtain ⟨r, src, l, e, rfl, _⟩ := h
    rfl
  · obtain ⟨r, src, l, e, rfl, hR, he, hs, h1, h2⟩ := h
    have kC := T.k_Reader
    refine ⟨_, ((pss_cons (ps_if (pt_val (pe_meth (pv 0) T.k_Reader T.m_Reader_accept G_Reader_accept hr (b_Reader_accept T) .nil pass0 (pa_cons pe_str pa_nil)))
      (pss_one (ps_ret (pe_tup pa_nil)))
      pss_nil)
    (pss_cons (ps_set (i := 1) sc_read_arguments.nd rfl (Or.inl rfl) (pe_lst (pa_cons (pe_call G_read_term hr rfl T.g_read_term T.d_read_term.kp (b_read_term T) .nil (passes_call (takes_of rfl rfl rfl rfl) (fun _ _ _ _ h => h)) (pa_cons (pv 0) pa_nil)) pa_nil)))
    (pss_cons (ps_while (passes_of rfl) (pt_val (pe_meth (pv 0) T.k_Reader T.m_Reader_accept G_Reader_accept hr (b_Reader_accept T) .nil pass0 (pa_cons pe_str pa_nil)))
      (pss_one (ps_expr (pe_bm PySem.F.plainAttrs_list PySem.F.slot_list_append PySem.F.type_list_append mt_append (pv 1) (pa_cons (pe_call G_read_term hr rfl T.g_read_term T.d_read_term.kp (b_read_term T) .nil (passes_call (takes_of rfl rfl rfl rfl) (fun _ _ _ _ h => h)) (pa_cons (pv 0) pa_nil)) pa_nil)))))
    (pss_cons (ps_expr (pe_meth (pv 0) T.k_Reader T.m_Reader_need G_Reader_need hr (b_Reader_need T) .nil (passes_call (takes_of rfl rfl rfl rfl) (fun _ _ _ _ h => h)) (pa_cons pe_str pa_nil)))
    (pss_cons (ps_if (pt_cmpR op_gt (pe_callB call_lenN (by rfl) T.f_len (by decide +kernel) (pa_cons (pv 1) pa_nil)) (pe_gint rfl T.c_MOST_ARGUMENTS) (nomark _))
      (pss_one (ps_raise rfl (takes_of rfl rfl rfl rfl) (PW.pmk0 (xmk_InvalidText hP T) (raises_own T.x_InvalidText.oex.exC T.x_InvalidText.oex.tyC) T.x_InvalidText.oex.kC T.g_InvalidText hr rfl)))
      pss_nil)
    (pss_one (ps_ret (pe_callTy call_tupleN (by rfl) T.f_tuple (by decide +kernel) (pa_cons (pv 1) pa_nil)))))))))), ?_⟩
    show tSeq _ _ _ [some (V.ref r), none] H
    walk_at "K"
    obtain ⟨dx0, a0, hr0, ha0, hl0⟩ := id hR
    have hle : l.length ≤ 100000 := by
      rw [← hl0, List.length_drop, ← len_eq]
      omega
    walk_at "go"
    refine ⟨r, _, src, l, e, rfl, hR, hs, by decide, fun l1 q1 H1 hR1 x1 => ?_, fun q1 => ?_⟩
    · rw [lit3] at q1
      walk_at "go"
      intro p hp
      obtain ⟨uu, hu⟩ := hR1.some
      exact h1 [] l1 p [] _ (by unfold Rd.args; simp only [q1]) (hR1.ex (Ex.new hp)) (hide_new hu hp) .nil (x1.trans (Ex.new hp).tb)
    · rw [lit3] at q1
      walk_at "go"
      refine ⟨r, src, l, e, rfl, hR, he, hs, fun t1 l1 v1 H1 q2 hR1 ht1 x1 => ?_, fun q2 => h2 (by unfold Rd.args; simp only [q1, q2])⟩
      have hl1 := Rd.term_le q2
      walk_at "go"
      intro l0 hl0'
      have hnr : l0 ≠ r := fun z => by
        obtain ⟨uu, hu⟩ := hR1.some
        rw [z, hu] at hl0'
        cases hl0'
      walk_at "go"
      have fl : H l0 = none := by
        cases q : H l0 with
        | none => rfl
        | some o =>
          rw [x1 _ _ hnr q] at hl0'
          cases hl0'
      obtain ⟨Pv, hPv⟩ : ∃ Pv : Nat → L2.St → Hp → Prop, Pv = fun m σ H' => ∃ ys dt l' f, σ = [some (V.ref r), some (V.ref l0)] ∧ RdAt K H' r src l' e ∧ H' l0 = some (.lst ys) ∧ Paired (IsTm K (hide H' r) n) ys (t1 :: dt) ∧ ExB r H H' ∧ m = l'.length ∧ l'.length < f ∧ ys.length + l'.length ≤ 100001 ∧
          (∀ ts l3, Rd.more (Rd.term n) f l' = some (ts, l3) → Rd.more (Rd.term n) (l1.length + 1) l1 = some (dt ++ ts, l3)) ∧ (Rd.more (Rd.term n) f l' = none → Rd.more (Rd.term n) (l1.length + 1) l1 = none) := ⟨_, rfl⟩
      refine while_it Pv (m0 := l1.length) ?_ ?_
      · rw [hPv]
        exact ⟨[v1], [], l1, l1.length + 1, rfl, hR1.ex (Ex.new hl0'), upd_same, .cons (ht1.ex ((Ex.new hl0').hides r)) .nil, x1.trans (Ex.new hl0').tb, rfl, by omega, by rw [List.length_cons, List.length_nil]; omega, fun ts l3 z => z, id⟩
      · intro m σ H2 hpv
        rw [hPv] at hpv
        obtain ⟨ys, dt, l', f, rfl, hR2, hl2, hys, x2, rfl, hf, hlen, hm1, hm2⟩ := hpv
        obtain ⟨f, rfl⟩ : ∃ g, f = g + 1 := ⟨f - 1, by omega⟩
        obtain ⟨dx2, a2, hr2, ha2, hll2⟩ := id hR2
        walk_at "go"
        refine ⟨r, _, src, l', e, rfl, hR2, hs, by decide, fun l4 q4 H4 hR4 x4 => ?_, fun q4 => ?_⟩
        · rw [lit2] at q4
          have hal := Rd.acc_le q4
          have hl2a := x4 _ _ hnr hl2
          walk_at "go"
          refine r_turn ?_
          walk_at "go"
          refine ⟨r, src, l4, e, rfl, hR4, he, hs, fun t5 l5 v5 H5 q5 hR5 ht5 x5 => ?_, fun q5 => (h2 ?_).on (x2.trans x4)⟩
          · have hl5 := Rd.term_le q5
            have hl2b := x5 _ _ hnr hl2a
            have hys5 := L2.Paired.mapP hys fun _ _ z => IsTm.ex ((x4.trans x5).hd) z
            have hll : [44, 32].length = 2 := rfl
            rw [hll] at hal
            walk_at "go"
            refine r_append hl2b (Nat.lt_of_le_of_lt (show ys.length ≤ 100001 by omega) (by decide)) ?_
            walk_at "go"
            have tp : ∀ {p : Addr} {xs : List V}, (hide H5 r) p = some (.tup xs) → (hide (L2.upd H5 l0 (.lst (ys ++ [v5]))) r) p = some (.tup xs) := fun z => tup_put hl2b (fun _ y => by cases y) z
            refine ⟨l5.length, by omega, ?_⟩
            rw [hPv]
            refine ⟨ys ++ [v5], dt ++ [t5], l5, f, rfl, hR5.put hnr, upd_same, ?_, ?_, rfl, by omega, by rw [List.length_append, List.length_cons, List.length_nil]; omega, fun ts l3 z => ?_, fun z => ?_⟩
            · exact prd_app' (L2.Paired.mapP hys5 fun _ _ z => IsTm.tups tp z) (.cons (IsTm.tups tp ht5) .nil)
            · intro a o na ho
              rw [upd_ne (ne_of_none ho fl)]
              exact ((x2.trans x4).trans x5) a o na ho
            · rw [hm1 (t5 :: ts) l3 (by unfold Rd.more; simp only [q4, q5, z])]
              simp
            · exact hm2 (by unfold Rd.more; simp only [q4, q5, z])
          · have := hm2 (by unfold Rd.more; simp only [q4, q5])
            unfold Rd.args
            simp only [q1, q2, this]
        · rw [lit2] at q4
          have hM := hm1 [] l' (by unfold Rd.more; simp only [q4])
          rw [List.append_nil] at hM
          walk_at "go"
          refine ⟨r, _, src, l', e, rfl, hR2, hs, by decide, fun l6 q6 H6 hR6 x6 => ?_, fun q6 => (h2 ?_).on x2⟩
          · rw [lit3] at q6
            have hl6 := x6 _ _ hnr hl2
            have hys6 := L2.Paired.mapP hys fun _ _ z => IsTm.ex x6.hd z
            obtain ⟨dx6, a6, hr6, ha6, hll6⟩ := id hR6
            have hyl := pr_len hys
            rw [List.length_cons] at hyl
            walk_at "go"
            refine r_if2 (fun c => ?_) (fun c => ?_)
            · have c := of_decide_eq_true c
              walk_at "go"
              refine fun d hd => ((h2 ?_).on (x2.trans x6)).new hr6 hd
              unfold Rd.args
              simp only [q1, q2, hM, q6]
              rw [if_neg (by omega)]
            · have c := of_decide_eq_false c
              walk_at "go"
              intro q hq
              obtain ⟨uu, hu⟩ := hR6.some
              refine h1 (t1 :: dt) l6 q ys _ ?_ (hR6.ex (Ex.new hq)) (hide_new hu hq) (L2.Paired.mapP hys6 fun _ _ z => IsTm.ex ((Ex.new hq).hides r) z) ((x2.trans x6).trans (Ex.new hq).tb)
              unfold Rd.args
              simp only [q1, q2, hM, q6]
              rw [if_pos (by omega)]
          · rw [lit3] at q6
            unfold Rd.args
            simp only [q1, q2, hM, q6]
end
end PW
namespace PW
open PySem PySem.Spec PyProof.Rows L2
theorem len_word {ds : List Nat} : V.str (⟨ds.toArray⟩ : Str) = V.str (Str.ofString "len") ↔ ds = [108, 101, 110] := by
  have e : (Str.ofString "len") = ⟨#[108, 101, 110]⟩ := by decide +kernel
  rw [e]
  constructor
  · intro z
    have z := congrArg (fun y : Str => y.cps.toList) (V.str.inj z)
    simpa using z
  · rintro rfl
    rfl
section
variable {P : Program} {w : World} {K : PySem.W.Frag} {mg : Str → Option Value} {base : Heap}
theorem ok_read_word {k n : Nat} (hP : IsPG P) (T : Txt K mg)
    (G_Reader_accept : FnOk P w K mg base CX0 k (He.ma K (He.ga K "Reader") "accept") (fdOf K (He.fAd K ("Reader", some "accept"))) p_Reader_accept (spAcc K))
    (G_Reader_run : FnOk P w K mg base CX0 k (He.ma K (He.ga K "Reader") "run") (fdOf K (He.fAd K ("Reader", some "run"))) p_Reader_run (spRun K))
    (G_is_name : FnOk P w K mg base CX0 k (He.ga K "is_name") (fdOf K (He.ga K "is_name")) p_is_name (spIsName K))
    (G_Reader_need : FnOk P w K mg base (L2.CX P w) k (He.ma K (He.ga K "Reader") "need") (fdOf K (He.fAd K ("Reader", some "need"))) p_Reader_need (spNeed K))
    (G_read_arguments : FnOk P w K mg base (L2.CX P w) k (He.ga K "read_arguments") (fdOf K (He.ga K "read_arguments")) p_read_arguments (spRArgs K n))
    (G_read_term : FnOk P w K mg base (L2.CX P w) k (He.ga K "read_term") (fdOf K (He.ga K "read_term")) p_read_term (spRTerm K n)) : FnOk P w K mg base (L2.CX P w) (k + 1) (He.ga K "read_word") (fdOf K (He.ga K "read_word")) p_read_word (spRWord K n) := by
  refine FunD.ok T.d_read_word sc_read_word (fun vs H Q E h => ?_) (fun cdv A outer s H vs Q E hr h => ?_)
  · obtain ⟨r, src, l, e, rfl, _⟩ := h
    rfl
  · obtain ⟨r, src, l, e, rfl, hR, he, hs, h1, h2⟩ := h
    have kC := T.k_Reader
    refine ⟨_, ((pss_cons (ps_set (i := 1) sc_read_word.nd rfl (Or.inl rfl) (pe_meth (pv 0) T.k_Reader T.m_Reader_run G_Reader_run hr (b_Reader_run T) .nil pass0 (pa_cons (pe_gstr rfl T.c_LETTERS) pa_nil)))
    (pss_cons (ps_if (pt_cmpR op_eq (pv 1) pe_str (nomark _))
      (pss_cons (ps_expr (pe_meth (pv 0) T.k_Reader T.m_Reader_need G_Reader_need hr (b_Reader_need T) .nil (passes_call (takes_of rfl rfl rfl rfl) (fun _ _ _ _ h => h)) (pa_cons pe_str pa_nil)))
        (pss_cons (ps_set (i := 2) sc_read_word.nd rfl (Or.inl rfl) (pe_call G_read_term hr rfl T.g_read_term T.d_read_term.kp (b_read_term T) .nil (passes_call (takes_of rfl rfl rfl rfl) (fun _ _ _ _ h => h)) (pa_cons (pv 0) pa_nil)))
        (pss_cons (ps_expr (pe_meth (pv 0) T.k_Reader T.m_Reader_need G_Reader_need hr (b_Reader_need T) .nil (passes_call (takes_of rfl rfl rfl rfl) (fun _ _ _ _ h => h)) (pa_cons pe_str pa_nil)))
        (pss_one (ps_ret (pe_tup (pa_cons pe_str (pa_cons (pv 2) pa_nil))))))))
      pss_nil)
    (pss_cons (ps_if (pt_not (pt_val (pe_call G_is_name hr rfl T.g_is_name T.d_is_name.kp (b_is_name T) .nil pass0 (pa_cons (pv 1) pa_nil))))
      (pss_one (ps_raise rfl (takes_of rfl rfl rfl rfl) (PW.pmk0 (xmk_InvalidText hP T) (raises_own T.x_InvalidText.oex.exC T.x_InvalidText.oex.tyC) T.x_InvalidText.oex.kC T.g_InvalidText hr rfl)))
      pss_nil)
    (pss_one (ps_ret (pe_ifExp (pt_val (pe_meth (pv 0) T.k_Reader T.m_Reader_accept G_Reader_accept hr (b_Reader_accept T) .nil pass0 (pa_cons pe_str pa_nil))) (pe_tup (pa_cons pe_str (pa_cons (pv 1) (pa_cons (pe_call G_read_arguments hr rfl T.g_read_arguments T.d_read_arguments.kp (b_read_arguments T) .nil (passes_call (takes_of rfl rfl rfl rfl) (fun _ _ _ _ h => h)) (pa_cons (pv 0) pa_nil)) pa_nil)))) (pe_tup (pa_cons pe_str (pa_cons (pv 1) pa_nil)))))))))), ?_⟩
    show tSeq _ _ _ [some (V.ref r), none, none] H
    walk_at "K"
    obtain ⟨dx0, a0, hr0, ha0, hl0⟩ := id hR
    have hle : l.length ≤ 100000 := by
      rw [← hl0, List.length_drop, ← len_eq]
      omega
    have htw := tw_len (p := Rd.isLet) l
    walk_at "go"
    refine ⟨r, _, src, l, e, Rd.isLet, rfl, lets_mem, hR, hs, fun H1 hR1 x1 => ?_⟩
    obtain ⟨dx1, a1, hr1, ha1, hl1⟩ := id hR1
    walk_at "go"
    refine r_if2 (fun c => ?_) (fun c => ?_)
    · have c := len_word.mp (of_decide_eq_true c)
      walk_at "go"
      refine ⟨r, _, src, _, e, rfl, hR1, hs, by decide, fun l2 q2 H2 hR2 x2 => ?_, fun q2 => (h2 (by unfold Rd.word; rw [lit1] at q2; simp only [c, if_true, q2])).on x1⟩
      rw [lit1] at q2
      have x12 := x1.trans x2
      walk_at "go"
      refine ⟨r, src, l2, e, rfl, hR2, he, hs, fun t l3 v3 H3 q3 hR3 ht3 x3 => ?_, fun q3 => (h2 (by unfold Rd.word; simp only [c, if_true, q2, q3])).on x12⟩
      obtain ⟨dx3, a3, hr3, ha3, hl3⟩ := id hR3
      have x13 := x12.trans x3
      walk_at "go"
      refine ⟨r, _, src, _, e, rfl, hR3, hs, by decide, fun l4 q4 H4 hR4 x4 => ?_, fun q4 => (h2 (by unfold Rd.word; rw [lit3] at q4; simp only [c, if_true, q2, q3, q4])).on x13⟩
      rw [lit3] at q4
      walk_at "go"
      intro p hp
      obtain ⟨uu, hu⟩ := hR4.some
      exact h1 (.len t) l4 _ _ (by unfold Rd.word; simp only [c, if_true, q2, q3, q4]) (hR4.ex (Ex.new hp)) (tm_new (t := .len t) hu hp ⟨_, rfl, ht3.ex x4.hd⟩) ((x13.trans x4).trans (Ex.new hp).tb)
    · have c : ¬ l.takeWhile Rd.isLet = [108, 101, 110] := fun z => of_decide_eq_false c (len_word.mpr z)
      walk_at "go"
      refine ⟨_, rfl, .inl ⟨_, rfl, by rw [S_len]; omega⟩, fun H2 x2 => ?_⟩
      have hR2 := hR1.ex x2
      obtain ⟨dx2, a2, hr2, ha2, hl2⟩ := id hR2
      have x12 := x1.trans x2.tb
      walk_at "go"
      cases nm : isNameZ (⟨(l.takeWhile Rd.isLet).toArray⟩ : Str) with
      | false =>
        rw [show isNameV (V.str (⟨(l.takeWhile Rd.isLet).toArray⟩ : Str)) = false from nm]
        walk_at "go"
        exact fun d hd => ((h2 (by unfold Rd.word; simp only; rw [if_neg c, if_neg (by rw [nm]; exact Bool.false_ne_true)])).on x12).new hr2 hd
      | true =>
        rw [show isNameV (V.str (⟨(l.takeWhile Rd.isLet).toArray⟩ : Str)) = true from nm]
        walk_at "go"
        refine ⟨r, _, src, _, e, rfl, hR2, hs, by decide, fun l3 q3 H3 hR3 x3 => ?_, fun q3 => ?_⟩
        · rw [lit1] at q3
          have x13 := x12.trans x3
          walk_at "go"
          refine ⟨r, src, l3, e, rfl, hR3, he, hs, fun as l4 q ys H4 q4 hR4 hq hys x4 => ?_, fun q4 => (h2 (by unfold Rd.word; simp only; rw [if_neg c, if_pos nm]; simp only [q3, q4])).on x13⟩
          walk_at "go"
          intro p hp
          obtain ⟨uu, hu⟩ := hR4.some
          exact h1 (.cal _ as) l4 _ _ (by unfold Rd.word; simp only; rw [if_neg c, if_pos nm]; simp only [q3, q4]) (hR4.ex (Ex.new hp)) (tm_new (t := .cal _ as) hu hp ⟨q, ys, rfl, hq, hys⟩) ((x13.trans x4).trans (Ex.new hp).tb)
        · rw [lit1] at q3
          walk_at "go"
          intro p hp
          obtain ⟨uu, hu⟩ := hR2.some
          exact h1 (.nam _) _ _ _ (by unfold Rd.word; simp only; rw [if_neg c, if_pos nm]; simp only [q3]) (hR2.ex (Ex.new hp)) ((tm_new (d := 0) (t := .nam _) hu hp rfl).up (by omega)) (x12.trans (Ex.new hp).tb)
theorem abs_na (i : Int) : (if i < 0 then -i else i) = (i.natAbs : Int) := by
  split <;> omega
theorem ok1_read_term {k n : Nat} {spj : Sp} (hP : IsPG P) (T : Txt K mg) (hj : n = 0 ∨ ∃ j, n = j + 1 ∧ spj = spRTerm K j)
    (G_Reader_accept : FnOk P w K mg base CX0 k (He.ma K (He.ga K "Reader") "accept") (fdOf K (He.fAd K ("Reader", some "accept"))) p_Reader_accept (spAcc K))
    (G_Reader_sees : FnOk P w K mg base CX0 k (He.ma K (He.ga K "Reader") "sees") (fdOf K (He.fAd K ("Reader", some "sees"))) p_Reader_sees (spSees K))
    (G_Reader_enter : FnOk P w K mg base (L2.CX P w) k (He.ma K (He.ga K "Reader") "enter") (fdOf K (He.fAd K ("Reader", some "enter"))) p_Reader_enter (spEnter K))
    (G_read_number : FnOk P w K mg base (L2.CX P w) k (He.ga K "read_number") (fdOf K (He.ga K "read_number")) p_read_number (spRNum K))
    (G_read_pair : ∀ j, n = j + 1 → FnOk P w K mg base (L2.CX P w) (k) (He.ga K "read_pair") (fdOf K (He.ga K "read_pair")) p_read_pair (spRPair K j))
    (G_read_word : ∀ j, n = j + 1 → FnOk P w K mg base (L2.CX P w) (k) (He.ga K "read_word") (fdOf K (He.ga K "read_word")) p_read_word (spRWord K j))
    (G_read_term : FnOk P w K mg base (L2.CX P w) k (He.ga K "read_term") (fdOf K (He.ga K "read_term")) p_read_term (spj)) : FnOk P w K mg base (L2.CX P w) (k + 1) (He.ga K "read_term") (fdOf K (He.ga K "read_term")) p_read_term (spRTerm K n) := by
  have G_read_pair : FnOk P w K mg base (L2.CX P w) (k) (He.ga K "read_pair") (fdOf K (He.ga K "read_pair")) p_read_pair (fun vs H Q E => ∃ j, n = j + 1 ∧ spRPair K j vs H Q E) := ⟨fun vs H Q E ⟨j, e, z⟩ => (G_read_pair j e).len vs H Q E z, fun A outer s H args us vs Q E hr he hb hv ⟨j, e, z⟩ => (G_read_pair j e).run A outer s H args us vs Q E hr he hb hv z⟩
  have G_read_word : FnOk P w K mg base (L2.CX P w) (k) (He.ga K "read_word") (fdOf K (He.ga K "read_word")) p_read_word (fun vs H Q E => ∃ j, n = j + 1 ∧ spRWord K j vs H Q E) := ⟨fun vs H Q E ⟨j, e, z⟩ => (G_read_word j e).len vs H Q E z, fun A outer s H args us vs Q E hr he hb hv ⟨j, e, z⟩ => (G_read_word j e).run A outer s H args us vs Q E hr he hb hv z⟩
  refine FunD.ok T.d_read_term sc_read_term (fun vs H Q E h => ?_) (fun cdv A outer s H vs Q E hr h => ?_)
  · obtain ⟨r, src, l, e, rfl, _⟩ := h
    rfl
  · obtain ⟨r, src, l, e, rfl, hR, he, hs, h1, h2⟩ := h
    have kC := T.k_Reader
    have nS := T.n_Reader_source
    have nA := T.n_Reader_at
    have nD := T.n_Reader_depth
    have hs2 := size_le hs
    refine ⟨_, ((pss_cons (ps_expr (pe_meth0 (pv 0) T.k_Reader T.m_Reader_enter G_Reader_enter hr (b_Reader_enter T) .nil (passes_call (takes_of rfl rfl rfl rfl) (fun _ _ _ _ h => h))))
    (pss_cons (ps_if (pt_val (pe_meth (pv 0) T.k_Reader T.m_Reader_accept G_Reader_accept hr (b_Reader_accept T) .nil pass0 (pa_cons pe_str pa_nil)))
      (pss_one (ps_set (i := 1) sc_read_term.nd rfl (Or.inl rfl) (pe_call G_read_pair hr rfl T.g_read_pair T.d_read_pair.kp (b_read_pair T) .nil (passes_call (takes_of rfl rfl rfl rfl) (fun _ _ _ _ h => h)) (pa_cons (pv 0) pa_nil))))
      (pss_one (ps_if (pt_val (pe_meth (pv 0) T.k_Reader T.m_Reader_accept G_Reader_accept hr (b_Reader_accept T) .nil pass0 (pa_cons pe_str pa_nil)))
          (pss_one (ps_set (i := 1) sc_read_term.nd rfl (Or.inl rfl) (pe_tup (pa_cons pe_str (pa_cons (pe_call G_read_term hr rfl T.g_read_term T.d_read_term.kp (b_read_term T) .nil (passes_call (takes_of rfl rfl rfl rfl) (fun _ _ _ _ h => h)) (pa_cons (pv 0) pa_nil)) pa_nil)))))
          (pss_one (ps_if (PW.pt (pw_or (pt_val (pe_meth (pv 0) T.k_Reader T.m_Reader_sees G_Reader_sees hr (b_Reader_sees T) .nil pass0 (pa_cons pe_str pa_nil))) (pw_or1 (PW.pt (pw_and (pt_cmpR op_lt (pe_fld (pv 0) rfl) (pe_callB call_lenN (by rfl) T.f_len (by decide +kernel) (pa_cons (pe_fld (pv 0) rfl) pa_nil)) (nomark _)) (pw_and1 (pt_cmpR op_inS (pe_ix ix_str (pe_fld (pv 0) rfl) (pe_fld (pv 0) rfl) (fun _ _ => rfl)) (pe_gstr rfl T.c_DIGITS) rfl)))))))
              (pss_cons (ps_set (i := 2) sc_read_term.nd rfl (Or.inl rfl) (pe_call G_read_number hr rfl T.g_read_number T.d_read_number.kp (b_read_number T) .nil (passes_call (takes_of rfl rfl rfl rfl) (fun _ _ _ _ h => h)) (pa_cons (pv 0) pa_nil)))
                (pss_cons (ps_set (i := 1) sc_read_term.nd rfl (Or.inl rfl) (pe_tup (pa_cons pe_str (pa_cons (pv 2) pa_nil))))
                (pss_one (ps_if (pt_val (pe_meth (pv 0) T.k_Reader T.m_Reader_accept G_Reader_accept hr (b_Reader_accept T) .nil pass0 (pa_cons pe_str pa_nil)))
                  (pss_cons (ps_if (pt_cmpR op_gt (pe_callB call_absN (by rfl) T.f_abs (by decide +kernel) (pa_cons (pv 2) pa_nil)) (pe_gint rfl T.c_MOST_FACTOR) (nomark _))
                      (pss_one (ps_raise rfl (takes_of rfl rfl rfl rfl) (PW.pmk0 (xmk_InvalidText hP T) (raises_own T.x_InvalidText.oex.exC T.x_InvalidText.oex.tyC) T.x_InvalidText.oex.kC T.g_InvalidText hr rfl)))
                      pss_nil)
                    (pss_one (ps_set (i := 1) sc_read_term.nd rfl (Or.inl rfl) (pe_tup (pa_cons pe_str (pa_cons (pv 2) (pa_cons (pe_call G_read_term hr rfl T.g_read_term T.d_read_term.kp (b_read_term T) .nil (passes_call (takes_of rfl rfl rfl rfl) (fun _ _ _ _ h => h)) (pa_cons (pv 0) pa_nil)) pa_nil)))))))
                  pss_nil))))
              (pss_one (ps_set (i := 1) sc_read_term.nd rfl (Or.inl rfl) (pe_call G_read_word hr rfl T.g_read_word T.d_read_word.kp (b_read_word T) .nil (passes_call (takes_of rfl rfl rfl rfl) (fun _ _ _ _ h => h)) (pa_cons (pv 0) pa_nil)))))))))
    (pss_cons (ps_fldaug (pv 0) pe_int in_sub)
    (pss_one (ps_ret (pv 1))))))), ?_⟩
    show tSeq _ _ _ [some (V.ref r), none, none] H
    walk_at "K"
    obtain ⟨dx0, a0, hr0, ha0, hl0⟩ := id hR
    walk_at "go"
    refine ⟨r, src, l, e, rfl, hR, fun c H1 hR1 x1 => ?_, fun c => h2 ?_⟩
    · obtain ⟨n, rfl⟩ : ∃ j, n = j + 1 := ⟨n - 1, by omega⟩
      obtain rfl : spj = spRTerm K n := by
        rcases hj with z | ⟨j, z, y⟩
        · cases z
        · have : j = n := by omega
          rw [← this]
          exact y
      obtain ⟨dx1, a1, hr1, ha1, hl1⟩ := id hR1
      dsimp only
      refine r_seqP (fun σ' H' => ∃ t l' v y, σ' = [some (V.ref r), some v, y] ∧ Rd.term (n + 1) l = some (t, l') ∧ RdAt K H' r src l' (e + 1) ∧ IsTm K (hide H' r) (n + 1) v t ∧ ExB r H H') ?_ ?_
      · rintro σ' H2 ⟨t, l', v, y, rfl, q, ⟨dx2, a2, hr2, ha2, hl2⟩, ht, x2⟩
        walk_at "go"
        refine r_faug hr2 kC nD rfl ?_
        walk_at "go"
        refine r_aend hr2 (by show 3 < 1000; decide) ?_
        rw [putR_dp]
        walk_at "go"
        refine h1 t l' v _ q ⟨dx2, a2, ?_, ha2, hl2⟩ ?_ (x2.trans ExB.self)
        · rw [upd_same, show (((e + 1 : Nat) : Int) - 1) = (e : Int) by omega]
        · exact ht.ex (ExB.hd ExB.self)
      · intro N hN
        walk_at "go"
        have hnew : ∀ (t : Tm) (l' : List Nat) (xs : List V) (y : Option V) (H3 : Hp), Rd.term (n + 1) l = some (t, l') → RdAt K H3 r src l' (e + 1) → TmRow K (hide H3 r) (IsTm K (hide H3 r) n) xs t → ExB r H H3 → ∀ p, H3 p = none → N [some (V.ref r), some (V.ref p), y] (L2.upd H3 p (.tup xs)) := fun t l' xs y H3 q hR3 row x3 p hp => by
          obtain ⟨uu, hu⟩ := hR3.some
          exact hN _ _ ⟨t, l', _, y, rfl, q, hR3.ex (Ex.new hp), tm_new hu hp row, x3.trans (Ex.new hp).tb⟩
        refine ⟨r, _, src, l, _, rfl, hR1, hs, by decide, fun l2 q2 H2 hR2 x2 => ?_, fun q2 => ?_⟩
        · rw [lit1] at q2
          have x12 := x1.trans x2
          walk_at "go"
          refine ⟨n, rfl, r, src, l2, _, rfl, hR2, by omega, hs, fun t l3 v3 H3 q3 hR3 ht3 x3 => ?_, fun q3 => (h2 (by unfold Rd.term; simp only [q2, q3])).on x12⟩
          walk_at "go"
          exact hN _ _ ⟨t, l3, v3, _, rfl, by unfold Rd.term; simp only [q2, q3], hR3, ht3, x12.trans x3⟩
        · rw [lit1] at q2
          walk_at "go"
          refine ⟨r, _, src, l, _, rfl, hR1, hs, by decide, fun l3 q3 H3 hR3 x3 => ?_, fun q3 => ?_⟩
          · rw [lit4] at q3
            have x13 := x1.trans x3
            walk_at "go"
            refine ⟨r, src, l3, _, rfl, hR3, by omega, hs, fun t l4 v4 H4 q4 hR4 ht4 x4 => ?_, fun q4 => (h2 (by unfold Rd.term; simp only [q2, q3, q4])).on x13⟩
            walk_at "go"
            intro p hp
            walk_at "go"
            exact hnew (.pow t) l4 _ _ H4 (by unfold Rd.term; simp only [q2, q3, q4]) hR4 ⟨_, rfl, ht4⟩ (x13.trans x4) p hp
          · rw [lit4] at q3
            walk_at "go"
            have hlen := congrArg List.length hl1
            rw [List.length_drop, ← len_eq] at hlen
            refine ⟨r, _, src, l, _, rfl, hR1, hs, by decide, ?_⟩
            rw [lit11]
            cases l with
            | nil =>
              have hn : Rd.isNum [] = false := rfl
              rw [show (Rd.acc [45] []).isSome = false from rfl]
              walk_at "go"
              rw [List.length_nil] at hlen
              rw [← len_eq] at ha1
              refine r_ifF' (decide_eq_false (by omega)) ?_
              walk_at "go"
              refine ⟨n, rfl, r, src, _, _, rfl, hR1, by omega, hs, fun t l4 v4 H4 q4 hR4 ht4 x4 => ?_, fun q4 => (h2 (by unfold Rd.term; simp only [q2, q3]; rw [if_neg (by rw [hn]; exact Bool.false_ne_true)]; exact q4)).on x1⟩
              walk_at "go"
              exact hN _ _ ⟨t, l4, v4, _, rfl, by unfold Rd.term; simp only [q2, q3]; rw [if_neg (by rw [hn]; exact Bool.false_ne_true)]; exact q4, hR4, ht4, x1.trans x4⟩
            | cons c l0 =>
              by_cases c45 : c = 45
              · have hn : Rd.isNum (c :: l0) = true := by
                  simp only [Rd.isNum, c45, decide_true, Bool.true_or]
                rw [show (Rd.acc [45] (c :: l0)).isSome = true by rw [c45, Rd.acc1]; rfl]
                walk_at "go"
                refine ⟨r, src, _, _, rfl, hR1, hs, fun i l4 q4 H4 hR4 x4 => ?_, fun q4 => (h2 (by unfold Rd.term; simp only [q2, q3]; rw [if_pos hn]; simp only [q4])).on x1⟩
                have x14 := x1.trans x4
                walk_at "go"
                intro p hp
                obtain ⟨uu, hu⟩ := hR4.some
                have hR4' := hR4.ex (Ex.new (o := .tup [V.str "number", .int i]) hp)
                have htn : IsTm K (hide (L2.upd H4 p (.tup [V.str "number", .int i])) r) (n + 1) (.ref p) (.num i) := (tm_new (d := 0) (t := .num i) hu hp rfl).up (by omega)
                have x5 := x14.trans (Ex.new (o := .tup [V.str "number", .int i]) hp).tb
                obtain ⟨dx4, a4, hr4, ha4, hl4⟩ := id hR4'
                generalize L2.upd H4 p (.tup [V.str "number", .int i]) = H5 at hR4' htn x5 hr4 ⊢
                walk_at "go"
                refine ⟨r, _, src, l4, _, rfl, hR4', hs, by decide, fun l6 q6 H6 hR6 x6 => ?_, fun q6 => ?_⟩
                · rw [lit0] at q6
                  have x16 := x5.trans x6
                  obtain ⟨dx6, a6, hr6, ha6, hl6⟩ := id hR6
                  walk_at "go"
                  refine r_if2 (fun c9 => ?_) (fun c9 => ?_)
                  · have c9 := of_decide_eq_true c9
                    rw [abs_na] at c9
                    walk_at "go"
                    exact fun d hd => ((h2 (by unfold Rd.term; simp only [q2, q3]; rw [if_pos hn]; simp only [q4, q6]; rw [if_pos (by omega)])).on x16).new hr6 hd
                  · have c9 := of_decide_eq_false c9
                    rw [abs_na] at c9
                    walk_at "go"
                    refine ⟨r, src, l6, _, rfl, hR6, by omega, hs, fun t l7 v7 H7 q7 hR7 ht7 x7 => ?_, fun q7 => (h2 (by unfold Rd.term; simp only [q2, q3]; rw [if_pos hn]; simp only [q4, q6]; rw [if_neg (by omega)]; simp only [q7])).on x16⟩
                    walk_at "go"
                    intro p2 hp2
                    walk_at "go"
                    exact hnew (.tim i t) l7 _ _ H7 (by unfold Rd.term; simp only [q2, q3]; rw [if_pos hn]; simp only [q4, q6]; rw [if_neg (by omega)]; simp only [q7]) hR7 ⟨_, rfl, ht7⟩ (x16.trans x7) p2 hp2
                · rw [lit0] at q6
                  walk_at "go"
                  exact hN _ _ ⟨.num i, l4, _, _, rfl, by unfold Rd.term; simp only [q2, q3]; rw [if_pos hn]; simp only [q4, q6], hR4', htn, x5⟩
              · rw [show (Rd.acc [45] (c :: l0)).isSome = false by rw [Rd.acc_ne fun z => c45 z.symm]; rfl]
                rw [List.length_cons] at hlen
                walk_at "go"
                rw [← len_eq] at ha1
                refine r_ifT' (decide_eq_true (by omega)) ?_
                have hc : (TL.tl src)[a1]? = some c := by
                  have e := congrArg List.head? hl1
                  rw [List.head?_drop] at e
                  exact e
                walk_at "go"
                refine r_ixS hs2 (atI_nat hc) ?_
                walk_at "go"
                rw [digs_mem c]
                cases hd : Rd.isDig c with
                | true =>
                  have hn : Rd.isNum (c :: l0) = true := by
                    simp only [Rd.isNum, hd, Bool.or_true]
                  walk_at "go"
                  refine ⟨r, src, _, _, rfl, hR1, hs, fun i l4 q4 H4 hR4 x4 => ?_, fun q4 => (h2 (by unfold Rd.term; simp only [q2, q3]; rw [if_pos hn]; simp only [q4])).on x1⟩
                  have x14 := x1.trans x4
                  walk_at "go"
                  intro p hp
                  obtain ⟨uu, hu⟩ := hR4.some
                  have hR4' := hR4.ex (Ex.new (o := .tup [V.str "number", .int i]) hp)
                  have htn : IsTm K (hide (L2.upd H4 p (.tup [V.str "number", .int i])) r) (n + 1) (.ref p) (.num i) := (tm_new (d := 0) (t := .num i) hu hp rfl).up (by omega)
                  have x5 := x14.trans (Ex.new (o := .tup [V.str "number", .int i]) hp).tb
                  obtain ⟨dx4, a4, hr4, ha4, hl4⟩ := id hR4'
                  generalize L2.upd H4 p (.tup [V.str "number", .int i]) = H5 at hR4' htn x5 hr4 ⊢
                  walk_at "go"
                  refine ⟨r, _, src, l4, _, rfl, hR4', hs, by decide, fun l6 q6 H6 hR6 x6 => ?_, fun q6 => ?_⟩
                  · rw [lit0] at q6
                    have x16 := x5.trans x6
                    obtain ⟨dx6, a6, hr6, ha6, hl6⟩ := id hR6
                    walk_at "go"
                    refine r_if2 (fun c9 => ?_) (fun c9 => ?_)
                    · have c9 := of_decide_eq_true c9
                      rw [abs_na] at c9
                      walk_at "go"
                      exact fun d hd => ((h2 (by unfold Rd.term; simp only [q2, q3]; rw [if_pos hn]; simp only [q4, q6]; rw [if_pos (by omega)])).on x16).new hr6 hd
                    · have c9 := of_decide_eq_false c9
                      rw [abs_na] at c9
                      walk_at "go"
                      refine ⟨r, src, l6, _, rfl, hR6, by omega, hs, fun t l7 v7 H7 q7 hR7 ht7 x7 => ?_, fun q7 => (h2 (by unfold Rd.term; simp only [q2, q3]; rw [if_pos hn]; simp only [q4, q6]; rw [if_neg (by omega)]; simp only [q7])).on x16⟩
                      walk_at "go"
                      intro p2 hp2
                      walk_at "go"
                      exact hnew (.tim i t) l7 _ _ H7 (by unfold Rd.term; simp only [q2, q3]; rw [if_pos hn]; simp only [q4, q6]; rw [if_neg (by omega)]; simp only [q7]) hR7 ⟨_, rfl, ht7⟩ (x16.trans x7) p2 hp2
                  · rw [lit0] at q6
                    walk_at "go"
                    exact hN _ _ ⟨.num i, l4, _, _, rfl, by unfold Rd.term; simp only [q2, q3]; rw [if_pos hn]; simp only [q4, q6], hR4', htn, x5⟩
                | false =>
                  have hn : Rd.isNum (c :: l0) = false := by
                    simp only [Rd.isNum, hd, decide_eq_false c45, Bool.or_false]
                  walk_at "go"
                  refine ⟨n, rfl, r, src, _, _, rfl, hR1, by omega, hs, fun t l4 v4 H4 q4 hR4 ht4 x4 => ?_, fun q4 => (h2 (by unfold Rd.term; simp only [q2, q3]; rw [if_neg (by rw [hn]; exact Bool.false_ne_true)]; exact q4)).on x1⟩
                  walk_at "go"
                  exact hN _ _ ⟨t, l4, v4, _, rfl, by unfold Rd.term; simp only [q2, q3]; rw [if_neg (by rw [hn]; exact Bool.false_ne_true)]; exact q4, hR4, ht4, x1.trans x4⟩
    · have : n = 0 := by omega
      subst this
      rfl
end
end PW
namespace PW
open PySem PySem.Spec PyProof.Rows L2
/-- an InvalidText may leave a def that made its reader -/
def ErT (K : PySem.W.Frag) (H : Hp) (E : XK) : Prop := ∀ d H', Ex H H' → H' d = some (.xd [("tag", .str "InvalidText")]) → E (.ref (He.ga K "InvalidText")) (some d) H'
def spRInit (K : PySem.W.Frag) : Sp := fun vs H Q E => ∃ x dx t, vs = [.ref x, t] ∧ H x = some (.ins (RdC K) dx []) ∧ ((∃ src, t = .str src ∧ Q .non (upd H x (.ins (RdC K) dx (fsR (.str src) (.int 0) (.int 0))))) ∨ ∃ n, TyX K H t (.type n) ∧ kitB n "str" = some false ∧ ErT K H E)
def spParse (K : PySem.W.Frag) : Sp := fun vs H Q E => ∃ t, vs = [t] ∧ ((∃ src, t = .str src ∧ src.length ≤ 100000 ∧ (∀ tm v H', Rd.term 20 (TL.tl src) = some (tm, []) → IsTm K H' 20 v tm → Ex H H' → Q v H') ∧ ((∀ tm, Rd.term 20 (TL.tl src) ≠ some (tm, [])) → ErT K H E)) ∨
  ∃ n, TyX K H t (.type n) ∧ kitB n "str" = some false ∧ ErT K H E)
theorem TyX.exU {K : PySem.W.Frag} {H H' : Hp} {x : V} {t : Value} (e : Ex H H') (h : TyX K H x t) : TyX K H' x t := by
  cases h with
  | base h =>
    refine .base ?_
    cases h with
    | non => exact .non
    | bl b => exact .bl b
    | int i => exact .int i
    | str z => exact .str z
    | flt z => exact .flt z
    | lst q => exact .lst (e _ _ q)
    | frz q => exact .frz (e _ _ q)
    | tup q => exact .tup (e _ _ q)
    | dK q => exact .dK (e _ _ q)
    | dT q => exact .dT (e _ _ q)
    | ins q a b c d f => exact .ins (e _ _ q) a b c d f
  | byt b => exact .byt b
  | set q => exact .set (e _ _ q)
  | kList a c => exact .kList a c
  | kTuple a c => exact .kTuple a c
  | kDict a c => exact .kDict a c
  | fTuple q => exact .fTuple (e _ _ q)
  | fDict q => exact .fDict (e _ _ q)
theorem upd2 {H : Hp} {x : Addr} {a b : HO} : L2.upd (L2.upd H x a) x b = L2.upd H x b := by
  funext c
  by_cases h : c = x
  · rw [h, upd_same, upd_same]
  · rw [upd_ne h, upd_ne h, upd_ne h]
theorem ErT.on {K : PySem.W.Frag} {H H1 : Hp} {E : XK} (h : ErT K H E) (x : Ex H H1) : ErT K H1 E := fun d H' y => h d H' (x.trans y)
theorem Ex.offB {H H1 H' : Hp} {r : Addr} (hr : H r = none) (x : Ex H H1) (y : ExB r H1 H') : Ex H H' := fun a o h => y a o (ne_of_none h hr) (x a o h)
section
variable {P : Program} {w : World} {K : PySem.W.Frag} {mg : Str → Option Value} {base : Heap}
theorem ok_read_term {k : Nat} (hP : IsPG P) (T : Txt K mg)
    (G_Reader_accept : FnOk P w K mg base CX0 k (He.ma K (He.ga K "Reader") "accept") (fdOf K (He.fAd K ("Reader", some "accept"))) p_Reader_accept (spAcc K))
    (G_Reader_sees : FnOk P w K mg base CX0 k (He.ma K (He.ga K "Reader") "sees") (fdOf K (He.fAd K ("Reader", some "sees"))) p_Reader_sees (spSees K))
    (G_Reader_run : FnOk P w K mg base CX0 k (He.ma K (He.ga K "Reader") "run") (fdOf K (He.fAd K ("Reader", some "run"))) p_Reader_run (spRun K))
    (G_is_name : FnOk P w K mg base CX0 k (He.ga K "is_name") (fdOf K (He.ga K "is_name")) p_is_name (spIsName K))
    (G_Reader_need : FnOk P w K mg base (L2.CX P w) k (He.ma K (He.ga K "Reader") "need") (fdOf K (He.fAd K ("Reader", some "need"))) p_Reader_need (spNeed K))
    (G_Reader_enter : FnOk P w K mg base (L2.CX P w) k (He.ma K (He.ga K "Reader") "enter") (fdOf K (He.fAd K ("Reader", some "enter"))) p_Reader_enter (spEnter K))
    (G_read_number : FnOk P w K mg base (L2.CX P w) k (He.ga K "read_number") (fdOf K (He.ga K "read_number")) p_read_number (spRNum K)) : ∀ n, FnOk P w K mg base (L2.CX P w) (k + 3 * n + 1) (He.ga K "read_term") (fdOf K (He.ga K "read_term")) p_read_term (spRTerm K n)
  | 0 => ok1_read_term (spj := spNo) hP T (.inl rfl) G_Reader_accept G_Reader_sees G_Reader_enter G_read_number (fun j e => nomatch e) (fun j e => nomatch e) fnOk_no
  | n + 1 => by
    have ih := ok_read_term hP T G_Reader_accept G_Reader_sees G_Reader_run G_is_name G_Reader_need G_Reader_enter G_read_number n
    have ga := ok_read_arguments (k := k + 3 * n + 1) hP T (G_Reader_accept.mono (by omega)) (G_Reader_need.mono (by omega)) ih
    have gp := ok_read_pair (k := k + 3 * n + 1) hP T (G_Reader_accept.mono (by omega)) (G_Reader_need.mono (by omega)) (G_read_number.mono (by omega)) ih
    have gw := ok_read_word (k := k + 3 * n + 2) hP T (G_Reader_accept.mono (by omega)) (G_Reader_run.mono (by omega)) (G_is_name.mono (by omega)) (G_Reader_need.mono (by omega)) ga (ih.mono (by omega))
    have e : k + 3 * (n + 1) + 1 = k + 3 * n + 3 + 1 := by omega
    rw [e]
    exact ok1_read_term (k := k + 3 * n + 3) hP T (.inr ⟨n, rfl, rfl⟩) (G_Reader_accept.mono (by omega)) (G_Reader_sees.mono (by omega)) (G_Reader_enter.mono (by omega)) (G_read_number.mono (by omega)) (fun j e => by
      have : j = n := by omega
      subst this
      exact gp.mono (by omega)) (fun j e => by
      have : j = n := by omega
      subst this
      exact gw.mono (by omega)) (ih.mono (by omega))
theorem ok_Reader_init (hP : IsPG P) (T : Txt K mg) : FnOk P w K mg base (L2.CX P w) (1) (He.ma K (He.ga K "Reader") "__init__") (fdOf K (He.fAd K ("Reader", some "__init__"))) p_Reader___init__ (spRInit K) := by
  refine FunD.ok T.d_Reader___init__ sc_Reader___init__ (fun vs H Q E h => ?_) (fun cdv A outer s H vs Q E hr h => ?_)
  · obtain ⟨x, dx, t, rfl, _⟩ := h
    rfl
  · obtain ⟨x, dx, t, rfl, hx, hq⟩ := h
    have kC := T.k_Reader
    have nS := T.n_Reader_source
    have nA := T.n_Reader_at
    have nD := T.n_Reader_depth
    refine ⟨_, ((pss_cons (ps_if (pt_not (pt_val (pe_callB call_isi (by rfl) T.f_isinstance (by decide +kernel) (pa_cons (pv 1) (pa_cons (pe_bltn (v := .ty "str") (u := .type "str") (by rfl) T.f_str (by decide +kernel) rfl) pa_nil)))))
      (pss_one (ps_raise rfl (takes_of rfl rfl rfl rfl) (PW.pmk0 (xmk_InvalidText hP T) (raises_own T.x_InvalidText.oex.exC T.x_InvalidText.oex.tyC) T.x_InvalidText.oex.kC T.g_InvalidText hr rfl)))
      pss_nil)
    (pss_cons (ps_fld (pv 0) (pv 1) rfl)
    (pss_cons (ps_fld (pv 0) pe_int rfl)
    (pss_one (ps_fld (pv 0) pe_int rfl)))))), ?_⟩
    show tSeq _ _ _ [some (V.ref x), some t] H
    walk_at "K"
    rcases hq with ⟨src, rfl, hq⟩ | ⟨n, ty, kb, he⟩
    · walk_at "go"
      rw [upd2, upd2]
      exact hq
    · walk_at "go"
      refine r_isi ty kb ?_
      walk_at "go"
      exact fun d hd => he d _ (Ex.new hd) upd_same
end
end PW
/-! ### what is read is in range -/
namespace PW
open PySem PySem.Spec PyProof.Rows L2
theorem dig_fold : ∀ (l : List Nat) (a : Nat), (∀ c ∈ l, Rd.isDig c = true) → l.foldl (fun acc c => acc * 10 + (c - 48)) a + 1 ≤ (a + 1) * 10 ^ l.length
  | [], a, _ => by simp
  | c :: r, a, h => by
    have hc := h c List.mem_cons_self
    unfold Rd.isDig at hc
    rw [Bool.and_eq_true, decide_eq_true_iff, decide_eq_true_iff] at hc
    have ih := dig_fold r (a * 10 + (c - 48)) fun d hd => h d (List.mem_cons_of_mem _ hd)
    rw [List.foldl_cons, List.length_cons, Nat.pow_succ]
    refine Nat.le_trans ih ?_
    have : (a * 10 + (c - 48) + 1) * 10 ^ r.length ≤ ((a + 1) * 10) * 10 ^ r.length := Nat.mul_le_mul_right _ (by omega)
    rw [Nat.mul_comm (10 ^ r.length) 10, ← Nat.mul_assoc]
    exact this
theorem dig_lt {l : List Nat} (h : ∀ c ∈ l, Rd.isDig c = true) (h9 : l.length ≤ 9) : NumText.digitsVal l < 10 ^ 9 := by
  have z := dig_fold l 0 h
  have p : 10 ^ l.length ≤ 10 ^ 9 := Nat.pow_le_pow_right (by decide) h9
  unfold NumText.digitsVal
  omega
namespace Rd
theorem num_ok {l l' : List Nat} {i : Int} (h : num l = some (i, l')) : i.natAbs < 10 ^ 9 := by
  unfold num at h
  simp only at h
  split at h
  · rename_i c
    have h := (Prod.mk.inj (Option.some.inj h)).1
    have d := dig_lt (l := ((acc [45] l).getD l).takeWhile isDig) tw_all c.2.1
    subst h
    split <;> omega
  · cases h
section
variable {rd : List Nat → Option (Tm × List Nat)} (hrd : ∀ l t l', rd l = some (t, l') → t.okT)
include hrd
theorem more_ok : ∀ {f : Nat} {l l' : List Nat} {ts : List Tm}, more rd f l = some (ts, l') → Tm.oks (10 ^ 9) 100 100 ts
  | 0, _, _, _, h => nomatch h
  | f + 1, l, l', ts, h => by
    unfold more at h
    split at h
    · have h := (Prod.mk.inj (Option.some.inj h)).1
      rw [← h]
      simp only [Tm.oks]
    · split at h
      · cases h
      · rename_i t l2 q2
        split at h
        · cases h
        · rename_i ts2 l3 q3
          have h := (Prod.mk.inj (Option.some.inj h)).1
          subst h
          simp only [Tm.oks]
          exact ⟨hrd _ _ _ q2, more_ok q3⟩
theorem args_ok {l l' : List Nat} {ts : List Tm} (h : args rd l = some (ts, l')) : ts.length ≤ 3 ∧ Tm.oks (10 ^ 9) 100 100 ts := by
  unfold args at h
  split at h
  · have h := (Prod.mk.inj (Option.some.inj h)).1
    subst h
    simp only [Tm.oks]
    exact ⟨by decide, trivial⟩
  · split at h
    · cases h
    · rename_i t l1 q1
      split at h
      · cases h
      · rename_i ts2 l2 q2
        split at h
        · cases h
        · split at h
          · rename_i c
            have h := (Prod.mk.inj (Option.some.inj h)).1
            subst h
            simp only [Tm.oks]
            exact ⟨by rw [List.length_cons]; exact c, hrd _ _ _ q1, more_ok hrd q2⟩
          · cases h
theorem pair_ok {l l' : List Nat} {t : Tm} (h : pair rd l = some (t, l')) : t.okT := by
  unfold pair at h
  split at h
  · cases h
  · rename_i t1 l1 q1
    have o1 := hrd _ _ _ q1
    split at h
    · split at h
      · cases h
      · split at h
        · cases h
        · split at h
          · rename_i c
            have h := (Prod.mk.inj (Option.some.inj h)).1
            subst h
            simp only [Tm.okT, Tm.ok]
            exact ⟨⟨c.1, by omega⟩, o1⟩
          · cases h
    · split at h
      · split at h
        · cases h
        · rename_i u l3 q3
          have o3 := hrd _ _ _ q3
          split at h
          · cases h
          · have h := (Prod.mk.inj (Option.some.inj h)).1
            subst h
            simp only [Tm.okT, Tm.ok]
            exact ⟨o1, o3⟩
      · split at h
        · cases h
        · split at h
          · cases h
          · rename_i u l3 q3
            have o3 := hrd _ _ _ q3
            split at h
            · cases h
            · have h := (Prod.mk.inj (Option.some.inj h)).1
              subst h
              simp only [Tm.okT, Tm.ok]
              exact ⟨o1, o3⟩
theorem word_ok {l l' : List Nat} {t : Tm} (h : word rd l = some (t, l')) : t.okT := by
  unfold word at h
  simp only at h
  split at h
  · split at h
    · cases h
    · split at h
      · cases h
      · rename_i u l3 q3
        have o3 := hrd _ _ _ q3
        split at h
        · cases h
        · have h := (Prod.mk.inj (Option.some.inj h)).1
          subst h
          simp only [Tm.okT, Tm.ok]
          exact o3
  · split at h
    · rename_i nm
      split at h
      · have h := (Prod.mk.inj (Option.some.inj h)).1
        subst h
        simp only [Tm.okT, Tm.ok]
        exact nm
      · split at h
        · cases h
        · rename_i as l3 q3
          have o := args_ok hrd q3
          have h := (Prod.mk.inj (Option.some.inj h)).1
          subst h
          simp only [Tm.okT, Tm.ok]
          exact ⟨nm, o⟩
    · cases h
end
theorem term_ok : ∀ {n : Nat} {l l' : List Nat} {t : Tm}, term n l = some (t, l') → t.okT
  | 0, _, _, _, h => nomatch h
  | n + 1, l, l', t, h => by
    have ih : ∀ l t l', term n l = some (t, l') → t.okT := fun l t l' h => term_ok h
    unfold term at h
    split at h
    · exact pair_ok ih h
    · split at h
      · split at h
        · cases h
        · rename_i u l2 q2
          have o := ih _ _ _ q2
          have h := (Prod.mk.inj (Option.some.inj h)).1
          subst h
          simp only [Tm.okT, Tm.ok]
          exact o
      · split at h
        · split at h
          · cases h
          · rename_i i l1 q1
            split at h
            · have h := (Prod.mk.inj (Option.some.inj h)).1
              subst h
              simp only [Tm.okT, Tm.ok]
              exact num_ok q1
            · split at h
              · cases h
              · rename_i c
                split at h
                · cases h
                · rename_i u l3 q3
                  have o := ih _ _ _ q3
                  have h := (Prod.mk.inj (Option.some.inj h)).1
                  subst h
                  simp only [Tm.okT, Tm.ok]
                  exact ⟨by omega, o⟩
        · exact word_ok ih h
end Rd
end PW
/-! ### the reading of conditions, plainly -/
namespace PW
open PySem PySem.Spec PyProof.Rows L2
namespace Rd
/-- a comparison, its terms of at most n levels -/
def cmp (n : Nat) (l : List Nat) : Option (Cd × List Nat) :=
  match term n l with
  | none => none
  | some (t, l1) => match acc [32, 109, 111, 100, 32] l1 with
    | some l2 => match num l2 with
      | none => none
      | some (m, l3) => match acc [32, 61, 32] l3 with
        | none => none
        | some l4 => match num l4 with
          | none => none
          | some (r, l5) => if (2 ≤ m ∧ m ≤ 12) ∧ 0 ≤ r ∧ r < m then some (.res t m r, l5) else none
    | none => match acc [32, 60, 32] l1 with
      | some l2 => match term n l2 with
        | none => none
        | some (u, l3) => some (.less t u, l3)
      | none => match acc [32, 61, 32] l1 with
        | none => none
        | some l2 => match term n l2 with
          | none => none
          | some (u, l3) => some (.equ t u, l3)
/-- a condition, of at most n levels with its terms -/
def cond : Nat → List Nat → Option (Cd × List Nat)
  | 0, _ => none
  | n + 1, l => match acc [91] l with
    | some l1 => match cond n l1 with
      | none => none
      | some (a, l2) => match acc [32, 97, 110, 100, 32] l2 with
        | some l3 => match cond n l3 with
          | none => none
          | some (b, l4) => match acc [93] l4 with
            | none => none
            | some l5 => some (.con a b, l5)
        | none => match acc [32, 111, 114, 32] l2 with
          | none => none
          | some l3 => match cond n l3 with
            | none => none
            | some (b, l4) => match acc [93] l4 with
              | none => none
              | some l5 => some (.dis a b, l5)
    | none => match acc [110, 111, 116, 32] l with
      | some l1 => match cond n l1 with
        | none => none
        | some (c, l2) => some (.neg c, l2)
      | none => if l.takeWhile isLet = [116, 114, 117, 101] then match acc [116, 114, 117, 101] l with
          | none => none
          | some l1 => some (.tru, l1)
        else cmp n l
end Rd
/-- the levels of a condition with its terms -/
def Cd.lvl : Cd → Nat
  | .tru => 1
  | .neg c => 1 + lvl c
  | .con a b => 1 + max (lvl a) (lvl b)
  | .dis a b => 1 + max (lvl a) (lvl b)
  | .less s t => 1 + max s.dep t.dep
  | .equ s t => 1 + max s.dep t.dep
  | .res t _ _ => 1 + t.dep
end PW
/-! ### the reading of a condition's text gives the condition -/
namespace PW
open PySem PySem.Spec PyProof.Rows L2
namespace Rd
theorem nm_not {z : Str} (h : IsNm z) : TL.tl z ≠ [110, 111, 116] := fun e => by
  have : z = "not" := TL.ext_tl (e.trans (by decide +kernel))
  subst this
  have := h.res
  revert this
  decide +kernel
theorem nm_true {z : Str} (h : IsNm z) : TL.tl z ≠ [116, 114, 117, 101] := fun e => by
  have : z = "true" := TL.ext_tl (e.trans (by decide +kernel))
  subst this
  have := h.res
  revert this
  decide +kernel
/-- the letters ahead of a term are neither not nor true -/
theorem tx_let {n m q : Nat} (t : Tm) (ok : t.ok n m q) {l : List Nat} (fo : ∀ c, l.head? = some c → isLet c = false) : (t.tx ++ l).takeWhile isLet ≠ [110, 111, 116] ∧ (t.tx ++ l).takeWhile isLet ≠ [116, 114, 117, 101] := by
  have off : ∀ {c : Nat} {r : List Nat}, isLet c = false → (c :: r).takeWhile isLet ≠ [110, 111, 116] ∧ (c :: r).takeWhile isLet ≠ [116, 114, 117, 101] := fun {c r} h => by
    rw [List.takeWhile_cons, h]
    exact ⟨fun z => (by cases z), fun z => (by cases z)⟩
  have nl : ∀ {c : Nat}, (c = 45 ∨ isDig c = true) → isLet c = false := fun {c} h => by
    rcases h with rfl | h
    · decide
    · cases q : isLet c with
      | false => rfl
      | true =>
        rw [(let_not q).2.2.2.1] at h
        cases h
  cases t with
  | num i =>
    obtain ⟨c, r, e, h, _⟩ := numC_head i
    simp only [Tm.tx, e, List.cons_append]
    exact off (nl h)
  | tim i a =>
    obtain ⟨c, r, e, h, _⟩ := numC_head i
    simp only [Tm.tx, e, List.cons_append]
    exact off (nl h)
  | nam z =>
    have ok : isNameZ z = true := by simpa only [Tm.ok] using ok
    have hz := isNm_iff.mp ok
    simp only [Tm.tx]
    rw [(tw_app (nm_let hz) fo).1]
    exact ⟨nm_not hz, nm_true hz⟩
  | cal f as =>
    have ok : isNameZ f = true ∧ as.length ≤ 3 ∧ Tm.oks n m q as := by simpa only [Tm.ok] using ok
    have hz := isNm_iff.mp ok.1
    simp only [Tm.tx, List.append_assoc, List.cons_append]
    rw [(tw_app (nm_let hz) fun c e => by
      cases Option.some.inj e
      decide).1]
    exact ⟨nm_not hz, nm_true hz⟩
  | pow a =>
    simp only [Tm.tx, List.cons_append]
    exact off (by decide)
  | len a =>
    simp only [Tm.tx, List.cons_append]
    have e : (108 :: 101 :: 110 :: 40 :: (a.tx ++ [41] ++ l)).takeWhile isLet = [108, 101, 110] := rfl
    rw [e]
    exact ⟨by decide, by decide⟩
  | _ =>
    simp only [Tm.tx, List.cons_append]
    exact off (by decide)
/-- where the letters ahead are not w, w and a blank cannot be passed -/
theorem acc_let {w l : List Nat} (hw : ∀ c ∈ w, isLet c = true) (h : l.takeWhile isLet ≠ w) : acc (w ++ [32]) l = none := by
  unfold acc
  rw [if_neg]
  intro e
  refine h ?_
  have e2 : l = (w ++ [32]) ++ l.drop (w ++ [32]).length := by
    conv => lhs; rw [← List.take_append_drop (w ++ [32]).length l, e]
  rw [e2, List.append_assoc]
  exact (tw_app hw fun c q => by
    cases Option.some.inj q
    decide).1
end Rd
end PW
/-! ### the reading of a condition's text -/
namespace PW
open PySem PySem.Spec PyProof.Rows L2
namespace Rd
theorem fo_bl (w : List Nat) : Fo (32 :: w) := fo_cons (by decide)
theorem fo_close (w : List Nat) : Fo (93 :: w) := fo_cons (by decide)
theorem acc_off {w1 w2 l : List Nat} (h : w1.length = w2.length) (n : w1 ≠ w2) : acc w1 (w2 ++ l) = none := by
  unfold acc
  rw [if_neg]
  rw [h, List.take_left]
  exact Ne.symm n
theorem cmp_tx {n : Nat} : ∀ (c : Cd), c.isAtom = true → c.ok → c.lvl ≤ n + 1 → ∀ l, Fo l → cmp n (c.tx ++ l) = some (c, l)
  | .less s t, _, ok, hd, l, fo => by
    simp only [Cd.lvl] at hd
    unfold cmp
    simp only [Cd.tx, List.append_assoc]
    have k1 := term_tx n s ok.1 (by omega) ([32, 60, 32] ++ (t.tx ++ l)) (fo_bl _)
    have e1 : acc [32, 109, 111, 100, 32] ([32, 60, 32] ++ (t.tx ++ l)) = none := acc_ne2 (by decide)
    simp only [k1, e1, acc_app, term_tx n t ok.2 (by omega) _ fo]
  | .equ s t, _, ok, hd, l, fo => by
    simp only [Cd.lvl] at hd
    unfold cmp
    simp only [Cd.tx, List.append_assoc]
    have k1 := term_tx n s ok.1 (by omega) ([32, 61, 32] ++ (t.tx ++ l)) (fo_bl _)
    have e1 : acc [32, 109, 111, 100, 32] ([32, 61, 32] ++ (t.tx ++ l)) = none := acc_ne2 (by decide)
    have e2 : acc [32, 60, 32] ([32, 61, 32] ++ (t.tx ++ l)) = none := acc_ne2 (by decide)
    simp only [k1, e1, e2, acc_app, term_tx n t ok.2 (by omega) _ fo]
  | .res t m r, _, ok, hd, l, fo => by
    obtain ⟨h1, h2, h3, h4, h5⟩ := ok
    simp only [Cd.lvl] at hd
    unfold cmp
    simp only [Cd.tx, List.append_assoc]
    have k1 := term_tx n t h1 (by omega) ([32, 109, 111, 100, 32] ++ (numC m ++ ([32, 61, 32] ++ (numC r ++ l)))) (fo_bl _)
    have n1 := num_tx (i := m) (by omega) (l := [32, 61, 32] ++ (numC r ++ l)) (fun c e => by
      cases Option.some.inj e
      decide)
    have n2 := num_tx (i := r) (by omega) (l := l) (fun c e => (fo c e).1)
    simp only [k1, acc_app, n1, n2]
    rw [if_pos ⟨⟨h2, h3⟩, h4, h5⟩]
theorem cond_tx : ∀ (n : Nat) (c : Cd), c.ok → c.lvl ≤ n → ∀ l, Fo l → cond n (c.tx ++ l) = some (c, l)
  | 0, c, _, hd, _, _ => absurd hd (by
    cases c <;> (simp only [Cd.lvl]; omega))
  | n + 1, c, ok, hd, l, fo => by
    have ih := cond_tx n
    have lf : ∀ d, l.head? = some d → isLet d = false := fun d e => (fo d e).2.1
    have atom : c.isAtom = true → (∃ (s : Tm) (r : List Nat), s.okT ∧ c.tx = s.tx ++ r ∧ ∀ d, (r ++ l).head? = some d → isLet d = false) → cond (n + 1) (c.tx ++ l) = some (c, l) := fun ha ⟨s, r, hs, hx, hr⟩ => by
      have key := cmp_tx (n := n) c ha ok hd l fo
      have e0 : c.tx ++ l = s.tx ++ (r ++ l) := by rw [hx, List.append_assoc]
      obtain ⟨d, q, e1, h1⟩ := tx_head s hs
      have a1 : acc [91] (c.tx ++ l) = none := by
        rw [e0, e1, List.cons_append]
        refine acc_ne fun z => ?_
        subst z
        rcases h1 with h | h | h | h
        · cases h
        · exact absurd h (by decide)
        · exact absurd h (by decide)
        · cases h
      have hl := tx_let s hs hr
      rw [← e0] at hl
      have a2 : acc [110, 111, 116, 32] (c.tx ++ l) = none := acc_let (w := [110, 111, 116]) (by decide) hl.1
      unfold cond
      simp only [a1, a2, if_neg hl.2]
      exact key
    cases c with
    | tru =>
      have e1 : acc [91] (([116, 114, 117, 101] : List Nat) ++ l) = none := acc_ne (by decide)
      have e2 : acc [110, 111, 116, 32] (([116, 114, 117, 101] : List Nat) ++ l) = none := acc_ne (by decide)
      have e3 : (([116, 114, 117, 101] : List Nat) ++ l).takeWhile isLet = [116, 114, 117, 101] := (tw_app (by decide) lf).1
      simp only [Cd.tx]
      unfold cond
      simp only [e1, e2, e3, acc_app, if_true]
    | neg c =>
      simp only [Cd.lvl] at hd
      simp only [Cd.tx, List.append_assoc]
      have e1 : acc [91] ([110, 111, 116, 32] ++ (c.tx ++ l)) = none := acc_ne (by decide)
      unfold cond
      simp only [e1, acc_app, ih c ok (by omega) l fo]
    | con a b =>
      simp only [Cd.lvl] at hd
      simp only [Cd.tx, List.append_assoc]
      have k1 := ih a ok.1 (by omega) ([32, 97, 110, 100, 32] ++ (b.tx ++ ([93] ++ l))) (fo_bl _)
      have k2 := ih b ok.2 (by omega) ([93] ++ l) (fo_close _)
      unfold cond
      simp only [acc_app, k1, k2]
    | dis a b =>
      simp only [Cd.lvl] at hd
      simp only [Cd.tx, List.append_assoc]
      have e1 : acc [32, 97, 110, 100, 32] ([32, 111, 114, 32] ++ (b.tx ++ ([93] ++ l))) = none := acc_ne2 (by decide)
      have k1 := ih a ok.1 (by omega) ([32, 111, 114, 32] ++ (b.tx ++ ([93] ++ l))) (fo_bl _)
      have k2 := ih b ok.2 (by omega) ([93] ++ l) (fo_close _)
      unfold cond
      simp only [acc_app, e1, k1, k2]
    | less s t => exact atom rfl ⟨s, _, ok.1, rfl, fun d e => by
        cases Option.some.inj e
        decide⟩
    | equ s t => exact atom rfl ⟨s, _, ok.1, rfl, fun d e => by
        cases Option.some.inj e
        decide⟩
    | res t m r => exact atom rfl ⟨t, _, ok.1, rfl, fun d e => by
        cases Option.some.inj e
        decide⟩
end Rd
end PW
namespace PW
open PySem PySem.Spec PyProof.Rows L2
namespace Rd
theorem cmp_ok {n : Nat} {l l' : List Nat} {c : Cd} (h : cmp n l = some (c, l')) : c.ok := by
  unfold cmp at h
  split at h
  · cases h
  · rename_i t l1 q1
    have o1 := term_ok q1
    split at h
    · split at h
      · cases h
      · split at h
        · cases h
        · split at h
          · cases h
          · split at h
            · rename_i cc
              have h := (Prod.mk.inj (Option.some.inj h)).1
              subst h
              exact ⟨o1, cc.1.1, cc.1.2, cc.2.1, cc.2.2⟩
            · cases h
    · split at h
      · split at h
        · cases h
        · rename_i u l3 q3
          have o3 := term_ok q3
          have h := (Prod.mk.inj (Option.some.inj h)).1
          subst h
          exact ⟨o1, o3⟩
      · split at h
        · cases h
        · split at h
          · cases h
          · rename_i u l3 q3
            have o3 := term_ok q3
            have h := (Prod.mk.inj (Option.some.inj h)).1
            subst h
            exact ⟨o1, o3⟩
theorem cond_ok : ∀ {n : Nat} {l l' : List Nat} {c : Cd}, cond n l = some (c, l') → c.ok
  | 0, _, _, _, h => nomatch h
  | n + 1, l, l', c, h => by
    unfold cond at h
    split at h
    · split at h
      · cases h
      · rename_i a l2 q2
        have o2 := cond_ok q2
        split at h
        · split at h
          · cases h
          · rename_i b l4 q4
            have o4 := cond_ok q4
            split at h
            · cases h
            · have h := (Prod.mk.inj (Option.some.inj h)).1
              subst h
              exact ⟨o2, o4⟩
        · split at h
          · cases h
          · split at h
            · cases h
            · rename_i b l4 q4
              have o4 := cond_ok q4
              split at h
              · cases h
              · have h := (Prod.mk.inj (Option.some.inj h)).1
                subst h
                exact ⟨o2, o4⟩
    · split at h
      · split at h
        · cases h
        · rename_i a l2 q2
          have o2 := cond_ok q2
          have h := (Prod.mk.inj (Option.some.inj h)).1
          subst h
          exact o2
      · split at h
        · split at h
          · cases h
          · have h := (Prod.mk.inj (Option.some.inj h)).1
            subst h
            trivial
        · exact cmp_ok h
end Rd
end PW
/-! ### conditions read -/
namespace PW
open PySem PySem.Spec PyProof.Rows L2
def spRCmp (K : PySem.W.Frag) (n : Nat) : Sp := fun vs H Q E => ∃ r src l e, vs = [.ref r] ∧ RdAt K H r src l e ∧ e + n = 20 ∧ src.length ≤ 100000 ∧ (∀ c l' v H', Rd.cmp n l = some (c, l') → RdAt K H' r src l' e → IsCd K (hide H' r) 20 1 v c → ExB r H H' → Q v H') ∧ (Rd.cmp n l = none → TxtE K r H E)
def spRCond (K : PySem.W.Frag) (n : Nat) : Sp := fun vs H Q E => ∃ r src l e, vs = [.ref r] ∧ RdAt K H r src l e ∧ e + n = 20 ∧ src.length ≤ 100000 ∧ (∀ c l' v H', Rd.cond n l = some (c, l') → RdAt K H' r src l' e → IsCd K (hide H' r) 20 n v c → ExB r H H' → Q v H') ∧ (Rd.cond n l = none → TxtE K r H E)
theorem true_word {ds : List Nat} : V.str (⟨ds.toArray⟩ : Str) = V.str (Str.ofString "true") ↔ ds = [116, 114, 117, 101] := by
  have e : (Str.ofString "true") = ⟨#[116, 114, 117, 101]⟩ := by decide +kernel
  rw [e]
  constructor
  · intro z
    have z := congrArg (fun y : Str => y.cps.toList) (V.str.inj z)
    simpa using z
  · rintro rfl
    rfl
section
variable {P : Program} {w : World} {K : PySem.W.Frag} {mg : Str → Option Value} {base : Heap}
theorem ok_read_comparison {k n : Nat} (hP : IsPG P) (T : Txt K mg)
    (G_Reader_accept : FnOk P w K mg base CX0 k (He.ma K (He.ga K "Reader") "accept") (fdOf K (He.fAd K ("Reader", some "accept"))) p_Reader_accept (spAcc K))
    (G_Reader_need : FnOk P w K mg base (L2.CX P w) k (He.ma K (He.ga K "Reader") "need") (fdOf K (He.fAd K ("Reader", some "need"))) p_Reader_need (spNeed K))
    (G_read_number : FnOk P w K mg base (L2.CX P w) k (He.ga K "read_number") (fdOf K (He.ga K "read_number")) p_read_number (spRNum K))
    (G_read_term : FnOk P w K mg base (L2.CX P w) k (He.ga K "read_term") (fdOf K (He.ga K "read_term")) p_read_term (spRTerm K n)) : FnOk P w K mg base (L2.CX P w) (k + 1) (He.ga K "read_comparison") (fdOf K (He.ga K "read_comparison")) p_read_comparison (spRCmp K n) := by
  refine FunD.ok T.d_read_comparison sc_read_comparison (fun vs H Q E h => ?_) (fun cdv A outer s H vs Q E hr h => ?_)
  · obtain ⟨r, src, l, e, rfl, _⟩ := h
    rfl
  · obtain ⟨r, src, l, e, rfl, hR, he, hs, h1, h2⟩ := h
    have kC := T.k_Reader
    have hn : n ≤ 20 := by omega
    refine ⟨_, ((pss_cons (ps_set (i := 1) sc_read_comparison.nd rfl (Or.inl rfl) (pe_call G_read_term hr rfl T.g_read_term T.d_read_term.kp (b_read_term T) .nil (passes_call (takes_of rfl rfl rfl rfl) (fun _ _ _ _ h => h)) (pa_cons (pv 0) pa_nil)))
    (pss_cons (ps_if (pt_val (pe_meth (pv 0) T.k_Reader T.m_Reader_accept G_Reader_accept hr (b_Reader_accept T) .nil pass0 (pa_cons pe_str pa_nil)))
      (pss_cons (ps_set (i := 2) sc_read_comparison.nd rfl (Or.inl rfl) (pe_call G_read_number hr rfl T.g_read_number T.d_read_number.kp (b_read_number T) .nil (passes_call (takes_of rfl rfl rfl rfl) (fun _ _ _ _ h => h)) (pa_cons (pv 0) pa_nil)))
        (pss_cons (ps_expr (pe_meth (pv 0) T.k_Reader T.m_Reader_need G_Reader_need hr (b_Reader_need T) .nil (passes_call (takes_of rfl rfl rfl rfl) (fun _ _ _ _ h => h)) (pa_cons pe_str pa_nil)))
        (pss_cons (ps_set (i := 3) sc_read_comparison.nd rfl (Or.inl rfl) (pe_call G_read_number hr rfl T.g_read_number T.d_read_number.kp (b_read_number T) .nil (passes_call (takes_of rfl rfl rfl rfl) (fun _ _ _ _ h => h)) (pa_cons (pv 0) pa_nil)))
        (pss_cons (ps_if (PW.pt (pw_or (pt_not (pt_chain op_le op_le pe_int (pv 2) (pe_gint rfl T.c_MOST_MODULUS))) (pw_or1 (pt_not (pt_chain op_le op_lt pe_int (pv 3) (pv 2))))))
          (pss_one (ps_raise rfl (takes_of rfl rfl rfl rfl) (PW.pmk0 (xmk_InvalidText hP T) (raises_own T.x_InvalidText.oex.exC T.x_InvalidText.oex.tyC) T.x_InvalidText.oex.kC T.g_InvalidText hr rfl)))
          pss_nil)
        (pss_one (ps_ret (pe_tup (pa_cons pe_str (pa_cons (pv 1) (pa_cons (pv 2) (pa_cons (pv 3) pa_nil)))))))))))
      pss_nil)
    (pss_cons (ps_if (pt_val (pe_meth (pv 0) T.k_Reader T.m_Reader_accept G_Reader_accept hr (b_Reader_accept T) .nil pass0 (pa_cons pe_str pa_nil)))
      (pss_one (ps_ret (pe_tup (pa_cons pe_str (pa_cons (pv 1) (pa_cons (pe_call G_read_term hr rfl T.g_read_term T.d_read_term.kp (b_read_term T) .nil (passes_call (takes_of rfl rfl rfl rfl) (fun _ _ _ _ h => h)) (pa_cons (pv 0) pa_nil)) pa_nil))))))
      pss_nil)
    (pss_cons (ps_expr (pe_meth (pv 0) T.k_Reader T.m_Reader_need G_Reader_need hr (b_Reader_need T) .nil (passes_call (takes_of rfl rfl rfl rfl) (fun _ _ _ _ h => h)) (pa_cons pe_str pa_nil)))
    (pss_one (ps_ret (pe_tup (pa_cons pe_str (pa_cons (pv 1) (pa_cons (pe_call G_read_term hr rfl T.g_read_term T.d_read_term.kp (b_read_term T) .nil (passes_call (takes_of rfl rfl rfl rfl) (fun _ _ _ _ h => h)) (pa_cons (pv 0) pa_nil)) pa_nil))))))))))), ?_⟩
    show tSeq _ _ _ [some (V.ref r), none, none, none] H
    walk_at "K"
    walk_at "go"
    refine ⟨r, src, l, e, rfl, hR, he, hs, fun t l1 v H1 q1 hR1 ht1 x1 => ?_, fun q1 => h2 (by unfold Rd.cmp; rw [q1])⟩
    obtain ⟨dx1, a1, hr1, ha1, hl1⟩ := id hR1
    walk_at "go"
    refine ⟨r, _, src, l1, e, rfl, hR1, hs, by decide, fun l2 q2 H2 hR2 x2 => ?_, fun q2 => ?_⟩
    · rw [lit12] at q2
      walk_at "go"
      have x12 := x1.trans x2
      refine ⟨r, src, l2, e, rfl, hR2, hs, fun m l3 q3 H3 hR3 x3 => ?_, fun q3 => (h2 (by unfold Rd.cmp; simp only [q1, q2, q3])).on x12⟩
      obtain ⟨dx3, a3, hr3, ha3, hl3⟩ := id hR3
      have x13 := x12.trans x3
      walk_at "go"
      refine ⟨r, _, src, l3, e, rfl, hR3, hs, by decide, fun l4 q4 H4 hR4 x4 => ?_, fun q4 => (h2 (by unfold Rd.cmp; rw [lit13] at q4; simp only [q1, q2, q3, q4])).on x13⟩
      rw [lit13] at q4
      obtain ⟨dx4, a4, hr4, ha4, hl4⟩ := id hR4
      have x14 := x13.trans x4
      walk_at "go"
      refine ⟨r, src, l4, e, rfl, hR4, hs, fun rr l5 q5 H5 hR5 x5 => ?_, fun q5 => (h2 (by unfold Rd.cmp; simp only [q1, q2, q3, q4, q5])).on x14⟩
      obtain ⟨dx5, a5, hr5, ha5, hl5⟩ := id hR5
      have x15 := x14.trans x5
      have raise : ¬ ((2 ≤ m ∧ m ≤ 12) ∧ 0 ≤ rr ∧ rr < m) → ∀ d, H5 d = none → E (.ref (He.ga K "InvalidText")) (some d) (L2.upd H5 d (.xd [("tag", .str "InvalidText")])) := fun q d hd => ((h2 (by unfold Rd.cmp; simp only [q1, q2, q3, q4, q5]; rw [if_neg q])).on x15).new hr5 hd
      walk_at "go"
      refine r_if2 (fun c1 => ?_) (fun c1 => ?_)
      · have c1 := of_decide_eq_true c1
        walk_at "go"
        refine r_if2 (fun c2 => ?_) (fun c2 => ?_)
        · have c2 : ¬ m ≤ 12 := by simpa using c2
          walk_at "go"
          exact raise fun z => c2 z.1.2
        · have c2 : m ≤ 12 := by simpa using c2
          walk_at "go"
          refine r_if2 (fun c3 => ?_) (fun c3 => ?_)
          · have c3 := of_decide_eq_true c3
            walk_at "go"
            refine r_if2 (fun c4 => ?_) (fun c4 => ?_)
            · have c4 : ¬ rr < m := by simpa using c4
              walk_at "go"
              exact raise fun z => c4 z.2.2
            · have c4 : rr < m := by simpa using c4
              walk_at "go"
              intro p hp
              obtain ⟨uu, hu⟩ := hR5.some
              exact h1 (.res t m rr) l5 _ _ (by unfold Rd.cmp; simp only [q1, q2, q3, q4, q5]; rw [if_pos ⟨⟨c1, c2⟩, c3, c4⟩]) (hR5.ex (Ex.new hp)) (cd_new (d := 0) (c := .res t m rr) hu hp ⟨_, rfl, (ht1.ex (((x2.trans x3).trans x4).trans x5).hd).up hn⟩) (x15.trans (Ex.new hp).tb)
          · have c3 := of_decide_eq_false c3
            walk_at "go"
            exact raise fun z => c3 z.2.1
      · have c1 := of_decide_eq_false c1
        walk_at "go"
        exact raise fun z => c1 z.1.1
    · rw [lit12] at q2
      walk_at "go"
      refine ⟨r, _, src, l1, e, rfl, hR1, hs, by decide, fun l3 q3 H3 hR3 x3 => ?_, fun q3 => ?_⟩
      · rw [lit14] at q3
        have x13 := x1.trans x3
        walk_at "go"
        refine ⟨r, src, l3, e, rfl, hR3, he, hs, fun u l4 v4 H4 q4 hR4 hu4 x4 => ?_, fun q4 => (h2 (by unfold Rd.cmp; simp only [q1, q2, q3, q4])).on x13⟩
        obtain ⟨dx4, a4, hr4, ha4, hl4⟩ := id hR4
        have x14 := x13.trans x4
        walk_at "go"
        intro p hp
        obtain ⟨uu, hu⟩ := hR4.some
        refine h1 (.less t u) l4 _ _ (by unfold Rd.cmp; simp only [q1, q2, q3, q4]) (hR4.ex (Ex.new hp)) (cd_new (d := 0) (c := .less t u) hu hp ⟨_, _, rfl, (ht1.ex (x3.trans x4).hd).up hn, hu4.up hn⟩) (x14.trans (Ex.new hp).tb)
      · rw [lit14] at q3
        walk_at "go"
        refine ⟨r, _, src, l1, e, rfl, hR1, hs, by decide, fun l3 qs H3 hR3 x3 => ?_, fun qs => (h2 (by unfold Rd.cmp; rw [lit13] at qs; simp only [q1, q2, q3, qs])).on x1⟩
        rw [lit13] at qs
        have x13 := x1.trans x3
        walk_at "go"
        refine ⟨r, src, l3, e, rfl, hR3, he, hs, fun u l4 v4 H4 q4 hR4 hu4 x4 => ?_, fun q4 => (h2 (by unfold Rd.cmp; simp only [q1, q2, q3, qs, q4])).on x13⟩
        obtain ⟨dx4, a4, hr4, ha4, hl4⟩ := id hR4
        have x14 := x13.trans x4
        walk_at "go"
        intro p hp
        obtain ⟨uu, hu⟩ := hR4.some
        refine h1 (.equ t u) l4 _ _ (by unfold Rd.cmp; simp only [q1, q2, q3, qs, q4]) (hR4.ex (Ex.new hp)) (cd_new (d := 0) (c := .equ t u) hu hp ⟨_, _, rfl, (ht1.ex (x3.trans x4).hd).up hn, hu4.up hn⟩) (x14.trans (Ex.new hp).tb)
end
end PW
namespace PW
open PySem PySem.Spec PyProof.Rows L2
section
variable {P : Program} {w : World} {K : PySem.W.Frag} {mg : Str → Option Value} {base : Heap}
theorem ok1_read_condition {k n : Nat} {spj : Sp} (hP : IsPG P) (T : Txt K mg) (hj : n = 0 ∨ ∃ j, n = j + 1 ∧ spj = spRCond K j)
    (G_Reader_accept : FnOk P w K mg base CX0 k (He.ma K (He.ga K "Reader") "accept") (fdOf K (He.fAd K ("Reader", some "accept"))) p_Reader_accept (spAcc K))
    (G_Reader_word : FnOk P w K mg base CX0 k (He.ma K (He.ga K "Reader") "word") (fdOf K (He.fAd K ("Reader", some "word"))) p_Reader_word (spWord K))
    (G_Reader_need : FnOk P w K mg base (L2.CX P w) k (He.ma K (He.ga K "Reader") "need") (fdOf K (He.fAd K ("Reader", some "need"))) p_Reader_need (spNeed K))
    (G_Reader_enter : FnOk P w K mg base (L2.CX P w) k (He.ma K (He.ga K "Reader") "enter") (fdOf K (He.fAd K ("Reader", some "enter"))) p_Reader_enter (spEnter K))
    (G_read_comparison : ∀ j, n = j + 1 → FnOk P w K mg base (L2.CX P w) (k) (He.ga K "read_comparison") (fdOf K (He.ga K "read_comparison")) p_read_comparison (spRCmp K j))
    (G_read_condition : FnOk P w K mg base (L2.CX P w) k (He.ga K "read_condition") (fdOf K (He.ga K "read_condition")) p_read_condition (spj)) : FnOk P w K mg base (L2.CX P w) (k + 1) (He.ga K "read_condition") (fdOf K (He.ga K "read_condition")) p_read_condition (spRCond K n) := by
  have G_read_comparison : FnOk P w K mg base (L2.CX P w) (k) (He.ga K "read_comparison") (fdOf K (He.ga K "read_comparison")) p_read_comparison (fun vs H Q E => ∃ j, n = j + 1 ∧ spRCmp K j vs H Q E) := ⟨fun vs H Q E ⟨j, e, z⟩ => (G_read_comparison j e).len vs H Q E z, fun A outer s H args us vs Q E hr he hb hv ⟨j, e, z⟩ => (G_read_comparison j e).run A outer s H args us vs Q E hr he hb hv z⟩
  refine FunD.ok T.d_read_condition sc_read_condition (fun vs H Q E h => ?_) (fun cdv A outer s H vs Q E hr h => ?_)
  · obtain ⟨r, src, l, e, rfl, _⟩ := h
    rfl
  · obtain ⟨r, src, l, e, rfl, hR, he, hs, h1, h2⟩ := h
    have kC := T.k_Reader
    have nS := T.n_Reader_source
    have nA := T.n_Reader_at
    have nD := T.n_Reader_depth
    have hs2 := size_le hs
    refine ⟨_, ((pss_cons (ps_expr (pe_meth0 (pv 0) T.k_Reader T.m_Reader_enter G_Reader_enter hr (b_Reader_enter T) .nil (passes_call (takes_of rfl rfl rfl rfl) (fun _ _ _ _ h => h))))
    (pss_cons (ps_if (pt_val (pe_meth (pv 0) T.k_Reader T.m_Reader_accept G_Reader_accept hr (b_Reader_accept T) .nil pass0 (pa_cons pe_str pa_nil)))
      (pss_cons (ps_set (i := 1) sc_read_condition.nd rfl (Or.inl rfl) (pe_call G_read_condition hr rfl T.g_read_condition T.d_read_condition.kp (b_read_condition T) .nil (passes_call (takes_of rfl rfl rfl rfl) (fun _ _ _ _ h => h)) (pa_cons (pv 0) pa_nil)))
        (pss_cons (ps_set (i := 2) sc_read_condition.nd rfl (Or.inl rfl) (pe_ifExp (pt_val (pe_meth (pv 0) T.k_Reader T.m_Reader_accept G_Reader_accept hr (b_Reader_accept T) .nil pass0 (pa_cons pe_str pa_nil))) pe_str pe_str))
        (pss_cons (ps_if (pt_cmpR op_eq (pv 2) pe_str (nomark _))
          (pss_one (ps_expr (pe_meth (pv 0) T.k_Reader T.m_Reader_need G_Reader_need hr (b_Reader_need T) .nil (passes_call (takes_of rfl rfl rfl rfl) (fun _ _ _ _ h => h)) (pa_cons pe_str pa_nil))))
          pss_nil)
        (pss_cons (ps_set (i := 3) sc_read_condition.nd rfl (Or.inl rfl) (pe_tup (pa_cons (pv 2) (pa_cons (pv 1) (pa_cons (pe_call G_read_condition hr rfl T.g_read_condition T.d_read_condition.kp (b_read_condition T) .nil (passes_call (takes_of rfl rfl rfl rfl) (fun _ _ _ _ h => h)) (pa_cons (pv 0) pa_nil)) pa_nil)))))
        (pss_one (ps_expr (pe_meth (pv 0) T.k_Reader T.m_Reader_need G_Reader_need hr (b_Reader_need T) .nil (passes_call (takes_of rfl rfl rfl rfl) (fun _ _ _ _ h => h)) (pa_cons pe_str pa_nil))))))))
      (pss_one (ps_if (pt_val (pe_meth (pv 0) T.k_Reader T.m_Reader_accept G_Reader_accept hr (b_Reader_accept T) .nil pass0 (pa_cons pe_str pa_nil)))
          (pss_one (ps_set (i := 3) sc_read_condition.nd rfl (Or.inl rfl) (pe_tup (pa_cons pe_str (pa_cons (pe_call G_read_condition hr rfl T.g_read_condition T.d_read_condition.kp (b_read_condition T) .nil (passes_call (takes_of rfl rfl rfl rfl) (fun _ _ _ _ h => h)) (pa_cons (pv 0) pa_nil)) pa_nil)))))
          (pss_one (ps_if (pt_cmpR op_eq (pe_meth0 (pv 0) T.k_Reader T.m_Reader_word G_Reader_word hr (b_Reader_word T) .nil pass0) pe_str (nomark _))
              (pss_cons (ps_expr (pe_meth (pv 0) T.k_Reader T.m_Reader_need G_Reader_need hr (b_Reader_need T) .nil (passes_call (takes_of rfl rfl rfl rfl) (fun _ _ _ _ h => h)) (pa_cons pe_str pa_nil)))
                (pss_one (ps_set (i := 3) sc_read_condition.nd rfl (Or.inl rfl) (pe_tup (pa_cons pe_str pa_nil)))))
              (pss_one (ps_set (i := 3) sc_read_condition.nd rfl (Or.inl rfl) (pe_call G_read_comparison hr rfl T.g_read_comparison T.d_read_comparison.kp (b_read_comparison T) .nil (passes_call (takes_of rfl rfl rfl rfl) (fun _ _ _ _ h => h)) (pa_cons (pv 0) pa_nil)))))))))
    (pss_cons (ps_fldaug (pv 0) pe_int in_sub)
    (pss_one (ps_ret (pv 3))))))), ?_⟩
    show tSeq _ _ _ [some (V.ref r), none, none, none] H
    walk_at "K"
    obtain ⟨dx0, a0, hr0, ha0, hl0⟩ := id hR
    walk_at "go"
    refine ⟨r, src, l, e, rfl, hR, fun c H1 hR1 x1 => ?_, fun c => h2 ?_⟩
    · obtain ⟨n, rfl⟩ : ∃ j, n = j + 1 := ⟨n - 1, by omega⟩
      obtain rfl : spj = spRCond K n := by
        rcases hj with z | ⟨j, z, y⟩
        · cases z
        · have : j = n := by omega
          rw [← this]
          exact y
      obtain ⟨dx1, a1, hr1, ha1, hl1⟩ := id hR1
      dsimp only
      refine r_seqP (fun σ' H' => ∃ t l' v y z, σ' = [some (V.ref r), y, z, some v] ∧ Rd.cond (n + 1) l = some (t, l') ∧ RdAt K H' r src l' (e + 1) ∧ IsCd K (hide H' r) 20 (n + 1) v t ∧ ExB r H H') ?_ ?_
      · rintro σ' H2 ⟨t, l', v, y, z, rfl, q, ⟨dx2, a2, hr2, ha2, hl2⟩, ht, x2⟩
        walk_at "go"
        refine r_faug hr2 kC nD rfl ?_
        walk_at "go"
        refine r_aend hr2 (by show 3 < 1000; decide) ?_
        rw [putR_dp]
        walk_at "go"
        refine h1 t l' v _ q ⟨dx2, a2, ?_, ha2, hl2⟩ ?_ (x2.trans ExB.self)
        · rw [upd_same, show (((e + 1 : Nat) : Int) - 1) = (e : Int) by omega]
        · exact ht.ex (ExB.hd ExB.self)
      · intro N hN
        walk_at "go"
        refine ⟨r, _, src, l, _, rfl, hR1, hs, by decide, fun l2 q2 H2 hR2 x2 => ?_, fun q2 => ?_⟩
        · rw [lit16] at q2
          have x12 := x1.trans x2
          walk_at "go"
          refine ⟨r, src, l2, _, rfl, hR2, by omega, hs, fun t l3 v3 H3 q3 hR3 ht3 x3 => ?_, fun q3 => (h2 (by unfold Rd.cond; simp only [q2, q3])).on x12⟩
          obtain ⟨dx3, a3, hr3, ha3, hl3⟩ := id hR3
          have x13 := x12.trans x3
          walk_at "go"
          refine ⟨r, _, src, l3, _, rfl, hR3, hs, by decide, fun l4 q4 H4 hR4 x4 => ?_, fun q4 => ?_⟩
          · rw [lit20] at q4
            have x14 := x13.trans x4
            walk_at "go"
            refine ⟨r, src, l4, _, rfl, hR4, by omega, hs, fun u l5 v5 H5 q5 hR5 ht5 x5 => ?_, fun q5 => (h2 (by unfold Rd.cond; simp only [q2, q3, q4, q5])).on x14⟩
            have x15 := x14.trans x5
            walk_at "go"
            intro p hp
            obtain ⟨uu, hu⟩ := hR5.some
            have hR6 := hR5.ex (Ex.new (o := .tup [V.str "and", v3, v5]) hp)
            have hc6 : IsCd K (hide (L2.upd H5 p (.tup [V.str "and", v3, v5])) r) 20 (n + 1) (.ref p) (.con t u) := cd_new (c := .con t u) hu hp ⟨_, _, rfl, ht3.ex (x4.trans x5).hd, ht5⟩
            have x6 := x15.trans (Ex.new (o := .tup [V.str "and", v3, v5]) hp).tb
            obtain ⟨dx6, a6, hr6, ha6, hl6⟩ := id hR6
            generalize L2.upd H5 p (.tup [V.str "and", v3, v5]) = H6 at hR6 hc6 x6 hr6 ⊢
            walk_at "go"
            refine ⟨r, _, src, l5, _, rfl, hR6, hs, by decide, fun l7 q7 H7 hR7 x7 => ?_, fun q7 => (h2 (by unfold Rd.cond; rw [lit17] at q7; simp only [q2, q3, q4, q5, q7])).on x6⟩
            rw [lit17] at q7
            walk_at "go"
            exact hN _ _ ⟨.con t u, l7, _, _, _, rfl, by unfold Rd.cond; simp only [q2, q3, q4, q5, q7], hR7, hc6.ex x7.hd, x6.trans x7⟩
          · rw [lit20] at q4
            walk_at "go"
            refine ⟨r, _, src, l3, _, rfl, hR3, hs, by decide, fun l4 qs H4 hR4 x4 => ?_, fun qs => (h2 (by unfold Rd.cond; rw [lit21] at qs; simp only [q2, q3, q4, qs])).on x13⟩
            rw [lit21] at qs
            have x14 := x13.trans x4
            walk_at "go"
            refine ⟨r, src, l4, _, rfl, hR4, by omega, hs, fun u l5 v5 H5 q5 hR5 ht5 x5 => ?_, fun q5 => (h2 (by unfold Rd.cond; simp only [q2, q3, q4, qs, q5])).on x14⟩
            have x15 := x14.trans x5
            walk_at "go"
            intro p hp
            obtain ⟨uu, hu⟩ := hR5.some
            have hR6 := hR5.ex (Ex.new (o := .tup [V.str "or", v3, v5]) hp)
            have hc6 : IsCd K (hide (L2.upd H5 p (.tup [V.str "or", v3, v5])) r) 20 (n + 1) (.ref p) (.dis t u) := cd_new (c := .dis t u) hu hp ⟨_, _, rfl, ht3.ex (x4.trans x5).hd, ht5⟩
            have x6 := x15.trans (Ex.new (o := .tup [V.str "or", v3, v5]) hp).tb
            obtain ⟨dx6, a6, hr6, ha6, hl6⟩ := id hR6
            generalize L2.upd H5 p (.tup [V.str "or", v3, v5]) = H6 at hR6 hc6 x6 hr6 ⊢
            walk_at "go"
            refine ⟨r, _, src, l5, _, rfl, hR6, hs, by decide, fun l7 q7 H7 hR7 x7 => ?_, fun q7 => (h2 (by unfold Rd.cond; rw [lit17] at q7; simp only [q2, q3, q4, qs, q5, q7])).on x6⟩
            rw [lit17] at q7
            walk_at "go"
            exact hN _ _ ⟨.dis t u, l7, _, _, _, rfl, by unfold Rd.cond; simp only [q2, q3, q4, qs, q5, q7], hR7, hc6.ex x7.hd, x6.trans x7⟩
        · rw [lit16] at q2
          walk_at "go"
          refine ⟨r, _, src, l, _, rfl, hR1, hs, by decide, fun l3 q3 H3 hR3 x3 => ?_, fun q3 => ?_⟩
          · rw [lit15] at q3
            have x13 := x1.trans x3
            walk_at "go"
            refine ⟨r, src, l3, _, rfl, hR3, by omega, hs, fun t l4 v4 H4 q4 hR4 ht4 x4 => ?_, fun q4 => (h2 (by unfold Rd.cond; simp only [q2, q3, q4])).on x13⟩
            walk_at "go"
            intro p hp
            obtain ⟨uu, hu⟩ := hR4.some
            walk_at "go"
            exact hN _ _ ⟨.neg t, l4, _, _, _, rfl, by unfold Rd.cond; simp only [q2, q3, q4], hR4.ex (Ex.new hp), cd_new (c := .neg t) hu hp ⟨_, rfl, ht4⟩, (x13.trans x4).trans (Ex.new hp).tb⟩
          · rw [lit15] at q3
            walk_at "go"
            refine ⟨r, src, l, _, rfl, hR1, hs, fun H4 hR4 x4 => ?_⟩
            obtain ⟨dx4, a4, hr4, ha4, hl4⟩ := id hR4
            have x14 := x1.trans x4
            walk_at "go"
            refine r_if2 (fun c5 => ?_) (fun c5 => ?_)
            · have c5 := true_word.mp (of_decide_eq_true c5)
              walk_at "go"
              refine ⟨r, _, src, l, _, rfl, hR4, hs, by decide, fun l6 q6 H6 hR6 x6 => ?_, fun q6 => (h2 (by unfold Rd.cond; rw [lit22] at q6; simp only [q2, q3, c5, if_true, q6])).on x14⟩
              rw [lit22] at q6
              walk_at "go"
              intro p hp
              obtain ⟨uu, hu⟩ := hR6.some
              walk_at "go"
              exact hN _ _ ⟨.tru, l6, _, _, _, rfl, by unfold Rd.cond; simp only [q2, q3, c5, if_true, q6], hR6.ex (Ex.new hp), (cd_new (d := 0) (c := .tru) hu hp (show _ = _ from rfl)).up (Nat.le_refl _) (by omega), (x14.trans x6).trans (Ex.new hp).tb⟩
            · have c5 : ¬ l.takeWhile Rd.isLet = [116, 114, 117, 101] := fun z => of_decide_eq_false c5 (true_word.mpr z)
              walk_at "go"
              refine ⟨n, rfl, r, src, l, _, rfl, hR4, by omega, hs, fun t l6 v6 H6 q6 hR6 ht6 x6 => ?_, fun q6 => (h2 (by unfold Rd.cond; simp only [q2, q3]; rw [if_neg c5]; exact q6)).on x14⟩
              walk_at "go"
              exact hN _ _ ⟨t, l6, v6, _, _, rfl, by unfold Rd.cond; simp only [q2, q3]; rw [if_neg c5]; exact q6, hR6, ht6.up (Nat.le_refl _) (by omega), x14.trans x6⟩
    · have : n = 0 := by omega
      subst this
      rfl
theorem ok_read_condition {k : Nat} (hP : IsPG P) (T : Txt K mg)
    (G_Reader_accept : FnOk P w K mg base CX0 k (He.ma K (He.ga K "Reader") "accept") (fdOf K (He.fAd K ("Reader", some "accept"))) p_Reader_accept (spAcc K))
    (G_Reader_word : FnOk P w K mg base CX0 k (He.ma K (He.ga K "Reader") "word") (fdOf K (He.fAd K ("Reader", some "word"))) p_Reader_word (spWord K))
    (G_Reader_need : FnOk P w K mg base (L2.CX P w) k (He.ma K (He.ga K "Reader") "need") (fdOf K (He.fAd K ("Reader", some "need"))) p_Reader_need (spNeed K))
    (G_Reader_enter : FnOk P w K mg base (L2.CX P w) k (He.ma K (He.ga K "Reader") "enter") (fdOf K (He.fAd K ("Reader", some "enter"))) p_Reader_enter (spEnter K))
    (G_read_comparison : ∀ n, FnOk P w K mg base (L2.CX P w) (k + 3 * n) (He.ga K "read_comparison") (fdOf K (He.ga K "read_comparison")) p_read_comparison (spRCmp K n)) : ∀ n, FnOk P w K mg base (L2.CX P w) (k + 3 * n + 1) (He.ga K "read_condition") (fdOf K (He.ga K "read_condition")) p_read_condition (spRCond K n)
  | 0 => ok1_read_condition (spj := spNo) hP T (.inl rfl) G_Reader_accept G_Reader_word G_Reader_need G_Reader_enter (fun j e => nomatch e) fnOk_no
  | n + 1 => by
    have ih := ok_read_condition hP T G_Reader_accept G_Reader_word G_Reader_need G_Reader_enter G_read_comparison n
    exact ok1_read_condition (k := k + 3 * (n + 1)) hP T (.inr ⟨n, rfl, rfl⟩) (G_Reader_accept.mono (by omega)) (G_Reader_word.mono (by omega)) (G_Reader_need.mono (by omega)) (G_Reader_enter.mono (by omega)) (fun j e => by
      have : j = n := by omega
      subst this
      exact (G_read_comparison j).mono (by omega)) (ih.mono (by omega))
def spParseC (K : PySem.W.Frag) : Sp := fun vs H Q E => ∃ t, vs = [t] ∧ ((∃ src, t = .str src ∧ src.length ≤ 100000 ∧ (∀ c v H', Rd.cond 20 (TL.tl src) = some (c, []) → IsCd K H' 20 20 v c → Ex H H' → Q v H') ∧ ((∀ c, Rd.cond 20 (TL.tl src) ≠ some (c, [])) → ErT K H E)) ∨
  ∃ n, TyX K H t (.type n) ∧ kitB n "str" = some false ∧ ErT K H E)
theorem ok_parse_condition {k : Nat} (hP : IsPG P) (T : Txt K mg)
    {k0 : Nat} (hk : k0 + 1 = k) (G_Reader___init__ : FnOk P w K mg base (L2.CX P w) (k0) (He.ma K (He.ga K "Reader") "__init__") (fdOf K (He.fAd K ("Reader", some "__init__"))) p_Reader___init__ (spRInit K))
    (G_Reader_finish : FnOk P w K mg base (L2.CX P w) k (He.ma K (He.ga K "Reader") "finish") (fdOf K (He.fAd K ("Reader", some "finish"))) p_Reader_finish (spFinish K))
    (G_read_condition : FnOk P w K mg base (L2.CX P w) k (He.ga K "read_condition") (fdOf K (He.ga K "read_condition")) p_read_condition (spRCond K 20)) : FnOk P w K mg base (L2.CX P w) (k + 1) (He.ga K "parse_condition") (fdOf K (He.ga K "parse_condition")) p_parse_condition (spParseC K) := by
  subst hk
  refine FunD.ok T.d_parse_condition sc_parse_condition (fun vs H Q E h => ?_) (fun cdv A outer s H vs Q E hr h => ?_)
  · obtain ⟨t, rfl, _⟩ := h
    rfl
  · obtain ⟨t, rfl, hq⟩ := h
    have kC := T.k_Reader
    refine ⟨_, ((pss_cons (ps_set (i := 1) sc_parse_condition.nd rfl (Or.inl rfl) (pe_make T.mk_Reader G_Reader___init__ hr rfl T.g_Reader (b_Reader___init__ T) .nil (passes_call (takes_of rfl rfl rfl rfl) (fun _ _ _ _ h => h)) (pa_cons (pv 0) pa_nil)))
    (pss_cons (ps_set (i := 2) sc_parse_condition.nd rfl (Or.inl rfl) (pe_call G_read_condition hr rfl T.g_read_condition T.d_read_condition.kp (b_read_condition T) .nil (passes_call (takes_of rfl rfl rfl rfl) (fun _ _ _ _ h => h)) (pa_cons (pv 1) pa_nil)))
    (pss_cons (ps_expr (pe_meth0 (pv 1) T.k_Reader T.m_Reader_finish G_Reader_finish hr (b_Reader_finish T) .nil (passes_call (takes_of rfl rfl rfl rfl) (fun _ _ _ _ h => h))))
    (pss_one (ps_ret (pv 2))))))), ?_⟩
    show tSeq _ _ _ [some t, none, none] H
    walk_at "K"
    walk_at "go"
    intro x dx hx hdx hne
    have x1 : Ex H (L2.upd (L2.upd H dx (.own x)) x (.ins (RdC K) dx [])) := (Ex.new hdx).trans (Ex.new ((upd_ne (Ne.symm hne)).trans hx))
    refine ⟨x, dx, t, rfl, upd_same, ?_⟩
    rcases hq with ⟨src, rfl, hs, h1, h2⟩ | ⟨n, ty, kb, he⟩
    · refine .inl ⟨src, rfl, rfl, ?_⟩
      rw [upd2]
      have x2 : Ex H (L2.upd (L2.upd H dx (.own x)) x (.ins (RdC K) dx (fsR (.str src) (.int 0) (.int 0)))) := (Ex.new hdx).trans (Ex.new ((upd_ne (Ne.symm hne)).trans hx))
      have hR : RdAt K (L2.upd (L2.upd H dx (.own x)) x (.ins (RdC K) dx (fsR (.str src) (.int 0) (.int 0)))) x src (TL.tl src) 0 := ⟨dx, 0, upd_same, Nat.zero_le _, rfl⟩
      generalize L2.upd (L2.upd H dx (.own x)) x (.ins (RdC K) dx (fsR (.str src) (.int 0) (.int 0))) = H2 at x2 hR ⊢
      have raise : (∀ tm, Rd.cond 20 (TL.tl src) ≠ some (tm, [])) → TxtE K x H2 E := fun q d H' y hd _ => h2 q d H' (Ex.offB hx x2 y) hd
      walk_at "go"
      refine ⟨x, src, _, 0, rfl, hR, rfl, hs, fun tm l' v H3 q3 hR3 ht3 x3 => ?_, fun q3 => raise fun tm z => by rw [q3] at z; cases z⟩
      obtain ⟨dx3, a3, hr3, ha3, hl3⟩ := id hR3
      walk_at "go"
      refine ⟨x, src, l', 0, rfl, hR3, hs, fun q4 => ?_, fun q4 => (raise fun t z => ?_).on x3⟩
      · subst q4
        walk_at "go"
        exact h1 tm v H3 q3 (ht3.ex (Ex.hide H3 x)) (Ex.offB hx x2 x3)
      · rw [q3] at z
        exact q4 (Prod.mk.inj (Option.some.inj z)).2
    · exact .inr ⟨n, TyX.exU x1 ty, kb, he.on x1⟩
end
end PW
/-! ### the law's own scanner of terms: what it promises -/
namespace PW
open PySem PySem.Spec PyProof.Rows L2
/-- what a scan gives: a tuple of the place behind and what was read, or of some int and None -/
def ScQ {α : Type} (z : Str) (F : Hp → V → α → Prop) (r : Option (α × List Nat)) (H : Hp) (Q : VK) : Prop :=
  (∀ t l', r = some (t, l') → ∀ (a : Nat) v p H', (TL.tl z).drop a = l' → a ≤ (TL.tl z).length → H' p = some (.tup [.int (a : Int), v]) → F H' v t → Ex H H' → Q (.ref p) H') ∧
  (r = none → ∀ (i : Int) p H', H' p = some (.tup [.int i, .non]) → Ex H H' → Q (.ref p) H')
theorem ScQ.on {α : Type} {z : Str} {F : Hp → V → α → Prop} {r : Option (α × List Nat)} {H H1 : Hp} {Q : VK} (h : ScQ z F r H Q) (x : Ex H H1) : ScQ z F r H1 Q :=
  ⟨fun t l' e a v p H' h1 h2 h3 h4 y => h.1 t l' e a v p H' h1 h2 h3 h4 (x.trans y), fun e i p H' h1 y => h.2 e i p H' h1 (x.trans y)⟩
theorem ScQ.no {α : Type} {z : Str} {F : Hp → V → α → Prop} {r : Option (α × List Nat)} {H H1 : Hp} {Q : VK} (h : ScQ z F r H Q) (x : Ex H H1) (e : r = none) (i : Int) : ∀ p, H1 p = none → Q (.ref p) (L2.upd H1 p (.tup [.int i, .non])) :=
  fun p hp => h.2 e i p _ upd_same (x.trans (Ex.new hp))
theorem ScQ.yes {α : Type} {z : Str} {F : Hp → V → α → Prop} {r : Option (α × List Nat)} {H H1 : Hp} {Q : VK} (h : ScQ z F r H Q) (x : Ex H H1) {t : α} {l' : List Nat} (e : r = some (t, l')) {a : Nat} {v : V} (h1 : (TL.tl z).drop a = l') (h2 : a ≤ (TL.tl z).length)
    (h3 : ∀ H2, Ex H1 H2 → F H2 v t) : ∀ p, H1 p = none → Q (.ref p) (L2.upd H1 p (.tup [.int (a : Int), v])) :=
  fun p hp => h.1 t l' e a v p _ h1 h2 upd_same (h3 _ (Ex.new hp)) (x.trans (Ex.new hp))
/-- the text z at a place: l is left -/
structure AtS (z : Str) (a : Nat) (l : List Nat) : Prop where
  drop : (TL.tl z).drop a = l
  le : a ≤ (TL.tl z).length
  size : z.length ≤ 100000
theorem AtS.pass {z : Str} {a : Nat} {w l l' : List Nat} (h : AtS z a l) (q : Rd.acc w l = some l') : AtS z (a + w.length) l' := by
  have z := rd_pass h.le h.drop (acc_some q)
  exact ⟨z.2, z.1, h.size⟩
theorem AtS.skip {z : Str} {a : Nat} {l : List Nat} (p : Nat → Bool) (h : AtS z a l) : AtS z (a + (l.takeWhile p).length) (l.dropWhile p) := by
  have z := rd_pass h.le h.drop (List.takeWhile_append_dropWhile (p := p) (l := l)).symm
  exact ⟨z.2, z.1, h.size⟩
theorem cut_eq {src w : Str} {a : Nat} {i j : Int} {l ws : List Nat} (hl : (TL.tl src).drop a = l) (hw : TL.tl w = ws) (hi : i = (a : Int)) (hj : j = (a : Int) + ((ws.length : Nat) : Int)) :
    decide (V.str (cutS src (some i) (some j)) = V.str w) = (Rd.acc ws l).isSome := by
  subst hw hi hj
  rw [← len_eq]
  exact sees_eq hl
theorem r_cut {src w : Str} {a : Nat} {i j : Int} {l ws : List Nat} {A B : Prop} (h : AtS src a l) (hw : TL.tl w = ws) (hi : i = (a : Int)) (hj : j = (a : Int) + ((ws.length : Nat) : Int)) (h1 : ∀ l', Rd.acc ws l = some l' → A) (h2 : Rd.acc ws l = none → B) :
    if decide (V.str (cutS src (some i) (some j)) = V.str w) = true then A else B := by
  rw [cut_eq h.drop hw hi hj]
  cases q : Rd.acc ws l with
  | none => exact r_ifF' rfl (h2 q)
  | some l' => exact r_ifT' rfl (h1 l' q)
theorem r_ncut {src w : Str} {a : Nat} {i j : Int} {l ws : List Nat} {A B : Prop} (h : AtS src a l) (hw : TL.tl w = ws) (hi : i = (a : Int)) (hj : j = (a : Int) + ((ws.length : Nat) : Int)) (h1 : Rd.acc ws l = none → A) (h2 : ∀ l', Rd.acc ws l = some l' → B) :
    if (!decide (V.str (cutS src (some i) (some j)) = V.str w)) = true then A else B := by
  rw [cut_eq h.drop hw hi hj]
  cases q : Rd.acc ws l with
  | none => exact r_ifT' rfl (h1 q)
  | some l' => exact r_ifF' rfl (h2 l' q)
/-- the rest of a pair behind its first term -/
def Rd.pairR (rd : List Nat → Option (Tm × List Nat)) (t : Tm) (l1 : List Nat) : Option (Tm × List Nat) :=
  match acc [32, 47, 47, 32] l1 with
  | some l2 => match num l2 with
    | none => none
    | some (m, l3) => match acc [41] l3 with
      | none => none
      | some l4 => if 1 ≤ m ∧ m ≤ 99 then some (.quo t m, l4) else none
  | none => match acc [32, 43, 32] l1 with
    | some l2 => match rd l2 with
      | none => none
      | some (u, l3) => match acc [41] l3 with
        | none => none
        | some l4 => some (.add t u, l4)
    | none => match acc [32, 45, 32] l1 with
      | none => none
      | some l2 => match rd l2 with
        | none => none
        | some (u, l3) => match acc [41] l3 with
          | none => none
          | some l4 => some (.sub t u, l4)
theorem Rd.pair_eq (rd : List Nat → Option (Tm × List Nat)) (l : List Nat) : Rd.pair rd l = match rd l with
  | none => none
  | some (t, l1) => Rd.pairR rd t l1 := rfl
def spLRun : Sp := fun vs H Q _ => ∃ z a sg l, ∃ p : Nat → Bool, vs = [.str z, .int ((a : Nat) : Int), .str sg] ∧ (∀ c, decide (c ∈ sg.cps.toList) = p c) ∧ AtS z a l ∧ Q (.int ((a + (l.takeWhile p).length : Nat) : Int)) H
def spLNum : Sp := fun vs H Q _ => ∃ z a l, vs = [.str z, .int ((a : Nat) : Int)] ∧ AtS z a l ∧ ScQ z (fun _ v i => v = .int i) (Rd.num l) H Q
def spLPair (K : PySem.W.Frag) (n : Nat) : Sp := fun vs H Q _ => ∃ z a l v t lev, vs = [.str z, .int ((a : Nat) : Int), v, .int lev] ∧ AtS z a l ∧ lev + n = 21 ∧ IsTm K H n v t ∧ ScQ z (fun H' v t => IsTm K H' (n + 1) v t) (Rd.pairR (Rd.term n) t l) H Q
def spLWord (K : PySem.W.Frag) (n : Nat) : Sp := fun vs H Q _ => ∃ z a l lev, vs = [.str z, .int ((a : Nat) : Int), .int lev] ∧ AtS z a l ∧ lev + n = 21 ∧ ScQ z (fun H' v t => IsTm K H' (n + 1) v t) (Rd.word (Rd.term n) l) H Q
def spLScan (K : PySem.W.Frag) (n : Nat) : Sp := fun vs H Q _ => ∃ z a l lev, vs = [.str z, .int ((a : Nat) : Int), .int lev] ∧ AtS z a l ∧ lev + n = 21 ∧ ScQ z (fun H' v t => IsTm K H' n v t) (Rd.term n l) H Q
end PW
/-! ### runs of signs, numbers -/
namespace PW
open PySem PySem.Spec PyProof.Rows L2
section
variable {P : Program} {w : World} {K : PySem.W.Frag} {mg : Str → Option Value} {base : Heap}
theorem ok__law_run (T : Txt K mg) : FnOk P w K mg base CX0 (1) (He.ga K "_law_run") (fdOf K (He.ga K "_law_run")) p__law_run (spLRun) := by
  refine FunD.ok T.d__law_run sc__law_run (fun vs H Q E h => ?_) (fun cdv A outer s H vs Q E hr h => ?_)
  · obtain ⟨z, a, sg, l, p, rfl, _⟩ := h
    rfl
  · obtain ⟨z, a, sg, l, p, rfl, hp, ⟨hl, ha, hs⟩, hQ⟩ := h
    have hs2 := size_le hs
    refine ⟨_, PSs.nox ((pss_cons (ps_set (i := 3) sc__law_run.nd rfl (Or.inl rfl) (pv 1))
    (pss_cons (ps_while PassesOwn.never (PW.pt (pw_and (pt_cmpR op_lt (pv 3) (pe_callB call_lenN (by rfl) T.f_len (by decide +kernel) (pa_cons (pv 0) pa_nil)) (nomark _)) (pw_and1 (pt_cmpR op_inS (pe_ix ix_str (pv 0) (pv 3) (fun _ _ => rfl)) (pv 2) rfl))))
      (pss_one (ps_set (i := 3) sc__law_run.nd rfl (Or.inl rfl) (pe_op op_add (pv 3) pe_int))))
    (pss_one (ps_ret (pv 3)))))), ?_⟩
    show tSeq _ _ _ [some (V.str z), some (V.int a), some (V.str sg), none] H
    walk_at "K"
    walk_at "go"
    obtain ⟨Pv, hPv⟩ : ∃ Pv : Nat → L2.St → Hp → Prop, Pv = fun m σ H' => ∃ x y, σ = [some (V.str z), some (V.int a), some (V.str sg), some (V.int ((a + x.length : Nat) : Int))] ∧ l = x ++ y ∧ m = y.length ∧ (∀ c ∈ x, p c = true) ∧ H' = H := ⟨_, rfl⟩
    refine while_it Pv (m0 := l.length) (by rw [hPv]; exact ⟨[], l, rfl, rfl, rfl, (fun c hc => nomatch hc), rfl⟩) ?_
    intro m σ H1 hpv
    rw [hPv] at hpv
    obtain ⟨x, y, rfl, rfl, rfl, hx, rfl⟩ := hpv
    have hq := rd_pass ha hl rfl
    have fin : (∀ c, y.head? = some c → p c = false) → Q (.int ((a + x.length : Nat) : Int)) H1 := fun hy => by
      have tw := Rd.tw_app hx hy
      rw [tw.1] at hQ
      exact hQ
    walk_at "go"
    have hlen := congrArg List.length hq.2
    rw [List.length_drop, ← len_eq] at hlen
    refine r_if2 (fun q => ?_) (fun q => ?_)
    · have q := of_decide_eq_true q
      walk_at "go"
      obtain ⟨c, y2, rfl⟩ : ∃ c y2, y = c :: y2 := by
        cases y with
        | nil =>
          rw [List.length_nil] at hlen
          rw [← len_eq] at hq
          omega
        | cons c y2 => exact ⟨c, y2, rfl⟩
      have hc : (TL.tl z)[a + x.length]? = some c := by
        have e := congrArg List.head? hq.2
        rw [List.head?_drop] at e
        exact e
      refine r_ixS hs2 (atI_nat hc) ?_
      walk_at "go"
      rw [hp c]
      cases hc2 : p c with
      | true =>
        refine r_ifT ?_
        refine r_turn ?_
        walk_at "go"
        refine ⟨y2.length, by rw [List.length_cons]; omega, ?_⟩
        rw [hPv]
        refine ⟨x ++ [c], y2, ?_, by simp, rfl, ?_, rfl⟩
        · show [_, _, _, _] = [_, _, _, _]
          rw [List.length_append, show ((a + (x.length + [c].length) : Nat) : Int) = ((a + x.length : Nat) : Int) + 1 by simp only [List.length_cons, List.length_nil]; omega]
        · intro d hd
          rcases List.mem_append.mp hd with hd | hd
          · exact hx d hd
          · rw [List.mem_singleton.mp hd]
            exact hc2
      | false =>
        refine r_ifF ?_
        walk_at "go"
        exact fin fun d hd => by
          have hd : c = d := Option.some.inj hd
          subst hd
          exact hc2
    · have q := of_decide_eq_false q
      walk_at "go"
      refine fin fun d hd => ?_
      have : y = [] := List.length_eq_zero_iff.mp (by rw [← len_eq] at hq; omega)
      subst this
      cases hd
theorem ok__law_scan_number {k : Nat} (T : Txt K mg) (G__law_run : FnOk P w K mg base CX0 k (He.ga K "_law_run") (fdOf K (He.ga K "_law_run")) p__law_run (spLRun)) : FnOk P w K mg base CX0 (k + 1) (He.ga K "_law_scan_number") (fdOf K (He.ga K "_law_scan_number")) p__law_scan_number (spLNum) := by
  refine FunD.ok T.d__law_scan_number sc__law_scan_number (fun vs H Q E h => ?_) (fun cdv A outer s H vs Q E hr h => ?_)
  · obtain ⟨z, a, l, rfl, _⟩ := h
    rfl
  · obtain ⟨z, a, l, rfl, hA, hQ⟩ := h
    have hs2 := size_le hA.size
    refine ⟨_, PSs.nox ((pss_cons (ps_set (i := 2) sc__law_scan_number.nd rfl (Or.inl rfl) (pe_op op_add (pv 1) (pe_callTy call_intN (by rfl) T.f_int (by decide +kernel) (pa_cons (pe_cmpR op_eq (pe_slice sl_str (pv 0) (po_some (pv 1)) (po_some (pe_op op_add (pv 1) pe_int))) pe_str (nomark _)) pa_nil))))
    (pss_cons (ps_set (i := 3) sc__law_scan_number.nd rfl (Or.inl rfl) (pe_call G__law_run hr rfl T.g__law_run T.d__law_run.kp (b__law_run T) .nil pass0 (pa_cons (pv 0) (pa_cons (pv 2) (pa_cons pe_str pa_nil)))))
    (pss_cons (ps_set (i := 4) sc__law_scan_number.nd rfl (Or.inl rfl) (pe_slice sl_str (pv 0) (po_some (pv 2)) (po_some (pv 3))))
    (pss_cons (ps_if (PW.pt (pw_or (pt_not (pt_chain op_le op_le pe_int (pe_callB call_lenN (by rfl) T.f_len (by decide +kernel) (pa_cons (pv 4) pa_nil)) pe_int)) (pw_or1 (PW.pt (pw_and (pt_cmpR op_eq (pe_ix ix_str (pv 4) pe_int (fun _ _ => rfl)) pe_str (nomark _)) (pw_and1 (PW.pt (pw_or (pt_cmpR op_gt (pe_callB call_lenN (by rfl) T.f_len (by decide +kernel) (pa_cons (pv 4) pa_nil)) pe_int (nomark _)) (pw_or1 (pt_cmpR op_gt (pv 2) (pv 1) (nomark _)))))))))))
      (pss_one (ps_ret (pe_tup (pa_cons (pv 1) (pa_cons pe_non pa_nil)))))
      pss_nil)
    (pss_one (ps_ret (pe_tup (pa_cons (pv 3) (pa_cons (pe_ifExp (pt_cmpR op_eq (pv 2) (pv 1) (nomark _)) (pe_callTy call_int_str (by rfl) T.f_int (by decide +kernel) (pa_cons (pv 4) pa_nil)) (pe_op op_sub pe_int (pe_callTy call_int_str (by rfl) T.f_int (by decide +kernel) (pa_cons (pv 4) pa_nil)))) pa_nil)))))))))), ?_⟩
    show tSeq _ _ _ [some (V.str z), some (V.int a), none, none, none] H
    walk_at "K"
    obtain ⟨m, l1, a1, hm, hl1, ha1, hA1, hgt⟩ : ∃ (m : Bool) (l1 : List Nat) (a1 : Nat), m = (Rd.acc [45] l).isSome ∧ l1 = (Rd.acc [45] l).getD l ∧ a1 = a + (if m = true then 1 else 0) ∧ AtS z a1 l1 ∧ (a1 : Int) = (a : Int) + (if m = true then 1 else 0) := by
      cases q : Rd.acc [45] l with
      | none => exact ⟨false, l, a, rfl, rfl, rfl, hA, by simp⟩
      | some l1 => exact ⟨true, l1, a + 1, rfl, rfl, rfl, hA.pass q, by simp⟩
    walk_at "go"
    rw [cut_eq (j := (a : Int) + 1) hA.drop lit11 rfl rfl, ← hm]
    refine .inr ⟨m, rfl, ?_⟩
    walk_at "go"
    rw [← hgt]
    walk_at "go"
    refine ⟨z, a1, _, l1, Rd.isDig, rfl, digs_mem, hA1, ?_⟩
    have hds := tw_len (p := Rd.isDig) l1
    have hall : ∀ c ∈ l1.takeWhile Rd.isDig, Rd.isDig c = true := tw_all
    have hlen : l1.length ≤ 100000 := by
      rw [← hA1.drop, List.length_drop, ← len_eq]
      have := hA1.size
      omega
    have hnum : Rd.num l = if 1 ≤ (l1.takeWhile Rd.isDig).length ∧ (l1.takeWhile Rd.isDig).length ≤ 9 ∧ ¬ ((l1.takeWhile Rd.isDig).head? = some 48 ∧ (1 < (l1.takeWhile Rd.isDig).length ∨ m = true)) then some (if m = true then -((NumText.digitsVal (l1.takeWhile Rd.isDig) : Nat) : Int) else ((NumText.digitsVal (l1.takeWhile Rd.isDig) : Nat) : Int), l1.dropWhile Rd.isDig) else none := by
      subst hm hl1
      rfl
    have hA2 := hA1.skip Rd.isDig
    have hcut : cutS z (some (a1 : Int)) (some ((a1 + (l1.takeWhile Rd.isDig).length : Nat) : Int)) = ⟨(l1.takeWhile Rd.isDig).toArray⟩ := TL.ext_tl (by
      rw [tl_cut, hA1.drop, show a1 + (l1.takeWhile Rd.isDig).length - a1 = (l1.takeWhile Rd.isDig).length by omega]
      have e : ∀ x y : List Nat, x ++ y = l1 → l1.take x.length = x := fun x y e => by rw [← e]; exact List.take_left
      exact e _ _ (List.takeWhile_append_dropWhile (p := Rd.isDig) (l := l1)))
    walk_at "go"
    rw [hcut]
    generalize l1.takeWhile Rd.isDig = ds at hds hall hnum hA2 ⊢
    generalize l1.dropWhile Rd.isDig = l2 at hnum hA2 ⊢
    have hsz : (⟨ds.toArray⟩ : Str).length ≤ sizeLine := size_le (by rw [S_len]; omega)
    walk_at "go"
    have hint : ds ≠ [] → ds.length ≤ 9 → intText? (⟨ds.toArray⟩ : Str) = some ((NumText.digitsVal ds : Nat) : Int) := fun hne h9 => SX.int_S (List.all_eq_true.mpr hall) hne (by omega)
    have yes : (1 ≤ ds.length ∧ ds.length ≤ 9 ∧ ¬ (ds.head? = some 48 ∧ (1 < ds.length ∨ m = true))) → ∀ p, H p = none → Q (.ref p) (L2.upd H p (.tup [.int ((a1 + ds.length : Nat) : Int), .int (if m = true then -((NumText.digitsVal ds : Nat) : Int) else ((NumText.digitsVal ds : Nat) : Int))])) := fun c =>
      hQ.yes (Ex.refl H) (by rw [hnum, if_pos c]) hA2.drop hA2.le fun _ _ => rfl
    have no : ¬ (1 ≤ ds.length ∧ ds.length ≤ 9 ∧ ¬ (ds.head? = some 48 ∧ (1 < ds.length ∨ m = true))) → ∀ p, H p = none → Q (.ref p) (L2.upd H p (.tup [.int a, .non])) := fun c => hQ.no (Ex.refl H) (by rw [hnum, if_neg c]) _
    refine r_if2 (fun q1 => ?_) (fun q1 => ?_)
    · have q1 := of_decide_eq_true q1
      rw [S_len] at q1
      walk_at "go"
      refine r_if2 (fun q2 => ?_) (fun q2 => ?_)
      · have q2 : ¬ ((⟨ds.toArray⟩ : Str).length : Int) ≤ 9 := by simpa using q2
        rw [S_len] at q2
        walk_at "go"
        exact no fun c => q2 (by omega)
      · have q2 : ((⟨ds.toArray⟩ : Str).length : Int) ≤ 9 := by simpa using q2
        rw [S_len] at q2
        obtain ⟨c, ds2, rfl⟩ : ∃ c ds2, ds = c :: ds2 := by
          cases ds with
          | nil => rw [List.length_nil] at q1; exact absurd q1 (by decide)
          | cons c ds2 => exact ⟨c, ds2, rfl⟩
        have hl640 : (⟨(c :: ds2).toArray⟩ : Str).length ≤ 640 := by rw [S_len]; omega
        have hi := hint (List.cons_ne_nil _ _) (by omega)
        have c48 : V.str (⟨#[c]⟩ : Str) = V.str (Str.ofString "0") ↔ c = 48 := by
          have e0 : (Str.ofString "0") = ⟨#[48]⟩ := by decide +kernel
          rw [e0]
          constructor
          · intro z
            have z := congrArg (fun y : Str => y.cps.toList) (V.str.inj z)
            simpa using z
          · rintro rfl
            rfl
        walk_at "go"
        refine r_ixS hsz (by exact atI0) ?_
        walk_at "go"
        refine r_if2 (fun q3 => ?_) (fun q3 => ?_)
        · have q3 := c48.mp (of_decide_eq_true q3)
          subst q3
          walk_at "go"
          refine r_if2 (fun q4 => ?_) (fun q4 => ?_)
          · have q4 := of_decide_eq_true q4
            rw [S_len] at q4
            walk_at "go"
            exact no fun c => c.2.2 ⟨rfl, .inl (by omega)⟩
          · have q4 := of_decide_eq_false q4
            rw [S_len] at q4
            walk_at "go"
            cases m with
            | true =>
              simp only [if_true] at hgt
              refine r_ifT' (decide_eq_true (by omega)) ?_
              walk_at "go"
              exact no fun c => c.2.2 ⟨rfl, .inr rfl⟩
            | false =>
              simp only [Bool.false_eq_true, if_false, Int.add_zero] at hgt
              refine r_ifF' (decide_eq_false (by omega)) ?_
              walk_at "go"
              refine r_ifT' (decide_eq_true (by rw [hgt])) ?_
              walk_at "go"
              refine ⟨_, _, rfl, hi, hl640, ?_⟩
              walk_at "go"
              exact yes ⟨by omega, by omega, fun z => z.2.elim (fun y => q4 (by omega)) fun y => nomatch y⟩
        · have q3 : ¬ c = 48 := fun z => of_decide_eq_false q3 (c48.mpr z)
          have cond : ¬ ((c :: ds2).head? = some 48 ∧ (1 < (c :: ds2).length ∨ m = true)) := fun z => q3 (Option.some.inj z.1)
          walk_at "go"
          cases m with
          | true =>
            simp only [if_true] at hgt
            refine r_ifF' (decide_eq_false fun z => ?_) ?_
            · have z := V.int.inj z
              omega
            walk_at "go"
            refine ⟨_, _, rfl, hi, hl640, ?_⟩
            walk_at "go"
            rw [Int.zero_sub]
            exact yes ⟨by omega, by omega, cond⟩
          | false =>
            simp only [Bool.false_eq_true, if_false, Int.add_zero] at hgt
            refine r_ifT' (decide_eq_true (by rw [hgt])) ?_
            walk_at "go"
            refine ⟨_, _, rfl, hi, hl640, ?_⟩
            walk_at "go"
            exact yes ⟨by omega, by omega, cond⟩
    · have q1 := of_decide_eq_false q1
      rw [S_len] at q1
      walk_at "go"
      exact no fun c => q1 (by omega)
end
end PW
/-! ### pairs -/
namespace PW
open PySem PySem.Spec PyProof.Rows L2
theorem cut_iff {src w : Str} {a : Nat} {i j : Int} {l ws : List Nat} (h : AtS src a l) (hw : TL.tl w = ws) (hi : i = (a : Int)) (hj : j = (a : Int) + ((ws.length : Nat) : Int)) : w = cutS src (some i) (some j) ↔ (Rd.acc ws l).isSome = true := by
  rw [← cut_eq h.drop hw hi hj, decide_eq_true_iff]
  constructor
  · intro e
    rw [e]
  · intro e
    exact (V.str.inj e).symm
theorem IsTm.ref {K : PySem.W.Frag} {H : Hp} : ∀ {d : Nat} {v : V} {t : Tm}, IsTm K H d v t → ∃ p, v = .ref p
  | 0, _, _, h => h.elim
  | _ + 1, _, _, ⟨p, _, e, _⟩ => ⟨p, e⟩
/-- {k1: v1, k2: v2}.get(z, d) -/
theorem r_dsel2 {σ : L2.St} {H : Hp} {Q : VK} {ty : TE} {k1 k2 z : Str} {v1 v2 d : V} (hk : k1 ≠ k2) (h : ∀ (H' : Hp) (R : VK), Ex H H' → R (.str z) H' → ty σ H' R) (q : ∀ H', Ex H H' → Q (if k1 = z then v1 else if k2 = z then v2 else d) H') : tDGet2 (tDisp [(tC (.str k1), tC v1), (tC (.str k2), tC v2)]) ty (tC d) σ H Q := by
  intro p hp
  refine ⟨upd_same, [((.inr k1 : Key), v1), ((.inr k2 : Key), v2)], rfl, by show 2 ≤ 15; decide, ?_⟩
  have x : Ex H (L2.upd (L2.upd H p (.dK [])) p (.dK (mergeK [] [((.inr k1 : Key), v1), ((.inr k2 : Key), v2)]))) := by
    intro a o ha
    rw [upd_ne (ne_of_none ha hp), upd_ne (ne_of_none ha hp)]
    exact ha
  have dg := DGet.k (k := (.inr z : Key)) (upd_same (H := L2.upd H p (.dK [])) (a := p) (o := .dK (mergeK [] [((.inr k1 : Key), v1), ((.inr k2 : Key), v2)])))
  refine ⟨p, rfl, .inl ⟨_, .inl upd_same⟩, ?_⟩
  refine h _ _ x ?_
  refine ⟨_, dg, ?_⟩
  have n : ¬ (Sum.inr k1 : Key) = Sum.inr k2 := fun z => hk (Sum.inr.inj z)
  have m : mergeK [] [((.inr k1 : Key), v1), ((.inr k2 : Key), v2)] = [((.inr k1 : Key), v1), ((.inr k2 : Key), v2)] := by
    simp [mergeK, putK, n]
  have e : (valV (mergeK [] [((.inr k1 : Key), v1), ((.inr k2 : Key), v2)]) (.inr z)).getD d = if k1 = z then v1 else if k2 = z then v2 else d := by
    rw [m]
    by_cases h1 : k1 = z
    · subst h1
      rw [valV_pos rfl, if_pos rfl]
      rfl
    · have n1 : ¬ (Sum.inr z : Key) = Sum.inr k1 := fun y => h1 (Sum.inr.inj y).symm
      have n1' : ¬ (Sum.inr k1 : Key) = Sum.inr z := fun y => h1 (Sum.inr.inj y)
      rw [if_neg h1, valV_neg n1']
      by_cases h2 : k2 = z
      · subst h2
        rw [valV_pos rfl, if_pos rfl]
        rfl
      · have n2' : ¬ (Sum.inr k2 : Key) = Sum.inr z := fun y => h2 (Sum.inr.inj y)
        rw [if_neg h2, valV_neg n2']
        rfl
  rw [e]
  exact q _ x
section
variable {P : Program} {w : World} {K : PySem.W.Frag} {mg : Str → Option Value} {base : Heap}
theorem ok__law_scan_pair {k n : Nat} (T : Txt K mg)
    (G__law_scan_number : FnOk P w K mg base CX0 k (He.ga K "_law_scan_number") (fdOf K (He.ga K "_law_scan_number")) p__law_scan_number (spLNum))
    (G__law_scan : FnOk P w K mg base CX0 k (He.ga K "_law_scan") (fdOf K (He.ga K "_law_scan")) p__law_scan (spLScan K n)) : FnOk P w K mg base CX0 (k + 1) (He.ga K "_law_scan_pair") (fdOf K (He.ga K "_law_scan_pair")) p__law_scan_pair (spLPair K n) := by
  refine FunD.ok T.d__law_scan_pair sc__law_scan_pair (fun vs H Q E h => ?_) (fun cdv A outer s H vs Q E hr h => ?_)
  · obtain ⟨z, a, l, v, t, lev, rfl, _⟩ := h
    rfl
  · obtain ⟨z, a, l, v, t, lev, rfl, hA, hlev, hv, hQ⟩ := h
    have hs2 := size_le hA.size
    refine ⟨_, PSs.nox ((pss_cons (ps_if (pt_cmpR op_eq (pe_slice sl_str (pv 0) (po_some (pv 1)) (po_some (pe_op op_add (pv 1) pe_int))) pe_str (nomark _))
      (pss_cons (ps_asg (pe_call G__law_scan_number hr rfl T.g__law_scan_number T.d__law_scan_number.kp (b__law_scan_number T) .nil pass0 (pa_cons (pv 0) (pa_cons (pe_op op_add (pv 1) pe_int) pa_nil))) (pg_tup rfl (pgs_cons (pg_name (i := 4) sc__law_scan_pair.nd rfl (Or.inl rfl) (hf := by first | exact Or.inl rfl | exact Or.inr rfl)) (pgs_cons (pg_name (i := 5) sc__law_scan_pair.nd rfl (Or.inl rfl) (hf := by first | exact Or.inl rfl | exact Or.inr rfl)) pgs_nil))))
        (pss_cons (ps_set (i := 6) sc__law_scan_pair.nd rfl (Or.inl rfl) (pe_and (pe_cmp (pc_notN (pv 5)) rfl) (pe_and (pe_chain op_le op_le pe_int (pv 5) pe_int) (pe_one (pe_cmpR op_eq (pe_slice sl_str (pv 0) (po_some (pv 4)) (po_some (pe_op op_add (pv 4) pe_int))) pe_str (nomark _))))))
        (pss_one (ps_ret (pe_tup (pa_cons (pe_op op_add (pv 4) pe_int) (pa_cons (pe_ifExp (pt_val (pv 6)) (pe_tup (pa_cons pe_str (pa_cons (pv 2) (pa_cons (pv 5) pa_nil)))) pe_non) pa_nil)))))))
      pss_nil)
    (pss_cons (ps_set (i := 7) sc__law_scan_pair.nd rfl (Or.inl rfl) (pe_dget2 (hu_of hr) (pe_disp (pps_cons pe_str pe_str (pps_cons pe_str pe_str pps_nil)) (by rfl) (by rfl) (fun z => by cases z) (by decide)) (pe_slice sl_str (pv 0) (po_some (pv 1)) (po_some (pe_op op_add (pv 1) pe_int))) pe_str ⟨rfl, rfl, rfl, rfl⟩))
    (pss_cons (ps_if (pt_cmpR op_eq (pv 7) pe_str (nomark _))
      (pss_one (ps_ret (pe_tup (pa_cons (pv 1) (pa_cons pe_non pa_nil)))))
      pss_nil)
    (pss_cons (ps_asg (pe_call G__law_scan hr rfl T.g__law_scan T.d__law_scan.kp (b__law_scan T) .nil pass0 (pa_cons (pv 0) (pa_cons (pe_op op_add (pv 1) pe_int) (pa_cons (pv 3) pa_nil)))) (pg_tup rfl (pgs_cons (pg_name (i := 4) sc__law_scan_pair.nd rfl (Or.inl rfl) (hf := by first | exact Or.inl rfl | exact Or.inr rfl)) (pgs_cons (pg_name (i := 8) sc__law_scan_pair.nd rfl (Or.inl rfl) (hf := by first | exact Or.inl rfl | exact Or.inr rfl)) pgs_nil))))
    (pss_one (ps_ret (pe_tup (pa_cons (pe_op op_add (pv 4) pe_int) (pa_cons (pe_ifExp (PW.pt (pw_and (pt_cmp (pc_notN (pv 8)) rfl) (pw_and1 (pt_cmpR op_eq (pe_slice sl_str (pv 0) (po_some (pv 4)) (po_some (pe_op op_add (pv 4) pe_int))) pe_str (nomark _))))) (pe_tup (pa_cons (pv 7) (pa_cons (pv 2) (pa_cons (pv 8) pa_nil)))) pe_non) pa_nil)))))))))), ?_⟩
    show tSeq _ _ _ [some (V.str z), some (V.int a), some v, some (V.int lev), none, none, none, none, none] H
    walk_at "K"
    walk_at "go"
    refine r_cut hA lit6 rfl rfl (fun l2 q2 => ?_) (fun q2 => ?_)
    · walk_at "go"
      have hA2 := hA.pass q2
      refine ⟨z, a + 4, l2, rfl, hA2, fun m l3 q3 a3 v3 p3 H3 d3 e3 hp3 hv3 x3 => ?_, fun q3 i p3 H3 hp3 x3 => ?_⟩
      · subst hv3
        have hA3 : AtS z a3 l3 := ⟨d3, e3, hA.size⟩
        have no : ¬ (∃ l4, Rd.acc [41] l3 = some l4 ∧ 1 ≤ m ∧ m ≤ 99) → ∀ p, H3 p = none → Q (.ref p) (L2.upd H3 p (.tup [.int ((a3 : Int) + 1), .non])) := fun c => hQ.no x3 (by
          unfold Rd.pairR
          simp only [q2, q3]
          cases q4 : Rd.acc [41] l3 with
          | none => rfl
          | some l4 => exact if_neg fun y => c ⟨l4, q4, y⟩) _
        walk_at "go"
        refine r_if2 (fun c1 => ?_) (fun c1 => ?_)
        · have c1 := of_decide_eq_true c1
          walk_at "go"
          refine r_if2 (fun c2 => ?_) (fun c2 => ?_)
          · have c2 := of_decide_eq_true c2
            walk_at "go"
            rw [cut_eq (j := (a3 : Int) + 1) hA3.drop lit3 rfl rfl]
            cases q4 : Rd.acc [41] l3 with
            | none =>
              rw [show (none : Option (List Nat)).isSome = false from rfl]
              walk_at "go"
              exact no fun ⟨l4, y, _⟩ => by rw [q4] at y; cases y
            | some l4 =>
              rw [show (some l4 : Option (List Nat)).isSome = true from rfl]
              walk_at "go"
              intro p hp
              walk_at "go"
              have hA4 := hA3.pass q4
              have x4 := x3.trans (Ex.new (o := .tup [V.str "quotient", v, .int m]) hp)
              refine hQ.yes (a := a3 + 1) x4 (t := .quo t m) (l' := l4) (by unfold Rd.pairR; simp only [q2, q3, q4]; exact if_pos ⟨c1, c2⟩) hA4.drop hA4.le fun H5 x5 => ?_
              exact (IsTm.mk (t := .quo t m) (upd_same (H := H3) (a := p) (o := .tup [V.str "quotient", v, .int m])) ⟨_, rfl, hv.ex x4⟩).ex x5
          · have c2 := of_decide_eq_false c2
            walk_at "go"
            exact no fun ⟨l4, _, y⟩ => c2 y.2
        · have c1 := of_decide_eq_false c1
          walk_at "go"
          exact no fun ⟨l4, _, y⟩ => c1 y.1
      · walk_at "go"
        exact hQ.no x3 (by unfold Rd.pairR; simp only [q2, q3]) _
    · walk_at "go"
      refine r_dsel2 (z := cutS z (some (a : Int)) (some ((a : Int) + 3))) (by decide +kernel) (fun H' R x q => by walk_at "go"; exact q) fun H1 x1 => ?_
      have i1 := cut_iff (j := (a : Int) + 3) hA lit7 rfl rfl
      have i2 := cut_iff (j := (a : Int) + 3) hA lit8 rfl rfl
      cases q3 : Rd.acc [32, 43, 32] l with
      | some l3 =>
        rw [if_pos (i1.mpr (by rw [q3]; rfl))]
        walk_at "go"
        refine ⟨z, a + 3, l3, lev, rfl, hA.pass q3, hlev, fun u l4 q4 a4 v4 p4 H4 d4 e4 hp4 hu4 x4 => ?_, fun q4 i p4 H4 hp4 x4 => ?_⟩
        · obtain ⟨pu, rfl⟩ := hu4.ref
          have hA4 : AtS z a4 l4 := ⟨d4, e4, hA.size⟩
          have x14 := x1.trans x4
          walk_at "go"
          refine r_cut hA4 lit3 rfl rfl (fun l5 q5 => ?_) (fun q5 => ?_)
          · walk_at "go"
            intro p hp
            walk_at "go"
            have hA5 := hA4.pass q5
            have x5 := x14.trans (Ex.new (o := .tup [V.str "add", v, .ref pu]) hp)
            refine hQ.yes (a := a4 + 1) x5 (t := .add t u) (l' := l5) (by unfold Rd.pairR; simp only [q2, q3, q4, q5]) hA5.drop hA5.le fun H6 x6 => ?_
            exact (IsTm.mk (t := .add t u) (upd_same (H := H4) (a := p) (o := .tup [V.str "add", v, .ref pu])) ⟨_, _, rfl, hv.ex x5, hu4.ex (Ex.new hp)⟩).ex x6
          · walk_at "go"
            exact hQ.no x14 (by unfold Rd.pairR; simp only [q2, q3, q4, q5]) _
        · walk_at "go"
          exact hQ.no (x1.trans x4) (by unfold Rd.pairR; simp only [q2, q3, q4]) _
      | none =>
        rw [if_neg (fun y => by have y := i1.mp y; rw [q3] at y; cases y)]
        cases q4 : Rd.acc [32, 45, 32] l with
        | some l3 =>
          rw [if_pos (i2.mpr (by rw [q4]; rfl))]
          walk_at "go"
          refine ⟨z, a + 3, l3, lev, rfl, hA.pass q4, hlev, fun u l4 q6 a4 v4 p4 H4 d4 e4 hp4 hu4 x4 => ?_, fun q6 i p4 H4 hp4 x4 => ?_⟩
          · obtain ⟨pu, rfl⟩ := hu4.ref
            have hA4 : AtS z a4 l4 := ⟨d4, e4, hA.size⟩
            have x14 := x1.trans x4
            walk_at "go"
            refine r_cut hA4 lit3 rfl rfl (fun l5 q5 => ?_) (fun q5 => ?_)
            · walk_at "go"
              intro p hp
              walk_at "go"
              have hA5 := hA4.pass q5
              have x5 := x14.trans (Ex.new (o := .tup [V.str "subtract", v, .ref pu]) hp)
              refine hQ.yes (a := a4 + 1) x5 (t := .sub t u) (l' := l5) (by unfold Rd.pairR; simp only [q2, q3, q4, q6, q5]) hA5.drop hA5.le fun H6 x6 => ?_
              exact (IsTm.mk (t := .sub t u) (upd_same (H := H4) (a := p) (o := .tup [V.str "subtract", v, .ref pu])) ⟨_, _, rfl, hv.ex x5, hu4.ex (Ex.new hp)⟩).ex x6
            · walk_at "go"
              exact hQ.no x14 (by unfold Rd.pairR; simp only [q2, q3, q4, q6, q5]) _
          · walk_at "go"
            exact hQ.no (x1.trans x4) (by unfold Rd.pairR; simp only [q2, q3, q4, q6]) _
        | none =>
          rw [if_neg (fun y => by have y := i2.mp y; rw [q4] at y; cases y)]
          walk_at "go"
          exact hQ.no x1 (by unfold Rd.pairR; simp only [q2, q3, q4]) _
end
end PW
/-! ### words -/
namespace PW
open PySem PySem.Spec PyProof.Rows L2
theorem cut_run {z : Str} {a : Nat} {l : List Nat} (p : Nat → Bool) (h : AtS z a l) : cutS z (some (a : Int)) (some ((a + (l.takeWhile p).length : Nat) : Int)) = ⟨(l.takeWhile p).toArray⟩ := TL.ext_tl (by
  rw [tl_cut, h.drop, show a + (l.takeWhile p).length - a = (l.takeWhile p).length by omega]
  have e : ∀ x y : List Nat, x ++ y = l → l.take x.length = x := fun x y e => by rw [← e]; exact List.take_left
  exact e _ _ (List.takeWhile_append_dropWhile (p := p) (l := l)))
section
variable {P : Program} {w : World} {K : PySem.W.Frag} {mg : Str → Option Value} {base : Heap}
theorem ok__law_scan_word {k n : Nat} (T : Txt K mg)
    (G__law_run : FnOk P w K mg base CX0 k (He.ga K "_law_run") (fdOf K (He.ga K "_law_run")) p__law_run (spLRun))
    (G__law_letters : FnOk P w K mg base CX0 k (He.ga K "_law_letters") (fdOf K (He.ga K "_law_letters")) p__law_letters (spLetters))
    (G__law_is_name : FnOk P w K mg base CX0 k (He.ga K "_law_is_name") (fdOf K (He.ga K "_law_is_name")) p__law_is_name (spLawIsName))
    (G__law_scan : FnOk P w K mg base CX0 k (He.ga K "_law_scan") (fdOf K (He.ga K "_law_scan")) p__law_scan (spLScan K n)) : FnOk P w K mg base CX0 (k + 1) (He.ga K "_law_scan_word") (fdOf K (He.ga K "_law_scan_word")) p__law_scan_word (spLWord K n) := by
  refine FunD.ok T.d__law_scan_word sc__law_scan_word (fun vs H Q E h => ?_) (fun cdv A outer s H vs Q E hr h => ?_)
  · obtain ⟨z, a, l, lev, rfl, _⟩ := h
    rfl
  · obtain ⟨z, a, l, lev, rfl, hA, hlev, hQ⟩ := h
    have hs2 := size_le hA.size
    refine ⟨_, PSs.nox ((pss_cons (ps_set (i := 3) sc__law_scan_word.nd rfl (Or.inl rfl) (pe_call G__law_run hr rfl T.g__law_run T.d__law_run.kp (b__law_run T) .nil pass0 (pa_cons (pv 0) (pa_cons (pv 1) (pa_cons (pe_call0 G__law_letters hr rfl T.g__law_letters T.d__law_letters.kp (b__law_letters T) .nil pass0) pa_nil)))))
    (pss_cons (ps_set (i := 4) sc__law_scan_word.nd rfl (Or.inl rfl) (pe_slice sl_str (pv 0) (po_some (pv 1)) (po_some (pv 3))))
    (pss_cons (ps_if (pt_cmpR op_eq (pv 4) pe_str (nomark _))
      (pss_cons (ps_asg (pe_ifExp (pt_cmpR op_eq (pe_slice sl_str (pv 0) (po_some (pv 3)) (po_some (pe_op op_add (pv 3) pe_int))) pe_str (nomark _)) (pe_call G__law_scan hr rfl T.g__law_scan T.d__law_scan.kp (b__law_scan T) .nil pass0 (pa_cons (pv 0) (pa_cons (pe_op op_add (pv 3) pe_int) (pa_cons (pv 2) pa_nil)))) (pe_tup (pa_cons (pv 1) (pa_cons pe_non pa_nil)))) (pg_tup rfl (pgs_cons (pg_name (i := 5) sc__law_scan_word.nd rfl (Or.inl rfl) (hf := by first | exact Or.inl rfl | exact Or.inr rfl)) (pgs_cons (pg_name (i := 6) sc__law_scan_word.nd rfl (Or.inl rfl) (hf := by first | exact Or.inl rfl | exact Or.inr rfl)) pgs_nil))))
        (pss_one (ps_ret (pe_tup (pa_cons (pe_op op_add (pv 5) pe_int) (pa_cons (pe_ifExp (PW.pt (pw_and (pt_cmp (pc_notN (pv 6)) rfl) (pw_and1 (pt_cmpR op_eq (pe_slice sl_str (pv 0) (po_some (pv 5)) (po_some (pe_op op_add (pv 5) pe_int))) pe_str (nomark _))))) (pe_tup (pa_cons pe_str (pa_cons (pv 6) pa_nil))) pe_non) pa_nil))))))
      pss_nil)
    (pss_cons (ps_if (pt_not (pt_val (pe_call G__law_is_name hr rfl T.g__law_is_name T.d__law_is_name.kp (b__law_is_name T) .nil pass0 (pa_cons (pv 4) pa_nil))))
      (pss_one (ps_ret (pe_tup (pa_cons (pv 1) (pa_cons pe_non pa_nil)))))
      pss_nil)
    (pss_cons (ps_if (pt_cmpR op_ne (pe_slice sl_str (pv 0) (po_some (pv 3)) (po_some (pe_op op_add (pv 3) pe_int))) pe_str (nomark _))
      (pss_one (ps_ret (pe_tup (pa_cons (pv 3) (pa_cons (pe_tup (pa_cons pe_str (pa_cons (pv 4) pa_nil))) pa_nil)))))
      pss_nil)
    (pss_cons (ps_if (pt_cmpR op_eq (pe_slice sl_str (pv 0) (po_some (pe_op op_add (pv 3) pe_int)) (po_some (pe_op op_add (pv 3) pe_int))) pe_str (nomark _))
      (pss_one (ps_ret (pe_tup (pa_cons (pe_op op_add (pv 3) pe_int) (pa_cons (pe_tup (pa_cons pe_str (pa_cons (pv 4) (pa_cons (pe_tup pa_nil) pa_nil)))) pa_nil)))))
      pss_nil)
    (pss_cons (ps_par (i := 7) (j := 5) (by rfl) sc__law_scan_word.nd rfl rfl (by decide) rfl rfl (pa_cons (pe_lst pa_nil) (pa_cons (pe_op op_sub (pv 3) pe_int) pa_nil)) (by rfl))
    (pss_cons (ps_while PassesOwn.never (PW.pt (pw_or (pt_cmpR (PW.op_eqE hr.units0) (pv 7) (pe_lst pa_nil) (nomark _)) (pw_or1 (pt_cmpR op_eq (pe_slice sl_str (pv 0) (po_some (pv 5)) (po_some (pe_op op_add (pv 5) pe_int))) pe_str (nomark _)))))
      (pss_cons (ps_asg (pe_call G__law_scan hr rfl T.g__law_scan T.d__law_scan.kp (b__law_scan T) .nil pass0 (pa_cons (pv 0) (pa_cons (pe_op op_add (pv 5) pe_int) (pa_cons (pv 2) pa_nil)))) (pg_tup rfl (pgs_cons (pg_name (i := 5) sc__law_scan_word.nd rfl (Or.inl rfl) (hf := by first | exact Or.inl rfl | exact Or.inr rfl)) (pgs_cons (pg_name (i := 6) sc__law_scan_word.nd rfl (Or.inl rfl) (hf := by first | exact Or.inl rfl | exact Or.inr rfl)) pgs_nil))))
        (pss_cons (ps_if (pt_cmp (pc_isN (pv 6)) rfl)
          (pss_one (ps_ret (pe_tup (pa_cons (pv 1) (pa_cons pe_non pa_nil)))))
          pss_nil)
        (pss_one (ps_expr (pe_bm PySem.F.plainAttrs_list PySem.F.slot_list_append PySem.F.type_list_append mt_append (pv 7) (pa_cons (pv 6) pa_nil)))))))
    (pss_cons (ps_set (i := 8) sc__law_scan_word.nd rfl (Or.inl rfl) (pe_and (pe_cmpR op_eq (pe_slice sl_str (pv 0) (po_some (pv 5)) (po_some (pe_op op_add (pv 5) pe_int))) pe_str (nomark _)) (pe_one (pe_cmpR op_lt (pe_callB call_lenN (by rfl) T.f_len (by decide +kernel) (pa_cons (pv 7) pa_nil)) pe_int (nomark _)))))
    (pss_one (ps_ret (pe_tup (pa_cons (pe_op op_add (pv 5) pe_int) (pa_cons (pe_ifExp (pt_val (pv 8)) (pe_tup (pa_cons pe_str (pa_cons (pv 4) (pa_cons (pe_callTy call_tupleN (by rfl) T.f_tuple (by decide +kernel) (pa_cons (pv 7) pa_nil)) pa_nil)))) pe_non) pa_nil))))))))))))))), ?_⟩
    show tSeq _ _ _ [some (V.str z), some (V.int a), some (V.int lev), none, none, none, none, none, none] H
    walk_at "K"
    have hle : l.length ≤ 100000 := by
      rw [← hA.drop, List.length_drop, ← len_eq]
      have := hA.size
      omega
    have htw := tw_len (p := Rd.isLet) l
    have hA1 := hA.skip Rd.isLet
    have hcut := cut_run Rd.isLet hA
    have hw0 : Rd.word (Rd.term n) l = (if l.takeWhile Rd.isLet = [108, 101, 110] then
        match Rd.acc [40] (l.dropWhile Rd.isLet) with
        | none => none
        | some l2 => match Rd.term n l2 with
          | none => none
          | some (t, l3) => match Rd.acc [41] l3 with
            | none => none
            | some l4 => some (.len t, l4)
      else if isNameZ ⟨(l.takeWhile Rd.isLet).toArray⟩ = true then
        match Rd.acc [40] (l.dropWhile Rd.isLet) with
        | none => some (.nam ⟨(l.takeWhile Rd.isLet).toArray⟩, l.dropWhile Rd.isLet)
        | some l2 => match Rd.args (Rd.term n) l2 with
          | none => none
          | some (as, l3) => some (.cal ⟨(l.takeWhile Rd.isLet).toArray⟩ as, l3)
      else none) := rfl
    rw [hw0] at hQ
    clear hw0
    walk_at "go"
    refine ⟨rfl, ?_⟩
    walk_at "go"
    refine ⟨z, a, _, l, Rd.isLet, rfl, lets_mem, hA, ?_⟩
    walk_at "go"
    rw [hcut]
    generalize a + (l.takeWhile Rd.isLet).length = a1 at hA1 ⊢
    generalize l.takeWhile Rd.isLet = ds at hQ htw ⊢
    generalize l.dropWhile Rd.isLet = l1 at hQ hA1 ⊢
    walk_at "go"
    refine r_if2 (fun c => ?_) (fun c => ?_)
    · have c := len_word.mp (of_decide_eq_true c)
      rw [if_pos c] at hQ
      walk_at "go"
      refine r_cut hA1 lit1 rfl rfl (fun l2 q2 => ?_) (fun q2 => ?_)
      · simp only [q2] at hQ
        walk_at "go"
        refine ⟨z, a1 + 1, l2, lev, rfl, hA1.pass q2, hlev, fun u l4 q4 a4 v4 p4 H4 d4 e4 hp4 hu4 x4 => ?_, fun q4 i p4 H4 hp4 x4 => ?_⟩
        · simp only [q4] at hQ
          obtain ⟨pu, rfl⟩ := hu4.ref
          have hA4 : AtS z a4 l4 := ⟨d4, e4, hA.size⟩
          walk_at "go"
          refine r_cut hA4 lit3 rfl rfl (fun l5 q5 => ?_) (fun q5 => ?_)
          · walk_at "go"
            intro p hp
            walk_at "go"
            have hA5 := hA4.pass q5
            have x5 := x4.trans (Ex.new (o := .tup [V.str "length", .ref pu]) hp)
            refine hQ.yes (a := a4 + 1) x5 (t := .len u) (l' := l5) (by simp only [q5]) hA5.drop hA5.le fun H6 x6 => ?_
            exact (IsTm.mk (t := .len u) (upd_same (H := H4) (a := p) (o := .tup [V.str "length", .ref pu])) ⟨_, rfl, hu4.ex (Ex.new hp)⟩).ex x6
          · walk_at "go"
            exact hQ.no x4 (by simp only [q5]) _
        · walk_at "go"
          exact hQ.no x4 (by simp only [q4]) _
      · simp only [q2] at hQ
        walk_at "go"
        intro p hp
        walk_at "go"
        exact hQ.no (Ex.new hp) rfl _
    · have c : ¬ ds = [108, 101, 110] := fun z => of_decide_eq_false c (len_word.mpr z)
      rw [if_neg c] at hQ
      have hsz : (⟨ds.toArray⟩ : Str).length ≤ 100000 := by
        rw [S_len]
        omega
      walk_at "go"
      refine ⟨_, rfl, hsz, fun H1 x1 => ?_⟩
      walk_at "go"
      cases nm : isNameZ (⟨ds.toArray⟩ : Str) with
      | false =>
        rw [if_neg (by rw [nm]; exact Bool.false_ne_true)] at hQ
        walk_at "go"
        exact hQ.no x1 rfl _
      | true =>
        rw [if_pos nm] at hQ
        walk_at "go"
        refine r_ncut hA1 lit1 rfl rfl (fun q2 => ?_) (fun l2 q2 => ?_)
        · walk_at "go"
          intro p hp
          walk_at "go"
          refine hQ.yes (x1.trans (Ex.new (o := .tup [V.str "name", V.str (⟨ds.toArray⟩ : Str)]) hp)) (t := .nam ⟨ds.toArray⟩) (l' := l1) (by simp only [q2]) hA1.drop hA1.le fun H6 x6 => ?_
          exact ((IsTm.mk (d := 0) (t := .nam ⟨ds.toArray⟩) (upd_same (H := H1) (a := p) (o := .tup [V.str "name", V.str (⟨ds.toArray⟩ : Str)])) rfl).up (by omega)).ex x6
        · simp only [q2] at hQ
          have hA2 : AtS z (a1 + 1) l2 := hA1.pass q2
          walk_at "go"
          refine r_cut hA2 lit3 rfl rfl (fun l3 q3 => ?_) (fun q3 => ?_)
          · have hA3 : AtS z (a1 + 1 + 1) l3 := hA2.pass q3
            walk_at "go"
            intro p1 hp1
            walk_at "go"
            intro p hp
            walk_at "go"
            refine hQ.yes (a := a1 + 2) ((x1.trans (Ex.new (o := .tup []) hp1)).trans (Ex.new (o := .tup [V.str "call", V.str (⟨ds.toArray⟩ : Str), .ref p1]) hp)) (t := .cal ⟨ds.toArray⟩ []) (l' := l3) (by unfold Rd.args; simp only [q3]) hA3.drop hA3.le fun H6 x6 => ?_
            exact (IsTm.mk (t := .cal ⟨ds.toArray⟩ []) (upd_same (H := L2.upd H1 p1 (.tup [])) (a := p) (o := .tup [V.str "call", V.str (⟨ds.toArray⟩ : Str), .ref p1])) ⟨p1, [], rfl, Ex.new hp _ _ upd_same, .nil⟩).ex x6
          · walk_at "go"
            intro l0 hl0
            walk_at "go"
            have x01 : Ex H H1 := x1
            have hlen2 : l2.length ≤ 100000 := by
              rw [← hA2.drop, List.length_drop, ← len_eq]
              have := hA2.size
              omega
            have argN : Rd.term n l2 = none → Rd.args (Rd.term n) l2 = none := fun e => by unfold Rd.args; simp only [q3, e]
            obtain ⟨Pv, hPv⟩ : ∃ Pv : Nat → L2.St → Hp → Prop, Pv = fun m σ H' => ∃ ys y6, ∃ last : Int, σ = [some (V.str z), some (V.int a), some (V.int lev), some (V.int a1), some (V.str (⟨ds.toArray⟩ : Str)), some (V.int last), y6, some (V.ref l0), none] ∧ Ex H1 H' ∧ H' l0 = some (.lst ys) ∧
                ((ys = [] ∧ last = (a1 : Int) - 1 ∧ m = l2.length + 1) ∨ (∃ t1 l1 f dt a' l', Rd.term n l2 = some (t1, l1) ∧ last = ((a' : Nat) : Int) ∧ AtS z a' l' ∧ Paired (IsTm K H' n) ys (t1 :: dt) ∧ m = l'.length ∧ l'.length < f ∧ ys.length + l'.length ≤ 100001 ∧
                  (∀ ts l3, Rd.more (Rd.term n) f l' = some (ts, l3) → Rd.more (Rd.term n) (l1.length + 1) l1 = some (dt ++ ts, l3)) ∧ (Rd.more (Rd.term n) f l' = none → Rd.more (Rd.term n) (l1.length + 1) l1 = none))) := ⟨_, rfl⟩
            have app : ∀ {H5 : Hp} {ys : List V} {ts : List Tm} {y : V} {t : Tm}, H5 l0 = some (.lst ys) → Paired (IsTm K H5 n) ys ts → IsTm K H5 n y t → Paired (IsTm K (L2.upd H5 l0 (.lst (ys ++ [y]))) n) (ys ++ [y]) (ts ++ [t]) := fun {H5 ys ts y t} h1 h2 h3 => by
              have tp : ∀ {p : Addr} {xs : List V}, H5 p = some (.tup xs) → (L2.upd H5 l0 (.lst (ys ++ [y]))) p = some (.tup xs) := fun {p xs} w => by
                rw [upd_ne fun e => by rw [e, h1] at w; cases w]
                exact w
              exact prd_app' (L2.Paired.mapP h2 fun _ _ w => IsTm.tups tp w) (.cons (IsTm.tups tp h3) .nil)
            have exA : ∀ {H5 : Hp} {u : HO}, Ex H1 H5 → Ex H1 (L2.upd H5 l0 u) := fun {H5 u} e b o hb => by
              rw [upd_ne (ne_of_none hb hl0)]
              exact e b o hb
            refine while_it Pv (m0 := l2.length + 1) (by rw [hPv]; exact ⟨[], _, _, rfl, Ex.new hl0, upd_same, .inl ⟨rfl, rfl, rfl⟩⟩) ?_
            intro m σ H2 hpv
            rw [hPv] at hpv
            obtain ⟨ys, y6, last, rfl, xs, hls, cases_⟩ := hpv
            walk_at "go"
            intro q hq
            walk_at "go"
            have xq := Ex.new (o := .lst []) hq
            have hls1 := xq _ _ hls
            rcases cases_ with ⟨rfl, rfl, rfl⟩ | ⟨t1, l1', f, dt, a', l', hterm, rfl, hA', hys, rfl, hf, hlen, hm1, hm2⟩
            · refine r_ifT' rfl ?_
              walk_at "go"
              refine r_turn ?_
              walk_at "go"
              rw [show (a1 : Int) - 1 + 2 = ((a1 + 1 : Nat) : Int) by omega]
              refine ⟨z, a1 + 1, l2, lev, rfl, hA2, hlev, fun u l4 q4 a4 v4 p4 H4 d4 e4 hp4 hu4 x4 => ?_, fun q4 i p4 H4 hp4 x4 => ?_⟩
              · obtain ⟨pu, rfl⟩ := hu4.ref
                have hl4 := Rd.term_le q4
                have hls4 := x4 _ _ hls1
                walk_at "go"
                refine ⟨l4.length, by omega, ?_⟩
                rw [hPv]
                refine ⟨_, _, _, rfl, exA (xs.trans (xq.trans x4)), upd_same, .inr ⟨u, l4, l4.length + 1, [], a4, l4, q4, rfl, ⟨d4, e4, hA.size⟩, app hls4 .nil hu4, rfl, by omega, by simp only [List.nil_append, List.length_cons, List.length_nil]; omega, fun ts l3 w => w, id⟩⟩
              · walk_at "go"
                exact hQ.no (x01.trans ((xs.trans xq).trans x4)) (by rw [argN q4]) _
            · have hne : ys.isEmpty = false := by
                cases hys
                rfl
              refine r_ifF' hne ?_
              walk_at "go"
              obtain ⟨f, rfl⟩ : ∃ g, f = g + 1 := ⟨f - 1, by omega⟩
              refine r_cut hA' lit2 rfl rfl (fun l4 q4 => ?_) (fun q4 => ?_)
              · have hA4 : AtS z (a' + 2) l4 := hA'.pass q4
                have hal := Rd.acc_le q4
                have hll : [44, 32].length = 2 := rfl
                rw [hll] at hal
                walk_at "go"
                refine r_turn ?_
                walk_at "go"
                refine ⟨z, a' + 2, l4, lev, rfl, hA4, hlev, fun u l5 q5 a5 v5 p5 H5 d5 e5 hp5 hu5 x5 => ?_, fun q5 i p5 H5 hp5 x5 => ?_⟩
                · obtain ⟨pu, rfl⟩ := hu5.ref
                  have hl5 := Rd.term_le q5
                  have hls5 := x5 _ _ hls1
                  have hys5 := L2.Paired.mapP hys fun _ _ w => IsTm.ex (xq.trans x5) w
                  walk_at "go"
                  refine r_append hls5 (Nat.lt_of_le_of_lt (show ys.length ≤ 100001 by omega) (by decide)) ?_
                  walk_at "go"
                  refine ⟨l5.length, by omega, ?_⟩
                  rw [hPv]
                  refine ⟨_, _, _, rfl, exA (xs.trans (xq.trans x5)), upd_same, .inr ⟨t1, l1', f, dt ++ [u], a5, l5, hterm, rfl, ⟨d5, e5, hA.size⟩, app hls5 hys5 hu5, rfl, by omega, by rw [List.length_append, List.length_cons, List.length_nil]; omega, fun ts l3 w => ?_, fun w => ?_⟩⟩
                  · rw [hm1 (u :: ts) l3 (by unfold Rd.more; simp only [q4, q5, w])]
                    simp
                  · exact hm2 (by unfold Rd.more; simp only [q4, q5, w])
                · walk_at "go"
                  have hM := hm2 (by unfold Rd.more; simp only [q4, q5])
                  exact hQ.no (x01.trans ((xs.trans xq).trans x5)) (by unfold Rd.args; simp only [q3, hterm, hM]) _
              · have hM := hm1 [] l' (by unfold Rd.more; simp only [q4])
                rw [List.append_nil] at hM
                have hyl := pr_len hys
                rw [List.length_cons] at hyl
                walk_at "go"
                rw [cut_eq (j := (a' : Int) + 1) hA'.drop lit3 rfl rfl]
                cases q5 : Rd.acc [41] l' with
                | none =>
                  rw [show (none : Option (List Nat)).isSome = false from rfl]
                  walk_at "go"
                  exact hQ.no (x01.trans (xs.trans xq)) (by unfold Rd.args; simp only [q3, hterm, hM, q5]) _
                | some l6 =>
                  rw [show (some l6 : Option (List Nat)).isSome = true from rfl]
                  have hA6 : AtS z (a' + 1) l6 := hA'.pass q5
                  walk_at "go"
                  refine r_if2 (fun c4 => ?_) (fun c4 => ?_)
                  · have c4 := of_decide_eq_true c4
                    walk_at "go"
                    intro p1 hp1
                    walk_at "go"
                    intro p hp
                    walk_at "go"
                    have xx := (xs.trans xq).trans (Ex.new (o := .tup ys) hp1)
                    have hysf := L2.Paired.mapP hys fun _ _ w => IsTm.ex (xq.trans (Ex.new (o := .tup ys) hp1)) w
                    refine hQ.yes (a := a' + 1) (x01.trans (xx.trans (Ex.new (o := .tup [V.str "call", V.str (⟨ds.toArray⟩ : Str), .ref p1]) hp))) (t := .cal ⟨ds.toArray⟩ (t1 :: dt)) (l' := l6) (by unfold Rd.args; simp only [q3, hterm, hM, q5]; rw [if_pos (by omega)]) hA6.drop hA6.le fun H6 x6 => ?_
                    exact (IsTm.mk (t := .cal ⟨ds.toArray⟩ (t1 :: dt)) (upd_same (a := p) (o := .tup [V.str "call", V.str (⟨ds.toArray⟩ : Str), .ref p1])) ⟨p1, ys, rfl, Ex.new hp _ _ upd_same, L2.Paired.mapP hysf fun _ _ w => IsTm.ex (Ex.new hp) w⟩).ex x6
                  · have c4 := of_decide_eq_false c4
                    walk_at "go"
                    exact hQ.no (x01.trans (xs.trans xq)) (by unfold Rd.args; simp only [q3, hterm, hM, q5]; rw [if_neg (by omega)]) _
end
end PW
/-! ### terms scanned -/
namespace PW
open PySem PySem.Spec PyProof.Rows L2
theorem cut1 {z : Str} {a c : Nat} {l : List Nat} (h : AtS z a (c :: l)) : cutS z (some (a : Int)) (some ((a : Int) + 1)) = ⟨#[c]⟩ := TL.ext_tl (by
  rw [show ((a : Int) + 1) = ((a + 1 : Nat) : Int) from rfl, tl_cut, h.drop, show a + 1 - a = 1 by omega]
  rfl)
theorem cut1n {z : Str} {a : Nat} (h : AtS z a []) : cutS z (some (a : Int)) (some ((a : Int) + 1)) = ⟨#[]⟩ := TL.ext_tl (by
  rw [show ((a : Int) + 1) = ((a + 1 : Nat) : Int) from rfl, tl_cut, h.drop]
  simp)
theorem sg_eq {c d : Nat} {w : Str} (hw : TL.tl w = [d]) : decide (V.str (⟨#[c]⟩ : Str) = V.str w) = decide (c = d) := by
  have e : w = ⟨#[d]⟩ := TL.ext_tl hw
  subst e
  by_cases h : c = d
  · subst h
    rw [decide_eq_true rfl, decide_eq_true rfl]
  · rw [decide_eq_false h, decide_eq_false]
    intro z
    have z := congrArg (fun y : Str => y.cps.toList) (V.str.inj z)
    exact h (by simpa using z)
theorem nums_mem (c : Nat) (l : List Nat) : decide (c ∈ (Str.ofString "-0123456789").cps.toList) = Rd.isNum (c :: l) := by
  have e : (Str.ofString "-0123456789").cps.toList = 45 :: [48, 49, 50, 51, 52, 53, 54, 55, 56, 57] := by decide +kernel
  have e2 : (Str.ofString "0123456789").cps.toList = [48, 49, 50, 51, 52, 53, 54, 55, 56, 57] := by decide +kernel
  have h := digs_mem c
  rw [e2] at h
  rw [e]
  show _ = (decide (c = 45) || Rd.isDig c)
  rw [← h]
  by_cases h1 : c = 45
  · rw [decide_eq_true h1, Bool.true_or, decide_eq_true]
    rw [h1]
    exact List.mem_cons_self
  · rw [decide_eq_false h1, Bool.false_or]
    congr 1
    exact propext ⟨fun h => (List.mem_cons.mp h).elim (fun y => absurd y h1) id, List.mem_cons_of_mem _⟩
theorem empty_str : (⟨#[]⟩ : Str) = Str.ofString "" := by decide +kernel
section
variable {P : Program} {w : World} {K : PySem.W.Frag} {mg : Str → Option Value} {base : Heap}
theorem ok1__law_scan {k n : Nat} {spj : Sp} (T : Txt K mg) (hj : n = 0 ∨ ∃ j, n = j + 1 ∧ spj = spLScan K j)
    (G__law_scan_number : FnOk P w K mg base CX0 k (He.ga K "_law_scan_number") (fdOf K (He.ga K "_law_scan_number")) p__law_scan_number (spLNum))
    (G__law_scan_pair : ∀ j, n = j + 1 → FnOk P w K mg base CX0 (k) (He.ga K "_law_scan_pair") (fdOf K (He.ga K "_law_scan_pair")) p__law_scan_pair (spLPair K j))
    (G__law_scan_word : ∀ j, n = j + 1 → FnOk P w K mg base CX0 (k) (He.ga K "_law_scan_word") (fdOf K (He.ga K "_law_scan_word")) p__law_scan_word (spLWord K j))
    (G__law_scan : FnOk P w K mg base CX0 k (He.ga K "_law_scan") (fdOf K (He.ga K "_law_scan")) p__law_scan (spj)) : FnOk P w K mg base CX0 (k + 1) (He.ga K "_law_scan") (fdOf K (He.ga K "_law_scan")) p__law_scan (spLScan K n) := by
  have G__law_scan_pair : FnOk P w K mg base CX0 (k) (He.ga K "_law_scan_pair") (fdOf K (He.ga K "_law_scan_pair")) p__law_scan_pair (fun vs H Q E => ∃ j, n = j + 1 ∧ spLPair K j vs H Q E) := ⟨fun vs H Q E ⟨j, e, z⟩ => (G__law_scan_pair j e).len vs H Q E z, fun A outer s H args us vs Q E hr he hb hv ⟨j, e, z⟩ => (G__law_scan_pair j e).run A outer s H args us vs Q E hr he hb hv z⟩
  have G__law_scan_word : FnOk P w K mg base CX0 (k) (He.ga K "_law_scan_word") (fdOf K (He.ga K "_law_scan_word")) p__law_scan_word (fun vs H Q E => ∃ j, n = j + 1 ∧ spLWord K j vs H Q E) := ⟨fun vs H Q E ⟨j, e, z⟩ => (G__law_scan_word j e).len vs H Q E z, fun A outer s H args us vs Q E hr he hb hv ⟨j, e, z⟩ => (G__law_scan_word j e).run A outer s H args us vs Q E hr he hb hv z⟩
  refine FunD.ok T.d__law_scan sc__law_scan (fun vs H Q E h => ?_) (fun cdv A outer s H vs Q E hr h => ?_)
  · obtain ⟨z, a, l, lev, rfl, _⟩ := h
    rfl
  · obtain ⟨z, a, l, lev, rfl, hA, hlev, hQ⟩ := h
    have hs2 := size_le hA.size
    refine ⟨_, PSs.nox ((pss_cons (ps_set (i := 3) sc__law_scan.nd rfl (Or.inl rfl) (pe_slice sl_str (pv 0) (po_some (pv 1)) (po_some (pe_op op_add (pv 1) pe_int))))
    (pss_cons (ps_if (PW.pt (pw_or (pt_cmpR op_gt (pv 2) pe_int (nomark _)) (pw_or1 (pt_cmpR op_eq (pv 3) pe_str (nomark _)))))
      (pss_one (ps_ret (pe_tup (pa_cons (pv 1) (pa_cons pe_non pa_nil)))))
      pss_nil)
    (pss_cons (ps_if (pt_cmpR op_eq (pv 3) pe_str (nomark _))
      (pss_cons (ps_asg (pe_call G__law_scan hr rfl T.g__law_scan T.d__law_scan.kp (b__law_scan T) .nil pass0 (pa_cons (pv 0) (pa_cons (pe_op op_add (pv 1) pe_int) (pa_cons (pe_op op_add (pv 2) pe_int) pa_nil)))) (pg_tup rfl (pgs_cons (pg_name (i := 4) sc__law_scan.nd rfl (Or.inl rfl) (hf := by first | exact Or.inl rfl | exact Or.inr rfl)) (pgs_cons (pg_name (i := 5) sc__law_scan.nd rfl (Or.inl rfl) (hf := by first | exact Or.inl rfl | exact Or.inr rfl)) pgs_nil))))
        (pss_one (ps_ret (pe_ifExp (pt_cmp (pc_isN (pv 5)) rfl) (pe_tup (pa_cons (pv 1) (pa_cons pe_non pa_nil))) (pe_call G__law_scan_pair hr rfl T.g__law_scan_pair T.d__law_scan_pair.kp (b__law_scan_pair T) .nil pass0 (pa_cons (pv 0) (pa_cons (pv 4) (pa_cons (pv 5) (pa_cons (pe_op op_add (pv 2) pe_int) pa_nil)))))))))
      pss_nil)
    (pss_cons (ps_if (pt_cmpR op_eq (pe_slice sl_str (pv 0) (po_some (pv 1)) (po_some (pe_op op_add (pv 1) pe_int))) pe_str (nomark _))
      (pss_cons (ps_asg (pe_call G__law_scan hr rfl T.g__law_scan T.d__law_scan.kp (b__law_scan T) .nil pass0 (pa_cons (pv 0) (pa_cons (pe_op op_add (pv 1) pe_int) (pa_cons (pe_op op_add (pv 2) pe_int) pa_nil)))) (pg_tup rfl (pgs_cons (pg_name (i := 4) sc__law_scan.nd rfl (Or.inl rfl) (hf := by first | exact Or.inl rfl | exact Or.inr rfl)) (pgs_cons (pg_name (i := 5) sc__law_scan.nd rfl (Or.inl rfl) (hf := by first | exact Or.inl rfl | exact Or.inr rfl)) pgs_nil))))
        (pss_one (ps_ret (pe_tup (pa_cons (pv 4) (pa_cons (pe_ifExp (pt_cmp (pc_isN (pv 5)) rfl) pe_non (pe_tup (pa_cons pe_str (pa_cons (pv 5) pa_nil)))) pa_nil))))))
      pss_nil)
    (pss_cons (ps_if (pt_cmpR op_notInS (pv 3) pe_str rfl)
      (pss_one (ps_ret (pe_call G__law_scan_word hr rfl T.g__law_scan_word T.d__law_scan_word.kp (b__law_scan_word T) .nil pass0 (pa_cons (pv 0) (pa_cons (pv 1) (pa_cons (pe_op op_add (pv 2) pe_int) pa_nil))))))
      pss_nil)
    (pss_cons (ps_asg (pe_call G__law_scan_number hr rfl T.g__law_scan_number T.d__law_scan_number.kp (b__law_scan_number T) .nil pass0 (pa_cons (pv 0) (pa_cons (pv 1) pa_nil))) (pg_tup rfl (pgs_cons (pg_name (i := 4) sc__law_scan.nd rfl (Or.inl rfl) (hf := by first | exact Or.inl rfl | exact Or.inr rfl)) (pgs_cons (pg_name (i := 6) sc__law_scan.nd rfl (Or.inl rfl) (hf := by first | exact Or.inl rfl | exact Or.inr rfl)) pgs_nil))))
    (pss_cons (ps_if (PW.pt (pw_or (pt_cmp (pc_isN (pv 6)) rfl) (pw_or1 (pt_cmpR op_ne (pe_slice sl_str (pv 0) (po_some (pv 4)) (po_some (pe_op op_add (pv 4) pe_int))) pe_str (nomark _)))))
      (pss_one (ps_ret (pe_tup (pa_cons (pv 4) (pa_cons (pe_ifExp (pt_cmp (pc_isN (pv 6)) rfl) pe_non (pe_tup (pa_cons pe_str (pa_cons (pv 6) pa_nil)))) pa_nil)))))
      pss_nil)
    (pss_cons (ps_asg (pe_call G__law_scan hr rfl T.g__law_scan T.d__law_scan.kp (b__law_scan T) .nil pass0 (pa_cons (pv 0) (pa_cons (pe_op op_add (pv 4) pe_int) (pa_cons (pe_op op_add (pv 2) pe_int) pa_nil)))) (pg_tup rfl (pgs_cons (pg_name (i := 4) sc__law_scan.nd rfl (Or.inl rfl) (hf := by first | exact Or.inl rfl | exact Or.inr rfl)) (pgs_cons (pg_name (i := 5) sc__law_scan.nd rfl (Or.inl rfl) (hf := by first | exact Or.inl rfl | exact Or.inr rfl)) pgs_nil))))
    (pss_one (ps_ret (pe_tup (pa_cons (pv 4) (pa_cons (pe_ifExp (PW.pt (pw_and (pt_cmp (pc_notN (pv 5)) rfl) (pw_and1 (pt_cmpR op_lt (pe_callB call_absN (by rfl) T.f_abs (by decide +kernel) (pa_cons (pv 6) pa_nil)) pe_int (nomark _))))) (pe_tup (pa_cons pe_str (pa_cons (pv 6) (pa_cons (pv 5) pa_nil)))) pe_non) pa_nil)))))))))))))), ?_⟩
    show tSeq _ _ _ [some (V.str z), some (V.int a), some (V.int lev), none, none, none, none] H
    walk_at "K"
    walk_at "go"
    refine r_if2 (fun c0 => ?_) (fun c0 => ?_)
    · have c0 := of_decide_eq_true c0
      have : n = 0 := by omega
      subst this
      walk_at "go"
      exact hQ.no (Ex.refl _) rfl _
    · have c0 := of_decide_eq_false c0
      obtain ⟨n, rfl⟩ : ∃ j, n = j + 1 := ⟨n - 1, by omega⟩
      obtain rfl : spj = spLScan K n := by
        rcases hj with z | ⟨j, z, y⟩
        · cases z
        · have : j = n := by omega
          rw [← this]
          exact y
      walk_at "go"
      cases l with
      | nil =>
        rw [cut1n hA, empty_str]
        walk_at "go"
        exact hQ.no (Ex.refl _) rfl _
      | cons c l0 =>
        rw [cut1 hA]
        refine r_ifF' (decide_eq_false fun e => ?_) ?_
        · have e := congrArg (fun y : Str => y.cps.toList) (V.str.inj e)
          have e2 : (Str.ofString "").cps.toList = [] := by decide +kernel
          rw [e2] at e
          cases e
        walk_at "go"
        rw [sg_eq lit1]
        by_cases c40 : c = 40
        · subst c40
          walk_at "go"
          have q1 : Rd.acc [40] (40 :: l0) = some l0 := Rd.acc1 40 l0
          have ht : Rd.term (n + 1) (40 :: l0) = Rd.pair (Rd.term n) l0 := by
            unfold Rd.term
            simp only [q1]
          rw [ht, Rd.pair_eq] at hQ
          refine ⟨z, a + 1, l0, lev + 1, rfl, hA.pass q1, by omega, fun u l4 q4 a4 v4 p4 H4 d4 e4 hp4 hu4 x4 => ?_, fun q4 i p4 H4 hp4 x4 => ?_⟩
          · obtain ⟨pu, rfl⟩ := hu4.ref
            simp only [q4] at hQ
            walk_at "go"
            exact ⟨n, rfl, z, a4, l4, .ref pu, u, lev + 1, rfl, ⟨d4, e4, hA.size⟩, by omega, hu4, hQ.on x4⟩
          · simp only [q4] at hQ
            walk_at "go"
            exact hQ.no x4 rfl _
        · refine r_ifF' (decide_eq_false c40) ?_
          have q1 : Rd.acc [40] (c :: l0) = none := Rd.acc_ne fun z => c40 z.symm
          walk_at "go"
          refine r_cut hA lit4 rfl rfl (fun l2 q2 => ?_) (fun q2 => ?_)
          · walk_at "go"
            have ht : Rd.term (n + 1) (c :: l0) = match Rd.term n l2 with
              | none => none
              | some (t, l2) => some (.pow t, l2) := by
              rw [Rd.term]
              simp only [q1, q2]
              first | done | rfl | (split <;> rfl)
            rw [ht] at hQ
            refine ⟨z, a + 2, l2, lev + 1, rfl, hA.pass q2, by omega, fun u l4 q4 a4 v4 p4 H4 d4 e4 hp4 hu4 x4 => ?_, fun q4 i p4 H4 hp4 x4 => ?_⟩
            · obtain ⟨pu, rfl⟩ := hu4.ref
              simp only [q4] at hQ
              walk_at "go"
              intro p hp
              walk_at "go"
              refine hQ.yes (a := a4) (x4.trans (Ex.new (o := .tup [V.str "power", .ref pu]) hp)) (t := .pow u) (l' := l4) rfl d4 e4 fun H6 x6 => ?_
              exact (IsTm.mk (t := .pow u) (upd_same (H := H4) (a := p) (o := .tup [V.str "power", .ref pu])) ⟨_, rfl, hu4.ex (Ex.new hp)⟩).ex x6
            · simp only [q4] at hQ
              walk_at "go"
              exact hQ.no x4 rfl _
          · walk_at "go"
            rw [nums_mem c l0]
            cases hn : Rd.isNum (c :: l0) with
            | false =>
              have ht : Rd.term (n + 1) (c :: l0) = Rd.word (Rd.term n) (c :: l0) := by
                rw [Rd.term]
                simp only [q1, q2]
                rw [if_neg (by rw [hn]; exact Bool.false_ne_true)]
              rw [ht] at hQ
              walk_at "go"
              exact ⟨n, rfl, z, a, _, lev + 1, rfl, hA, by omega, hQ⟩
            | true =>
              have ht : Rd.term (n + 1) (c :: l0) = match Rd.num (c :: l0) with
                | none => none
                | some (i, l1) => match Rd.acc [42] l1 with
                  | none => some (.num i, l1)
                  | some l2 => if 99 < i.natAbs then none else match Rd.term n l2 with
                    | none => none
                    | some (t, l3) => some (.tim i t, l3) := by
                rw [Rd.term]
                simp only [q1, q2]
                rw [if_pos hn]
                first | done | rfl | (split <;> rfl)
              rw [ht] at hQ
              walk_at "go"
              refine ⟨z, a, _, rfl, hA, fun i l3 q3 a3 v3 p3 H3 d3 e3 hp3 hv3 x3 => ?_, fun q3 i p3 H3 hp3 x3 => ?_⟩
              · subst hv3
                have hA3 : AtS z a3 l3 := ⟨d3, e3, hA.size⟩
                simp only [q3] at hQ
                walk_at "go"
                refine r_ncut hA3 lit0 rfl rfl (fun q4 => ?_) (fun l4 q4 => ?_)
                · simp only [q4] at hQ
                  walk_at "go"
                  intro p hp
                  walk_at "go"
                  refine hQ.yes (a := a3) (x3.trans (Ex.new (o := .tup [V.str "number", .int i]) hp)) (t := .num i) (l' := l3) rfl d3 e3 fun H6 x6 => ?_
                  exact ((IsTm.mk (d := 0) (t := .num i) (upd_same (H := H3) (a := p) (o := .tup [V.str "number", .int i])) rfl).up (by omega)).ex x6
                · simp only [q4] at hQ
                  have hA4 : AtS z (a3 + 1) l4 := hA3.pass q4
                  walk_at "go"
                  refine ⟨z, a3 + 1, l4, lev + 1, rfl, hA4, by omega, fun u l5 q5 a5 v5 p5 H5 d5 e5 hp5 hu5 x5 => ?_, fun q5 j p5 H5 hp5 x5 => ?_⟩
                  · obtain ⟨pu, rfl⟩ := hu5.ref
                    simp only [q5] at hQ
                    have x15 := x3.trans x5
                    walk_at "go"
                    rw [abs_na]
                    refine r_if2 (fun c9 => ?_) (fun c9 => ?_)
                    · have c9 := of_decide_eq_true c9
                      rw [if_neg (by omega)] at hQ
                      walk_at "go"
                      intro p hp
                      walk_at "go"
                      refine hQ.yes (a := a5) (x15.trans (Ex.new (o := .tup [V.str "times", .int i, .ref pu]) hp)) (t := .tim i u) (l' := l5) rfl d5 e5 fun H6 x6 => ?_
                      exact (IsTm.mk (t := .tim i u) (upd_same (H := H5) (a := p) (o := .tup [V.str "times", .int i, .ref pu])) ⟨_, rfl, hu5.ex (Ex.new hp)⟩).ex x6
                    · have c9 := of_decide_eq_false c9
                      rw [if_pos (by omega)] at hQ
                      walk_at "go"
                      exact hQ.no x15 rfl _
                  · simp only [q5] at hQ
                    walk_at "go"
                    exact hQ.no (x3.trans x5) (by split <;> rfl) _
              · simp only [q3] at hQ
                walk_at "go"
                exact hQ.no x3 rfl _
theorem ok__law_scan {k : Nat} (T : Txt K mg)
    (G__law_scan_number : FnOk P w K mg base CX0 k (He.ga K "_law_scan_number") (fdOf K (He.ga K "_law_scan_number")) p__law_scan_number (spLNum))
    (G__law_run : FnOk P w K mg base CX0 k (He.ga K "_law_run") (fdOf K (He.ga K "_law_run")) p__law_run (spLRun))
    (G__law_letters : FnOk P w K mg base CX0 k (He.ga K "_law_letters") (fdOf K (He.ga K "_law_letters")) p__law_letters (spLetters))
    (G__law_is_name : FnOk P w K mg base CX0 k (He.ga K "_law_is_name") (fdOf K (He.ga K "_law_is_name")) p__law_is_name (spLawIsName)) : ∀ n, FnOk P w K mg base CX0 (k + 2 * n + 1) (He.ga K "_law_scan") (fdOf K (He.ga K "_law_scan")) p__law_scan (spLScan K n)
  | 0 => ok1__law_scan (spj := spNo) T (.inl rfl) G__law_scan_number (fun j e => nomatch e) (fun j e => nomatch e) fnOk_no
  | n + 1 => by
    have ih := ok__law_scan T G__law_scan_number G__law_run G__law_letters G__law_is_name n
    have gp := ok__law_scan_pair (k := k + 2 * n + 1) T (G__law_scan_number.mono (by omega)) ih
    have gw := ok__law_scan_word (k := k + 2 * n + 1) T (G__law_run.mono (by omega)) (G__law_letters.mono (by omega)) (G__law_is_name.mono (by omega)) ih
    exact ok1__law_scan (k := k + 2 * (n + 1)) T (.inr ⟨n, rfl, rfl⟩) (G__law_scan_number.mono (by omega)) (fun j e => by
      have : j = n := by omega
      subst this
      exact gp.mono (by omega)) (fun j e => by
      have : j = n := by omega
      subst this
      exact gw.mono (by omega)) (ih.mono (by omega))
/-- a text's term, or None -/
def spLRead (K : PySem.W.Frag) : Sp := fun vs H Q _ => ∃ z, vs = [.str z] ∧ z.length ≤ 100000 ∧ (∀ t v H', Rd.term 20 (TL.tl z) = some (t, []) → IsTm K H' 20 v t → Ex H H' → Q v H') ∧ ((∀ t, Rd.term 20 (TL.tl z) ≠ some (t, [])) → ∀ H', Ex H H' → Q .non H')
end
end PW
/-! ### comparisons scanned -/
namespace PW
open PySem PySem.Spec PyProof.Rows L2
def spLScCmp (K : PySem.W.Frag) (n : Nat) : Sp := fun vs H Q _ => ∃ z a l lev, vs = [.str z, .int ((a : Nat) : Int), .int lev] ∧ AtS z a l ∧ lev + n = 21 ∧ n ≤ 20 ∧ ScQ z (fun H' v c => IsCd K H' 20 1 v c) (Rd.cmp n l) H Q
def spLScCond (K : PySem.W.Frag) (n : Nat) : Sp := fun vs H Q _ => ∃ z a l lev, vs = [.str z, .int ((a : Nat) : Int), .int lev] ∧ AtS z a l ∧ lev + n = 21 ∧ n ≤ 20 ∧ ScQ z (fun H' v c => IsCd K H' 20 n v c) (Rd.cond n l) H Q
section
variable {P : Program} {w : World} {K : PySem.W.Frag} {mg : Str → Option Value} {base : Heap}
theorem ok__law_scan_compare {k n : Nat} (T : Txt K mg)
    (G__law_scan_number : FnOk P w K mg base CX0 k (He.ga K "_law_scan_number") (fdOf K (He.ga K "_law_scan_number")) p__law_scan_number (spLNum))
    (G__law_scan : FnOk P w K mg base CX0 k (He.ga K "_law_scan") (fdOf K (He.ga K "_law_scan")) p__law_scan (spLScan K n)) : FnOk P w K mg base CX0 (k + 1) (He.ga K "_law_scan_compare") (fdOf K (He.ga K "_law_scan_compare")) p__law_scan_compare (spLScCmp K n) := by
  refine FunD.ok T.d__law_scan_compare sc__law_scan_compare (fun vs H Q E h => ?_) (fun cdv A outer s H vs Q E hr h => ?_)
  · obtain ⟨z, a, l, lev, rfl, _⟩ := h
    rfl
  · obtain ⟨z, a, l, lev, rfl, hA, hlev, hn, hQ⟩ := h
    have hs2 := size_le hA.size
    refine ⟨_, PSs.nox ((pss_cons (ps_asg (pe_call G__law_scan hr rfl T.g__law_scan T.d__law_scan.kp (b__law_scan T) .nil pass0 (pa_cons (pv 0) (pa_cons (pv 1) (pa_cons (pv 2) pa_nil)))) (pg_tup rfl (pgs_cons (pg_name (i := 3) sc__law_scan_compare.nd rfl (Or.inl rfl) (hf := by first | exact Or.inl rfl | exact Or.inr rfl)) (pgs_cons (pg_name (i := 4) sc__law_scan_compare.nd rfl (Or.inl rfl) (hf := by first | exact Or.inl rfl | exact Or.inr rfl)) pgs_nil))))
    (pss_cons (ps_if (pt_cmp (pc_isN (pv 4)) rfl)
      (pss_one (ps_ret (pe_tup (pa_cons (pv 1) (pa_cons pe_non pa_nil)))))
      pss_nil)
    (pss_cons (ps_if (pt_cmpR op_eq (pe_slice sl_str (pv 0) (po_some (pv 3)) (po_some (pe_op op_add (pv 3) pe_int))) pe_str (nomark _))
      (pss_cons (ps_asg (pe_call G__law_scan_number hr rfl T.g__law_scan_number T.d__law_scan_number.kp (b__law_scan_number T) .nil pass0 (pa_cons (pv 0) (pa_cons (pe_op op_add (pv 3) pe_int) pa_nil))) (pg_tup rfl (pgs_cons (pg_name (i := 5) sc__law_scan_compare.nd rfl (Or.inl rfl) (hf := by first | exact Or.inl rfl | exact Or.inr rfl)) (pgs_cons (pg_name (i := 6) sc__law_scan_compare.nd rfl (Or.inl rfl) (hf := by first | exact Or.inl rfl | exact Or.inr rfl)) pgs_nil))))
        (pss_cons (ps_if (PW.pt (pw_or (pt_cmp (pc_isN (pv 6)) rfl) (pw_or1 (pt_cmpR op_ne (pe_slice sl_str (pv 0) (po_some (pv 5)) (po_some (pe_op op_add (pv 5) pe_int))) pe_str (nomark _)))))
          (pss_one (ps_ret (pe_tup (pa_cons (pv 1) (pa_cons pe_non pa_nil)))))
          pss_nil)
        (pss_cons (ps_asg (pe_call G__law_scan_number hr rfl T.g__law_scan_number T.d__law_scan_number.kp (b__law_scan_number T) .nil pass0 (pa_cons (pv 0) (pa_cons (pe_op op_add (pv 5) pe_int) pa_nil))) (pg_tup rfl (pgs_cons (pg_name (i := 5) sc__law_scan_compare.nd rfl (Or.inl rfl) (hf := by first | exact Or.inl rfl | exact Or.inr rfl)) (pgs_cons (pg_name (i := 7) sc__law_scan_compare.nd rfl (Or.inl rfl) (hf := by first | exact Or.inl rfl | exact Or.inr rfl)) pgs_nil))))
        (pss_cons (ps_set (i := 8) sc__law_scan_compare.nd rfl (Or.inl rfl) (pe_and (pe_cmp (pc_notN (pv 7)) rfl) (pe_and (pe_chain op_le op_le pe_int (pv 6) pe_int) (pe_one (pe_chain op_le op_lt pe_int (pv 7) (pv 6))))))
        (pss_one (ps_ret (pe_tup (pa_cons (pv 5) (pa_cons (pe_ifExp (pt_val (pv 8)) (pe_tup (pa_cons pe_str (pa_cons (pv 4) (pa_cons (pv 6) (pa_cons (pv 7) pa_nil))))) pe_non) pa_nil)))))))))
      pss_nil)
    (pss_cons (ps_set (i := 9) sc__law_scan_compare.nd rfl (Or.inl rfl) (pe_dget2 (hu_of hr) (pe_disp (pps_cons pe_str pe_str (pps_cons pe_str pe_str pps_nil)) (by rfl) (by rfl) (fun z => by cases z) (by decide)) (pe_slice sl_str (pv 0) (po_some (pv 3)) (po_some (pe_op op_add (pv 3) pe_int))) pe_str ⟨rfl, rfl, rfl, rfl⟩))
    (pss_cons (ps_if (pt_cmpR op_eq (pv 9) pe_str (nomark _))
      (pss_one (ps_ret (pe_tup (pa_cons (pv 1) (pa_cons pe_non pa_nil)))))
      pss_nil)
    (pss_cons (ps_asg (pe_call G__law_scan hr rfl T.g__law_scan T.d__law_scan.kp (b__law_scan T) .nil pass0 (pa_cons (pv 0) (pa_cons (pe_op op_add (pv 3) pe_int) (pa_cons (pv 2) pa_nil)))) (pg_tup rfl (pgs_cons (pg_name (i := 5) sc__law_scan_compare.nd rfl (Or.inl rfl) (hf := by first | exact Or.inl rfl | exact Or.inr rfl)) (pgs_cons (pg_name (i := 10) sc__law_scan_compare.nd rfl (Or.inl rfl) (hf := by first | exact Or.inl rfl | exact Or.inr rfl)) pgs_nil))))
    (pss_one (ps_ret (pe_tup (pa_cons (pv 5) (pa_cons (pe_ifExp (pt_cmp (pc_isN (pv 10)) rfl) pe_non (pe_tup (pa_cons (pv 9) (pa_cons (pv 4) (pa_cons (pv 10) pa_nil))))) pa_nil)))))))))))), ?_⟩
    show tSeq _ _ _ [some (V.str z), some (V.int a), some (V.int lev), none, none, none, none, none, none, none, none] H
    walk_at "K"
    walk_at "go"
    refine ⟨z, a, l, lev, rfl, hA, hlev, fun t l1 q1 a1 v1 p1 H1 d1 e1 hp1 ht1 x1 => ?_, fun q1 i p1 H1 hp1 x1 => ?_⟩
    · obtain ⟨pt, rfl⟩ := ht1.ref
      have hA1 : AtS z a1 l1 := ⟨d1, e1, hA.size⟩
      walk_at "go"
      refine r_cut hA1 lit12 rfl rfl (fun l2 q2 => ?_) (fun q2 => ?_)
      · walk_at "go"
        refine ⟨z, a1 + 5, l2, rfl, hA1.pass q2, fun m l3 q3 a3 v3 p3 H3 d3 e3 hp3 hv3 x3 => ?_, fun q3 i p3 H3 hp3 x3 => ?_⟩
        · subst hv3
          have hA3 : AtS z a3 l3 := ⟨d3, e3, hA.size⟩
          have x13 := x1.trans x3
          walk_at "go"
          refine r_ncut hA3 lit13 rfl rfl (fun q4 => ?_) (fun l4 q4 => ?_)
          · walk_at "go"
            exact hQ.no x13 (by unfold Rd.cmp; simp only [q1, q2, q3, q4]) _
          · walk_at "go"
            refine ⟨z, a3 + 3, l4, rfl, hA3.pass q4, fun r l5 q5 a5 v5 p5 H5 d5 e5 hp5 hv5 x5 => ?_, fun q5 i p5 H5 hp5 x5 => ?_⟩
            · subst hv5
              have x15 := x13.trans x5
              have no : ¬ ((2 ≤ m ∧ m ≤ 12) ∧ 0 ≤ r ∧ r < m) → ∀ p, H5 p = none → Q (.ref p) (L2.upd H5 p (.tup [.int a5, .non])) := fun c => hQ.no x15 (by unfold Rd.cmp; simp only [q1, q2, q3, q4, q5]; rw [if_neg c]) _
              walk_at "go"
              refine r_if2 (fun c1 => ?_) (fun c1 => ?_)
              · have c1 := of_decide_eq_true c1
                walk_at "go"
                refine r_if2 (fun c2 => ?_) (fun c2 => ?_)
                · have c2 := of_decide_eq_true c2
                  walk_at "go"
                  refine r_if2 (fun c3 => ?_) (fun c3 => ?_)
                  · have c3 := of_decide_eq_true c3
                    walk_at "go"
                    refine r_if2 (fun c4 => ?_) (fun c4 => ?_)
                    · have c4 := of_decide_eq_true c4
                      walk_at "go"
                      intro p hp
                      walk_at "go"
                      refine hQ.yes (a := a5) (x15.trans (Ex.new (o := .tup [V.str "rest", .ref pt, .int m, .int r]) hp)) (t := .res t m r) (l' := l5) (by unfold Rd.cmp; simp only [q1, q2, q3, q4, q5]; rw [if_pos ⟨⟨c1, c2⟩, c3, c4⟩]) d5 e5 fun H6 x6 => ?_
                      exact (IsCd.mk (d := 0) (c := .res t m r) (upd_same (H := H5) (a := p) (o := .tup [V.str "rest", .ref pt, .int m, .int r])) ⟨_, rfl, ((ht1.ex (x3.trans x5)).ex (Ex.new hp)).up hn⟩).ex x6
                    · have c4 := of_decide_eq_false c4
                      walk_at "go"
                      exact no fun y => c4 y.2.2
                  · have c3 := of_decide_eq_false c3
                    walk_at "go"
                    exact no fun y => c3 y.2.1
                · have c2 := of_decide_eq_false c2
                  walk_at "go"
                  exact no fun y => c2 y.1.2
              · have c1 := of_decide_eq_false c1
                walk_at "go"
                exact no fun y => c1 y.1.1
            · walk_at "go"
              exact hQ.no (x13.trans x5) (by unfold Rd.cmp; simp only [q1, q2, q3, q4, q5]) _
        · walk_at "go"
          exact hQ.no (x1.trans x3) (by unfold Rd.cmp; simp only [q1, q2, q3]) _
      · walk_at "go"
        refine r_dsel2 (z := cutS z (some (a1 : Int)) (some ((a1 : Int) + 3))) (by decide +kernel) (fun H' R x q => by walk_at "go"; exact q) fun H2 x2 => ?_
        have x12 := x1.trans x2
        have i1 := cut_iff (j := (a1 : Int) + 3) hA1 lit14 rfl rfl
        have i2 := cut_iff (j := (a1 : Int) + 3) hA1 lit13 rfl rfl
        cases q3 : Rd.acc [32, 60, 32] l1 with
        | some l3 =>
          rw [if_pos (i1.mpr (by rw [q3]; rfl))]
          walk_at "go"
          refine ⟨z, a1 + 3, l3, lev, rfl, hA1.pass q3, hlev, fun u l4 q4 a4 v4 p4 H4 d4 e4 hp4 hu4 x4 => ?_, fun q4 i p4 H4 hp4 x4 => ?_⟩
          · obtain ⟨pu, rfl⟩ := hu4.ref
            have x14 := x12.trans x4
            walk_at "go"
            intro p hp
            walk_at "go"
            refine hQ.yes (a := a4) (x14.trans (Ex.new (o := .tup [V.str "less", .ref pt, .ref pu]) hp)) (t := .less t u) (l' := l4) (by unfold Rd.cmp; simp only [q1, q2, q3, q4]) d4 e4 fun H6 x6 => ?_
            exact (IsCd.mk (d := 0) (c := .less t u) (upd_same (H := H4) (a := p) (o := .tup [V.str "less", .ref pt, .ref pu])) ⟨_, _, rfl, ((ht1.ex (x2.trans x4)).ex (Ex.new hp)).up hn, (hu4.ex (Ex.new hp)).up hn⟩).ex x6
          · walk_at "go"
            exact hQ.no (x12.trans x4) (by unfold Rd.cmp; simp only [q1, q2, q3, q4]) _
        | none =>
          rw [if_neg (fun y => by have y := i1.mp y; rw [q3] at y; cases y)]
          cases q4 : Rd.acc [32, 61, 32] l1 with
          | some l3 =>
            rw [if_pos (i2.mpr (by rw [q4]; rfl))]
            walk_at "go"
            refine ⟨z, a1 + 3, l3, lev, rfl, hA1.pass q4, hlev, fun u l4 q6 a4 v4 p4 H4 d4 e4 hp4 hu4 x4 => ?_, fun q6 i p4 H4 hp4 x4 => ?_⟩
            · obtain ⟨pu, rfl⟩ := hu4.ref
              have x14 := x12.trans x4
              walk_at "go"
              intro p hp
              walk_at "go"
              refine hQ.yes (a := a4) (x14.trans (Ex.new (o := .tup [V.str "equal", .ref pt, .ref pu]) hp)) (t := .equ t u) (l' := l4) (by unfold Rd.cmp; simp only [q1, q2, q3, q4, q6]) d4 e4 fun H6 x6 => ?_
              exact (IsCd.mk (d := 0) (c := .equ t u) (upd_same (H := H4) (a := p) (o := .tup [V.str "equal", .ref pt, .ref pu])) ⟨_, _, rfl, ((ht1.ex (x2.trans x4)).ex (Ex.new hp)).up hn, (hu4.ex (Ex.new hp)).up hn⟩).ex x6
            · walk_at "go"
              exact hQ.no (x12.trans x4) (by unfold Rd.cmp; simp only [q1, q2, q3, q4, q6]) _
          | none =>
            rw [if_neg (fun y => by have y := i2.mp y; rw [q4] at y; cases y)]
            walk_at "go"
            exact hQ.no x12 (by unfold Rd.cmp; simp only [q1, q2, q3, q4]) _
    · walk_at "go"
      exact hQ.no x1 (by unfold Rd.cmp; simp only [q1]) _
end
end PW
/-! ### conditions scanned -/
namespace PW
open PySem PySem.Spec PyProof.Rows L2
def spLReadC (K : PySem.W.Frag) : Sp := fun vs H Q _ => ∃ z, vs = [.str z] ∧ z.length ≤ 100000 ∧ (∀ c v H', Rd.cond 20 (TL.tl z) = some (c, []) → IsCd K H' 20 20 v c → Ex H H' → Q v H') ∧ ((∀ c, Rd.cond 20 (TL.tl z) ≠ some (c, [])) → ∀ H', Ex H H' → Q .non H')
section
variable {P : Program} {w : World} {K : PySem.W.Frag} {mg : Str → Option Value} {base : Heap}
theorem ok1__law_scan_condition {k n : Nat} {spj : Sp} (T : Txt K mg) (hj : n = 0 ∨ ∃ j, n = j + 1 ∧ spj = spLScCond K j)
    (G__law_run : FnOk P w K mg base CX0 k (He.ga K "_law_run") (fdOf K (He.ga K "_law_run")) p__law_run (spLRun))
    (G__law_letters : FnOk P w K mg base CX0 k (He.ga K "_law_letters") (fdOf K (He.ga K "_law_letters")) p__law_letters (spLetters))
    (G__law_scan_compare : ∀ j, n = j + 1 → FnOk P w K mg base CX0 (k) (He.ga K "_law_scan_compare") (fdOf K (He.ga K "_law_scan_compare")) p__law_scan_compare (spLScCmp K j))
    (G__law_scan_condition : FnOk P w K mg base CX0 k (He.ga K "_law_scan_condition") (fdOf K (He.ga K "_law_scan_condition")) p__law_scan_condition (spj)) : FnOk P w K mg base CX0 (k + 1) (He.ga K "_law_scan_condition") (fdOf K (He.ga K "_law_scan_condition")) p__law_scan_condition (spLScCond K n) := by
  have G__law_scan_compare : FnOk P w K mg base CX0 (k) (He.ga K "_law_scan_compare") (fdOf K (He.ga K "_law_scan_compare")) p__law_scan_compare (fun vs H Q E => ∃ j, n = j + 1 ∧ spLScCmp K j vs H Q E) := ⟨fun vs H Q E ⟨j, e, z⟩ => (G__law_scan_compare j e).len vs H Q E z, fun A outer s H args us vs Q E hr he hb hv ⟨j, e, z⟩ => (G__law_scan_compare j e).run A outer s H args us vs Q E hr he hb hv z⟩
  refine FunD.ok T.d__law_scan_condition sc__law_scan_condition (fun vs H Q E h => ?_) (fun cdv A outer s H vs Q E hr h => ?_)
  · obtain ⟨z, a, l, lev, rfl, _⟩ := h
    rfl
  · obtain ⟨z, a, l, lev, rfl, hA, hlev, hn, hQ⟩ := h
    have hs2 := size_le hA.size
    refine ⟨_, PSs.nox ((pss_cons (ps_if (pt_cmpR op_gt (pv 2) pe_int (nomark _))
      (pss_one (ps_ret (pe_tup (pa_cons (pv 1) (pa_cons pe_non pa_nil)))))
      pss_nil)
    (pss_cons (ps_if (pt_cmpR op_eq (pe_slice sl_str (pv 0) (po_some (pv 1)) (po_some (pe_op op_add (pv 1) pe_int))) pe_str (nomark _))
      (pss_cons (ps_asg (pe_call G__law_scan_condition hr rfl T.g__law_scan_condition T.d__law_scan_condition.kp (b__law_scan_condition T) .nil pass0 (pa_cons (pv 0) (pa_cons (pe_op op_add (pv 1) pe_int) (pa_cons (pe_op op_add (pv 2) pe_int) pa_nil)))) (pg_tup rfl (pgs_cons (pg_name (i := 3) sc__law_scan_condition.nd rfl (Or.inl rfl) (hf := by first | exact Or.inl rfl | exact Or.inr rfl)) (pgs_cons (pg_name (i := 4) sc__law_scan_condition.nd rfl (Or.inl rfl) (hf := by first | exact Or.inl rfl | exact Or.inr rfl)) pgs_nil))))
        (pss_cons (ps_set (i := 5) sc__law_scan_condition.nd rfl (Or.inl rfl) (pe_ifExp (pt_cmpR op_eq (pe_slice sl_str (pv 0) (po_some (pv 3)) (po_some (pe_op op_add (pv 3) pe_int))) pe_str (nomark _)) pe_str pe_str))
        (pss_cons (ps_if (PW.pt (pw_or (pt_cmp (pc_isN (pv 4)) rfl) (pw_or1 (PW.pt (pw_and (pt_cmpR op_eq (pv 5) pe_str (nomark _)) (pw_and1 (pt_cmpR op_ne (pe_slice sl_str (pv 0) (po_some (pv 3)) (po_some (pe_op op_add (pv 3) pe_int))) pe_str (nomark _))))))))
          (pss_one (ps_ret (pe_tup (pa_cons (pv 1) (pa_cons pe_non pa_nil)))))
          pss_nil)
        (pss_cons (ps_asg (pe_call G__law_scan_condition hr rfl T.g__law_scan_condition T.d__law_scan_condition.kp (b__law_scan_condition T) .nil pass0 (pa_cons (pv 0) (pa_cons (pe_op op_add (pe_op op_add (pv 3) (pe_callB call_lenN (by rfl) T.f_len (by decide +kernel) (pa_cons (pv 5) pa_nil))) pe_int) (pa_cons (pe_op op_add (pv 2) pe_int) pa_nil)))) (pg_tup rfl (pgs_cons (pg_name (i := 6) sc__law_scan_condition.nd rfl (Or.inl rfl) (hf := by first | exact Or.inl rfl | exact Or.inr rfl)) (pgs_cons (pg_name (i := 7) sc__law_scan_condition.nd rfl (Or.inl rfl) (hf := by first | exact Or.inl rfl | exact Or.inr rfl)) pgs_nil))))
        (pss_one (ps_ret (pe_tup (pa_cons (pe_op op_add (pv 6) pe_int) (pa_cons (pe_ifExp (PW.pt (pw_and (pt_cmp (pc_notN (pv 7)) rfl) (pw_and1 (pt_cmpR op_eq (pe_slice sl_str (pv 0) (po_some (pv 6)) (po_some (pe_op op_add (pv 6) pe_int))) pe_str (nomark _))))) (pe_tup (pa_cons (pv 5) (pa_cons (pv 4) (pa_cons (pv 7) pa_nil)))) pe_non) pa_nil)))))))))
      pss_nil)
    (pss_cons (ps_if (pt_cmpR op_eq (pe_slice sl_str (pv 0) (po_some (pv 1)) (po_some (pe_op op_add (pv 1) pe_int))) pe_str (nomark _))
      (pss_cons (ps_asg (pe_call G__law_scan_condition hr rfl T.g__law_scan_condition T.d__law_scan_condition.kp (b__law_scan_condition T) .nil pass0 (pa_cons (pv 0) (pa_cons (pe_op op_add (pv 1) pe_int) (pa_cons (pe_op op_add (pv 2) pe_int) pa_nil)))) (pg_tup rfl (pgs_cons (pg_name (i := 3) sc__law_scan_condition.nd rfl (Or.inl rfl) (hf := by first | exact Or.inl rfl | exact Or.inr rfl)) (pgs_cons (pg_name (i := 4) sc__law_scan_condition.nd rfl (Or.inl rfl) (hf := by first | exact Or.inl rfl | exact Or.inr rfl)) pgs_nil))))
        (pss_one (ps_ret (pe_tup (pa_cons (pv 3) (pa_cons (pe_ifExp (pt_cmp (pc_isN (pv 4)) rfl) pe_non (pe_tup (pa_cons pe_str (pa_cons (pv 4) pa_nil)))) pa_nil))))))
      pss_nil)
    (pss_cons (ps_set (i := 3) sc__law_scan_condition.nd rfl (Or.inl rfl) (pe_call G__law_run hr rfl T.g__law_run T.d__law_run.kp (b__law_run T) .nil pass0 (pa_cons (pv 0) (pa_cons (pv 1) (pa_cons (pe_call0 G__law_letters hr rfl T.g__law_letters T.d__law_letters.kp (b__law_letters T) .nil pass0) pa_nil)))))
    (pss_one (ps_ret (pe_ifExp (pt_cmpR op_eq (pe_slice sl_str (pv 0) (po_some (pv 1)) (po_some (pv 3))) pe_str (nomark _)) (pe_tup (pa_cons (pv 3) (pa_cons (pe_tup (pa_cons pe_str pa_nil)) pa_nil))) (pe_call G__law_scan_compare hr rfl T.g__law_scan_compare T.d__law_scan_compare.kp (b__law_scan_compare T) .nil pass0 (pa_cons (pv 0) (pa_cons (pv 1) (pa_cons (pe_op op_add (pv 2) pe_int) pa_nil)))))))))))), ?_⟩
    show tSeq _ _ _ [some (V.str z), some (V.int a), some (V.int lev), none, none, none, none, none] H
    walk_at "K"
    walk_at "go"
    refine r_if2 (fun c0 => ?_) (fun c0 => ?_)
    · have c0 := of_decide_eq_true c0
      have : n = 0 := by omega
      subst this
      walk_at "go"
      exact hQ.no (Ex.refl _) rfl _
    · have c0 := of_decide_eq_false c0
      obtain ⟨n, rfl⟩ : ∃ j, n = j + 1 := ⟨n - 1, by omega⟩
      obtain rfl : spj = spLScCond K n := by
        rcases hj with z | ⟨j, z, y⟩
        · cases z
        · have : j = n := by omega
          rw [← this]
          exact y
      walk_at "go"
      refine r_cut hA lit16 rfl rfl (fun l1 q1 => ?_) (fun q1 => ?_)
      · walk_at "go"
        refine ⟨z, a + 1, l1, lev + 1, rfl, hA.pass q1, by omega, by omega, fun c l2 q2 a2 v2 p2 H2 d2 e2 hp2 hc2 x2 => ?_, fun q2 i p2 H2 hp2 x2 => ?_⟩
        · obtain ⟨pc, rfl⟩ := hc2.ref
          have hA2 : AtS z a2 l2 := ⟨d2, e2, hA.size⟩
          walk_at "go"
          refine r_cut hA2 lit20 rfl rfl (fun l3 q3 => ?_) (fun q3 => ?_)
          · have hA3 : AtS z (a2 + 5) l3 := hA2.pass q3
            have sl : (Str.ofString "and").length ≤ sizeLine := by decide +kernel
            have el : ((Str.ofString "and").length : Int) = 3 := by decide +kernel
            walk_at "go"
            rw [el, show ((a2 : Int) + 3 + 2) = ((a2 + 5 : Nat) : Int) by omega]
            refine ⟨z, a2 + 5, l3, lev + 1, rfl, hA3, by omega, by omega, fun c' l4 q4 a4 v4 p4 H4 d4 e4 hp4 hc4 x4 => ?_, fun q4 i p4 H4 hp4 x4 => ?_⟩
            · obtain ⟨pc4, rfl⟩ := hc4.ref
              have hA4 : AtS z a4 l4 := ⟨d4, e4, hA.size⟩
              have x24 := x2.trans x4
              walk_at "go"
              refine r_cut hA4 lit17 rfl rfl (fun l5 q5 => ?_) (fun q5 => ?_)
              · walk_at "go"
                intro p hp
                walk_at "go"
                have hA5 := hA4.pass q5
                refine hQ.yes (a := a4 + 1) (x24.trans (Ex.new (o := .tup [V.str "and", .ref pc, .ref pc4]) hp)) (t := .con c c') (l' := l5) (by unfold Rd.cond; simp only [q1, q2, q3, q4, q5]) hA5.drop hA5.le fun H6 x6 => ?_
                exact (IsCd.mk (c := .con c c') (upd_same (H := H4) (a := p) (o := .tup [V.str "and", .ref pc, .ref pc4])) ⟨_, _, rfl, (hc2.ex x4).ex (Ex.new hp), hc4.ex (Ex.new hp)⟩).ex x6
              · walk_at "go"
                exact hQ.no x24 (by unfold Rd.cond; simp only [q1, q2, q3, q4, q5]) _
            · walk_at "go"
              exact hQ.no (x2.trans x4) (by unfold Rd.cond; simp only [q1, q2, q3, q4]) _
          · walk_at "go"
            refine r_ncut hA2 lit21 rfl rfl (fun q4 => ?_) (fun l3 q4 => ?_)
            · walk_at "go"
              exact hQ.no x2 (by unfold Rd.cond; simp only [q1, q2, q3, q4]) _
            · have hA3 : AtS z (a2 + 4) l3 := hA2.pass q4
              have sl : (Str.ofString "or").length ≤ sizeLine := by decide +kernel
              have el : ((Str.ofString "or").length : Int) = 2 := by decide +kernel
              walk_at "go"
              rw [el, show ((a2 : Int) + 2 + 2) = ((a2 + 4 : Nat) : Int) by omega]
              refine ⟨z, a2 + 4, l3, lev + 1, rfl, hA3, by omega, by omega, fun c' l4 q6 a4 v4 p4 H4 d4 e4 hp4 hc4 x4 => ?_, fun q6 i p4 H4 hp4 x4 => ?_⟩
              · obtain ⟨pc4, rfl⟩ := hc4.ref
                have hA4 : AtS z a4 l4 := ⟨d4, e4, hA.size⟩
                have x24 := x2.trans x4
                walk_at "go"
                refine r_cut hA4 lit17 rfl rfl (fun l5 q5 => ?_) (fun q5 => ?_)
                · walk_at "go"
                  intro p hp
                  walk_at "go"
                  have hA5 := hA4.pass q5
                  refine hQ.yes (a := a4 + 1) (x24.trans (Ex.new (o := .tup [V.str "or", .ref pc, .ref pc4]) hp)) (t := .dis c c') (l' := l5) (by unfold Rd.cond; simp only [q1, q2, q3, q4, q6, q5]) hA5.drop hA5.le fun H6 x6 => ?_
                  exact (IsCd.mk (c := .dis c c') (upd_same (H := H4) (a := p) (o := .tup [V.str "or", .ref pc, .ref pc4])) ⟨_, _, rfl, (hc2.ex x4).ex (Ex.new hp), hc4.ex (Ex.new hp)⟩).ex x6
                · walk_at "go"
                  exact hQ.no x24 (by unfold Rd.cond; simp only [q1, q2, q3, q4, q6, q5]) _
              · walk_at "go"
                exact hQ.no (x2.trans x4) (by unfold Rd.cond; simp only [q1, q2, q3, q4, q6]) _
        · have fin := hQ.no x2 (by unfold Rd.cond; simp only [q1, q2]) (a : Int)
          walk_at "go"
          refine r_if2 (fun c5 => ?_) (fun c5 => ?_)
          · walk_at "go"
            exact fin
          · walk_at "go"
            exact fin
      · walk_at "go"
        refine r_cut hA lit15 rfl rfl (fun l1 q2 => ?_) (fun q2 => ?_)
        · walk_at "go"
          refine ⟨z, a + 4, l1, lev + 1, rfl, hA.pass q2, by omega, by omega, fun c l2 q3 a2 v2 p2 H2 d2 e2 hp2 hc2 x2 => ?_, fun q3 i p2 H2 hp2 x2 => ?_⟩
          · obtain ⟨pc, rfl⟩ := hc2.ref
            walk_at "go"
            intro p hp
            walk_at "go"
            refine hQ.yes (a := a2) (x2.trans (Ex.new (o := .tup [V.str "not", .ref pc]) hp)) (t := .neg c) (l' := l2) (by unfold Rd.cond; simp only [q1, q2, q3]) d2 e2 fun H6 x6 => ?_
            exact (IsCd.mk (c := .neg c) (upd_same (H := H2) (a := p) (o := .tup [V.str "not", .ref pc])) ⟨_, rfl, hc2.ex (Ex.new hp)⟩).ex x6
          · walk_at "go"
            exact hQ.no x2 (by unfold Rd.cond; simp only [q1, q2, q3]) _
        · walk_at "go"
          refine ⟨rfl, ?_⟩
          walk_at "go"
          refine ⟨z, a, _, l, Rd.isLet, rfl, lets_mem, hA, ?_⟩
          have hA1 := hA.skip Rd.isLet
          have hcut := cut_run Rd.isLet hA
          walk_at "go"
          rw [hcut]
          refine r_if2 (fun c5 => ?_) (fun c5 => ?_)
          · have c5 := true_word.mp (of_decide_eq_true c5)
            have hl := (List.takeWhile_append_dropWhile (p := Rd.isLet) (l := l)).symm
            have q5 : Rd.acc [116, 114, 117, 101] l = some (l.dropWhile Rd.isLet) := by
              rw [c5] at hl
              conv => lhs; rw [hl]
              exact Rd.acc_app _ _
            walk_at "go"
            intro p hp
            walk_at "go"
            refine hQ.yes (Ex.new (o := .tup [V.str "true"]) hp) (t := .tru) (l' := l.dropWhile Rd.isLet) (by unfold Rd.cond; simp only [q1, q2, c5, if_true, q5]) hA1.drop hA1.le fun H6 x6 => ?_
            exact ((IsCd.mk (d := 0) (c := .tru) (upd_same (H := H) (a := p) (o := .tup [V.str "true"])) (show _ = _ from rfl)).up (Nat.le_refl _) (by omega)).ex x6
          · have c5 : ¬ l.takeWhile Rd.isLet = [116, 114, 117, 101] := fun z => of_decide_eq_false c5 (true_word.mpr z)
            have ht : Rd.cond (n + 1) l = Rd.cmp n l := by
              rw [Rd.cond]
              simp only [q1, q2]
              rw [if_neg c5]
            rw [ht] at hQ
            walk_at "go"
            exact ⟨n, rfl, z, a, l, lev + 1, rfl, hA, by omega, by omega, fun t l' e a v p H' h1 h2 h3 h4 h5 => hQ.1 t l' e a v p H' h1 h2 h3 (h4.up (Nat.le_refl _) (by omega)) h5, hQ.2⟩
theorem ok__law_scan_condition {k : Nat} (T : Txt K mg)
    (G__law_run : FnOk P w K mg base CX0 k (He.ga K "_law_run") (fdOf K (He.ga K "_law_run")) p__law_run (spLRun))
    (G__law_letters : FnOk P w K mg base CX0 k (He.ga K "_law_letters") (fdOf K (He.ga K "_law_letters")) p__law_letters (spLetters))
    (G__law_scan_compare : ∀ n, FnOk P w K mg base CX0 (k + 2 * n) (He.ga K "_law_scan_compare") (fdOf K (He.ga K "_law_scan_compare")) p__law_scan_compare (spLScCmp K n)) : ∀ n, FnOk P w K mg base CX0 (k + 2 * n + 1) (He.ga K "_law_scan_condition") (fdOf K (He.ga K "_law_scan_condition")) p__law_scan_condition (spLScCond K n)
  | 0 => ok1__law_scan_condition (spj := spNo) T (.inl rfl) G__law_run G__law_letters (fun j e => nomatch e) fnOk_no
  | n + 1 => by
    have ih := ok__law_scan_condition T G__law_run G__law_letters G__law_scan_compare n
    exact ok1__law_scan_condition (k := k + 2 * (n + 1)) T (.inr ⟨n, rfl, rfl⟩) (G__law_run.mono (by omega)) (G__law_letters.mono (by omega)) (fun j e => by
      have : j = n := by omega
      subst this
      exact (G__law_scan_compare j).mono (by omega)) (ih.mono (by omega))
theorem ok__law_read_condition {k : Nat} (T : Txt K mg) (G__law_scan_condition : FnOk P w K mg base CX0 k (He.ga K "_law_scan_condition") (fdOf K (He.ga K "_law_scan_condition")) p__law_scan_condition (spLScCond K 20)) : FnOk P w K mg base CX0 (k + 1) (He.ga K "_law_read_condition") (fdOf K (He.ga K "_law_read_condition")) p__law_read_condition (spLReadC K) := by
  refine FunD.ok T.d__law_read_condition sc__law_read_condition (fun vs H Q E h => ?_) (fun cdv A outer s H vs Q E hr h => ?_)
  · obtain ⟨z, rfl, _⟩ := h
    rfl
  · obtain ⟨z, rfl, hz, h1, h2⟩ := h
    have hs2 := size_le hz
    refine ⟨_, PSs.nox ((pss_cons (ps_asg (pe_call G__law_scan_condition hr rfl T.g__law_scan_condition T.d__law_scan_condition.kp (b__law_scan_condition T) .nil pass0 (pa_cons (pv 0) (pa_cons pe_int (pa_cons pe_int pa_nil)))) (pg_tup rfl (pgs_cons (pg_name (i := 1) sc__law_read_condition.nd rfl (Or.inl rfl) (hf := by first | exact Or.inl rfl | exact Or.inr rfl)) (pgs_cons (pg_name (i := 2) sc__law_read_condition.nd rfl (Or.inl rfl) (hf := by first | exact Or.inl rfl | exact Or.inr rfl)) pgs_nil))))
    (pss_one (ps_ret (pe_ifExp (pt_cmpR op_eq (pv 1) (pe_callB call_lenN (by rfl) T.f_len (by decide +kernel) (pa_cons (pv 0) pa_nil)) (nomark _)) (pv 2) pe_non))))), ?_⟩
    show tSeq _ _ _ [some (V.str z), none, none] H
    walk_at "K"
    walk_at "go"
    refine ⟨z, 0, TL.tl z, 1, rfl, ⟨rfl, Nat.zero_le _, hz⟩, by decide, by decide, fun u l4 q4 a4 v4 p4 H4 d4 e4 hp4 hu4 x4 => ?_, fun q4 i p4 H4 hp4 x4 => ?_⟩
    · walk_at "go"
      have hl := congrArg List.length d4
      rw [List.length_drop] at hl
      refine r_if2 (fun c => ?_) (fun c => ?_)
      · have c := V.int.inj (of_decide_eq_true c)
        rw [len_eq] at c
        have e : l4 = [] := List.length_eq_zero_iff.mp (by omega)
        subst e
        walk_at "go"
        exact h1 u _ _ q4 hu4 x4
      · have c : ¬ V.int (a4 : Int) = V.int (z.length : Int) := of_decide_eq_false c
        walk_at "go"
        refine h2 (fun t e => ?_) _ x4
        rw [q4] at e
        have e := (Prod.mk.inj (Option.some.inj e)).2
        subst e
        rw [List.length_nil] at hl
        refine c (congrArg V.int ?_)
        rw [len_eq]
        omega
    · have no : ∀ t, Rd.cond 20 (TL.tl z) ≠ some (t, []) := fun t e => by
        rw [q4] at e
        cases e
      walk_at "go"
      refine r_if2 (fun c => ?_) (fun c => ?_)
      · walk_at "go"
        exact h2 no _ x4
      · walk_at "go"
        exact h2 no _ x4
end
end PW
/-! ### bent texts -/
namespace PW
open PySem PySem.Spec PyProof.Rows L2
def spBent (K : PySem.W.Frag) : Sp := fun vs H Q _ => ∃ b c z l, ∃ ws : List Str, vs = [.ref b, .str z, .ref l] ∧ BagAt H b c ∧ l ≠ b ∧ H l = some (.lst (ws.map V.str)) ∧ 0 < ws.length ∧ ws.length ≤ 1000 ∧ (∀ w ∈ ws, w.length ≤ 10) ∧ z.length ≤ 50000 ∧ ∀ y H', y.length ≤ z.length + 10 → BagAt H' b c → ExB b H H' → Q (.str y) H'
section
variable {P : Program} {w : World} {K : PySem.W.Frag} {mg : Str → Option Value} {base : Heap}
theorem ok__law_bent {k : Nat} (T : Txt K mg)
    (G__law_pull : FnOk P w K mg base CX0 k (He.ga K "_law_pull") (fdOf K (He.ga K "_law_pull")) p__law_pull (spPull))
    (G__law_of : FnOk P w K mg base CX0 k (He.ga K "_law_of") (fdOf K (He.ga K "_law_of")) p__law_of (spOf K)) : FnOk P w K mg base CX0 (k + 1) (He.ga K "_law_bent") (fdOf K (He.ga K "_law_bent")) p__law_bent (spBent K) := by
  refine FunD.ok T.d__law_bent sc__law_bent (fun vs H Q E h => ?_) (fun cdv A outer s H vs Q E hr h => ?_)
  · obtain ⟨b, c, z, l, ws, rfl, _⟩ := h
    rfl
  · obtain ⟨b, c, z, l, ws, rfl, hB, hlb, hl, hw0, hw1, hwl, hz, hQ⟩ := h
    have hs2 := size_le (Nat.le_trans hz (by decide : 50000 ≤ 100000))
    refine ⟨_, PSs.nox ((pss_cons (ps_par (i := 3) (j := 4) (by rfl) sc__law_bent.nd rfl rfl (by decide) rfl rfl (pa_cons (pe_call G__law_pull hr rfl T.g__law_pull T.d__law_pull.kp (b__law_pull T) .nil pass0 (pa_cons (pv 0) (pa_cons (pe_op op_add (pe_callB call_lenN (by rfl) T.f_len (by decide +kernel) (pa_cons (pv 1) pa_nil)) pe_int) pa_nil))) (pa_cons (pe_call G__law_pull hr rfl T.g__law_pull T.d__law_pull.kp (b__law_pull T) .nil pass0 (pa_cons (pv 0) (pa_cons pe_int pa_nil))) pa_nil)) (by rfl))
    (pss_cons (ps_set (i := 5) sc__law_bent.nd rfl (Or.inl rfl) (pe_call G__law_of hr rfl T.g__law_of T.d__law_of.kp (b__law_of T) .nil pass0 (pa_cons (pv 0) (pa_cons (pv 2) pa_nil))))
    (pss_cons (ps_if (pt_cmpR op_eq (pv 4) pe_int (nomark _))
      (pss_one (ps_ret (pe_op op_addSN (pe_slice sl_str (pv 1) po_none (po_some (pv 3))) (pe_slice sl_str (pv 1) (po_some (pe_op op_add (pv 3) pe_int)) po_none))))
      pss_nil)
    (pss_cons (ps_if (pt_cmpR op_eq (pv 4) pe_int (nomark _))
      (pss_one (ps_ret (pe_op op_addSN (pe_op op_addSN (pe_slice sl_str (pv 1) po_none (po_some (pv 3))) (pv 5)) (pe_slice sl_str (pv 1) (po_some (pe_op op_add (pv 3) pe_int)) po_none))))
      pss_nil)
    (pss_cons (ps_if (pt_cmpR op_eq (pv 4) pe_int (nomark _))
      (pss_one (ps_ret (pe_op op_addSN (pe_op op_addSN (pe_slice sl_str (pv 1) po_none (po_some (pv 3))) (pe_slice sl_str (pv 1) (po_some (pv 3)) (po_some (pe_op op_add (pv 3) pe_int)))) (pe_slice sl_str (pv 1) (po_some (pv 3)) po_none))))
      pss_nil)
    (pss_one (ps_ret (pe_op op_addSN (pe_op op_addSN (pe_slice sl_str (pv 1) po_none (po_some (pv 3))) (pv 5)) (pe_slice sl_str (pv 1) (po_some (pv 3)) po_none)))))))))), ?_⟩
    show tSeq _ _ _ [some (V.ref b), some (V.str z), some (V.ref l), none, none, none] H
    walk_at "K"
    walk_at "go"
    refine ⟨b, c, _, rfl, hB, by omega, Nat.lt_trans (log_small (n := 100000) (by omega) (by decide)) (by decide), fun a0 H1 a1 a2 hB1 x1 => ?_⟩
    obtain ⟨a, rfl⟩ : ∃ a : Nat, a0 = (a : Int) := ⟨a0.toNat, by omega⟩
    walk_at "go"
    refine ⟨b, c, 5, rfl, hB1, by decide, by decide, fun way H2 w0 w1 hB2 x2 => ?_⟩
    have x12 := x1.trans x2
    walk_at "go"
    refine ⟨b, c, .ref l, _, rfl, hB2, Or.inl ⟨l, rfl, hlb, Or.inl (x12 _ _ hlb hl)⟩, by rw [List.length_map]; exact hw0, by rw [List.length_map]; exact Nat.le_trans hw1 (by decide), fun v H3 hv hB3 x3 => ?_⟩
    obtain ⟨sg, hsg, rfl⟩ := List.mem_map.mp hv
    have hsl := hwl sg hsg
    have x13 := x12.trans x3
    clear hB hB1 hB2 x1 x2 x3 x12 hv hl
    have el := len_eq z
    have es := len_eq sg
    have f1 : (TL.tl (cutS z none (some (a : Int)))).length ≤ a := by
      rw [tl_cut0, List.length_take]
      omega
    have f2 : (TL.tl (cutS z (some ((a : Int) + 1)) none)).length = (TL.tl z).length - (a + 1) := by
      rw [show ((a : Int) + 1) = ((a + 1 : Nat) : Int) from rfl, tl_cut1, List.length_drop]
    have f3 : (TL.tl (cutS z (some (a : Int)) none)).length = (TL.tl z).length - a := by
      rw [tl_cut1, List.length_drop]
    have f4 : (TL.tl (cutS z (some (a : Int)) (some ((a : Int) + 3)))).length ≤ 3 := by
      rw [show ((a : Int) + 3) = ((a + 3 : Nat) : Int) from rfl, tl_cut, List.length_take]
      omega
    have fin : ∀ y : Str, (TL.tl y).length ≤ (TL.tl z).length + 10 → Q (.str y) H3 := fun y h => hQ y H3 (by rw [len_eq, el]; exact h) hB3 x13
    walk_at "go"
    refine r_if2 (fun e => ?_) (fun e => ?_)
    · walk_at "go"
      exact fin _ (by walk_at "tl"; omega)
    · walk_at "go"
      refine r_if2 (fun e => ?_) (fun e => ?_)
      · walk_at "go"
        exact fin _ (by walk_at "tl"; omega)
      · walk_at "go"
        refine r_if2 (fun e => ?_) (fun e => ?_)
        · walk_at "go"
          exact fin _ (by walk_at "tl"; omega)
        · walk_at "go"
          exact fin _ (by walk_at "tl"; omega)
end
end PW
/-! ### what an error has; a call's value or its error's tag and field -/
namespace PW
open PySem PySem.Spec PyProof.Rows L2
/-- the errors of the text: class, tag, dict, what _law_field tells -/
inductive ErrRow (K : PySem.W.Frag) : Addr → Str → List (Str × V) → V → Prop where
  | InvalidText : ErrRow K (He.ga K "InvalidText") "InvalidText" [("tag", .str "InvalidText")] .non
theorem ErrRow.facts {K : PySem.W.Frag} {mg : Str → Option Value} (T : Txt K mg) {C : Addr} {tag : Str} {fs : List (Str × V)} {x : V} (h : ErrRow K C tag fs x) : XfC K C ∧ PySem.W.findIn K (.ref C) "tag" = some none ∧ PySem.W.exmAny K (.ref C) [.ref (He.ga K "WishError"), .ref (He.ga K "Missing"), .ref (He.ga K "NothingLeft")] = some true ∧ fs.lookup ("tag" : Str) = some (V.str tag) := by
  cases h with
  | InvalidText => exact ⟨T.x_InvalidText.xf, T.x_InvalidText.no _ (by decide), T.xm_InvalidText, rfl⟩

/-- H holds an error -/
def ErrD (C : Addr) (fs : List (Str × V)) (cls : Value) (d : Option Addr) (H : Hp) : Prop := ∃ dd, cls = .ref C ∧ d = some dd ∧ H dd = some (.xd fs)
def spField (K : PySem.W.Frag) : Sp := fun vs H Q _ => ∃ a C tag fs x cls d, vs = [.ref a] ∧ ErrRow K C tag fs x ∧ H a = some (excE a cls d) ∧ ErrD C fs cls d H ∧ ∀ H', Ex H H' → Q x H'
section
variable {P : Program} {w : World} {K : PySem.W.Frag} {mg : Str → Option Value} {base : Heap}
theorem cxW_K {N : List Str} {qual : Str} {scope : Scope} {f : Addr} {cd : Value} {A : Around} {outer : List Env} {s : Shared} {H : Hp} {E : XK} : (cxW P w K mg base N qual scope f cd A outer s H E).K = K := rfl
theorem okW__law_field (T : Txt K mg) : FnW P w K mg base 1 (He.ga K "_law_field") (fdOf K (He.ga K "_law_field")) p__law_field (spField K) := by
  refine fnW_of T.d__law_field sc__law_field (fun vs H Q E h => ?_) (fun cdv A outer s H vs Q E hr h => ?_)
  · obtain ⟨a, C, tag, fs, x, cls, d, rfl, _⟩ := h
    rfl
  · obtain ⟨a, C, tag, fs, x, cls, d, rfl, row, ha, ⟨dd, rfl, rfl, hd⟩, q⟩ := h
    refine ⟨_, ((pss_cons (ps_if (pt_cmpR op_in_seq (PW.pe_xe (pv 0)) (pe_lst (pa_cons pe_str (pa_cons pe_str pa_nil))) rfl)
      (pss_one (ps_ret (PW.pe_xe (pv 0))))
      pss_nil)
    (pss_cons (ps_if (pt_cmpR op_in_seq (PW.pe_xe (pv 0)) (pe_lst (pa_cons pe_str (pa_cons pe_str (pa_cons pe_str (pa_cons pe_str (pa_cons pe_str (pa_cons pe_str pa_nil))))))) rfl)
      (pss_one (ps_ret (PW.pe_xe (pv 0))))
      pss_nil)
    (pss_cons (ps_if (pt_cmpR op_in_seq (PW.pe_xe (pv 0)) (pe_lst (pa_cons pe_str (pa_cons pe_str pa_nil))) rfl)
      (pss_one (ps_ret (PW.pe_xe (pv 0))))
      pss_nil)
    (pss_cons (ps_if (pt_cmpR op_eq (PW.pe_xe (pv 0)) pe_str (nomark _))
      (pss_one (ps_ret (PW.pe_xe (pv 0))))
      pss_nil)
    (pss_cons (ps_if (pt_cmpR op_eq (PW.pe_xe (pv 0)) pe_str (nomark _))
      (pss_one (ps_ret (PW.pe_xe (pv 0))))
      pss_nil)
    (pss_cons (ps_if (pt_cmpR op_eq (PW.pe_xe (pv 0)) pe_str (nomark _))
      (pss_one (ps_ret (PW.pe_xe (pv 0))))
      pss_nil)
    (pss_one (ps_ret (pe_ifExp (pt_cmpR op_eq (PW.pe_xe (pv 0)) pe_str (nomark _)) (PW.pe_xe (pv 0)) pe_non)))))))))), ?_⟩
    show tSeq _ _ _ [some (V.ref a)] H
    simp only [cxW_K]
    cases row with
    | InvalidText =>
      have M := T.x_InvalidText
      refine ⟨_, rfl, a, _, dd, _, _, rfl, M.xf, M.no _ (by decide), ha, hd, rfl, ?_⟩
      walk_at "go"
      intro p0 hp0
      walk_at "go"
      refine ⟨_, rfl, a, _, dd, _, _, rfl, M.xf, M.no _ (by decide), (Ex.new hp0 _ _ ha), (Ex.new hp0 _ _ hd), rfl, ?_⟩
      walk_at "go"
      intro p1 hp1
      walk_at "go"
      refine ⟨_, rfl, a, _, dd, _, _, rfl, M.xf, M.no _ (by decide), (Ex.new hp1 _ _ (Ex.new hp0 _ _ ha)), (Ex.new hp1 _ _ (Ex.new hp0 _ _ hd)), rfl, ?_⟩
      walk_at "go"
      intro p2 hp2
      walk_at "go"
      refine ⟨_, rfl, a, _, dd, _, _, rfl, M.xf, M.no _ (by decide), (Ex.new hp2 _ _ (Ex.new hp1 _ _ (Ex.new hp0 _ _ ha))), (Ex.new hp2 _ _ (Ex.new hp1 _ _ (Ex.new hp0 _ _ hd))), rfl, ?_⟩
      walk_at "go"
      refine ⟨_, rfl, a, _, dd, _, _, rfl, M.xf, M.no _ (by decide), (Ex.new hp2 _ _ (Ex.new hp1 _ _ (Ex.new hp0 _ _ ha))), (Ex.new hp2 _ _ (Ex.new hp1 _ _ (Ex.new hp0 _ _ hd))), rfl, ?_⟩
      walk_at "go"
      refine ⟨_, rfl, a, _, dd, _, _, rfl, M.xf, M.no _ (by decide), (Ex.new hp2 _ _ (Ex.new hp1 _ _ (Ex.new hp0 _ _ ha))), (Ex.new hp2 _ _ (Ex.new hp1 _ _ (Ex.new hp0 _ _ hd))), rfl, ?_⟩
      walk_at "go"
      refine ⟨_, rfl, a, _, dd, _, _, rfl, M.xf, M.no _ (by decide), (Ex.new hp2 _ _ (Ex.new hp1 _ _ (Ex.new hp0 _ _ ha))), (Ex.new hp2 _ _ (Ex.new hp1 _ _ (Ex.new hp0 _ _ hd))), rfl, ?_⟩
      walk_at "go"
      exact q _ (((Ex.new hp0).trans (Ex.new hp1)).trans (Ex.new hp2))

/-- try: return ("value", a()) / except (..) as e: return (e.tag, _law_field(e)) -/
def ErrK (K : PySem.W.Frag) (Q : VK) : XK := fun cls d H' => ∃ C tag fs x, ErrRow K C tag fs x ∧ ErrD C fs cls d H' ∧ ∀ p H'', Ex H' H'' → H'' p = some (.tup [.str tag, x]) → Q (.ref p) H''
def TTwhy (K : PySem.W.Frag) : (XK → Hp → VK → Prop) → Hp → VK → Prop := fun tl H Q =>
  tl (ErrK K Q) H (fun v H' => [V.str "value", v].length ≤ sizeLine ∧ ∀ p, H' p = none → Q (.ref p) (upd H' p (.tup [.str "value", v])))
theorem r_why {tl : XK → Hp → VK → Prop} {H : Hp} {Q : VK} (h : tl (ErrK K Q) H (fun v H' => [V.str "value", v].length ≤ sizeLine ∧ ∀ p, H' p = none → Q (.ref p) (upd H' p (.tup [.str "value", v])))) : TTwhy K tl H Q := h
theorem why_gives {X : Cx} {k : Nat} {q : Str} {g : Addr} {cdg : Value} (T : Txt X.K X.mg) (hr : Room (k + 3) X.A) (h0 : ∀ f : Addr, (L2.start n__law_why [V.ref f])[0]? = some (some (V.ref f))) :
    LamX.GivesTo X n__law_why "_law_why" (defScope s__law_why) g cdg (defBody s__law_why) "_law_ask_z" q (TTwhy X.K) := by
  intro f c' s H Q tl act hc h
  have GF := okW__law_field (P := X.prog) (w := X.w) (base := X.base) T
  refine ⟨_, pss_one (ps_try_e3 (X := (cxOf C8.CX0 X.prog X.w X.K X.mg X.base n__law_why "_law_why" (defScope s__law_why) g cdg X.A X.stack s H C8.E0).nox) (i := 1)
      (c1 := .ref (He.ga X.K "WishError")) (c2 := .ref (He.ga X.K "Missing")) (c3 := .ref (He.ga X.K "NothingLeft"))
      (tb := fun W D σ H => ∃ Ech : XK, (∀ cls d σ' H', Ech cls d H' → W cls d σ' H') ∧ σ[0]? = some (some (.ref f)) ∧ H c' = some (LamX.CodeO c' q) ∧ tl Ech H (fun v H1 => [V.str "value", v].length ≤ sizeLine ∧ ∀ p, H1 p = none → D.rt (.ref p) (upd H1 p (.tup [.str "value", v]))))
      (ts := fun a cls d => tRet (tTup (tCons (tXe X.K "tag" (tVar 1)) (tCons (tCall (spField X.K) [] E0 (tCons (tVar 1) tNil)) tNil))))
      rfl rfl rfl sc__law_why.nd rfl rfl ⟨rfl, by decide, .inl T.g_WishError⟩ ⟨rfl, by decide, .inl T.g_Missing⟩ ⟨rfl, by decide, .inl T.g_NothingLeft⟩ (fun W pn xe tk _ => ?_)
      (fun a cls d pn => ?_)), ?_⟩
  · refine ⟨fun pins s' σ H' D I h' => ?_⟩
    obtain ⟨Ech, hW, h1, h2, h3⟩ := h'
    have hq : ∀ (p1 p2 p3 p4 p5 : Pos) (j j2 : Nat), PSs ((cxOf C8.CX0 X.prog X.w X.K X.mg X.base n__law_why "_law_why" (defScope s__law_why) g cdg X.A X.stack s H C8.E0).tr pn xe) [.Return (some (.Tuple [.Constant (.str "value") j p4, .Call (.Name "_law_ask_z" p1) [] [] p2] j2 p3)) p5] _ :=
      fun p1 p2 p3 p4 p5 j j2 => pss_one (ps_ret (pe_tup (pa_cons pe_str (pa_cons (act W pn xe Ech p1 p2 tk hW) pa_nil))))
    refine (hq _ _ _ _ _ _ _).run pins s' σ H' D I ?_
    exact ⟨h1, h2, h3⟩
  · have z : Room 1 (X.A.deeper (envOfC "_law_why" (defScope s__law_why) s.heap.objs.size g cdg)) := (hr.deeper _).mono (by omega)
    have hr1 : L2H.RoomH 1 ((cxOf C8.CX0 X.prog X.w X.K X.mg X.base n__law_why "_law_why" (defScope s__law_why) g cdg X.A X.stack s H C8.E0).nox.suite a pn).A := ⟨z.dp, z.un⟩
    exact pss_one (ps_ret (pe_tup (pa_cons (pe_xe (pv 1)) (pa_cons (pe_callW GF hr1 rfl T.g__law_field T.d__law_field.kp (b__law_field T) (pa_cons (pv 1) pa_nil)) pa_nil))))
  · refine ⟨_, fun cls d σ' H' hx => ?_, h0 f, hc, h⟩
    obtain ⟨C, tag, fs, x, row, hI, hQ⟩ := hx
    obtain ⟨dd, rfl, rfl, hd⟩ := hI
    obtain ⟨xf, hno, hxm, hlk⟩ := row.facts T
    refine ⟨hxm, fun a ha hl => ?_⟩
    have e1 : upd H' a (excE a (.ref C) (some dd)) dd = some (.xd fs) := Ex.new ha _ _ hd
    have e2 : upd H' a (excE a (.ref C) (some dd)) a = some (excE a (.ref C) (some dd)) := upd_same
    have l1 : (σ'.set 1 (some (.ref a)))[1]? = some (some (.ref a)) := by
      rw [List.getElem?_set_self (by rw [hl]; show 1 < n__law_why.length; decide)]
    refine ⟨.ref a, l1, a, _, dd, _, _, rfl, xf, hno, e2, e1, hlk, .ref a, l1, ?_⟩
    refine ⟨a, C, tag, fs, x, _, _, rfl, row, e2, ⟨dd, rfl, rfl, e1⟩, fun H2 x2 => ⟨by show 2 ≤ sizeLine; decide, fun p hp => ?_⟩⟩
    exact hQ p _ (((Ex.new ha).trans x2).trans (Ex.new hp)) upd_same
/-- _law_why(lambda: body) -/
theorem pe_why {X : Cx} {c Pt : Addr} {k : Nat} {params : Arguments} {body : Expr} {scope : Scope} {t : XK → TE} {p lpos pos : Pos} (T : Txt X.K X.mg) (TB : LamX.TabB X.base X.mg c Pt) (hcode : X.env.code = .ref c) (hg : Gl X "_law_why") (hr : Room (k + 3) X.A)
    (L : LamX.LamS X.env.scope scope) (hdef : defaultsOf params X.env = ([], [])) (hbind : ∀ (q : Str) (cl : List (Str × Addr)) (pm cv ctv : Value), bindArgs (PySem.W.kla_fn "<lambda>" q params body scope cl pm cv ctv) ⟨[], []⟩ = pure [])
    (hbody : ∀ (A : Around) (outer : List Env) (s : Shared) (H : Hp) (E : XK) (f c' : Addr), Room k (A.deeper (LamX.lamEnv X scope s.heap.objs.size f c')) → PE (LamX.lamCx X A outer s H E scope f c') body (t E)) :
    PE X (.Call (.Name "_law_why" p) [.Lambda params body scope lpos] [] pos) (LamX.tLam [(Pt, X.env.qual ++ "<lambda>")] (TTwhy X.K) t) := by
  obtain ⟨oc, od, dV, kV, doc, pm, an, cdv, ct, osl, e, lk, hcd, _, _⟩ := T.d__law_why.ex
  have hb := b__law_why T
  rw [e] at lk
  have e2 : fdOf X.K (He.fAd X.K ("_law_why", none)) = _ := e
  rw [e2] at hb
  exact LamX.pe_lamcall (k := k) (Ng := n__law_why) (a := "_law_ask_z") hg T.g__law_why T.d__law_why.kp lk hcd hb sc__law_why rfl (.inl rfl) (why_gives T hr fun _ => rfl) TB hcode List.mem_cons_self (fun q hq _ => by
    rcases List.mem_cons.mp hq with rfl | hq
    · rfl
    · exact nomatch hq) (hr.mono (by omega)) L hdef hbind hbody
end
end PW
/-! ### laws with lambdas: the table grows, all else stays -/
namespace PW
open PySem PySem.Spec PyProof.Rows L2
open LamX (Tabs TabS CodeO ExtN TabB)
/-- the name of the law's lambdas' code, by its table -/
def TbL (Pt : Addr) : List (Addr × Str) := [(Pt, (envOfC "law" (defScope s_law) 0 0 .none).qual ++ "<lambda>")]
def spLawS (K : PySem.W.Frag) (Pt : Addr) : Sp := fun vs H Q _ => ∃ (a : Addr) (ns : List Int), vs = [.ref a] ∧ SqL K H a (ns.map V.int) ∧ ns.length ≤ 63 ∧ H Pt = some (.tbl #[]) ∧ ∀ H', Q (.bl true) H'
/-- the bag stands, the table too (told of the heap without the bag) -/
structure BT (Pt : Addr) (H : Hp) (b c : Addr) : Prop where
  bag : BagAt H b c
  tab : Tabs (TbL Pt) (hide H b)
theorem exb_hides {b : Addr} {H H' : Hp} (x : ExB b H H') : Ex (PW.hide H b) (PW.hide H' b) := fun a o h => by
  have na : a ≠ b := fun z => by
    rw [z, hide_same] at h
    cases h
  rw [hide_ne na] at h ⊢
  exact x a o na h
theorem BT.pull {Pt b c : Addr} {H H' : Hp} (t : BT Pt H b c) (hB : BagAt H' b c) (x : ExB b H H') : BT Pt H' b c := ⟨hB, t.tab.ext (exb_hides x)⟩
theorem BT.ex {Pt b c : Addr} {H H' : Hp} (t : BT Pt H b c) (x : Ex H H') : BT Pt H' b c := ⟨t.bag.grow x, t.tab.ext (x.hides b)⟩
theorem BT.tabs {Pt b c : Addr} {H : Hp} (t : BT Pt H b c) : Tabs (TbL Pt) H := t.tab.ext (Ex.hide H b)
theorem tabs_hide {T : List (Addr × Str)} {H : Hp} {b : Addr} {xs : List V} (hb : H b = some (.lst xs)) (t : Tabs T H) : Tabs T (hide H b) := fun p hp => by
  obtain ⟨ps, h1, h2, h3⟩ := t p hp
  have n1 : p.1 ≠ b := fun z => by
    rw [z, hb] at h1
    cases h1
  refine ⟨ps, (hide_ne n1).trans h1, h2, fun pos cv e => ?_⟩
  obtain ⟨c, e1, e2⟩ := h3 pos cv e
  have n2 : c ≠ b := fun z => by
    rw [z, hb] at e2
    have e3 : HO.lst xs = CodeO b p.2 := Option.some.inj e2
    cases e3
  exact ⟨c, e1, (hide_ne n2).trans e2⟩
theorem BT.lam {Pt b c : Addr} {H H1 : Hp} (t : BT Pt H b c) (x : ExtN H H1) (ht : Tabs (TbL Pt) H1) : BT Pt H1 b c := by
  obtain ⟨cells, i, g, s, h1, h2, _⟩ := t.bag.ex
  have k1 := x _ _ h1 (fun ps z => by cases z)
  have k2 := x _ _ h2 (fun ps z => by cases z)
  refine ⟨t.bag.keep (fun o q => ?_) (fun o q => ?_), tabs_hide k1 ht⟩
  · rw [h1] at q
    injection q with q
    subst q
    exact k1
  · rw [h2] at q
    injection q with q
    subst q
    exact k2
theorem BT.first {Pt b c : Addr} {H H1 : Hp} (hP : H Pt = some (.tbl #[])) (x : ∀ a o, H a = some o → H1 a = some o) (hB : BagAt H1 b c) : BT Pt H1 b c := by
  obtain ⟨cells, i, g, s, h1, _⟩ := hB.ex
  refine ⟨hB, tabs_hide h1 fun p hp => ?_⟩
  rcases List.mem_cons.mp hp with rfl | hp
  · exact TabS.nil (x _ _ hP)
  · exact nomatch hp
theorem ExtN.tup {K : PySem.W.Frag} {H H' : Hp} {p : Addr} {xs : List V} (e : ExtN H H') (h : SqT K H p xs) : SqT K H' p xs := by
  rcases h with (h | ⟨o, h⟩) | h
  · exact .inl (.inl (e _ _ h (fun _ z => by cases z)))
  · exact .inl (.inr ⟨o, e _ _ h (fun _ z => by cases z)⟩)
  · exact .inr h
end PW
/-! ### equal terms are alike -/
namespace PW
open PySem PySem.Spec PyProof.Rows L2
theorem Sm.tups {K : PySem.W.Frag} {n : Nat} {H : Hp} {p q : Addr} {xs ys : List V} (hp : H p = some (.tup xs)) (hq : H q = some (.tup ys)) (hl : xs.length ≤ 100000) (h : Paired (Sm K n H) xs ys) : Sm K (n + 1) H (.ref p) (.ref q) :=
  .inr ⟨p, q, xs, ys, rfl, rfl, .inr ⟨hp, hq⟩, pr_len h, hl, fun i u v hu hv => by
    obtain ⟨y, hy, z⟩ := pr_get h hu
    rw [hv] at hy
    injection hy with hy
    subst hy
    exact z⟩
theorem Sm.lsts {K : PySem.W.Frag} {n : Nat} {H : Hp} {p q : Addr} {xs ys : List V} (hp : H p = some (.lst xs)) (hq : H q = some (.lst ys)) (hl : xs.length ≤ 100000) (h : Paired (Sm K n H) xs ys) : Sm K (n + 1) H (.ref p) (.ref q) :=
  .inr ⟨p, q, xs, ys, rfl, rfl, .inl ⟨hp, hq⟩, pr_len h, hl, fun i u v hu hv => by
    obtain ⟨y, hy, z⟩ := pr_get h hu
    rw [hv] at hy
    injection hy with hy
    subst hy
    exact z⟩
theorem Sm.up {K : PySem.W.Frag} : ∀ {n : Nat} {H : Hp} {x y : V}, Sm K n H x y → Sm K (n + 1) H x y
  | 0, _, _, _, h => .inl h
  | n + 1, H, x, y, h => by
    rcases h with h | ⟨p, q, xs, ys, h1, h2, h3, h4, h5, h6⟩
    · exact .inl h
    · exact .inr ⟨p, q, xs, ys, h1, h2, h3, h4, h5, fun i u v hu hv => Sm.up (h6 i u v hu hv)⟩
theorem IsTm.same {K : PySem.W.Frag} {H : Hp} : ∀ {d d' : Nat} {v v' : V} {t : Tm} {n m q : Nat}, t.ok n m q → IsTm K H d v t → IsTm K H d' v' t → Sm K (2 * d) H v v'
  | 0, _, _, _, _, _, _, _, _, h, _ => h.elim
  | _ + 1, 0, _, _, _, _, _, _, _, _, h => h.elim
  | d + 1, d' + 1, v, v', t, n, m, q, ok, h, h' => by
    obtain ⟨p, xs, rfl, h1, h2⟩ := h
    obtain ⟨p', xs', rfl, h1', h2'⟩ := h'
    have fl : ∀ {z : Str}, Sm K (2 * d + 1) H (.str z) (.str z) := Sm.flat rfl
    have fi : ∀ {i : Int}, Sm K (2 * d + 1) H (.int i) (.int i) := Sm.flat rfl
    have sub : ∀ {x x' : V} {a : Tm}, a.ok n m q → IsTm K H d x a → IsTm K H d' x' a → Sm K (2 * d + 1) H x x' := fun o z z' => (IsTm.same o z z').up
    show Sm K (2 * d + 1 + 1) H (.ref p) (.ref p')
    have l4 : ∀ {zs : List V}, zs.length ≤ 3 → zs.length ≤ 100000 := fun z => Nat.le_trans z (by decide)
    cases t with
    | num i =>
      have h2 : xs = _ := h2
      have h2' : xs' = _ := h2'
      subst h2 h2'
      exact Sm.tups h1 h1' (l4 (by show 2 ≤ 3; decide)) (.cons fl (.cons fi .nil))
    | nam z =>
      have h2 : xs = _ := h2
      have h2' : xs' = _ := h2'
      subst h2 h2'
      exact Sm.tups h1 h1' (l4 (by show 2 ≤ 3; decide)) (.cons fl (.cons fl .nil))
    | add a b =>
      have ok : a.ok n m q ∧ b.ok n m q := by simpa only [Tm.ok] using ok
      obtain ⟨x, y, rfl, e2, e3⟩ := h2
      obtain ⟨x', y', rfl, e2', e3'⟩ := h2'
      exact Sm.tups h1 h1' (l4 (by show 3 ≤ 3; decide)) (.cons fl (.cons (sub ok.1 e2 e2') (.cons (sub ok.2 e3 e3') .nil)))
    | sub a b =>
      have ok : a.ok n m q ∧ b.ok n m q := by simpa only [Tm.ok] using ok
      obtain ⟨x, y, rfl, e2, e3⟩ := h2
      obtain ⟨x', y', rfl, e2', e3'⟩ := h2'
      exact Sm.tups h1 h1' (l4 (by show 3 ≤ 3; decide)) (.cons fl (.cons (sub ok.1 e2 e2') (.cons (sub ok.2 e3 e3') .nil)))
    | tim i a =>
      have ok : i.natAbs < m ∧ a.ok n m q := by simpa only [Tm.ok] using ok
      obtain ⟨x, rfl, e2⟩ := h2
      obtain ⟨x', rfl, e2'⟩ := h2'
      exact Sm.tups h1 h1' (l4 (by show 3 ≤ 3; decide)) (.cons fl (.cons fi (.cons (sub ok.2 e2 e2') .nil)))
    | pow a =>
      have ok : a.ok n m q := by simpa only [Tm.ok] using ok
      obtain ⟨x, rfl, e2⟩ := h2
      obtain ⟨x', rfl, e2'⟩ := h2'
      exact Sm.tups h1 h1' (l4 (by show 2 ≤ 3; decide)) (.cons fl (.cons (sub ok e2 e2') .nil))
    | len a =>
      have ok : a.ok n m q := by simpa only [Tm.ok] using ok
      obtain ⟨x, rfl, e2⟩ := h2
      obtain ⟨x', rfl, e2'⟩ := h2'
      exact Sm.tups h1 h1' (l4 (by show 2 ≤ 3; decide)) (.cons fl (.cons (sub ok e2 e2') .nil))
    | quo a i =>
      have ok : (1 ≤ i ∧ i < (q : Nat)) ∧ a.ok n m q := by simpa only [Tm.ok] using ok
      obtain ⟨x, rfl, e2⟩ := h2
      obtain ⟨x', rfl, e2'⟩ := h2'
      exact Sm.tups h1 h1' (l4 (by show 3 ≤ 3; decide)) (.cons fl (.cons (sub ok.2 e2 e2') (.cons fi .nil)))
    | cal f as =>
      have ok : isNameZ f = true ∧ as.length ≤ 3 ∧ Tm.oks n m q as := by simpa only [Tm.ok] using ok
      obtain ⟨r, ys, rfl, e2, e3⟩ := h2
      obtain ⟨r', ys', rfl, e2', e3'⟩ := h2'
      have go : ∀ {as : List Tm} {ys ys' : List V}, Tm.oks n m q as → Paired (IsTm K H d) ys as → Paired (IsTm K H d') ys' as → Paired (Sm K (2 * d) H) ys ys' := by
        intro as
        induction as with
        | nil =>
          intro ys ys' _ z z'
          cases z
          cases z'
          exact .nil
        | cons a r ih =>
          intro ys ys' o z z'
          have o : a.ok n m q ∧ Tm.oks n m q r := by simpa only [Tm.oks] using o
          cases z with
          | cons z1 z2 =>
            cases z' with
            | cons z1' z2' => exact .cons (IsTm.same o.1 z1 z1') (ih o.2 z2 z2')
      exact Sm.tups h1 h1' (l4 (by show 3 ≤ 3; decide)) (.cons fl (.cons fl (.cons (Sm.tups e2 e2' (l4 (by rw [pr_len e3]; exact ok.2.1)) (go ok.2.2 e3 e3')) .nil)))
end PW
/-! ### equal conditions are alike -/
namespace PW
open PySem PySem.Spec PyProof.Rows L2
theorem Sm.le {K : PySem.W.Frag} {n m : Nat} {H : Hp} {x y : V} (h : n ≤ m) (s : Sm K n H x y) : Sm K m H x y := by
  induction h with
  | refl => exact s
  | step _ ih => exact ih.up
theorem IsCd.sameT {K : PySem.W.Frag} {H : Hp} {e e' : Nat} : ∀ {d d' : Nat} {v v' : V} {c : Cd}, c.ok → IsCd K H e d v c → IsCd K H e' d' v' c → Sm K (2 * e + d) H v v'
  | 0, _, _, _, _, _, h, _ => h.elim
  | _ + 1, 0, _, _, _, _, _, h => h.elim
  | d + 1, d' + 1, v, v', c, ok, h, h' => by
    obtain ⟨p, xs, rfl, h1, h2⟩ := h
    obtain ⟨p', xs', rfl, h1', h2'⟩ := h'
    have fl : ∀ {z : Str}, Sm K (2 * e + d) H (.str z) (.str z) := Sm.flat rfl
    have fi : ∀ {i : Int}, Sm K (2 * e + d) H (.int i) (.int i) := Sm.flat rfl
    have tm : ∀ {x x' : V} {t : Tm}, t.okT → IsTm K H e x t → IsTm K H e' x' t → Sm K (2 * e + d) H x x' := fun o z z' => (IsTm.same o z z').le (by omega)
    have l4 : ∀ {zs : List V}, zs.length ≤ 4 → zs.length ≤ 100000 := fun z => Nat.le_trans z (by decide)
    show Sm K (2 * e + d + 1) H (.ref p) (.ref p')
    cases c with
    | tru =>
      have h2 : xs = _ := h2
      have h2' : xs' = _ := h2'
      subst h2 h2'
      exact Sm.tups h1 h1' (l4 (by show 1 ≤ 4; decide)) (.cons fl .nil)
    | neg a =>
      obtain ⟨x, rfl, e2⟩ := h2
      obtain ⟨x', rfl, e2'⟩ := h2'
      exact Sm.tups h1 h1' (l4 (by show 2 ≤ 4; decide)) (.cons fl (.cons (IsCd.sameT (c := a) ok e2 e2') .nil))
    | con a b =>
      obtain ⟨x, y, rfl, e2, e3⟩ := h2
      obtain ⟨x', y', rfl, e2', e3'⟩ := h2'
      exact Sm.tups h1 h1' (l4 (by show 3 ≤ 4; decide)) (.cons fl (.cons (IsCd.sameT ok.1 e2 e2') (.cons (IsCd.sameT ok.2 e3 e3') .nil)))
    | dis a b =>
      obtain ⟨x, y, rfl, e2, e3⟩ := h2
      obtain ⟨x', y', rfl, e2', e3'⟩ := h2'
      exact Sm.tups h1 h1' (l4 (by show 3 ≤ 4; decide)) (.cons fl (.cons (IsCd.sameT ok.1 e2 e2') (.cons (IsCd.sameT ok.2 e3 e3') .nil)))
    | less a b =>
      obtain ⟨x, y, rfl, e2, e3⟩ := h2
      obtain ⟨x', y', rfl, e2', e3'⟩ := h2'
      exact Sm.tups h1 h1' (l4 (by show 3 ≤ 4; decide)) (.cons fl (.cons (tm ok.1 e2 e2') (.cons (tm ok.2 e3 e3') .nil)))
    | equ a b =>
      obtain ⟨x, y, rfl, e2, e3⟩ := h2
      obtain ⟨x', y', rfl, e2', e3'⟩ := h2'
      exact Sm.tups h1 h1' (l4 (by show 3 ≤ 4; decide)) (.cons fl (.cons (tm ok.1 e2 e2') (.cons (tm ok.2 e3 e3') .nil)))
    | res t m r =>
      obtain ⟨x, rfl, e2⟩ := h2
      obtain ⟨x', rfl, e2'⟩ := h2'
      exact Sm.tups h1 h1' (l4 (by show 4 ≤ 4; decide)) (.cons fl (.cons (tm ok.1 e2 e2') (.cons fi (.cons fi .nil))))
end PW
/-! ### lists of texts, the bag, the table of lambdas -/
namespace PW
open PySem PySem.Spec PyProof.Rows L2
open LamX (Tabs TabS CodeO ExtN TabB)
theorem IsTm.extN {K : PySem.W.Frag} {H H' : Hp} (x : ExtN H H') {d : Nat} {v : V} {t : Tm} (h : IsTm K H d v t) : IsTm K H' d v t := IsTm.tups (fun {p xs} e => x _ _ e (fun _ z => by cases z)) h
def txV (xs : List V) : List Str := xs.filterMap fun | .str z => some z | _ => none
theorem txV_of {m : Nat} : ∀ {xs : List V}, (∀ (i : Nat) v, xs[i]? = some v → ∃ w, v = V.str w ∧ w.length ≤ m) → ∃ ws : List Str, xs = ws.map V.str ∧ ∀ w ∈ ws, w.length ≤ m
  | [], _ => ⟨[], rfl, fun _ h => nomatch h⟩
  | x :: r, h => by
    obtain ⟨w, rfl, hw⟩ := h 0 x rfl
    obtain ⟨ws, rfl, hws⟩ := txV_of (xs := r) fun i v e => h (i + 1) v e
    exact ⟨w :: ws, rfl, fun y hy => (List.mem_cons.mp hy).elim (fun z => by rw [z]; exact hw) (hws y)⟩
theorem txl_app {ws ws2 : List Str} {m : Nat} (h : ∀ w ∈ ws, w.length ≤ m) (h2 : ∀ w ∈ ws2, w.length ≤ m) : ∀ w ∈ ws ++ ws2, w.length ≤ m := fun w hw => (List.mem_append.mp hw).elim (h w) (h2 w)
theorem BagAt.lst' {H : Hp} {b c : Addr} (h : BagAt H b c) : ∃ xs : List V, H b = Option.some (HO.lst xs) := by
  obtain ⟨cells, i, g, s, h1, _⟩ := h.ex
  exact ⟨_, h1⟩
/-- the bag, the table of the law's lambdas (still empty) and the list of texts -/
structure LS (Pt b c D : Addr) (ws : List Str) (H : Hp) : Prop where
  bag : BagAt H b c
  tab : H Pt = some (.tbl #[])
  txt : H D = some (.lst (ws.map V.str))
  ok : ∀ w ∈ ws, w.length ≤ 30000
  db : D ≠ b
  dc : c ≠ D
theorem tab_pull {Pt b c : Addr} {H H' : Hp} (hB : BagAt H b c) (x : ExB b H H') (h : H Pt = some (.tbl #[])) : H' Pt = some (.tbl #[]) := by
  obtain ⟨xs, hb⟩ := hB.lst'
  refine x _ _ (fun z => ?_) h
  rw [z, hb] at h
  cases h
theorem LS.ex {Pt b c D : Addr} {ws : List Str} {H H' : Hp} (h : LS Pt b c D ws H) (x : Ex H H') : LS Pt b c D ws H' := ⟨h.bag.grow x, x _ _ h.tab, x _ _ h.txt, h.ok, h.db, h.dc⟩
theorem LS.pull {Pt b c D : Addr} {ws : List Str} {H H' : Hp} (h : LS Pt b c D ws H) (hB : BagAt H' b c) (x : ExB b H H') : LS Pt b c D ws H' := ⟨hB, tab_pull h.bag x h.tab, x _ _ h.db h.txt, h.ok, h.db, h.dc⟩
theorem LS.app {Pt b c D : Addr} {ws : List Str} {H : Hp} {w : Str} (h : LS Pt b c D ws H) (hw : w.length ≤ 30000) : LS Pt b c D (ws ++ [w]) (L2.upd H D (.lst (ws.map V.str ++ [V.str w]))) := by
  refine ⟨h.bag.put h.db.symm h.dc, ?_, ?_, txl_app h.ok fun y hy => by rw [List.mem_singleton.mp hy]; exact hw, h.db, h.dc⟩
  · rw [upd_ne fun z => ?_]
    · exact h.tab
    · have e := h.txt
      rw [← z, h.tab] at e
      cases e
  · rw [upd_same, List.map_append]
    rfl
/-- what is no text, as the laws draw it -/
def Od (H : Hp) (v : V) : Prop := v = .non ∨ (∃ i, v = .int i) ∨ (∃ b, v = .bl b) ∨ (∃ p xs, v = .ref p ∧ H p = some (.tup xs)) ∨ ∃ p xs, v = .ref p ∧ H p = some (.lst xs)
theorem Od.extN {H H' : Hp} {v : V} (x : ExtN H H') (h : Od H v) : Od H' v := by
  rcases h with h | h | h | ⟨p, xs, e, h⟩ | ⟨p, xs, e, h⟩
  · exact .inl h
  · exact .inr (.inl h)
  · exact .inr (.inr (.inl h))
  · exact .inr (.inr (.inr (.inl ⟨p, xs, e, x _ _ h (fun _ z => by cases z)⟩)))
  · exact .inr (.inr (.inr (.inr ⟨p, xs, e, x _ _ h (fun _ z => by cases z)⟩)))
theorem Od.ty {K : PySem.W.Frag} {H : Hp} {v : V} (h : Od H v) : ∃ n, TyX K H v (.type n) ∧ kitB n "str" = some false := by
  rcases h with rfl | ⟨i, rfl⟩ | ⟨b, rfl⟩ | ⟨p, xs, rfl, h⟩ | ⟨p, xs, rfl, h⟩
  · exact ⟨_, .base .non, PW.kb_NoneType_str⟩
  · exact ⟨_, .base (.int i), PW.kb_int_str⟩
  · exact ⟨_, .base (.bl b), PW.kb_bool_str⟩
  · exact ⟨_, .base (.tup h), PW.kb_tuple_str⟩
  · exact ⟨_, .base (.lst h), PW.kb_list_str⟩
end PW
/-! ### tuples stay -/
namespace PW
open PySem PySem.Spec PyProof.Rows L2
def TE (H H' : Hp) : Prop := ∀ p ys, H p = some (.tup ys) → H' p = some (.tup ys)
theorem TE.trans {H H1 H2 : Hp} (x : TE H H1) (y : TE H1 H2) : TE H H2 := fun p ys h => y p ys (x p ys h)
theorem TE.of {H H' : Hp} (x : Ex H H') : TE H H' := fun p ys h => x p _ h
theorem TE.upd {H : Hp} {D : Addr} {l l' : List V} (h : H D = some (.lst l)) : TE H (L2.upd H D (.lst l')) := fun p ys hp => (upd_ne fun z => by
  rw [z, h] at hp
  cases hp).trans hp
theorem TE.hid {H : Hp} {D : Addr} {l : List V} (h : H D = some (.lst l)) : TE H (hide H D) := fun p ys hp => (hide_ne fun z => by
  rw [z, h] at hp
  cases hp).trans hp
theorem TE.bag {H H' : Hp} {b c : Addr} (hB : BagAt H b c) (x : ExB b H H') : TE H H' := fun p ys hp => x p _ (fun z => by
  obtain ⟨cells, i, g, s, h, _⟩ := hB
  rw [z, h] at hp
  cases hp) hp
theorem TE.hidB {H : Hp} {b c : Addr} (hB : BagAt H b c) : TE H (hide H b) := by
  obtain ⟨cells, i, g, s, h, _⟩ := hB
  exact TE.hid h
theorem IsTm.te {K : PySem.W.Frag} {H H' : Hp} (x : TE H H') : ∀ {d : Nat} {v : V} {t : Tm}, IsTm K H d v t → IsTm K H' d v t
  | 0, _, _, h => h.elim
  | d + 1, v, t, h => by
    obtain ⟨p, xs, e, h1, h2⟩ := h
    exact ⟨p, xs, e, x _ _ h1, h2.imp (fun q => x _ _ q) fun _ _ z => IsTm.te x z⟩
theorem IsCd.te {K : PySem.W.Frag} {H H' : Hp} {e : Nat} (x : TE H H') : ∀ {d : Nat} {v : V} {c : Cd}, IsCd K H e d v c → IsCd K H' e d v c
  | 0, _, _, h => h.elim
  | d + 1, v, c, h => by
    obtain ⟨p, xs, e, h1, h2⟩ := h
    exact ⟨p, xs, e, x _ _ h1, h2.imp (fun _ _ z => IsCd.te x z) fun _ _ z => z.te x⟩
theorem prd_teC {K : PySem.W.Frag} {H H' : Hp} (x : TE H H') {e d : Nat} {ys : List V} {as : List Cd} (h : Paired (IsCd K H e d) ys as) : Paired (IsCd K H' e d) ys as := L2.Paired.mapP h fun _ _ z => z.te x
end PW
/-! ### law k20 -/
namespace PW
open PySem PySem.Spec PyProof.Rows L2
open LamX (Tabs TabS CodeO ExtN TabB)
theorem IsCd.extN {K : PySem.W.Frag} {H H' : Hp} (x : ExtN H H') {e d : Nat} {v : V} {c : Cd} (h : IsCd K H e d v c) : IsCd K H' e d v c := IsCd.te (fun p ys e => x _ _ e (fun _ z => by cases z)) h
theorem LS.putA {Pt b c D A : Addr} {ws : List Str} {H : Hp} {o : HO} (h : LS Pt b c D ws H) (n1 : A ≠ D) (n2 : A ≠ Pt) (n3 : b ≠ A) (n4 : c ≠ A) : LS Pt b c D ws (L2.upd H A o) :=
  ⟨h.bag.put n3 n4, (upd_ne n2.symm).trans h.tab, (upd_ne n1.symm).trans h.txt, h.ok, h.db, h.dc⟩
theorem LS.new {Pt b c D r : Addr} {ws ws2 : List Str} {H : Hp} (h : LS Pt b c D ws H) (hr : H r = none) (hw : ∀ w ∈ ws2, w.length ≤ 30000) : LS Pt b c r (ws ++ ws2) (L2.upd H r (.lst (ws.map V.str ++ ws2.map V.str))) :=
  ⟨h.bag.new hr, Ex.new hr _ _ h.tab, by rw [upd_same, List.map_append], txl_app h.ok hw, (h.bag.ne hr).1.symm, (h.bag.ne hr).2⟩
section
variable {P : Program} {w : World} {K : PySem.W.Frag} {mg : Str → Option Value} {base : Heap}
theorem ok_law20 {k kx : Nat} {Pt : Addr} (hkx : kx + 3 ≤ k) (T : Txt K mg) (TB : LamX.TabB base mg (He.codeOf K ("law", none)) Pt)
    (G__law_bag : FnOk P w K mg base CX0 k (He.ga K "_law_bag") (fdOf K (He.ga K "_law_bag")) p__law_bag (spBag K))
    (G__law_pull : FnOk P w K mg base CX0 k (He.ga K "_law_pull") (fdOf K (He.ga K "_law_pull")) p__law_pull (spPull))
    (G__law_of : FnOk P w K mg base CX0 k (He.ga K "_law_of") (fdOf K (He.ga K "_law_of")) p__law_of (spOf K))
    (G__law_names : FnOk P w K mg base CX0 k (He.ga K "_law_names") (fdOf K (He.ga K "_law_names")) p__law_names (spLNames))
    (G__law_compare : FnOk P w K mg base CX0 k (He.ga K "_law_compare") (fdOf K (He.ga K "_law_compare")) p__law_compare (spLCmp K 1))
    (G__law_tree : FnOk P w K mg base CX0 k (He.ga K "_law_tree") (fdOf K (He.ga K "_law_tree")) p__law_tree (spLTree K 2))
    (G__law_condition_text : FnOk P w K mg base CX0 k (He.ga K "_law_condition_text") (fdOf K (He.ga K "_law_condition_text")) p__law_condition_text (spCTx K 17))
    (G__law_bent : FnOk P w K mg base CX0 k (He.ga K "_law_bent") (fdOf K (He.ga K "_law_bent")) p__law_bent (spBent K))
    (G__law_read_condition : FnOk P w K mg base CX0 k (He.ga K "_law_read_condition") (fdOf K (He.ga K "_law_read_condition")) p__law_read_condition (spLReadC K))
    (G__law_same : FnOk P w K mg base CX0 k (He.ga K "_law_same") (fdOf K (He.ga K "_law_same")) p__law_same (spSame K 61))
    (GX_parse_condition : FnOk P w K mg base (L2.CX P w) kx (He.ga K "parse_condition") (fdOf K (He.ga K "parse_condition")) p_parse_condition (spParseC K)) : FnOk P w K mg base CX0 (k + 1) (He.ga K "law") (fdOf K (He.ga K "law")) p_law (spLawS K Pt) := by
  refine FunD.okC (p := ("law", none)) T.d_law sc_law (fun vs H Q E h => ?_) (fun A outer s H vs Q E hr h => ?_)
  · obtain ⟨a, ns, rfl, _⟩ := h
    rfl
  · obtain ⟨sa, ns, rfl, ha, hl, hP, hQ⟩ := h
    refine ⟨_, PSs.nox ((pss_cons (ps_set (i := 1) sc_law.nd rfl (Or.inr rfl) (pe_call G__law_bag hr rfl T.g__law_bag T.d__law_bag.kp (b__law_bag T) .nil pass0 (pa_cons (pv 0) pa_nil)))
    (pss_cons (ps_set (i := 2) sc_law.nd rfl (Or.inr rfl) (pe_lst (pa_cons pe_str (pa_cons pe_str (pa_cons pe_str (pa_cons pe_str (pa_cons pe_str (pa_cons pe_str (pa_cons pe_str (pa_cons pe_str (pa_cons pe_str (pa_cons pe_str (pa_cons pe_str (pa_cons pe_str pa_nil))))))))))))))
    (pss_cons (ps_set (i := 2) sc_law.nd rfl (Or.inr rfl) (pe_op op_cat (pv 2) (pe_lst (pa_cons pe_str (pa_cons pe_str (pa_cons pe_str (pa_cons pe_str (pa_cons pe_str (pa_cons pe_str (pa_cons pe_str (pa_cons pe_str (pa_cons pe_str (pa_cons pe_str pa_nil)))))))))))))
    (pss_cons (ps_set (i := 2) sc_law.nd rfl (Or.inr rfl) (pe_op op_cat (pv 2) (pe_lst (pa_cons pe_str (pa_cons pe_str (pa_cons pe_str (pa_cons pe_str (pa_cons pe_str (pa_cons pe_str (pa_cons pe_str pa_nil))))))))))
    (pss_cons (ps_set (i := 2) sc_law.nd rfl (Or.inr rfl) (pe_op op_cat (pv 2) (pe_lst (pa_cons pe_str (pa_cons pe_str (pa_cons pe_str (pa_cons pe_str (pa_cons pe_str pa_nil))))))))
    (pss_cons (ps_set (i := 2) sc_law.nd rfl (Or.inr rfl) (pe_op op_cat (pv 2) (pe_lst (pa_cons pe_str (pa_cons pe_str (pa_cons pe_str (pa_cons pe_str (pa_cons pe_str (pa_cons pe_str pa_nil)))))))))
    (pss_cons (ps_setLc (i := 3) (own := [("_law_k", 12)]) rfl sc_law.nd rfl rfl (sw_true rfl rfl rfl (by decide +kernel)) (pi_range1 rfl T.f_range (pa_cons pe_int pa_nil)) (blkOk_by (own := [("_law_k", 12)]) (N := n_law) (sc := defScope s_law) (by decide +kernel)) (fun _ _ _ _ _ => (pg_name (i := 12) sc_law.nd rfl (Or.inl rfl) (hf := by first | exact Or.inl rfl | exact Or.inr rfl))) (fun _ _ _ _ _ => pts_nil) (fun _ _ _ _ _ => (pe_call G__law_of hr rfl T.g__law_of T.d__law_of.kp (b__law_of T) .nil pass0 (pa_cons (pv 1) (pa_cons (pv 2) pa_nil)))))
    (pss_cons (ps_for PassesOwn.never rfl (pi_range1 rfl T.f_range (pa_cons pe_int pa_nil)) (pg_name (i := 4) sc_law.nd rfl (Or.inl rfl) (hf := by first | exact Or.inl rfl | exact Or.inr rfl))
      (pss_cons (ps_setLc (i := 5) (own := [("_law_k", 12)]) rfl sc_law.nd rfl rfl (sw_true rfl rfl rfl (by decide +kernel)) (pi_range1 rfl T.f_range (pa_cons pe_int pa_nil)) (blkOk_by (own := [("_law_k", 12)]) (N := n_law) (sc := defScope s_law) (by decide +kernel)) (fun _ _ _ _ _ => (pg_name (i := 12) sc_law.nd rfl (Or.inl rfl) (hf := by first | exact Or.inl rfl | exact Or.inr rfl))) (fun _ _ _ _ _ => pts_nil) (fun _ _ _ _ _ => (pe_call G__law_compare hr rfl T.g__law_compare T.d__law_compare.kp (b__law_compare T) .nil pass0 (pa_cons (pv 1) (pa_cons (pe_call G__law_names hr rfl T.g__law_names T.d__law_names.kp (b__law_names T) .nil pass0 (pa_cons (pv 1) (pa_cons pe_int pa_nil))) (pa_cons (pe_call G__law_names hr rfl T.g__law_names T.d__law_names.kp (b__law_names T) .nil pass0 (pa_cons (pv 1) (pa_cons pe_int pa_nil))) (pa_cons (pe_op op_add pe_int (pe_call G__law_pull hr rfl T.g__law_pull T.d__law_pull.kp (b__law_pull T) .nil pass0 (pa_cons (pv 1) (pa_cons pe_int pa_nil)))) pa_nil)))))))
        (pss_cons (ps_set (i := 6) sc_law.nd rfl (Or.inr rfl) (pe_call G__law_condition_text hr rfl T.g__law_condition_text T.d__law_condition_text.kp (b__law_condition_text T) .nil pass0 (pa_cons (pe_call G__law_tree hr rfl T.g__law_tree T.d__law_tree.kp (b__law_tree T) .nil pass0 (pa_cons (pv 1) (pa_cons (pv 5) (pa_cons (pe_call G__law_pull hr rfl T.g__law_pull T.d__law_pull.kp (b__law_pull T) .nil pass0 (pa_cons (pv 1) (pa_cons pe_int pa_nil))) pa_nil)))) pa_nil)))
        (pss_cons (ps_for PassesOwn.never rfl (pi_range1 rfl T.f_range (pa_cons (pe_call G__law_pull hr rfl T.g__law_pull T.d__law_pull.kp (b__law_pull T) .nil pass0 (pa_cons (pv 1) (pa_cons pe_int pa_nil))) pa_nil)) (pg_name (i := 7) sc_law.nd rfl (Or.inl rfl) (hf := by first | exact Or.inl rfl | exact Or.inr rfl))
          (pss_one (ps_set (i := 6) sc_law.nd rfl (Or.inr rfl) (pe_call G__law_bent hr rfl T.g__law_bent T.d__law_bent.kp (b__law_bent T) .nil pass0 (pa_cons (pv 1) (pa_cons (pv 6) (pa_cons (pe_lst (pa_cons pe_str (pa_cons pe_str (pa_cons pe_str (pa_cons pe_str (pa_cons pe_str (pa_cons pe_str (pa_cons pe_str (pa_cons pe_str (pa_cons pe_str (pa_cons pe_str (pa_cons pe_str (pa_cons pe_str (pa_cons pe_str (pa_cons pe_str pa_nil))))))))))))))) pa_nil)))))))
        (pss_one (ps_expr (pe_bm PySem.F.plainAttrs_list PySem.F.slot_list_append PySem.F.type_list_append mt_append (pv 3) (pa_cons (pe_slice sl_str (pv 6) po_none (po_some pe_int)) pa_nil))))))))
    (pss_cons (ps_for PassesOwn.never rfl (pi_list (pe_lst (pa_cons pe_int (pa_cons pe_int pa_nil)))) (pg_name (i := 8) sc_law.nd rfl (Or.inl rfl) (hf := by first | exact Or.inl rfl | exact Or.inr rfl))
      (pss_one (ps_set (i := 3) sc_law.nd rfl (Or.inl rfl) (pe_op op_cat (pv 3) (pe_lst (pa_cons (pe_op op_addSN (pe_op PW.op_repS pe_str (pv 8)) pe_str) (pa_cons (pe_op op_addSN (pe_op PW.op_repS pe_str (pe_op op_sub (pv 8) pe_int)) pe_str) (pa_cons (pe_op op_addSN (pe_op op_addSN (pe_op PW.op_repS pe_str (pv 8)) pe_str) (pe_op PW.op_repS pe_str (pv 8))) pa_nil))))))))
    (pss_cons (ps_expr (pe_bm PySem.F.plainAttrs_list PySem.F.slot_list_append PySem.F.type_list_append mt_append (pv 3) (pa_cons (pe_op op_addSN (pe_op op_addSN (pe_op PW.op_repS pe_str (pe_call G__law_pull hr rfl T.g__law_pull T.d__law_pull.kp (b__law_pull T) .nil pass0 (pa_cons (pv 1) (pa_cons pe_int pa_nil)))) (pe_op PW.op_repS pe_str (pe_call G__law_pull hr rfl T.g__law_pull T.d__law_pull.kp (b__law_pull T) .nil pass0 (pa_cons (pv 1) (pa_cons pe_int pa_nil))))) pe_str) pa_nil)))
    (pss_cons (ps_for PassesOwn.never rfl (pi_list (pv 3)) (pg_name (i := 6) sc_law.nd rfl (Or.inr rfl) (hf := by first | exact Or.inl rfl | exact Or.inr rfl))
      (pss_cons (ps_set (i := 9) sc_law.nd rfl (Or.inl rfl) (pe_call G__law_read_condition hr rfl T.g__law_read_condition T.d__law_read_condition.kp (b__law_read_condition T) .nil pass0 (pa_cons (pv 6) pa_nil)))
        (pss_cons (ps_set (i := 10) sc_law.nd rfl (Or.inl rfl) (PW.pe_why T TB rfl rfl (hr.mono hkx) (LamX.lamS_by (by rfl)) rfl (by intros; rfl) (fun A outer s H E f c' hr => by exact (pe_call GX_parse_condition hr rfl T.g_parse_condition T.d_parse_condition.kp (b_parse_condition T) .nil (passes_call (takes_of rfl rfl rfl rfl) (fun _ _ _ _ h => h)) (pa_cons (pv 6) pa_nil)))))
        (pss_one (ps_if (pt_not (pt_val (pe_call G__law_same hr rfl T.g__law_same T.d__law_same.kp (b__law_same T) .nil pass0 (pa_cons (pv 10) (pa_cons (pe_ifExp (pt_cmp (pc_notN (pv 9)) rfl) (pe_tup (pa_cons pe_str (pa_cons (pv 9) pa_nil))) (pe_tup (pa_cons pe_str (pa_cons pe_non pa_nil)))) pa_nil)))))
          (pss_one (ps_ret pe_bl))
          pss_nil)))))
    (pss_cons (ps_set (i := 11) sc_law.nd rfl (Or.inr rfl) (pe_call G__law_of hr rfl T.g__law_of T.d__law_of.kp (b__law_of T) .nil pass0 (pa_cons (pv 1) (pa_cons (pe_lst (pa_cons pe_non (pa_cons pe_int (pa_cons (pe_tup (pa_cons pe_str pa_nil)) (pa_cons (pe_lst (pa_cons pe_str pa_nil)) (pa_cons pe_bl pa_nil)))))) pa_nil))))
    (pss_one (ps_ret (pe_call G__law_same hr rfl T.g__law_same T.d__law_same.kp (b__law_same T) .nil pass0 (pa_cons (PW.pe_why T TB rfl rfl (hr.mono hkx) (LamX.lamS_by (by rfl)) rfl (by intros; rfl) (fun A outer s H E f c' hr => by exact (pe_call GX_parse_condition hr rfl T.g_parse_condition T.d_parse_condition.kp (b_parse_condition T) .nil (passes_call (takes_of rfl rfl rfl rfl) (fun _ _ _ _ h => h)) (pa_cons (pv 11) pa_nil)))) (pa_cons (pe_tup (pa_cons pe_str (pa_cons pe_non pa_nil))) pa_nil)))))))))))))))))), ?_⟩
    show tSeq _ _ _ [some (V.ref sa), none, none, none, none, none, none, none, none, none, none, none, none] H
    walk_at "K"
    walk_at "go"
    refine ⟨sa, ns, rfl, ha, hl, fun b c H1 hb hc hB x1 => ?_⟩
    replace hP := x1 _ _ hP
    clear x1 hb hc ha
    walk_at "go"
    intro fn0 hfn0
    have gn0 : (L2.upd H1 fn0 (.lst [V.str "", V.str "true", V.str "true ", V.str "truex < 1", V.str "true < 1", V.str "not true", V.str "nottrue", V.str "not  true", V.str "not", V.str "[true]", V.str "x", V.str "x <y"])) fn0 = some (.lst ((txV [V.str "", V.str "true", V.str "true ", V.str "truex < 1", V.str "true < 1", V.str "not true", V.str "nottrue", V.str "not  true", V.str "not", V.str "[true]", V.str "x", V.str "x <y"]).map V.str)) := upd_same
    have kn0 : ∀ w ∈ txV [V.str "", V.str "true", V.str "true ", V.str "truex < 1", V.str "true < 1", V.str "not true", V.str "nottrue", V.str "not  true", V.str "not", V.str "[true]", V.str "x", V.str "x <y"], w.length ≤ 100 := by decide +kernel
    have ln0 : (txV [V.str "", V.str "true", V.str "true ", V.str "truex < 1", V.str "true < 1", V.str "not true", V.str "nottrue", V.str "not  true", V.str "not", V.str "[true]", V.str "x", V.str "x <y"]).length = 12 := by decide +kernel
    have xn0 := Ex.new (o := .lst [V.str "", V.str "true", V.str "true ", V.str "truex < 1", V.str "true < 1", V.str "not true", V.str "nottrue", V.str "not  true", V.str "not", V.str "[true]", V.str "x", V.str "x <y"]) hfn0
    generalize L2.upd H1 fn0 (.lst [V.str "", V.str "true", V.str "true ", V.str "truex < 1", V.str "true < 1", V.str "not true", V.str "nottrue", V.str "not  true", V.str "not", V.str "[true]", V.str "x", V.str "x <y"]) = Hc0 at gn0 xn0 ⊢
    generalize txV [V.str "", V.str "true", V.str "true ", V.str "truex < 1", V.str "true < 1", V.str "not true", V.str "nottrue", V.str "not  true", V.str "not", V.str "[true]", V.str "x", V.str "x <y"] = wn0 at gn0 kn0 ln0 ⊢
    have xs0 := xn0
    have gc0 := gn0
    have kc0 := kn0
    have lc0 := ln0
    clear xn0 gn0 kn0 ln0
    walk_at "go"
    intro fn1 hfn1
    have gn1 : (L2.upd Hc0 fn1 (.lst [V.str "x < y", V.str "(x < y)", V.str "[x < y]", V.str "x<y", V.str "x = y", V.str "x == y", V.str "x > y", V.str "x mod 1 = 0", V.str "x mod 2 = 2", V.str "x mod 2 = -1"])) fn1 = some (.lst ((txV [V.str "x < y", V.str "(x < y)", V.str "[x < y]", V.str "x<y", V.str "x = y", V.str "x == y", V.str "x > y", V.str "x mod 1 = 0", V.str "x mod 2 = 2", V.str "x mod 2 = -1"]).map V.str)) := upd_same
    have kn1 : ∀ w ∈ txV [V.str "x < y", V.str "(x < y)", V.str "[x < y]", V.str "x<y", V.str "x = y", V.str "x == y", V.str "x > y", V.str "x mod 1 = 0", V.str "x mod 2 = 2", V.str "x mod 2 = -1"], w.length ≤ 100 := by decide +kernel
    have ln1 : (txV [V.str "x < y", V.str "(x < y)", V.str "[x < y]", V.str "x<y", V.str "x = y", V.str "x == y", V.str "x > y", V.str "x mod 1 = 0", V.str "x mod 2 = 2", V.str "x mod 2 = -1"]).length = 10 := by decide +kernel
    have xn1 := Ex.new (o := .lst [V.str "x < y", V.str "(x < y)", V.str "[x < y]", V.str "x<y", V.str "x = y", V.str "x == y", V.str "x > y", V.str "x mod 1 = 0", V.str "x mod 2 = 2", V.str "x mod 2 = -1"]) hfn1
    replace gc0 := xn1 _ _ gc0
    generalize L2.upd Hc0 fn1 (.lst [V.str "x < y", V.str "(x < y)", V.str "[x < y]", V.str "x<y", V.str "x = y", V.str "x == y", V.str "x > y", V.str "x mod 1 = 0", V.str "x mod 2 = 2", V.str "x mod 2 = -1"]) = Hb1 at gn1 gc0 xn1 ⊢
    generalize txV [V.str "x < y", V.str "(x < y)", V.str "[x < y]", V.str "x<y", V.str "x = y", V.str "x == y", V.str "x > y", V.str "x mod 1 = 0", V.str "x mod 2 = 2", V.str "x mod 2 = -1"] = wn1 at gn1 kn1 ln1 ⊢
    refine r_cat gc0 gn1 (by simp only [List.length_map]; rw [lc0, ln1]; decide) fun fc1 hfc1 => ?_
    rw [← List.map_append]
    have xc1 := Ex.new (o := .lst ((wn0 ++ wn1).map V.str)) hfc1
    have gc1 : (L2.upd Hb1 fc1 (.lst ((wn0 ++ wn1).map V.str))) fc1 = some (.lst ((wn0 ++ wn1).map V.str)) := upd_same
    have kc1 := txl_app kc0 kn1
    have lc1 : (wn0 ++ wn1).length = 22 := by rw [List.length_append, lc0, ln1]
    have xs1 := (xs0.trans xn1).trans xc1
    generalize L2.upd Hb1 fc1 (.lst ((wn0 ++ wn1).map V.str)) = Hc1 at gc1 xs1 ⊢
    generalize wn0 ++ wn1 = wc1 at gc1 kc1 lc1 ⊢
    clear xs0 xn1 gc0 gn1 kc0 kn1 lc0 ln1 hfn1 hfc1
    walk_at "go"
    intro fn2 hfn2
    have gn2 : (L2.upd Hc1 fn2 (.lst [V.str "x mod 13 = 0", V.str "x mod 12 = 11", V.str "x mod y = 0", V.str "x mod 3 = y", V.str "x mod 3 < 2", V.str "x mod 03 = 1", V.str "[true and true]"])) fn2 = some (.lst ((txV [V.str "x mod 13 = 0", V.str "x mod 12 = 11", V.str "x mod y = 0", V.str "x mod 3 = y", V.str "x mod 3 < 2", V.str "x mod 03 = 1", V.str "[true and true]"]).map V.str)) := upd_same
    have kn2 : ∀ w ∈ txV [V.str "x mod 13 = 0", V.str "x mod 12 = 11", V.str "x mod y = 0", V.str "x mod 3 = y", V.str "x mod 3 < 2", V.str "x mod 03 = 1", V.str "[true and true]"], w.length ≤ 100 := by decide +kernel
    have ln2 : (txV [V.str "x mod 13 = 0", V.str "x mod 12 = 11", V.str "x mod y = 0", V.str "x mod 3 = y", V.str "x mod 3 < 2", V.str "x mod 03 = 1", V.str "[true and true]"]).length = 7 := by decide +kernel
    have xn2 := Ex.new (o := .lst [V.str "x mod 13 = 0", V.str "x mod 12 = 11", V.str "x mod y = 0", V.str "x mod 3 = y", V.str "x mod 3 < 2", V.str "x mod 03 = 1", V.str "[true and true]"]) hfn2
    replace gc1 := xn2 _ _ gc1
    generalize L2.upd Hc1 fn2 (.lst [V.str "x mod 13 = 0", V.str "x mod 12 = 11", V.str "x mod y = 0", V.str "x mod 3 = y", V.str "x mod 3 < 2", V.str "x mod 03 = 1", V.str "[true and true]"]) = Hb2 at gn2 gc1 xn2 ⊢
    generalize txV [V.str "x mod 13 = 0", V.str "x mod 12 = 11", V.str "x mod y = 0", V.str "x mod 3 = y", V.str "x mod 3 < 2", V.str "x mod 03 = 1", V.str "[true and true]"] = wn2 at gn2 kn2 ln2 ⊢
    refine r_cat gc1 gn2 (by simp only [List.length_map]; rw [lc1, ln2]; decide) fun fc2 hfc2 => ?_
    rw [← List.map_append]
    have xc2 := Ex.new (o := .lst ((wc1 ++ wn2).map V.str)) hfc2
    have gc2 : (L2.upd Hb2 fc2 (.lst ((wc1 ++ wn2).map V.str))) fc2 = some (.lst ((wc1 ++ wn2).map V.str)) := upd_same
    have kc2 := txl_app kc1 kn2
    have lc2 : (wc1 ++ wn2).length = 29 := by rw [List.length_append, lc1, ln2]
    have xs2 := (xs1.trans xn2).trans xc2
    generalize L2.upd Hb2 fc2 (.lst ((wc1 ++ wn2).map V.str)) = Hc2 at gc2 xs2 ⊢
    generalize wc1 ++ wn2 = wc2 at gc2 kc2 lc2 ⊢
    clear xs1 xn2 gc1 gn2 kc1 kn2 lc1 ln2 hfn2 hfc2
    walk_at "go"
    intro fn3 hfn3
    have gn3 : (L2.upd Hc2 fn3 (.lst [V.str "[true and true", V.str "true and true", V.str "[true or true and true]", V.str "[[true or true] and true]", V.str "[true & true]"])) fn3 = some (.lst ((txV [V.str "[true and true", V.str "true and true", V.str "[true or true and true]", V.str "[[true or true] and true]", V.str "[true & true]"]).map V.str)) := upd_same
    have kn3 : ∀ w ∈ txV [V.str "[true and true", V.str "true and true", V.str "[true or true and true]", V.str "[[true or true] and true]", V.str "[true & true]"], w.length ≤ 100 := by decide +kernel
    have ln3 : (txV [V.str "[true and true", V.str "true and true", V.str "[true or true and true]", V.str "[[true or true] and true]", V.str "[true & true]"]).length = 5 := by decide +kernel
    have xn3 := Ex.new (o := .lst [V.str "[true and true", V.str "true and true", V.str "[true or true and true]", V.str "[[true or true] and true]", V.str "[true & true]"]) hfn3
    replace gc2 := xn3 _ _ gc2
    generalize L2.upd Hc2 fn3 (.lst [V.str "[true and true", V.str "true and true", V.str "[true or true and true]", V.str "[[true or true] and true]", V.str "[true & true]"]) = Hb3 at gn3 gc2 xn3 ⊢
    generalize txV [V.str "[true and true", V.str "true and true", V.str "[true or true and true]", V.str "[[true or true] and true]", V.str "[true & true]"] = wn3 at gn3 kn3 ln3 ⊢
    refine r_cat gc2 gn3 (by simp only [List.length_map]; rw [lc2, ln3]; decide) fun fc3 hfc3 => ?_
    rw [← List.map_append]
    have xc3 := Ex.new (o := .lst ((wc2 ++ wn3).map V.str)) hfc3
    have gc3 : (L2.upd Hb3 fc3 (.lst ((wc2 ++ wn3).map V.str))) fc3 = some (.lst ((wc2 ++ wn3).map V.str)) := upd_same
    have kc3 := txl_app kc2 kn3
    have lc3 : (wc2 ++ wn3).length = 34 := by rw [List.length_append, lc2, ln3]
    have xs3 := (xs2.trans xn3).trans xc3
    generalize L2.upd Hb3 fc3 (.lst ((wc2 ++ wn3).map V.str)) = Hc3 at gc3 xs3 ⊢
    generalize wc2 ++ wn3 = wc3 at gc3 kc3 lc3 ⊢
    clear xs2 xn3 gc2 gn3 kc2 kn3 lc2 ln3 hfn3 hfc3
    walk_at "go"
    intro fn4 hfn4
    have gn4 : (L2.upd Hc3 fn4 (.lst [V.str "[true andtrue]", V.str "not not true", V.str "not [x < 1 or y = 2]", V.str "nota < 3", V.str "truth = 1", V.str "[true  or true]"])) fn4 = some (.lst ((txV [V.str "[true andtrue]", V.str "not not true", V.str "not [x < 1 or y = 2]", V.str "nota < 3", V.str "truth = 1", V.str "[true  or true]"]).map V.str)) := upd_same
    have kn4 : ∀ w ∈ txV [V.str "[true andtrue]", V.str "not not true", V.str "not [x < 1 or y = 2]", V.str "nota < 3", V.str "truth = 1", V.str "[true  or true]"], w.length ≤ 100 := by decide +kernel
    have ln4 : (txV [V.str "[true andtrue]", V.str "not not true", V.str "not [x < 1 or y = 2]", V.str "nota < 3", V.str "truth = 1", V.str "[true  or true]"]).length = 6 := by decide +kernel
    have xn4 := Ex.new (o := .lst [V.str "[true andtrue]", V.str "not not true", V.str "not [x < 1 or y = 2]", V.str "nota < 3", V.str "truth = 1", V.str "[true  or true]"]) hfn4
    replace gc3 := xn4 _ _ gc3
    generalize L2.upd Hc3 fn4 (.lst [V.str "[true andtrue]", V.str "not not true", V.str "not [x < 1 or y = 2]", V.str "nota < 3", V.str "truth = 1", V.str "[true  or true]"]) = Hb4 at gn4 gc3 xn4 ⊢
    generalize txV [V.str "[true andtrue]", V.str "not not true", V.str "not [x < 1 or y = 2]", V.str "nota < 3", V.str "truth = 1", V.str "[true  or true]"] = wn4 at gn4 kn4 ln4 ⊢
    refine r_cat gc3 gn4 (by simp only [List.length_map]; rw [lc3, ln4]; decide) fun f hf => ?_
    rw [← List.map_append]
    have xc4 := Ex.new (o := .lst ((wc3 ++ wn4).map V.str)) hf
    have g7 : (L2.upd Hb4 f (.lst ((wc3 ++ wn4).map V.str))) f = some (.lst ((wc3 ++ wn4).map V.str)) := upd_same
    have k7 := txl_app kc3 kn4
    have l7 : (wc3 ++ wn4).length = 40 := by rw [List.length_append, lc3, ln4]
    have xA := xs3.trans xn4
    have xZ := xc4
    clear xs3 xn4 xc4
    have hf := hf
    have nfb0 := ((hB.grow xA).ne hf).1.symm
    generalize L2.upd Hb4 f (.lst ((wc3 ++ wn4).map V.str)) = Hcc at g7 xZ ⊢
    generalize wc3 ++ wn4 = wf at g7 k7 l7 ⊢
    clear gc3 gn4 kc3 kn4 lc3 ln4 hfn4
    have nfb : f ≠ b := ((hB.grow xA).ne hf).1.symm
    replace hB := hB.grow (xA.trans xZ)
    replace hP := (xA.trans xZ) _ _ hP
    clear xA xZ hf
    walk_at "go"
    intro D hD
    have nD := hB.ne hD
    have nDf : f ≠ D := ne_of_none g7 hD
    have nDP : Pt ≠ D := ne_of_none hP hD
    refine lc_inv walk_range (σw := [some (.ref sa), some (.ref b), some (.ref f), none, none, none, none, none, none, none, none, none, none]) rfl (fun H => BagAt H b c ∧ H Pt = some (.tbl #[]) ∧ H f = some (.lst (wf.map V.str))) (fun _ v => ∃ w, v = V.str w ∧ w.length ≤ 30000) hD (by omega) ⟨hB.new hD, (Ex.new hD) _ _ hP, (Ex.new hD) _ _ g7⟩ (fun _ _ => trivial) ?_ ?_
    · rintro j x H5 H5' acc R hj ⟨hB5, hP5, hF5⟩ hacc ⟨rfl, rfl⟩ hR
      walk_at "go"
      refine ⟨rfl, ?_⟩
      walk_at "go"
      refine ⟨b, c, .ref f, _, rfl, hB5, Or.inl ⟨f, rfl, nfb, Or.inl hF5⟩, by rw [List.length_map, l7]; decide, by rw [List.length_map, l7]; decide, fun v H6 hv hB6 x6 => ?_⟩
      obtain ⟨wv, hwv, rfl⟩ := List.mem_map.mp hv
      exact hR _ H6 ⟨wv, rfl, Nat.le_trans (k7 wv hwv) (by decide)⟩ (x6 _ _ nD.1.symm hacc) ⟨hB6.put nD.1 nD.2, (upd_ne nDP).trans (tab_pull hB5 x6 hP5), (upd_ne nDf).trans (x6 _ _ nfb hF5)⟩
    · rintro H5 acc ⟨hB5, hP5, hF5⟩ hacc hlen hE
      obtain ⟨w0, rfl, hw0⟩ := txV_of hE
      rw [List.length_map] at hlen
      have L5 : LS Pt b c D w0 H5 := ⟨hB5, hP5, hacc, hw0, nD.1.symm, nD.2⟩
      have hl0 : w0.length = 10 := by
        rw [hlen]
        decide
      clear hB5 hP5 hF5 hacc hlen hE hw0 hD hB hP g7 nD nDf nDP k7 l7
      walk_at "go"
      refine for_it walk_range (fun i σ H => (∃ y4 y5 y6 y7, σ = [some (.ref sa), some (.ref b), some (.ref f), some (.ref D), y4, y5, y6, y7, none, none, none, none, none]) ∧ ∃ ws, LS Pt b c D ws H ∧ ws.length = 10 + i) ?_ (fun _ _ _ _ _ => trivial) ?_ ?_
      · exact ⟨⟨_, _, _, _, rfl⟩, w0, L5, hl0⟩
      · clear L5 hl0
        rintro i x σ H1 H1' hi ⟨⟨y4, y5, y6, y7, rfl⟩, ws, hL, hlen⟩ ⟨rfl, rfl⟩
        walk_at "go"
        intro A hA
        have nA := hL.bag.ne hA
        have nAD : A ≠ D := (ne_of_none hL.txt hA).symm
        have nAP : A ≠ Pt := (ne_of_none hL.tab hA).symm
        refine lc_inv walk_range (σw := [some (.ref sa), some (.ref b), some (.ref f), some (.ref D), some (.int (0 + (i : Nat))), y5, y6, y7, none, none, none, none, none]) rfl (fun H => LS Pt b c D ws H ∧ ∃ acc as, H A = some (.lst acc) ∧ Paired (IsCd K H 2 1) acc as ∧ ∀ a ∈ as, a.ok ∧ a.isAtom = true ∧ a.cost ≤ 145) (fun _ _ => True) hA (by omega) ⟨hL.ex (Ex.new hA), [], [], upd_same, .nil, (by intro a h; exact nomatch h)⟩ (fun _ _ => trivial) ?_ ?_
        · rintro j x H5 H5' acc R hj ⟨hL5, acc2, as, hacc2, hP5, has⟩ hacc ⟨rfl, rfl⟩ hR
          obtain rfl : acc2 = acc := HO.lst.inj (Option.some.inj (hacc2.symm.trans hacc))
          walk_at "go"
          refine ⟨rfl, ?_⟩
          walk_at "go"
          refine ⟨b, c, 2, rfl, hL5.bag, by decide, by decide, fun l1 ns H6 hN6 hn hB6 x6 => ?_⟩
          have hn : ns.length ≤ 1000 := by rw [hn]; decide
          walk_at "go"
          refine ⟨b, c, 1, rfl, hB6, by decide, by decide, fun l2 cs H7 hC7 hcn hB7 x7 => ?_⟩
          have hcn : cs.length ≤ 1000 := by rw [hcn]; decide
          have hN7 := hN6.ex x7.hd
          walk_at "go"
          refine ⟨b, c, 2, rfl, hB7, by decide, by decide, fun dd H8 d0 d1 hB8 x8 => ?_⟩
          walk_at "go"
          refine ⟨b, c, l1, l2, ns, cs, _, rfl, hB8, hN7.ex x8.hd, hC7.ex x8.hd, hn, hcn, by omega, fun v a H9 hv hok hat hco han hB9 x9 => ?_⟩
          have x59 := ((x6.trans x7).trans x8).trans x9
          have hacc9 := x59 _ _ nA.1.symm hacc
          have te := (TE.bag hL5.bag x59).trans (TE.upd (l' := acc2 ++ [v]) hacc9)
          refine hR v H9 trivial hacc9 ⟨(hL5.pull hB9 x59).putA nAD nAP nA.1 nA.2, acc2 ++ [v], as ++ [a], upd_same, prd_app (prd_teC te hP5) (.cons ((hv.ex (Ex.hide H9 b)).te (TE.upd hacc9)) .nil), ?_⟩
          intro y hy
          rcases List.mem_append.mp hy with hy | hy
          · exact has y hy
          · rw [List.mem_singleton.mp hy]
            exact ⟨hok, hat, Nat.le_trans hco (by decide)⟩
        · rintro H5 acc ⟨hL5, acc2, as, hacc2, hP5, has⟩ hacc hlen2 hE
          obtain rfl : acc2 = acc := HO.lst.inj (Option.some.inj (hacc2.symm.trans hacc))
          clear hE hA hL
          have hasl := pr_len hP5
          walk_at "go"
          refine ⟨b, c, 3, rfl, hL5.bag, by decide, by decide, fun dd H6 d0 d1 hB6 x6 => ?_⟩
          have hP6 := prd_teC ((TE.bag hL5.bag x6).trans (TE.hidB hB6)) hP5
          have hD6 := x6 _ _ nA.1.symm hacc
          replace hL5 := hL5.pull hB6 x6
          walk_at "go"
          refine ⟨b, c, A, 2, 145, acc2, as, _, rfl, hB6, ⟨(hide_ne nA.1.symm).trans hD6, hP6, by omega, fun a h => (has a h).1, fun a h => (has a h).2.1, fun a h => (has a h).2.2⟩, by decide, by decide, by omega, fun v t H7 ht7 hok hmem hal hco hB7 x7 => ?_⟩
          replace hL5 := hL5.pull hB7 x7
          obtain ⟨m5, hm5, hm4⟩ : ∃ m, dd.toNat = m ∧ m ≤ 2 := ⟨_, rfl, by omega⟩
          rw [hm5] at ht7 hal hco
          have p16 : (2 : Nat) ^ m5 ≤ 4 := Nat.le_trans (Nat.pow_le_pow_right (by decide) hm4) (by decide)
          have c16 : (145 + 1) * 2 ^ m5 ≤ (145 + 1) * 4 := Nat.mul_le_mul_left _ p16
          have hcst : t.cost ≤ 584 := by omega
          have hdep : t.dep ≤ 3 := by
            have := ht7.depth
            omega
          have htl : t.tx.length ≤ 11680 := Nat.le_trans (Cd.tx_len t hok) (by omega)
          replace ht7 := ht7.ex (Ex.hide H7 b)
          clear hP6 hP5 hacc hacc2 hD6 hB6 hB7 x6 x7 hal hco hmem has d0 d1
          walk_at "go"
          refine ⟨v, t, 2, _, rfl, ht7, by omega, by decide, hok, by omega, fun H8 x8 => ?_⟩
          replace hL5 := hL5.ex x8
          have hzl : t.txt.length ≤ 12960 := by
            rw [len_eq, tl_ctx]
            omega
          generalize t.txt = z0 at hzl ⊢
          clear ht7 hok hcst htl x8
          walk_at "go"
          refine ⟨b, c, 4, rfl, hL5.bag, by decide, by decide, fun st H9 s0 s1 hB9 x9 => ?_⟩
          replace hL5 := hL5.pull hB9 x9
          clear x9 hB9
          walk_at "go"
          refine for_it walk_range (fun j σ H => (∃ z y7, σ = [some (.ref sa), some (.ref b), some (.ref f), some (.ref D), some (.int (0 + (i : Nat))), some (.ref A), some (.str z), y7, none, none, none, none, none] ∧ z.length ≤ 12960 + 10 * j) ∧ LS Pt b c D ws H) ?_ (fun _ _ _ _ _ => trivial) ?_ ?_
          · exact ⟨⟨_, _, rfl, hzl⟩, hL5⟩
          · clear hL5 hzl
            rintro j x σ H8 H8' hj ⟨⟨z, y7, rfl, hz⟩, hL⟩ ⟨rfl, rfl⟩
            walk_at "go"
            intro p hp
            have npb := (hL.bag.ne hp).1.symm
            have g1 : (L2.upd H8' p (.lst [V.str " ", V.str "[", V.str "]", V.str "not ", V.str "<", V.str "=", V.str " mod ", V.str "2", V.str "x", V.str " and ", V.str " or ", V.str "0", V.str "true", V.str "A"])) p = some (.lst ((txV [V.str " ", V.str "[", V.str "]", V.str "not ", V.str "<", V.str "=", V.str " mod ", V.str "2", V.str "x", V.str " and ", V.str " or ", V.str "0", V.str "true", V.str "A"]).map V.str)) := upd_same
            have k1 : ∀ w ∈ txV [V.str " ", V.str "[", V.str "]", V.str "not ", V.str "<", V.str "=", V.str " mod ", V.str "2", V.str "x", V.str " and ", V.str " or ", V.str "0", V.str "true", V.str "A"], w.length ≤ 10 := by decide +kernel
            have l1 : (txV [V.str " ", V.str "[", V.str "]", V.str "not ", V.str "<", V.str "=", V.str " mod ", V.str "2", V.str "x", V.str " and ", V.str " or ", V.str "0", V.str "true", V.str "A"]).length = 14 := by decide +kernel
            replace hL := hL.ex (Ex.new (o := .lst [V.str " ", V.str "[", V.str "]", V.str "not ", V.str "<", V.str "=", V.str " mod ", V.str "2", V.str "x", V.str " and ", V.str " or ", V.str "0", V.str "true", V.str "A"]) hp)
            generalize L2.upd H8' p (.lst [V.str " ", V.str "[", V.str "]", V.str "not ", V.str "<", V.str "=", V.str " mod ", V.str "2", V.str "x", V.str " and ", V.str " or ", V.str "0", V.str "true", V.str "A"]) = H9 at g1 hL ⊢
            generalize txV [V.str " ", V.str "[", V.str "]", V.str "not ", V.str "<", V.str "=", V.str " mod ", V.str "2", V.str "x", V.str " and ", V.str " or ", V.str "0", V.str "true", V.str "A"] = w1 at g1 k1 l1
            walk_at "go"
            refine ⟨b, c, z, p, w1, rfl, hL.bag, npb, g1, by omega, by omega, k1, by omega, fun y H10 hy hB10 x10 => ?_⟩
            replace hL := hL.pull hB10 x10
            walk_at "go"
            exact ⟨⟨y, _, rfl, by omega⟩, hL⟩
          · clear hL5 hzl
            rintro σ H8 ⟨⟨z, y7, rfl, hz⟩, hL⟩
            have hz2 : z.length ≤ sizeLine := size_le (by omega)
            have hc4 : (cutS z none (some 400)).length ≤ 30000 := by
              rw [len_eq, show (400 : Int) = ((400 : Nat) : Int) from rfl, tl_cut0, List.length_take]
              omega
            have hD := hL.txt
            have hDl : (ws.map V.str).length < sizeLine := by
              rw [List.length_map, hlen]
              exact Nat.lt_of_lt_of_le (show 10 + i < 100000 by omega) (by decide)
            walk_at "go"
            refine r_append hD hDl ?_
            walk_at "go"
            exact ⟨⟨_, _, _, _, rfl⟩, _, hL.app hc4, by rw [List.length_append, hlen]; rfl⟩
      · clear L5 hl0
        rintro σ H1 ⟨⟨y4, y5, y6, y7, rfl⟩, ws, hL, hlen⟩
        walk_at "go"
        intro m hm
        have gm : (L2.upd H1 m (.lst [V.int 19, V.int 20])) m = some (.lst [V.int 19, V.int 20]) := upd_same
        replace hL := hL.ex (Ex.new (o := .lst [V.int 19, V.int 20]) hm)
        generalize L2.upd H1 m (.lst [V.int 19, V.int 20]) = H4 at gm hL ⊢
        have rl : ∀ (z : Str) (n : Int), z.length ≤ 10 → n ≤ 20 → (TL.tl (repS z n.toNat)).length ≤ 200 := fun z n hz hn => by
          rw [← len_eq, repS_len]
          exact Nat.le_trans (Nat.mul_le_mul (show n.toNat ≤ 20 by omega) hz) (by decide)
        have lx1 : (TL.tl (Str.ofString "true")).length = 4 := by decide +kernel
        have lx2 : (TL.tl (Str.ofString "x < y")).length = 5 := by decide +kernel
        have lx3 : (TL.tl (Str.ofString "x < 1")).length = 5 := by decide +kernel
        walk_at "go"
        refine for_it (walk_list (xs := [V.int 19, V.int 20])) (fun j σ H => (∃ D y8, σ = [some (.ref sa), some (.ref b), some (.ref f), some (.ref D), y4, y5, y6, y7, y8, none, none, none, none] ∧ (∃ ws, LS Pt b c D ws H ∧ ws.length = 16 + 3 * j)) ∧ H m = some (.lst [V.int 19, V.int 20])) ?_ (fun _ _ _ _ q => SqL.of q.2) ?_ ?_
        · exact ⟨⟨_, _, rfl, ws, hL, by omega⟩, gm⟩
        · clear hL gm hlen
          rintro j x σ H5 H5' hj ⟨⟨D, y8, rfl, ws, hL, hlen⟩, gm⟩ ⟨rfl, hx⟩
          obtain ⟨n, rfl, n0, n1⟩ : ∃ n : Int, x = .int n ∧ 1 ≤ n ∧ n ≤ 20 := by
            have h2 : j < 2 := hj
            have : j = 0 ∨ j = 1 := by omega
            rcases this with rfl | rfl
            · exact ⟨19, (Option.some.inj hx).symm, by decide, by decide⟩
            · exact ⟨20, (Option.some.inj hx).symm, by decide, by decide⟩
          have r1 := rl (Str.ofString "not ") n (by decide +kernel) n1
          have r2 := rl (Str.ofString "not ") (n - 1) (by decide +kernel) (by omega)
          have r3 := rl (Str.ofString "[true or ") n (by decide +kernel) n1
          have r4 := rl (Str.ofString "]") n (by decide +kernel) n1
          have hj2 : j < 2 := hj
          walk_at "go"
          refine r_repS (by omega) (by omega) (by decide +kernel) ?_
          walk_at "go"
          refine r_repS (by omega) (by omega) (by decide +kernel) ?_
          walk_at "go"
          refine r_repS (by omega) (by omega) (by decide +kernel) ?_
          walk_at "go"
          refine r_repS (by omega) (by omega) (by decide +kernel) ?_
          walk_at "go"
          intro q hq
          have xq := Ex.new (o := .lst ([repS "not " n.toNat ++ "true", repS "not " (n - 1).toNat ++ "x < y", repS "[true or " n.toNat ++ "true" ++ repS "]" n.toNat].map V.str)) hq
          have hLq := hL.ex xq
          have gmq := xq _ _ gm
          have gq : (L2.upd H5' q (.lst ([repS "not " n.toNat ++ "true", repS "not " (n - 1).toNat ++ "x < y", repS "[true or " n.toNat ++ "true" ++ repS "]" n.toNat].map V.str))) q = some (.lst ([repS "not " n.toNat ++ "true", repS "not " (n - 1).toNat ++ "x < y", repS "[true or " n.toNat ++ "true" ++ repS "]" n.toNat].map V.str)) := upd_same
          have hw : ∀ w ∈ [repS "not " n.toNat ++ "true", repS "not " (n - 1).toNat ++ "x < y", repS "[true or " n.toNat ++ "true" ++ repS "]" n.toNat], w.length ≤ 30000 := by
            intro w hw
            simp only [List.mem_cons, List.not_mem_nil, or_false] at hw
            rcases hw with rfl | rfl | rfl
            · walk_at "tl"
              omega
            · walk_at "tl"
              omega
            · walk_at "tl"
              omega
          refine r_cat hLq.txt gq (by simp only [List.length_map, List.length_cons, List.length_nil]; exact Nat.le_trans (show ws.length + (0 + 1 + 1 + 1) ≤ 100000 by omega) (by decide)) fun r hr => ?_
          walk_at "go"
          exact ⟨⟨_, _, rfl, _, hLq.new hr hw, by rw [List.length_append, hlen, List.length_cons, List.length_cons, List.length_cons, List.length_nil]; omega⟩, Ex.new hr _ _ gmq⟩
        · clear hL gm hlen
          rintro σ H5 ⟨⟨D, y8, rfl, ws, hL, hlen⟩, gm⟩
          have hl2 : [V.int 19, V.int 20].length = 2 := rfl
          rw [hl2] at hlen
          clear gm
          have hD0 := hL.txt
          walk_at "go"
          refine ⟨b, c, 20, rfl, hL.bag, by decide, by decide, fun u1 H6 u10 u11 hB6 x6 => ?_⟩
          replace hL := hL.pull hB6 x6
          walk_at "go"
          refine r_repS (by omega) (by omega) (by decide +kernel) ?_
          walk_at "go"
          refine ⟨b, c, 20, rfl, hL.bag, by decide, by decide, fun u2 H7 u20 u21 hB7 x7 => ?_⟩
          replace hL := hL.pull hB7 x7
          have r1 := rl (Str.ofString "not ") u1 (by decide +kernel) (by omega)
          have r2 := rl (Str.ofString "2^") u2 (by decide +kernel) (by omega)
          have hD := hL.txt
          have hDl : (ws.map V.str).length < sizeLine := by
            rw [List.length_map, hlen]
            decide
          walk_at "go"
          refine r_repS (by omega) (by omega) (by decide +kernel) ?_
          walk_at "go"
          refine r_append hD hDl ?_
          have hL2 := hL.app (w := repS "not " u1.toNat ++ repS "2^" u2.toNat ++ "x < 1") (by walk_at "tl"; omega)
          have hlen2 : (ws ++ [repS "not " u1.toNat ++ repS "2^" u2.toNat ++ "x < 1"]).length = 23 := by
            rw [List.length_append, hlen]
            rfl
          generalize L2.upd H7 D (.lst (ws.map V.str ++ [V.str (repS "not " u1.toNat ++ repS "2^" u2.toNat ++ "x < 1")])) = H8 at hL2 ⊢
          generalize ws ++ [repS "not " u1.toNat ++ repS "2^" u2.toNat ++ "x < 1"] = wt at hL2 hlen2 ⊢
          clear hL x6 x7 hB6 hB7 r1 r2 hD hDl
          have nDb := hL2.db
          have hwt := hL2.ok
          have t1 : BT Pt H8 b c := BT.first hL2.tab (Ex.refl _) hL2.bag
          have hD := hL2.txt
          clear hL2
          walk_at "go"
          refine for_it (walk_list (xs := wt.map V.str)) (fun j σ H => (∃ y6 y9 y10, σ = [some (.ref sa), some (.ref b), some (.ref f), some (.ref D), y4, y5, y6, y7, y8, y9, y10, none, none]) ∧ BT Pt H b c ∧ H D = some (.lst (wt.map V.str))) ?_ (fun _ _ _ _ q => SqL.of q.2.2) ?_ ?_
          · exact ⟨⟨_, _, _, rfl⟩, t1, hD⟩
          · clear t1 hD
            rintro j x σ H6 H6' hj ⟨⟨y6, y9, y10, rfl⟩, hT, hD⟩ ⟨rfl, hx⟩
            obtain ⟨z, hz, rfl⟩ := List.mem_map.mp (List.mem_of_getElem? hx)
            have hzl : z.length ≤ 100000 := Nat.le_trans (hwt z hz) (by decide)
            walk_at "go"
            refine ⟨z, rfl, hzl, fun t v9 H7 hterm ht7 x7 => ?_, fun no H7 x7 => ?_⟩
            · replace hT := hT.ex x7
              replace hD := x7 _ _ hD
              obtain ⟨pv, rfl⟩ := ht7.ref
              have hok : t.ok := Rd.cond_ok hterm
              walk_at "go"
              refine ⟨hT.tabs, fun H8 xn hTb => ?_⟩
              replace hT := hT.lam xn hTb
              replace hD := xn _ _ hD (fun _ z => by cases z)
              replace ht7 := ht7.extN xn
              refine r_why ?_
              walk_at "go"
              refine ⟨_, rfl, .inl ⟨z, rfl, hzl, fun tm v10 H10 e10 h10 x10 => ?_, fun n => absurd hterm (n t)⟩⟩
              rw [hterm] at e10
              obtain ⟨rfl, _⟩ := Prod.mk.inj (Option.some.inj e10)
              replace hT := hT.ex x10
              replace hD := x10 _ _ hD
              replace ht7 := ht7.ex x10
              refine ⟨by walk_at "len", fun q1 hq1 => ?_⟩
              walk_at "go"
              intro q2 hq2
              walk_at "go"
              have xx := (Ex.new (o := .tup [V.str "value", v10]) hq1).trans (Ex.new (o := .tup [V.str "value", V.ref pv]) hq2)
              refine ⟨_, _, rfl, Sm.tups ((upd_ne (ne_of_none upd_same hq2)).trans upd_same) upd_same (by walk_at "len") (.cons (Sm.flat rfl) (.cons (IsCd.sameT hok (h10.ex xx) (ht7.ex xx)) .nil)), fun H11 x11 => ?_⟩
              walk_at "go"
              exact ⟨⟨_, _, _, rfl⟩, hT.ex (xx.trans x11), (xx.trans x11) _ _ hD⟩
            · replace hT := hT.ex x7
              replace hD := x7 _ _ hD
              walk_at "go"
              refine ⟨hT.tabs, fun H8 xn hTb => ?_⟩
              replace hT := hT.lam xn hTb
              replace hD := xn _ _ hD (fun _ z => by cases z)
              refine r_why ?_
              walk_at "go"
              refine ⟨_, rfl, .inl ⟨z, rfl, hzl, fun tm v10 H10 e10 h10 x10 => absurd e10 (no tm), fun _ d H10 x10 hd => ?_⟩⟩
              refine ⟨_, _, _, _, ErrRow.InvalidText, ⟨d, rfl, rfl, hd⟩, fun q1 H11 x11 hq1 => ?_⟩
              replace hT := hT.ex (x10.trans x11)
              replace hD := (x10.trans x11) _ _ hD
              walk_at "go"
              intro q2 hq2
              walk_at "go"
              have xx := Ex.new (o := .tup [V.str "InvalidText", V.non]) hq2
              refine ⟨_, _, rfl, Sm.tups (xx _ _ hq1) upd_same (by walk_at "len") (.cons (Sm.flat rfl) (.cons (Sm.flat rfl) .nil)), fun H12 x12 => ?_⟩
              walk_at "go"
              exact ⟨⟨_, _, _, rfl⟩, hT.ex (xx.trans x12), (xx.trans x12) _ _ hD⟩
          · clear t1 hD
            rintro σ H6 ⟨⟨y6, y9, y10, rfl⟩, hT, hD⟩
            clear hD
            walk_at "go"
            intro p1 hp1
            have g1 : (L2.upd H6 p1 (.tup [V.str "true"])) p1 = some (.tup [V.str "true"]) := upd_same
            have n1 := (hT.bag.ne hp1).1.symm
            replace hT := hT.ex (Ex.new (o := .tup [V.str "true"]) hp1)
            generalize L2.upd H6 p1 (.tup [V.str "true"]) = H7 at g1 hT ⊢
            walk_at "go"
            intro p2 hp2
            have g2 : (L2.upd H7 p2 (.lst [V.str "true"])) p2 = some (.lst [V.str "true"]) := upd_same
            have n2 := (hT.bag.ne hp2).1.symm
            replace g1 := Ex.new (o := .lst [V.str "true"]) hp2 _ _ g1
            replace hT := hT.ex (Ex.new (o := .lst [V.str "true"]) hp2)
            generalize L2.upd H7 p2 (.lst [V.str "true"]) = H8 at g1 g2 hT ⊢
            walk_at "go"
            intro q hq
            have nq := (hT.bag.ne hq).1.symm
            have xq := Ex.new (o := .lst [V.non, V.int 7, V.ref p1, V.ref p2, V.bl true]) hq
            replace g1 := xq _ _ g1
            replace g2 := xq _ _ g2
            replace hT := hT.ex xq
            walk_at "go"
            refine ⟨b, c, .ref q, _, rfl, hT.bag, Or.inl ⟨q, rfl, nq, Or.inl upd_same⟩, by walk_at "len", by walk_at "len", fun v H9 hv hB9 x9 => ?_⟩
            replace hT := hT.pull hB9 x9
            have hO : Od H9 v := by
              simp only [List.mem_cons, List.not_mem_nil, or_false] at hv
              rcases hv with rfl | rfl | rfl | rfl | rfl
              · exact .inl rfl
              · exact .inr (.inl ⟨_, rfl⟩)
              · exact .inr (.inr (.inr (.inl ⟨_, _, rfl, x9 _ _ n1 g1⟩)))
              · exact .inr (.inr (.inr (.inr ⟨_, _, rfl, x9 _ _ n2 g2⟩)))
              · exact .inr (.inr (.inl ⟨_, rfl⟩))
            clear hv g1 g2 n1 n2 nq
            walk_at "go"
            refine ⟨hT.tabs, fun H10 xn hTb => ?_⟩
            replace hO := hO.extN xn
            obtain ⟨tn, hty, hkb⟩ := hO.ty (K := K)
            refine r_why ?_
            walk_at "go"
            refine ⟨_, rfl, .inr ⟨tn, hty, hkb, fun d H11 x11 hd => ?_⟩⟩
            refine ⟨_, _, _, _, ErrRow.InvalidText, ⟨d, rfl, rfl, hd⟩, fun q1 H12 x12 hq1 => ?_⟩
            walk_at "go"
            intro q2 hq2
            walk_at "go"
            have xx := Ex.new (o := .tup [V.str "InvalidText", V.non]) hq2
            refine ⟨_, _, rfl, Sm.tups (xx _ _ hq1) upd_same (by walk_at "len") (.cons (Sm.flat rfl) (.cons (Sm.flat rfl) .nil)), fun H13 x13 => ?_⟩
            walk_at "go"
            exact hQ _
end
end PW
namespace PW
open PySem PySem.Spec PyProof.Rows L2
abbrev sp_law (K : PySem.W.Frag) : Sp := spLawS K (He.cT K ("law", none)).2
theorem law_end {K : PySem.W.Frag} {H : Hp} {a : Addr} {ns : List Int} (hl : ns.length ≤ 63) (hO : ∀ q ∈ ([("law", none)] : List He.Defn), H (He.cT K q).2 = some (.tbl #[])) (hS : SqL K H a (ns.map V.int)) : sp_law K [.ref a] H (fun v _ => v = .bl true) fun _ _ _ => False :=
  ⟨a, ns, rfl, hS, hl, hO _ List.mem_cons_self, fun _ => rfl⟩
theorem law_ok {P : Program} {w : World} {K : PySem.W.Frag} {mg : Str → Option Value} {base : Heap} (hP : IsPG P) (T : Txt K mg) (TB : ∀ q ∈ ([("law", none)] : List He.Defn), LamX.TabB base mg (He.cT K q).1 (He.cT K q).2) :
    FnOk P w K mg base CX0 72 (He.ga K "law") (fdOf K (He.ga K "law")) p_law (sp_law K) := by
  have g1 := ok__law_pull (P := P) (w := w) (base := base) T
  have g2 := ok__law_letters (P := P) (w := w) (base := base) T
  have go := ok__law_of T g1
  have gi := ok__law_is_name T g2
  have gn := ok__law_names (k := 2) T (g1.mono (by decide)) go (g2.mono (by decide)) (gi.mono (by decide))
  have gl := ok__law_leaf (k := 2) T (g1.mono (by decide)) go
  have gt := ok__law_term (k := 3) T (g1.mono (by decide)) (go.mono (by decide)) gl 1
  have gc := ok__law_compare (k := 5) T (g1.mono (by decide)) (go.mono (by decide)) gt
  have gr := ok__law_tree (k := 2) T (g1.mono (by decide)) go 2
  have gx := ok__law_text (P := P) (w := w) (base := base) (k := 0) T 16
  have gcx := ok__law_condition_text (k := 17) T gx 17
  have gb := ok__law_bent T (g1.mono (by decide)) go
  have sr := ok__law_run (P := P) (w := w) (base := base) T
  have sn := ok__law_scan_number T sr
  have ss := ok__law_scan (k := 2) T sn (sr.mono (by decide)) (g2.mono (by decide)) (gi.mono (by decide))
  have sc := ok__law_scan_condition (k := 4) T (sr.mono (by decide)) (g2.mono (by decide)) (fun n => by
    have z := ok__law_scan_compare (k := 3 + 2 * n) (n := n) T (sn.mono (by omega)) ((ss n).mono (by omega))
    exact z.mono (by omega)) 20
  have lr := ok__law_read_condition T sc
  have rs := ok_sees (P := P) (w := w) (base := base) T
  have ra := ok_accept (k := 1) T rs
  have rr := ok_run (P := P) (w := w) (base := base) T
  have rw_ := ok_word (k := 1) T rr
  have rn := ok_need (k := 2) hP T ra
  have rnum := ok_read_number (k := 2) hP T ra (rr.mono (by decide))
  have rt := ok_read_term (base := base) (w := w) (k := 3) hP T (ra.mono (by decide)) (rs.mono (by decide)) (rr.mono (by decide)) ((ok_is_name (k := 0) T).mono (by decide)) rn ((ok_enter hP T).mono (by decide)) rnum
  have rc := ok_read_condition (k := 5) hP T (ra.mono (by decide)) (rw_.mono (by decide)) (rn.mono (by decide)) ((ok_enter hP T).mono (by decide)) (fun n => by
    have z := ok_read_comparison (k := 4 + 3 * n) (n := n) hP T (ra.mono (by omega)) (rn.mono (by omega)) (rnum.mono (by omega)) ((rt n).mono (by omega))
    exact z.mono (by omega)) 20
  have rp := ok_parse_condition (base := base) (w := w) (k := 66) hP T rfl ((ok_Reader_init hP T).mono (by decide)) ((ok_finish hP T).mono (by decide)) (rc.mono (by decide))
  exact ok_law20 (k := 71) (kx := 67) (by decide) T (TB _ List.mem_cons_self) ((ok__law_bag T).mono (by decide)) (g1.mono (by decide)) (go.mono (by decide)) (gn.mono (by decide)) (gc.mono (by decide)) (gr.mono (by decide)) (gcx.mono (by decide)) (gb.mono (by decide)) (lr.mono (by decide)) ((ok__law_same T 61).mono (by decide)) rp
end PW
namespace PW
open PySem PySem.Spec PyProof.Rows L2
/-! ### the head: facts by names, the run -/
def d_is_name : He.DefD := ⟨("is_name", none), "is_name", "is_name", defArgs s_is_name, defBody s_is_name, defScope s_is_name, [], []⟩
def d_read_number : He.DefD := ⟨("read_number", none), "read_number", "read_number", defArgs s_read_number, defBody s_read_number, defScope s_read_number, [], []⟩
def d_read_arguments : He.DefD := ⟨("read_arguments", none), "read_arguments", "read_arguments", defArgs s_read_arguments, defBody s_read_arguments, defScope s_read_arguments, [], []⟩
def d_read_pair : He.DefD := ⟨("read_pair", none), "read_pair", "read_pair", defArgs s_read_pair, defBody s_read_pair, defScope s_read_pair, [], []⟩
def d_read_word : He.DefD := ⟨("read_word", none), "read_word", "read_word", defArgs s_read_word, defBody s_read_word, defScope s_read_word, [], []⟩
def d_read_term : He.DefD := ⟨("read_term", none), "read_term", "read_term", defArgs s_read_term, defBody s_read_term, defScope s_read_term, [], []⟩
def d_read_comparison : He.DefD := ⟨("read_comparison", none), "read_comparison", "read_comparison", defArgs s_read_comparison, defBody s_read_comparison, defScope s_read_comparison, [], []⟩
def d_read_condition : He.DefD := ⟨("read_condition", none), "read_condition", "read_condition", defArgs s_read_condition, defBody s_read_condition, defScope s_read_condition, [], []⟩
def d_parse_condition : He.DefD := ⟨("parse_condition", none), "parse_condition", "parse_condition", defArgs s_parse_condition, defBody s_parse_condition, defScope s_parse_condition, [], []⟩
def d__law_pull : He.DefD := ⟨("_law_pull", none), "_law_pull", "_law_pull", defArgs s__law_pull, defBody s__law_pull, defScope s__law_pull, [], []⟩
def d__law_of : He.DefD := ⟨("_law_of", none), "_law_of", "_law_of", defArgs s__law_of, defBody s__law_of, defScope s__law_of, [], []⟩
def d__law_same : He.DefD := ⟨("_law_same", none), "_law_same", "_law_same", defArgs s__law_same, defBody s__law_same, defScope s__law_same, [], []⟩
def d__law_bag : He.DefD := ⟨("_law_bag", none), "_law_bag", "_law_bag", defArgs s__law_bag, defBody s__law_bag, defScope s__law_bag, [], []⟩
def d__law_field : He.DefD := ⟨("_law_field", none), "_law_field", "_law_field", defArgs s__law_field, defBody s__law_field, defScope s__law_field, [], []⟩
def d__law_why : He.DefD := ⟨("_law_why", none), "_law_why", "_law_why", defArgs s__law_why, defBody s__law_why, defScope s__law_why, [], []⟩
def d__law_letters : He.DefD := ⟨("_law_letters", none), "_law_letters", "_law_letters", defArgs s__law_letters, defBody s__law_letters, defScope s__law_letters, [], []⟩
def d__law_is_name : He.DefD := ⟨("_law_is_name", none), "_law_is_name", "_law_is_name", defArgs s__law_is_name, defBody s__law_is_name, defScope s__law_is_name, [], []⟩
def d__law_names : He.DefD := ⟨("_law_names", none), "_law_names", "_law_names", defArgs s__law_names, defBody s__law_names, defScope s__law_names, [], []⟩
def d__law_leaf : He.DefD := ⟨("_law_leaf", none), "_law_leaf", "_law_leaf", defArgs s__law_leaf, defBody s__law_leaf, defScope s__law_leaf, [], []⟩
def d__law_term : He.DefD := ⟨("_law_term", none), "_law_term", "_law_term", defArgs s__law_term, defBody s__law_term, defScope s__law_term, [], []⟩
def d__law_text : He.DefD := ⟨("_law_text", none), "_law_text", "_law_text", defArgs s__law_text, defBody s__law_text, defScope s__law_text, [], []⟩
def d__law_run : He.DefD := ⟨("_law_run", none), "_law_run", "_law_run", defArgs s__law_run, defBody s__law_run, defScope s__law_run, [], []⟩
def d__law_scan_number : He.DefD := ⟨("_law_scan_number", none), "_law_scan_number", "_law_scan_number", defArgs s__law_scan_number, defBody s__law_scan_number, defScope s__law_scan_number, [], []⟩
def d__law_scan_pair : He.DefD := ⟨("_law_scan_pair", none), "_law_scan_pair", "_law_scan_pair", defArgs s__law_scan_pair, defBody s__law_scan_pair, defScope s__law_scan_pair, [], []⟩
def d__law_scan_word : He.DefD := ⟨("_law_scan_word", none), "_law_scan_word", "_law_scan_word", defArgs s__law_scan_word, defBody s__law_scan_word, defScope s__law_scan_word, [], []⟩
def d__law_scan : He.DefD := ⟨("_law_scan", none), "_law_scan", "_law_scan", defArgs s__law_scan, defBody s__law_scan, defScope s__law_scan, [], []⟩
def d__law_bent : He.DefD := ⟨("_law_bent", none), "_law_bent", "_law_bent", defArgs s__law_bent, defBody s__law_bent, defScope s__law_bent, [], []⟩
def d__law_compare : He.DefD := ⟨("_law_compare", none), "_law_compare", "_law_compare", defArgs s__law_compare, defBody s__law_compare, defScope s__law_compare, [], []⟩
def d__law_tree : He.DefD := ⟨("_law_tree", none), "_law_tree", "_law_tree", defArgs s__law_tree, defBody s__law_tree, defScope s__law_tree, [], []⟩
def d__law_condition_text : He.DefD := ⟨("_law_condition_text", none), "_law_condition_text", "_law_condition_text", defArgs s__law_condition_text, defBody s__law_condition_text, defScope s__law_condition_text, [], []⟩
def d__law_scan_compare : He.DefD := ⟨("_law_scan_compare", none), "_law_scan_compare", "_law_scan_compare", defArgs s__law_scan_compare, defBody s__law_scan_compare, defScope s__law_scan_compare, [], []⟩
def d__law_scan_condition : He.DefD := ⟨("_law_scan_condition", none), "_law_scan_condition", "_law_scan_condition", defArgs s__law_scan_condition, defBody s__law_scan_condition, defScope s__law_scan_condition, [], []⟩
def d__law_read_condition : He.DefD := ⟨("_law_read_condition", none), "_law_read_condition", "_law_read_condition", defArgs s__law_read_condition, defBody s__law_read_condition, defScope s__law_read_condition, [], []⟩
def d_law : He.DefD := ⟨("law", none), "law", "law", defArgs s_law, defBody s_law, defScope s_law, [], []⟩
def d_Reader___init__ : He.DefD := ⟨("Reader", some "__init__"), "__init__", "Reader.__init__", defArgs s_Reader___init__, defBody s_Reader___init__, defScope s_Reader___init__, [], []⟩
def d_Reader_sees : He.DefD := ⟨("Reader", some "sees"), "sees", "Reader.sees", defArgs s_Reader_sees, defBody s_Reader_sees, defScope s_Reader_sees, [], []⟩
def d_Reader_accept : He.DefD := ⟨("Reader", some "accept"), "accept", "Reader.accept", defArgs s_Reader_accept, defBody s_Reader_accept, defScope s_Reader_accept, [], []⟩
def d_Reader_need : He.DefD := ⟨("Reader", some "need"), "need", "Reader.need", defArgs s_Reader_need, defBody s_Reader_need, defScope s_Reader_need, [], []⟩
def d_Reader_run : He.DefD := ⟨("Reader", some "run"), "run", "Reader.run", defArgs s_Reader_run, defBody s_Reader_run, defScope s_Reader_run, [], []⟩
def d_Reader_word : He.DefD := ⟨("Reader", some "word"), "word", "Reader.word", defArgs s_Reader_word, defBody s_Reader_word, defScope s_Reader_word, [], []⟩
def d_Reader_enter : He.DefD := ⟨("Reader", some "enter"), "enter", "Reader.enter", defArgs s_Reader_enter, defBody s_Reader_enter, defScope s_Reader_enter, [], []⟩
def d_Reader_finish : He.DefD := ⟨("Reader", some "finish"), "finish", "Reader.finish", defArgs s_Reader_finish, defBody s_Reader_finish, defScope s_Reader_finish, [], []⟩
def fn0 : List He.DefD := [d_is_name, d_read_number, d_read_arguments, d_read_pair, d_read_word, d_read_term, d_read_comparison, d_read_condition, d_parse_condition, d__law_pull, d__law_of, d__law_same, d__law_bag, d__law_field, d__law_why, d__law_letters, d__law_is_name, d__law_names, d__law_leaf, d__law_term, d__law_text, d__law_run, d__law_scan_number, d__law_scan_pair, d__law_scan_word, d__law_scan, d__law_bent, d__law_compare, d__law_tree, d__law_condition_text]
def fn1 : List He.DefD := [d__law_scan_compare, d__law_scan_condition, d__law_read_condition, d_law, d_Reader___init__, d_Reader_sees, d_Reader_accept, d_Reader_need, d_Reader_run, d_Reader_word, d_Reader_enter, d_Reader_finish]
def fn : List He.DefD := fn0 ++ fn1
def fs : List DefA := []
def fa0 : List He.Fa := [.glo "is_name", .glo "read_number", .glo "read_arguments", .glo "read_pair", .glo "read_word", .glo "read_term", .glo "read_comparison", .glo "read_condition", .glo "parse_condition", .glo "_law_pull", .glo "_law_of", .glo "_law_same", .glo "_law_bag", .glo "_law_field", .glo "_law_why", .glo "_law_letters", .glo "_law_is_name", .glo "_law_names", .glo "_law_leaf", .glo "_law_term", .glo "_law_text", .glo "_law_run", .glo "_law_scan_number", .glo "_law_scan_pair", .glo "_law_scan_word", .glo "_law_scan", .glo "_law_bent", .glo "_law_compare", .glo "_law_tree", .glo "_law_condition_text"]
def fa1 : List He.Fa := [.glo "_law_scan_compare", .glo "_law_scan_condition", .glo "_law_read_condition", .glo "law", .glo "WishError", .glo "Missing", .glo "InvalidText", .glo "NothingLeft", .glo "Reader", .str "LETTERS" "abcdefghijklmnopqrstuvwxyz", .str "DIGITS" "0123456789", .glo "RESERVED", .int "MOST_LETTERS" 6, .int "MOST_DIGITS" 9, .int "MOST_FACTOR" 99, .int "MOST_DEPTH" 20, .int "MOST_ARGUMENTS" 3, .int "MOST_MODULUS" 12, .free "all", .free "isinstance", .free "str", .free "len", .free "int", .free "tuple", .free "abs", .free "list", .free "bool", .free "zip", .free "range", .free "super"]
def fa2 : List He.Fa := [.cls "Reader", .noat "Reader" "source", .noat "Reader" "at", .noat "Reader" "depth", .mkr "Reader", .meth "Reader" "__init__", .meth "Reader" "sees", .meth "Reader" "accept", .meth "Reader" "need", .meth "Reader" "run", .meth "Reader" "word", .meth "Reader" "enter", .meth "Reader" "finish"]
def fa : List He.Fa := fa0 ++ fa1 ++ fa2
def ex (K : PySem.W.Frag) : List Bool := [He.tupB K "RESERVED" [(.str "len"), (.str "mod"), (.str "and"), (.str "or"), (.str "not"), (.str "true")], insB K (He.ga K "Reader"), isTysB K (He.ga K "Reader"), mkB K (He.ga K "InvalidText") ["tag", "value", "name", "limit", "many", "user", "position", "line"], decide (PySem.W.exmAny K (.ref (He.ga K "InvalidText")) [.ref (He.ga K "WishError"), .ref (He.ga K "Missing"), .ref (He.ga K "NothingLeft")] = some true)]
def loose0 : List PySem.Str := ["WishError", "Missing", "InvalidText", "NothingLeft", "LETTERS", "DIGITS", "RESERVED", "MOST_LETTERS", "MOST_DIGITS", "MOST_FACTOR", "MOST_DEPTH", "MOST_ARGUMENTS", "is_name", "Reader", "read_number", "read_arguments", "read_pair", "read_word", "read_term", "MOST_MODULUS", "read_comparison", "read_condition", "parse_condition", "_law_pull", "_law_of", "_law_same", "_law_bag", "_law_field", "_law_why", "_law_letters"]
def loose1 : List PySem.Str := ["_law_is_name", "_law_names", "_law_leaf", "_law_term", "_law_text", "_law_run", "_law_scan_number", "_law_scan_pair", "_law_scan_word", "_law_scan", "_law_bent", "_law_compare", "_law_tree", "_law_condition_text", "_law_scan_compare", "_law_scan_condition", "_law_read_condition"]
def loose : List PySem.Str := loose0 ++ loose1
abbrev R : PySem.W.OpenRow := PySem.W.OpenLaw.row PySem.Challenge.rw_powerwish_k20_texts_that_are_no_conditio
def fx : List DefX := [dx_InvalidText]
def tf : List He.Defn := [("law", none)]
abbrev hk : PySem.W.Hook := hookN 6 fa fn fs fx tf ex
def ob (s : PySem.W.SharedT) : AlN := obsN 6 fa fn fs fx tf ex (HandSHeadRun.getT s)
theorem ob_eq (s : PySem.W.SharedT) : ob s = hk.obs s.abs := obsN_eq (HandSHeadRun.getT_eq s)
theorem run (w : World) : HandSHeadRun.RunEq R (PySem.W.view R.prog [51]) hk ob 6000 loose w := by
  intro os
  kernel_rfl
theorem txt_of {K : PySem.W.Frag} {h : Heap} {mg : Str → Option Value} (X : K.In h) (G : h.Ns mainGlobals mg) (c0 : SaysN fa fn fs fx tf ex h K) (c : SaysM fa fn fs ex K) : Txt K mg where
  g_is_name := He.glo_ok X G (c.d.fact 0 (f := .glo "is_name") rfl)
  g_read_number := He.glo_ok X G (c.d.fact 1 (f := .glo "read_number") rfl)
  g_read_arguments := He.glo_ok X G (c.d.fact 2 (f := .glo "read_arguments") rfl)
  g_read_pair := He.glo_ok X G (c.d.fact 3 (f := .glo "read_pair") rfl)
  g_read_word := He.glo_ok X G (c.d.fact 4 (f := .glo "read_word") rfl)
  g_read_term := He.glo_ok X G (c.d.fact 5 (f := .glo "read_term") rfl)
  g_read_comparison := He.glo_ok X G (c.d.fact 6 (f := .glo "read_comparison") rfl)
  g_read_condition := He.glo_ok X G (c.d.fact 7 (f := .glo "read_condition") rfl)
  g_parse_condition := He.glo_ok X G (c.d.fact 8 (f := .glo "parse_condition") rfl)
  g__law_pull := He.glo_ok X G (c.d.fact 9 (f := .glo "_law_pull") rfl)
  g__law_of := He.glo_ok X G (c.d.fact 10 (f := .glo "_law_of") rfl)
  g__law_same := He.glo_ok X G (c.d.fact 11 (f := .glo "_law_same") rfl)
  g__law_bag := He.glo_ok X G (c.d.fact 12 (f := .glo "_law_bag") rfl)
  g__law_field := He.glo_ok X G (c.d.fact 13 (f := .glo "_law_field") rfl)
  g__law_why := He.glo_ok X G (c.d.fact 14 (f := .glo "_law_why") rfl)
  g__law_letters := He.glo_ok X G (c.d.fact 15 (f := .glo "_law_letters") rfl)
  g__law_is_name := He.glo_ok X G (c.d.fact 16 (f := .glo "_law_is_name") rfl)
  g__law_names := He.glo_ok X G (c.d.fact 17 (f := .glo "_law_names") rfl)
  g__law_leaf := He.glo_ok X G (c.d.fact 18 (f := .glo "_law_leaf") rfl)
  g__law_term := He.glo_ok X G (c.d.fact 19 (f := .glo "_law_term") rfl)
  g__law_text := He.glo_ok X G (c.d.fact 20 (f := .glo "_law_text") rfl)
  g__law_run := He.glo_ok X G (c.d.fact 21 (f := .glo "_law_run") rfl)
  g__law_scan_number := He.glo_ok X G (c.d.fact 22 (f := .glo "_law_scan_number") rfl)
  g__law_scan_pair := He.glo_ok X G (c.d.fact 23 (f := .glo "_law_scan_pair") rfl)
  g__law_scan_word := He.glo_ok X G (c.d.fact 24 (f := .glo "_law_scan_word") rfl)
  g__law_scan := He.glo_ok X G (c.d.fact 25 (f := .glo "_law_scan") rfl)
  g__law_bent := He.glo_ok X G (c.d.fact 26 (f := .glo "_law_bent") rfl)
  g__law_compare := He.glo_ok X G (c.d.fact 27 (f := .glo "_law_compare") rfl)
  g__law_tree := He.glo_ok X G (c.d.fact 28 (f := .glo "_law_tree") rfl)
  g__law_condition_text := He.glo_ok X G (c.d.fact 29 (f := .glo "_law_condition_text") rfl)
  g__law_scan_compare := He.glo_ok X G (c.d.fact 30 (f := .glo "_law_scan_compare") rfl)
  g__law_scan_condition := He.glo_ok X G (c.d.fact 31 (f := .glo "_law_scan_condition") rfl)
  g__law_read_condition := He.glo_ok X G (c.d.fact 32 (f := .glo "_law_read_condition") rfl)
  g_law := He.glo_ok X G (c.d.fact 33 (f := .glo "law") rfl)
  g_WishError := He.glo_ok X G (c.d.fact 34 (f := .glo "WishError") rfl)
  g_Missing := He.glo_ok X G (c.d.fact 35 (f := .glo "Missing") rfl)
  g_InvalidText := He.glo_ok X G (c.d.fact 36 (f := .glo "InvalidText") rfl)
  g_NothingLeft := He.glo_ok X G (c.d.fact 37 (f := .glo "NothingLeft") rfl)
  g_Reader := He.glo_ok X G (c.d.fact 38 (f := .glo "Reader") rfl)
  c_LETTERS := He.str_ok X G (c.d.fact 39 (f := .str "LETTERS" "abcdefghijklmnopqrstuvwxyz") rfl)
  c_DIGITS := He.str_ok X G (c.d.fact 40 (f := .str "DIGITS" "0123456789") rfl)
  g_RESERVED := He.glo_ok X G (c.d.fact 41 (f := .glo "RESERVED") rfl)
  t_RESERVED := fun H => He.tupB_ok (vs := [(.str "len"), (.str "mod"), (.str "and"), (.str "or"), (.str "not"), (.str "true")]) (exN c.b 0 rfl) H
  c_MOST_LETTERS := He.int_ok X G (c.d.fact 42 (f := .int "MOST_LETTERS" 6) rfl)
  c_MOST_DIGITS := He.int_ok X G (c.d.fact 43 (f := .int "MOST_DIGITS" 9) rfl)
  c_MOST_FACTOR := He.int_ok X G (c.d.fact 44 (f := .int "MOST_FACTOR" 99) rfl)
  c_MOST_DEPTH := He.int_ok X G (c.d.fact 45 (f := .int "MOST_DEPTH" 20) rfl)
  c_MOST_ARGUMENTS := He.int_ok X G (c.d.fact 46 (f := .int "MOST_ARGUMENTS" 3) rfl)
  c_MOST_MODULUS := He.int_ok X G (c.d.fact 47 (f := .int "MOST_MODULUS" 12) rfl)
  f_all := He.free_ok X G (c.d.fact 48 (f := .free "all") rfl)
  f_isinstance := He.free_ok X G (c.d.fact 49 (f := .free "isinstance") rfl)
  f_str := He.free_ok X G (c.d.fact 50 (f := .free "str") rfl)
  f_len := He.free_ok X G (c.d.fact 51 (f := .free "len") rfl)
  f_int := He.free_ok X G (c.d.fact 52 (f := .free "int") rfl)
  f_tuple := He.free_ok X G (c.d.fact 53 (f := .free "tuple") rfl)
  f_abs := He.free_ok X G (c.d.fact 54 (f := .free "abs") rfl)
  f_list := He.free_ok X G (c.d.fact 55 (f := .free "list") rfl)
  f_bool := He.free_ok X G (c.d.fact 56 (f := .free "bool") rfl)
  f_zip := He.free_ok X G (c.d.fact 57 (f := .free "zip") rfl)
  f_range := He.free_ok X G (c.d.fact 58 (f := .free "range") rfl)
  f_super := He.free_ok X G (c.d.fact 59 (f := .free "super") rfl)
  d_is_name := funD_of (c.d.def_ 0 (d := d_is_name) rfl)
  d_read_number := funD_of (c.d.def_ 1 (d := d_read_number) rfl)
  d_read_arguments := funD_of (c.d.def_ 2 (d := d_read_arguments) rfl)
  d_read_pair := funD_of (c.d.def_ 3 (d := d_read_pair) rfl)
  d_read_word := funD_of (c.d.def_ 4 (d := d_read_word) rfl)
  d_read_term := funD_of (c.d.def_ 5 (d := d_read_term) rfl)
  d_read_comparison := funD_of (c.d.def_ 6 (d := d_read_comparison) rfl)
  d_read_condition := funD_of (c.d.def_ 7 (d := d_read_condition) rfl)
  d_parse_condition := funD_of (c.d.def_ 8 (d := d_parse_condition) rfl)
  d__law_pull := funD_of (c.d.def_ 9 (d := d__law_pull) rfl)
  d__law_of := funD_of (c.d.def_ 10 (d := d__law_of) rfl)
  d__law_same := funD_of (c.d.def_ 11 (d := d__law_same) rfl)
  d__law_bag := funD_of (c.d.def_ 12 (d := d__law_bag) rfl)
  d__law_field := funD_of (c.d.def_ 13 (d := d__law_field) rfl)
  d__law_why := funD_of (c.d.def_ 14 (d := d__law_why) rfl)
  d__law_letters := funD_of (c.d.def_ 15 (d := d__law_letters) rfl)
  d__law_is_name := funD_of (c.d.def_ 16 (d := d__law_is_name) rfl)
  d__law_names := funD_of (c.d.def_ 17 (d := d__law_names) rfl)
  d__law_leaf := funD_of (c.d.def_ 18 (d := d__law_leaf) rfl)
  d__law_term := funD_of (c.d.def_ 19 (d := d__law_term) rfl)
  d__law_text := funD_of (c.d.def_ 20 (d := d__law_text) rfl)
  d__law_run := funD_of (c.d.def_ 21 (d := d__law_run) rfl)
  d__law_scan_number := funD_of (c.d.def_ 22 (d := d__law_scan_number) rfl)
  d__law_scan_pair := funD_of (c.d.def_ 23 (d := d__law_scan_pair) rfl)
  d__law_scan_word := funD_of (c.d.def_ 24 (d := d__law_scan_word) rfl)
  d__law_scan := funD_of (c.d.def_ 25 (d := d__law_scan) rfl)
  d__law_bent := funD_of (c.d.def_ 26 (d := d__law_bent) rfl)
  d__law_compare := funD_of (c.d.def_ 27 (d := d__law_compare) rfl)
  d__law_tree := funD_of (c.d.def_ 28 (d := d__law_tree) rfl)
  d__law_condition_text := funD_of (c.d.def_ 29 (d := d__law_condition_text) rfl)
  d__law_scan_compare := funD_of (c.d.def_ 30 (d := d__law_scan_compare) rfl)
  d__law_scan_condition := funD_of (c.d.def_ 31 (d := d__law_scan_condition) rfl)
  d__law_read_condition := funD_of (c.d.def_ 32 (d := d__law_read_condition) rfl)
  d_law := funD_of (c.d.def_ 33 (d := d_law) rfl)
  k_Reader := He.cls_ok (c.d.fact 60 (f := .cls "Reader") rfl)
  i_Reader := insB_ok (He.cls_ok (c.d.fact 60 (f := .cls "Reader") rfl)) (exN c.b 1 rfl)
  it_Reader := isTysB_ok (exN c.b 2 rfl)
  n_Reader_source := He.noat_ok (c.d.fact 61 (f := .noat "Reader" "source") rfl)
  n_Reader_at := He.noat_ok (c.d.fact 62 (f := .noat "Reader" "at") rfl)
  n_Reader_depth := He.noat_ok (c.d.fact 63 (f := .noat "Reader" "depth") rfl)
  mk_Reader := He.mkr_ok (c.d.fact 64 (f := .mkr "Reader") rfl)
  d_Reader___init__ := funD_of (c.d.def_ 34 (d := d_Reader___init__) rfl)
  m_Reader___init__ := He.meth_ok (c.d.fact 65 (f := .meth "Reader" "__init__") rfl)
  d_Reader_sees := funD_of (c.d.def_ 35 (d := d_Reader_sees) rfl)
  m_Reader_sees := He.meth_ok (c.d.fact 66 (f := .meth "Reader" "sees") rfl)
  d_Reader_accept := funD_of (c.d.def_ 36 (d := d_Reader_accept) rfl)
  m_Reader_accept := He.meth_ok (c.d.fact 67 (f := .meth "Reader" "accept") rfl)
  d_Reader_need := funD_of (c.d.def_ 37 (d := d_Reader_need) rfl)
  m_Reader_need := He.meth_ok (c.d.fact 68 (f := .meth "Reader" "need") rfl)
  d_Reader_run := funD_of (c.d.def_ 38 (d := d_Reader_run) rfl)
  m_Reader_run := He.meth_ok (c.d.fact 69 (f := .meth "Reader" "run") rfl)
  d_Reader_word := funD_of (c.d.def_ 39 (d := d_Reader_word) rfl)
  m_Reader_word := He.meth_ok (c.d.fact 70 (f := .meth "Reader" "word") rfl)
  d_Reader_enter := funD_of (c.d.def_ 40 (d := d_Reader_enter) rfl)
  m_Reader_enter := He.meth_ok (c.d.fact 71 (f := .meth "Reader" "enter") rfl)
  d_Reader_finish := funD_of (c.d.def_ 41 (d := d_Reader_finish) rfl)
  m_Reader_finish := He.meth_ok (c.d.fact 72 (f := .meth "Reader" "finish") rfl)
  x_InvalidText := mkB_ok (exN c.b 3 rfl)
  xm_InvalidText := of_decide_eq_true (exN c.b 4 rfl)
  xi_InvalidText := fun {P} hP => DefX.init (d := dx_InvalidText) (c0.x dx_InvalidText (List.mem_of_getElem? (i := 0) rfl)).1 (c0.x dx_InvalidText (List.mem_of_getElem? (i := 0) rfl)).2 (mkB_ok (exN c.b 3 rfl)) hP
end PW
open PySem PySem.W PySem.Calls PyProof.Rows
theorem PySem.Challenge.cw_powerwish_k20_texts_that_are_no_conditio_holds : PySem.Challenge.rw_powerwish_k20_texts_that_are_no_conditio.Holds := by
  w_on; o_law
  refine HandSHeadRun.head_any (r := OpenLaw.row PySem.Challenge.rw_powerwish_k20_texts_that_are_no_conditio) (q := view (OpenLaw.row PySem.Challenge.rw_powerwish_k20_texts_that_are_no_conditio).prog [51]) (H := PW.hk) (ob := PW.ob) (M := 6000) (loose := PW.loose) (d := HandSHeadRun.topDef (OpenLaw.row PySem.Challenge.rw_powerwish_k20_texts_that_are_no_conditio).prog 51) (kwd := []) PW.ob_eq
    (by kernel_rfl) (fun s => by kernel_rfl) PW.run (by kernel_rfl) (by kernel_rfl) (by kernel_rfl) (by rfl) (by first | assumption | decide +kernel) (by decide +kernel) ⟨rfl, rfl, rfl, rfl, rfl, by decide +kernel⟩ ?hw ?hc
  case hw => w_witness2
  case hc =>
    refine LamX.walk_ofTsE (l := PySem.Challenge.rw_powerwish_k20_texts_that_are_no_conditio) (n := 63) (k := 72) (x := "_law_script") (CX := fun _ => L2.CX0) rfl (by decide) (by kernel_rfl) ⟨rfl, by decide, by decide⟩ ?F (fun _ _ _ _ _ z => z)
    intro w mg fa h Y G hmg0
    obtain ⟨K, KX, c⟩ := Y
    have hmg : mg ("law" : PySem.Str) = some (.ref fa) := by
      have e : (HandSHeadRun.topDef (OpenLaw.row PySem.Challenge.rw_powerwish_k20_texts_that_are_no_conditio).prog 51).name = ("law" : PySem.Str) := by kernel_rfl
      rw [← e]
      exact hmg0
    have T := PW.txt_of KX G c c.m
    have ef := hmg.symm.trans T.g_law
    cases ef
    have hP : PW.IsPG (PySem.Challenge.rw_powerwish_k20_texts_that_are_no_conditio).prog := ⟨by kernel_rfl, by kernel_rfl⟩
    exact ⟨K, KX, _, PW.tf.map (He.cT K), PW.sp_law K, fun p hp => (List.mem_map.mp hp).elim fun q hq => by rw [← hq.2]; exact c.empty q hq.1, fun p hp => (List.mem_map.mp hp).elim fun q hq => by rw [← hq.2]; exact c.out q hq.1, fun p hp => (List.mem_map.mp hp).elim fun q hq => by rw [← hq.2]; exact PySem.W.codeHd_of_K KX (c.hd q hq.1),
      fun s v => L2.FunD.bindsA (ps := PW.p_law) T.d_law (fun _ _ _ _ _ _ us hl => match us, hl with | [_], _ => rfl) s [v] rfl, fun H a ns hl _ hO hS => PW.law_end hl (fun q hq => hO _ (List.mem_map.mpr ⟨q, hq, rfl⟩)) hS,
      fun base _ _ tb => PW.law_ok (P := (PySem.Challenge.rw_powerwish_k20_texts_that_are_no_conditio).prog) (w := w) (base := base) hP T fun q hq => tb _ (List.mem_map.mpr ⟨q, hq, rfl⟩)⟩
#print axioms PySem.Challenge.cw_powerwish_k20_texts_that_are_no_conditio_holds
